import PyProof.Rows.All
import Wide.All
import OpenK.AllK
import Wide.FinOn
import HandS.ForMost
import HandS.ForExc
import HandS.SetKeys
import HandS.IsInst
import HandS.Flow
import HandS.Style
import HandS.CallSlots
import HandS.TryMany
import HandS.StrMore
import HandS.Strs
import HandS.TupLe
import HandS.TupAny
import HandS.More
import HandS.Conv
import HandS.Replace
import HandS.FStr
import HandS.ExcIs
import HandS.RaiseMore
import HandS.Defaults
import HandS.DictTup
import HandS.TupSets
import HandS.SortOrd
import HandS.SortKw
import HandS.Lambda
import PyProof.Rows.StrCase
import HandS.TryOnly
import KE.DataFind
import HandS.HotCalls
import HandS.Small
import HandS.WordsDict
import KE.KEqDict
import PyProof.NeKinds
import PyProof.FactsAll.dict_1
import PyProof.FactsAll.dict_2
import PyProof.FactsAll.str
import PyProof.FactsAll.int
import PyProof.FactsAll.subtypes
import HandS.SetTxt0
import HandS.SetFor
import KE.SortData
import KE.DataCmp
import HandS.Iter
import PySem.Challenge.RW_mailroom_k12_conditions_hold
set_option Elab.async false
set_option linter.all false
set_option maxRecDepth 100000
set_option maxHeartbeats 4000000
namespace Ml
open PySem L2
structure Gx where
  K : PySem.W.Frag
  fz : Addr → Option Nat
  cl : Nat → Addr
/-- what never changes once it stands -/
def per (G : Gx) : HO → Bool
  | .tup _ => true
  | .frz _ (.lst _) => true
  | .ins C _ fs => decide (G.fz C = some fs.length)
  | _ => false
/-- what sort of thing it is -/
def kindOf : HO → Nat
  | .lst _ => 0
  | .frz _ (.lst _) => 0
  | .dK _ => 1
  | .frz _ (.dK _) => 1
  | .dT _ => 6
  | .frz _ (.dT _) => 6
  | .tup _ => 2
  | .set _ _ => 3
  | .ins _ _ _ => 4
  | _ => 5
/-- all that never changes stands on, and nothing becomes another sort of thing -/
def Stab (G : Gx) (H H' : Hp) : Prop := (∀ a o, H a = some o → per G o = true → H' a = some o) ∧ ∀ a o, H a = some o → ∃ o', H' a = some o' ∧ kindOf o' = kindOf o
theorem Stab.refl {G : Gx} (H : Hp) : Stab G H H := ⟨fun _ _ h _ => h, fun _ o h => ⟨o, h, rfl⟩⟩
theorem Stab.trans {G : Gx} {H H1 H2 : Hp} (a : Stab G H H1) (b : Stab G H1 H2) : Stab G H H2 := ⟨fun x o h p => b.1 x o (a.1 x o h p) p, fun x o h => by
  obtain ⟨o1, h1, k1⟩ := a.2 x o h
  obtain ⟨o2, h2, k2⟩ := b.2 x o1 h1
  exact ⟨o2, h2, k2.trans k1⟩⟩
theorem Stab.of_same {G : Gx} {H H' : Hp} (s : Same H H') : Stab G H H' := ⟨fun a o h _ => s a o h, fun a o h => ⟨o, s a o h, rfl⟩⟩
theorem stab_put {G : Gx} {H : Hp} {a : Addr} {o o' : HO} (e : H a = some o) (n : per G o = false) (kd : kindOf o' = kindOf o) : Stab G H (upd H a o') := ⟨fun b x hb pb => by
  by_cases z : b = a
  · subst z; rw [e] at hb; cases hb; rw [n] at pb; cases pb
  · rw [upd_ne z]; exact hb, fun b x hb => by
  by_cases z : b = a
  · subst z; rw [e] at hb; cases hb; exact ⟨o', upd_same, kd⟩
  · exact ⟨x, by rw [upd_ne z]; exact hb, rfl⟩⟩
structure Asn (G : Gx) where
  sat : Hp → List Addr → Prop
  loc : ∀ H H' fp, sat H fp → (∀ a, a ∈ fp → H' a = H a) → Stab G H H' → sat H' fp
variable {G : Gx}
def satL (H : Hp) : List (Asn G) → List Addr → Prop
  | [], fp => fp = []
  | A :: L, fp => ∃ f1 f2, fp = f1 ++ f2 ∧ A.sat H f1 ∧ satL H L f2
theorem satL.loc {H H' : Hp} : ∀ {L : List (Asn G)} {fp : List Addr}, satL H L fp → (∀ a, a ∈ fp → H' a = H a) → Stab G H H' → satL H' L fp
  | [], fp, h, _, _ => h
  | A :: L, fp, ⟨f1, f2, e, h1, h2⟩, k, s => ⟨f1, f2, e, A.loc H H' f1 h1 (fun a m => k a (by rw [e]; exact List.mem_append_left _ m)) s,
      satL.loc h2 (fun a m => k a (by rw [e]; exact List.mem_append_right _ m)) s⟩
theorem satL.perm {H : Hp} {L L' : List (Asn G)} (p : L.Perm L') : ∀ {fp : List Addr}, satL H L fp → ∃ fp', fp'.Perm fp ∧ satL H L' fp' := by
  induction p with
  | nil => intro fp h; exact ⟨fp, .refl _, h⟩
  | cons x _ ih =>
    rintro fp ⟨f1, f2, e, h1, h2⟩
    obtain ⟨g, pg, hg⟩ := ih h2
    exact ⟨f1 ++ g, by rw [e]; exact List.Perm.append_left f1 pg, f1, g, rfl, h1, hg⟩
  | swap x y l =>
    rintro fp ⟨f1, f2, e, h1, g1, g2, e2, k1, k2⟩
    refine ⟨g1 ++ (f1 ++ g2), ?_, g1, f1 ++ g2, rfl, k1, f1, g2, rfl, h1, k2⟩
    rw [e, e2, ← List.append_assoc, ← List.append_assoc]
    exact List.Perm.append_right g2 List.perm_append_comm
  | trans _ _ ih1 ih2 =>
    intro fp h
    obtain ⟨g, pg, hg⟩ := ih1 h
    obtain ⟨k, pk, hk⟩ := ih2 hg
    exact ⟨k, pk.trans pg, hk⟩
theorem satL.append {H : Hp} : ∀ {L L' : List (Asn G)} {fp : List Addr}, satL H (L ++ L') fp ↔ ∃ f1 f2, fp = f1 ++ f2 ∧ satL H L f1 ∧ satL H L' f2
  | [], L', fp => ⟨fun h => ⟨[], fp, rfl, rfl, h⟩, fun ⟨f1, f2, e, h1, h2⟩ => by
      have h1' : f1 = [] := h1
      subst h1'; subst e; exact h2⟩
  | A :: L, L', fp => by
    constructor
    · rintro ⟨f1, f2, e, h1, h2⟩
      obtain ⟨g1, g2, e2, k1, k2⟩ := satL.append.mp h2
      exact ⟨f1 ++ g1, g2, by rw [e, e2, List.append_assoc], ⟨f1, g1, rfl, h1, k1⟩, k2⟩
    · rintro ⟨f1, f2, e, ⟨g1, g2, e2, h1, h2⟩, h3⟩
      exact ⟨g1, g2 ++ f2, by rw [e, e2, List.append_assoc], h1, satL.append.mpr ⟨g2, f2, rfl, h2, h3⟩⟩
/-- the assertions hold, each of its own part of the heap -/
def Sep (H : Hp) (L : List (Asn G)) : Prop := ∃ fp, satL H L fp ∧ fp.Nodup ∧ ∀ a, a ∈ fp → ∃ o, H a = some o ∧ per G o = false
theorem Sep.perm {H : Hp} {L L' : List (Asn G)} (h : Sep H L) (p : L.Perm L') : Sep H L' := by
  obtain ⟨fp, h1, h2, h3⟩ := h
  obtain ⟨g, pg, hg⟩ := satL.perm p h1
  exact ⟨g, hg, pg.nodup_iff.mpr h2, fun a m => h3 a (pg.mem_iff.mp m)⟩
theorem Sep.nil (H : Hp) : Sep H ([] : List (Asn G)) := ⟨[], rfl, List.nodup_nil, fun a m => absurd m (by simp)⟩
theorem Sep.left {H : Hp} {L L' : List (Asn G)} (h : Sep H (L ++ L')) : Sep H L := by
  obtain ⟨fp, h1, h2, h3⟩ := h
  obtain ⟨f1, f2, e, k1, k2⟩ := satL.append.mp h1
  subst e
  exact ⟨f1, k1, (List.nodup_append.mp h2).1, fun a m => h3 a (List.mem_append_left _ m)⟩
/-- old things stand, new ones may come -/
theorem Sep.more {H H' : Hp} {L : List (Asn G)} (h : Sep H L) (s : Same H H') : Sep H' L := by
  obtain ⟨fp, h1, h2, h3⟩ := h
  exact ⟨fp, h1.loc (fun a m => by obtain ⟨o, e, _⟩ := h3 a m; rw [e]; exact s a o e) (.of_same s), h2, fun a m => by
    obtain ⟨o, e, n⟩ := h3 a m; exact ⟨o, s a o e, n⟩⟩
theorem satL.at {H : Hp} {A : Asn G} : ∀ {L : List (Asn G)} {fp : List Addr} {i : Nat}, satL H L fp → L[i]? = some A → ∃ fp, A.sat H fp
  | [], _, _, _, e => by simp at e
  | B :: L, _, 0, ⟨f1, _, _, k1, _⟩, e => ⟨f1, by
      have : B = A := Option.some.inj e
      subst this; exact k1⟩
  | B :: L, _, i + 1, ⟨_, f2, _, _, k2⟩, e => satL.at (L := L) (i := i) k2 (by simpa using e)
theorem Sep.at {H : Hp} {L : List (Asn G)} (h : Sep H L) {i : Nat} {A : Asn G} (e : L[i]? = some A) : ∃ fp, A.sat H fp := by
  obtain ⟨fp, h1, _, _⟩ := h
  exact satL.at h1 e
/-- the i-th one ahead -/
theorem pull_perm {α : Type} : ∀ {L : List α} {i : Nat} {A : α}, L[i]? = some A → L.Perm (A :: L.eraseIdx i)
  | [], _, _, e => by simp at e
  | B :: L, 0, A, e => by
    have : B = A := Option.some.inj e
    subst this
    exact .refl _
  | B :: L, i + 1, A, e => by
    have ih := pull_perm (L := L) (i := i) (A := A) (by simpa using e)
    exact (List.Perm.cons B ih).trans (List.Perm.swap A B _)
theorem set_perm {α : Type} : ∀ {L : List α} {i : Nat} {A B : α}, L[i]? = some A → (B :: L.eraseIdx i).Perm (L.set i B)
  | [], _, _, _, e => by simp at e
  | C :: L, 0, A, B, e => .refl _
  | C :: L, i + 1, A, B, e => by
    have ih := set_perm (L := L) (i := i) (A := A) (B := B) (by simpa using e)
    exact (List.Perm.swap C B _).trans (List.Perm.cons C ih)
/-- chosen ones, in a chosen order -/
def pick {α : Type} (L : List α) (is : List Nat) : List α := is.filterMap fun i => L[i]?
theorem pick_perm {α : Type} : ∀ (is : List Nat) (L : List α), is.Nodup → ∃ R, L.Perm (pick L is ++ R)
  | [], L, _ => ⟨L, .refl _⟩
  | i :: is, L, nd => by
    obtain ⟨n1, n2⟩ := List.nodup_cons.mp nd
    cases e : L[i]? with
    | none =>
      obtain ⟨R, p⟩ := pick_perm is L n2
      refine ⟨R, ?_⟩
      have : pick L (i :: is) = pick L is := by unfold pick; rw [List.filterMap_cons, e]
      rw [this]; exact p
    | some A =>
      -- the others by their places without i
      have key : ∀ (js : List Nat), i ∉ js → pick L js = pick (L.eraseIdx i) (js.map fun j => if j < i then j else j - 1) := by
        intro js hj
        unfold pick
        rw [List.filterMap_map]
        have gen : ∀ js : List Nat, i ∉ js → js.filterMap (fun i => L[i]?) = js.filterMap ((fun j => (L.eraseIdx i)[j]?) ∘ fun j => if j < i then j else j - 1) := by
          intro js
          induction js with
          | nil => intro _; rfl
          | cons j js ih =>
            intro hm
            have hji : j ≠ i := fun z => hm (by rw [z]; exact List.mem_cons_self)
            have ih' := ih fun z => hm (List.mem_cons_of_mem _ z)
            have ej : L[j]? = ((fun j => (L.eraseIdx i)[j]?) ∘ fun j => if j < i then j else j - 1) j := by
              show L[j]? = (L.eraseIdx i)[if j < i then j else j - 1]?
              rw [List.getElem?_eraseIdx]
              by_cases c : j < i
              · rw [if_pos c, if_pos c]
              · rw [if_neg c, if_neg (by omega)]
                congr 1; omega
            rw [List.filterMap_cons, List.filterMap_cons, ih', ej]
        exact gen js hj
      have nd2 : (is.map fun j => if j < i then j else j - 1).Nodup := by
        refine List.pairwise_map.mpr (List.Pairwise.imp_of_mem ?_ n2)
        intro a b ha hb hab z
        have ha' : a ≠ i := fun q => n1 (q ▸ ha)
        have hb' : b ≠ i := fun q => n1 (q ▸ hb)
        split at z <;> split at z <;> omega
      obtain ⟨R, p⟩ := pick_perm (is.map fun j => if j < i then j else j - 1) (L.eraseIdx i) nd2
      refine ⟨R, ?_⟩
      have e2 : pick L (i :: is) = A :: pick L is := by unfold pick; rw [List.filterMap_cons, e]
      rw [e2, key is n1]
      exact (pull_perm e).trans (List.Perm.cons A p)
termination_by is => is.length
theorem Sep.sel {H : Hp} {L L' : List (Asn G)} (h : Sep H L) (is : List Nat) (nd : is.Nodup) (e : pick L is = L') : Sep H L' := by
  obtain ⟨R, p⟩ := pick_perm is L nd
  rw [e] at p
  exact (h.perm p).left
/-- at a stands o, owned -/
def cell (a : Addr) (o : HO) : Asn G := ⟨fun H fp => fp = [a] ∧ H a = some o, fun H H' fp h k _ => ⟨h.1, by rw [k a (by rw [h.1]; simp)]; exact h.2⟩⟩
/-- a fact that stays -/
def fact (p : Hp → Prop) (st : ∀ H H', p H → Stab G H H' → p H') : Asn G := ⟨fun H fp => fp = [] ∧ p H, fun H H' fp h _ s => ⟨h.1, st H H' h.2 s⟩⟩
/-- several as one -/
def star (L : List (Asn G)) : Asn G := ⟨fun H fp => satL H L fp, fun H H' fp h k s => h.loc k s⟩
theorem Sep.star {H : Hp} {L M : List (Asn G)} (h : Sep H (M ++ [Ml.star L])) : Sep H (M ++ L) := by
  obtain ⟨fp, h1, h2, h3⟩ := h
  obtain ⟨f1, f2, e, k1, g1, g2, e2, k2, k3⟩ := satL.append.mp h1
  have k3' : g2 = [] := k3
  subst k3'
  rw [List.append_nil] at e2
  subst e2
  exact ⟨fp, satL.append.mpr ⟨f1, f2, e, k1, k2⟩, h2, h3⟩
theorem Sep.unstar {H : Hp} {L M : List (Asn G)} (h : Sep H (M ++ L)) : Sep H (M ++ [Ml.star L]) := by
  obtain ⟨fp, h1, h2, h3⟩ := h
  obtain ⟨f1, f2, e, k1, k2⟩ := satL.append.mp h1
  exact ⟨fp, satL.append.mpr ⟨f1, f2, e, k1, f2, [], by simp, k2, rfl⟩, h2, h3⟩
/-- another view of the first one, over the same part -/
theorem Sep.view {A B : Asn G} {H : Hp} {M : List (Asn G)} (h : Sep H (A :: M)) (v : ∀ fp, A.sat H fp → B.sat H fp) : Sep H (B :: M) := by
  obtain ⟨fp, ⟨f1, f2, e, h1, k⟩, h2, h3⟩ := h
  exact ⟨fp, ⟨f1, f2, e, v f1 h1, k⟩, h2, h3⟩
theorem Sep.addFact {p : Hp → Prop} {st : ∀ H H', p H → Stab G H H' → p H'} {H : Hp} {M : List (Asn G)} (h : Sep H M) (x : p H) : Sep H (fact p st :: M) := by
  obtain ⟨fp, h1, h2, h3⟩ := h
  exact ⟨fp, ⟨[], fp, rfl, ⟨rfl, x⟩, h1⟩, h2, h3⟩
theorem Sep.getFact {p : Hp → Prop} {st : ∀ H H', p H → Stab G H H' → p H'} {H : Hp} {M : List (Asn G)} (h : Sep H M) {i : Nat} (e : M[i]? = some (fact p st)) : p H := by
  obtain ⟨fp, _, x⟩ := h.at e
  exact x
theorem Sep.getCell {H : Hp} {M : List (Asn G)} (h : Sep H M) {i : Nat} {a : Addr} {o : HO} (e : M[i]? = some (cell a o)) : H a = some o := by
  obtain ⟨fp, _, x⟩ := h.at e
  exact x
theorem same_new {H : Hp} {p : Addr} {o : HO} (h : H p = none) : Same H (upd H p o) := fun b u e => by
  rw [upd_ne (ne_of_none e h)]; exact e
/-- a new thing -/
theorem Sep.new {H : Hp} {M : List (Asn G)} (h : Sep H M) {p : Addr} {o : HO} (hp : H p = none) (n : per G o = false) : Sep (upd H p o) (cell p o :: M) := by
  have h' := h.more (same_new (o := o) hp)
  obtain ⟨fp, h1, h2, h3⟩ := h
  obtain ⟨_, k1, _, _⟩ := (⟨fp, h1, h2, h3⟩ : Sep H M)
  have q : satL (upd H p o) M fp := h1.loc (fun a m => by obtain ⟨u, e, _⟩ := h3 a m; exact upd_ne (ne_of_none e hp)) (.of_same (same_new hp))
  refine ⟨p :: fp, ⟨[p], fp, rfl, ⟨rfl, upd_same⟩, q⟩, List.nodup_cons.mpr ⟨fun m => ?_, h2⟩, fun a m => ?_⟩
  · obtain ⟨u, e, _⟩ := h3 p m
    rw [hp] at e; cases e
  · rcases List.mem_cons.mp m with rfl | m
    · exact ⟨o, upd_same, n⟩
    · obtain ⟨u, e, z⟩ := h3 a m
      exact ⟨u, by rw [upd_ne (ne_of_none e hp)]; exact e, z⟩
/-- a store at the first one's place -/
theorem Sep.put1 {H : Hp} {M : List (Asn G)} {a : Addr} {o o' : HO} (h : Sep H (cell a o :: M)) (n : per G o' = false) (kd : kindOf o' = kindOf o) : Sep (upd H a o') (cell a o' :: M) := by
  obtain ⟨fp, ⟨f1, f2, e, ⟨e1, ho⟩, k⟩, h2, h3⟩ := h
  subst e1; subst e
  have nd : ¬ a ∈ f2 := (List.nodup_cons.mp h2).1
  obtain ⟨u, hu, nu⟩ := h3 a (by simp)
  have st : Stab G H (upd H a o') := stab_put ho (by rw [hu] at ho; cases ho; exact nu) kd
  refine ⟨a :: f2, ⟨[a], f2, rfl, ⟨rfl, upd_same⟩, k.loc (fun b m => upd_ne fun z => nd (z ▸ m)) st⟩, h2, fun b m => ?_⟩
  rcases List.mem_cons.mp m with rfl | m
  · exact ⟨o', upd_same, n⟩
  · obtain ⟨x, hx, nx⟩ := h3 b (by simp [m])
    exact ⟨x, by rw [upd_ne (fun z => nd (by rw [← z]; exact m))]; exact hx, nx⟩
theorem Sep.put {H : Hp} {M : List (Asn G)} {i : Nat} {a : Addr} {o o' : HO} (h : Sep H M) (e : M[i]? = some (cell a o)) (n : per G o' = false) (kd : kindOf o' = kindOf o) : Sep (upd H a o') (M.set i (cell a o')) :=
  ((h.perm (pull_perm e)).put1 n kd).perm (set_perm e)
/-- another view of the i-th one -/
theorem Sep.viewAt {A B : Asn G} {H : Hp} {M : List (Asn G)} {i : Nat} (h : Sep H M) (e : M[i]? = some A) (v : ∀ fp, A.sat H fp → B.sat H fp) : Sep H (M.set i B) :=
  ((h.perm (pull_perm e)).view v).perm (set_perm e)
end Ml
namespace Ml
open PySem L2
structure Exc where
  cls : Nat
  row : Int
  deriving DecidableEq, Repr
inductive R (α : Type) where
  | ok (a : α) | exc (x : Exc) | bad
  deriving DecidableEq, Repr
namespace R
variable {α β σ ρ : Type}
def bind : R α → (α → R β) → R β
  | .ok a, f => f a
  | .exc x, _ => .exc x
  | .bad, _ => .bad
@[simp] theorem bind_ok (a : α) (f : α → R β) : (R.ok a).bind f = f a := rfl
@[simp] theorem bind_exc (x : Exc) (f : α → R β) : (R.exc x : R α).bind f = .exc x := rfl
@[simp] theorem bind_bad (f : α → R β) : (R.bad : R α).bind f = .bad := rfl
def need (p : Prop) [Decidable p] (k : R α) : R α := if p then k else .bad
@[simp] theorem need_pos {p : Prop} [Decidable p] (h : p) (k : R α) : need p k = k := if_pos h
/-- what holds of the answer, or of the error -/
def wp : R α → (α → Prop) → (Exc → Prop) → Prop
  | .ok a, q, _ => q a
  | .exc x, _, e => e x
  | .bad, _, _ => False
theorem wp_bind {m : R α} {f : α → R β} {q : β → Prop} {e : Exc → Prop} (h : wp (m.bind f) q e) : wp m (fun a => wp (f a) q e) e := by
  cases m <;> exact h
theorem wp_need {p : Prop} [Decidable p] {k : R α} {q : α → Prop} {e : Exc → Prop} (h : wp (need p k) q e) : p ∧ wp k q e := by
  unfold need at h
  by_cases c : p
  · rw [if_pos c] at h; exact ⟨c, h⟩
  · rw [if_neg c] at h; exact h.elim
theorem wp_mono {m : R α} {q q' : α → Prop} {e e' : Exc → Prop} (h : wp m q e) (hq : ∀ a, q a → q' a) (he : ∀ x, e x → e' x) : wp m q' e' := by
  cases m with
  | ok a => exact hq a h
  | exc x => exact he x h
  | bad => exact h
theorem wp_of {m : R α} {a : α} {q : α → Prop} {e : Exc → Prop} (h : m = .ok a) (k : q a) : wp m q e := by rw [h]; exact k
theorem wp_if {c : Prop} [Decidable c] {a b : R α} {q : α → Prop} {e : Exc → Prop} (h : wp (if c then a else b) q e) : (c → wp a q e) ∧ (¬ c → wp b q e) := by
  by_cases x : c
  · rw [if_pos x] at h; exact ⟨fun _ => h, fun n => absurd x n⟩
  · rw [if_neg x] at h; exact ⟨fun y => absurd y x, fun _ => h⟩
end R
/-- a turn's end: on with s, out of the loop with s, out of the def with r -/
inductive Fl (σ ρ : Type) where
  | go (s : σ) | brk (s : σ) | out (r : ρ)
  deriving DecidableEq, Repr
section
variable {α β σ ρ : Type}
def forR (f : σ → α → R σ) : List α → σ → R σ
  | [], s => .ok s
  | x :: xs, s => (f s x).bind fun s => forR f xs s
def forF (f : σ → α → R (Fl σ ρ)) : List α → σ → R (Fl σ ρ)
  | [], s => .ok (.go s)
  | x :: xs, s => (f s x).bind fun r => match r with
    | .go s => forF f xs s
    | .brk s => .ok (.go s)
    | .out r => .ok (.out r)
/-- a comprehension: what each item gives, the state carried -/
def compR (f : σ → α → R (σ × Option β)) : List α → σ → R (σ × List β)
  | [], s => .ok (s, [])
  | x :: xs, s => (f s x).bind fun r => (compR f xs r.1).bind fun t => .ok (t.1, match r.2 with
    | some y => y :: t.2
    | none => t.2)
end
class Im (G : Gx) (α : Type) where
  im : Hp → V → α → Prop
  st : ∀ {H H' : Hp} {v : V} {x : α}, im H v x → Stab G H H' → im H' v x
class Fv (G : Gx) (α : Type) extends Im G α where
  enc : α → V
  im_iff : ∀ {H : Hp} {v : V} {x : α}, im H v x ↔ v = enc x
variable {G : Gx}
instance imInt : Im G Int := ⟨fun _ v x => v = .int x, fun h _ => h⟩
instance imBool : Im G Bool := ⟨fun _ v x => v = .bl x, fun h _ => h⟩
instance imStr : Im G Str := ⟨fun _ v x => v = .str x, fun h _ => h⟩
instance imUnit : Im G Unit := ⟨fun _ v _ => v = .non, fun h _ => h⟩
instance fInt : Fv G Int := { enc := .int, im_iff := .rfl }
instance fBool : Fv G Bool := { enc := .bl, im_iff := .rfl }
instance fStr : Fv G Str := { enc := .str, im_iff := .rfl }
instance fUnit : Fv G Unit := { enc := fun _ => .non, im_iff := .rfl }
/-- the script -/
structure Script where
  ns : List Int
instance : Im G Script := ⟨fun H v x => ∃ a, v = .ref a ∧ ((∃ o, H a = some (.frz o (.lst (x.ns.map V.int)))) ∨ ∃ o its n, List.lookup a G.K = some o ∧ o.cls = Value.type "list" ∧ o.dict = none ∧ o.data = Data.seq its n ∧ its.size ≤ sizeLine ∧ Vals (x.ns.map V.int) its.toList),
  fun ⟨a, e, h⟩ s => ⟨a, e, h.imp (fun ⟨o, h⟩ => ⟨o, s.1 a _ h rfl⟩) id⟩⟩
theorem im_script {H : Hp} {v : V} {x : Script} (h : Im.im G H v x) : ∃ a, v = .ref a ∧ SqL G.K H a (x.ns.map V.int) := by
  obtain ⟨a, e, h⟩ := h
  refine ⟨a, e, ?_⟩
  rcases h with ⟨o, h⟩ | h
  · exact .inl (.inr ⟨o, h⟩)
  · exact .inr h
theorem sq_script {H : Hp} {a : Addr} {x : Script} (h : Im.im G H (.ref a) x) : SqL G.K H a (x.ns.map V.int) := by
  obtain ⟨b, e, h⟩ := im_script h
  cases e; exact h
def imL {α : Type} [Im G α] (H : Hp) : List V → List α → Prop
  | [], [] => True
  | v :: vs, x :: xs => Im.im G H v x ∧ imL H vs xs
  | _, _ => False
section
variable {α : Type} [Im G α] {H H' : Hp}
theorem imL.st : ∀ {vs : List V} {xs : List α}, imL (G := G) H vs xs → Stab G H H' → imL (G := G) H' vs xs
  | [], [], _, _ => True.intro
  | v :: vs, x :: xs, h, s => ⟨Im.st h.1 s, imL.st h.2 s⟩
  | [], _ :: _, h, _ => h
  | _ :: _, [], h, _ => h
theorem imL.len : ∀ {vs : List V} {xs : List α}, imL (G := G) H vs xs → vs.length = xs.length
  | [], [], _ => rfl
  | v :: vs, x :: xs, h => by rw [List.length_cons, List.length_cons, imL.len h.2]
  | [], _ :: _, h => h.elim
  | _ :: _, [], h => h.elim
theorem imL.app : ∀ {vs ws : List V} {xs ys : List α}, imL (G := G) H vs xs → imL (G := G) H ws ys → imL (G := G) H (vs ++ ws) (xs ++ ys)
  | [], _, [], _, _, h => h
  | v :: vs, _, x :: xs, _, h, k => ⟨h.1, imL.app h.2 k⟩
  | [], _, _ :: _, _, h, _ => h.elim
  | _ :: _, _, [], _, h, _ => h.elim
theorem imL.get : ∀ {vs : List V} {xs : List α} {i : Nat} {x : α}, imL (G := G) H vs xs → xs[i]? = some x → ∃ v, vs[i]? = some v ∧ Im.im G H v x
  | [], [], _, _, _, e => by simp at e
  | v :: vs, x :: xs, 0, y, h, e => by
    have : x = y := Option.some.inj e
    subst this
    exact ⟨v, rfl, h.1⟩
  | v :: vs, x :: xs, i + 1, y, h, e => by
    obtain ⟨u, h1, h2⟩ := imL.get (i := i) (x := y) h.2 (by simpa using e)
    exact ⟨u, by simpa using h1, h2⟩
  | [], _ :: _, _, _, h, _ => h.elim
  | _ :: _, [], _, _, h, _ => h.elim
theorem imL.set : ∀ {vs : List V} {xs : List α} {i : Nat} {x : α} {v : V}, imL (G := G) H vs xs → Im.im G H v x → imL (G := G) H (vs.set i v) (xs.set i x)
  | [], [], _, _, _, _, _ => True.intro
  | v :: vs, x :: xs, 0, y, u, h, k => ⟨k, h.2⟩
  | v :: vs, x :: xs, i + 1, y, u, h, k => ⟨h.1, imL.set h.2 k⟩
  | [], _ :: _, _, _, _, h, _ => h.elim
  | _ :: _, [], _, _, _, h, _ => h.elim
theorem imL.take : ∀ {vs : List V} {xs : List α} (n : Nat), imL (G := G) H vs xs → imL (G := G) H (vs.take n) (xs.take n)
  | [], [], n, _ => by simp [imL]
  | v :: vs, x :: xs, 0, h => True.intro
  | v :: vs, x :: xs, n + 1, h => ⟨h.1, imL.take n h.2⟩
  | [], _ :: _, _, h => h.elim
  | _ :: _, [], _, h => h.elim
theorem imL.drop : ∀ {vs : List V} {xs : List α} (n : Nat), imL (G := G) H vs xs → imL (G := G) H (vs.drop n) (xs.drop n)
  | [], [], n, _ => by simp [imL]
  | v :: vs, x :: xs, 0, h => h
  | v :: vs, x :: xs, n + 1, h => imL.drop n h.2
  | [], _ :: _, _, h => h.elim
  | _ :: _, [], _, h => h.elim
end
section
variable {α : Type} [Fv G α] {H H' : Hp}
theorem imL.flat : ∀ {vs : List V} {xs : List α}, imL (G := G) H vs xs ↔ vs = xs.map (Fv.enc G)
  | [], [] => ⟨fun _ => rfl, fun _ => True.intro⟩
  | v :: vs, x :: xs => by
    show (Im.im G H v x ∧ imL (G := G) H vs xs) ↔ _
    rw [Fv.im_iff, imL.flat]
    simp
  | [], _ :: _ => by simp [imL]
  | _ :: _, [] => by simp [imL]
end
section
variable {α : Type} [Im G α]
def lstA (a : Addr) (xs : List α) : Asn G := ⟨fun H fp => fp = [a] ∧ ∃ vs, H a = some (.lst vs) ∧ imL (G := G) H vs xs,
  fun H H' fp ⟨e, vs, h, m⟩ k s => ⟨e, vs, by rw [k a (by rw [e]; simp)]; exact h, m.st s⟩⟩
/-- a value's fact -/
def imA (v : V) (x : α) : Asn G := fact (fun H => Im.im G H v x) fun H H' h s => Im.st h s
variable {H : Hp} {L : List (Asn G)}
theorem Sep.lst (h : Sep H L) {i : Nat} {a : Addr} {xs : List α} (e : L[i]? = some (lstA a xs)) : ∃ vs, H a = some (.lst vs) ∧ imL (G := G) H vs xs := by
  obtain ⟨fp, _, x⟩ := h.at e
  exact x
theorem Sep.im (h : Sep H L) {i : Nat} {v : V} {x : α} (e : L[i]? = some (imA v x)) : Im.im G H v x := h.getFact e
theorem Sep.addIm (h : Sep H L) {v : V} {x : α} (e : Im.im G H v x) : Sep H (imA v x :: L) := h.addFact e
/-- the list's own cell, and back -/
theorem Sep.openL (h : Sep H L) {i : Nat} {a : Addr} {xs : List α} (e : L[i]? = some (lstA a xs)) : ∃ vs, imL (G := G) H vs xs ∧ Sep H (L.set i (cell a (.lst vs))) := by
  obtain ⟨vs, e1, m⟩ := h.lst e
  exact ⟨vs, m, h.viewAt e fun fp ⟨q, _⟩ => ⟨q, e1⟩⟩
theorem Sep.closeL {i : Nat} {a : Addr} {vs : List V} {xs : List α} (h : Sep H L) (e : L[i]? = some (cell a (.lst vs))) (m : imL (G := G) H vs xs) : Sep H (L.set i (lstA a xs)) :=
  h.viewAt e fun fp ⟨q, r⟩ => ⟨q, vs, r, m⟩
theorem Sep.newL (h : Sep H L) {p : Addr} {vs : List V} {xs : List α} (hp : H p = none) (m : imL (G := G) H vs xs) : Sep (upd H p (.lst vs)) (lstA p xs :: L) :=
  (h.new (o := .lst vs) hp rfl).view fun fp ⟨q, r⟩ => ⟨q, vs, r, m.st (.of_same (same_new hp))⟩
theorem set_set {β : Type} {l : List β} {i : Nat} {x y : β} : (l.set i x).set i y = l.set i y := by simp
theorem get_set {β : Type} {l : List β} {i : Nat} {x y : β} (h : l[i]? = some x) : (l.set i y)[i]? = some y := by
  have : i < l.length := by
    have := List.getElem?_eq_some_iff.mp h
    exact this.1
  simp [this]
theorem Sep.putL (h : Sep H L) {i : Nat} {a : Addr} {xs ys : List α} {vs : List V} (e : L[i]? = some (lstA a xs)) (m : imL (G := G) H vs ys) : Sep (upd H a (.lst vs)) (L.set i (lstA a ys)) := by
  obtain ⟨us, mu, h1⟩ := h.openL e
  have e1 := get_set (y := cell (G := G) a (.lst us)) e
  have h2 := h1.put (o' := .lst vs) e1 rfl rfl
  rw [set_set] at h2
  have st : Stab G H (upd H a (.lst vs)) := stab_put (h1.getCell e1) rfl rfl
  have h3 := h2.closeL (get_set e) (m.st st)
  rw [set_set] at h3
  exact h3
end
end Ml
namespace Ml
open PySem L2
variable {G : Gx}
def Ev (te : TE) (σ : St) (H : Hp) (v : V) : Prop := ∀ Q : VK, Q v H → te σ H Q
def Et (t : TT) (σ : St) (H : Hp) (b : Bool) : Prop := ∀ Q : Bool → Hp → Prop, Q b H → t σ H Q
def Ea (t : TA) (σ : St) (H : Hp) (vs : List V) : Prop := ∀ Q : List V → Hp → Prop, Q vs H → t σ H Q
def Eo (t : TO) (σ : St) (H : Hp) (o : Option Int) : Prop := ∀ Q : Option Int → Hp → Prop, Q o H → t σ H Q
section
variable {σ : St} {H : Hp} {ta tb tc te : TE} {t u : TT} {x y v : V} {i j : Int} {a b : Bool} {s z : Str} {vs : List V}
theorem ev_var {k : Nat} (h : σ[k]? = some (some v)) : Ev (tVar k) σ H v := fun _ q => ⟨v, h, q⟩
theorem ev_c : Ev (tC v) σ H v := fun _ q => q
theorem ev_op {r : R2} (ha : Ev ta σ H x) (hb : Ev tb σ H y) (hr : ∀ Q : VK, Q v H → r x y H Q) : Ev (tOp r ta tb) σ H v := fun Q q => ha _ (hb _ (hr _ q))
theorem ev_un {r : V → Hp → VK → Prop} (ha : Ev ta σ H x) (hr : ∀ Q : VK, Q v H → r x H Q) : Ev (tUn r ta) σ H v := fun Q q => ha _ (hr _ q)
theorem r_I0 {g : Int → Int → V} (Q : VK) (q : Q (g i j) H) : rI0 g (.int i) (.int j) H Q := ⟨i, j, rfl, rfl, q⟩
theorem r_I {C : Int → Int → Prop} {g : Int → Int → V} (c : C i j) (Q : VK) (q : Q (g i j) H) : rI C g (.int i) (.int j) H Q := ⟨i, j, rfl, rfl, c, q⟩
theorem ev_i0 {g : Int → Int → V} (ha : Ev ta σ H (.int i)) (hb : Ev tb σ H (.int j)) : Ev (tOp (rI0 g) ta tb) σ H (g i j) := ev_op ha hb fun Q q => r_I0 Q q
theorem ev_i {C : Int → Int → Prop} {g : Int → Int → V} (ha : Ev ta σ H (.int i)) (hb : Ev tb σ H (.int j)) (c : C i j) : Ev (tOp (rI C g) ta tb) σ H (g i j) := ev_op ha hb fun Q q => r_I c Q q
theorem ev_mul (ha : Ev ta σ H (.int i)) (hb : Ev tb σ H (.int j)) (c : CMul i j) : Ev (tOp (rI CMul fun i j => .int (i * j)) ta tb) σ H (.int (i * j)) := ev_i ha hb c
theorem ev_fdiv (ha : Ev ta σ H (.int i)) (hb : Ev tb σ H (.int j)) (c : 0 < j ∧ j < 1073741824) : Ev (tOp (rI CDiv fun i j => .int (i / j)) ta tb) σ H (.int (i / j)) := ev_i ha hb c
theorem ev_mod (ha : Ev ta σ H (.int i)) (hb : Ev tb σ H (.int j)) (c : 0 < j) : Ev (tOp (rI (fun _ j => 0 < j) fun i j => .int (i % j)) ta tb) σ H (.int (i % j)) := ev_i ha hb c
theorem ev_add (ha : Ev ta σ H (.int i)) (hb : Ev tb σ H (.int j)) : Ev (tOp (rI0 fun i j => .int (i + j)) ta tb) σ H (.int (i + j)) := ev_i0 ha hb
theorem ev_sub (ha : Ev ta σ H (.int i)) (hb : Ev tb σ H (.int j)) : Ev (tOp (rI0 fun i j => .int (i - j)) ta tb) σ H (.int (i - j)) := ev_i0 ha hb
theorem r_eqI (Q : VK) (q : Q (.bl (decide (i = j))) H) : rEq (.int i) (.int j) H Q := ⟨rfl, by
  have : decide (V.int i = V.int j) = decide (i = j) := by simp
  rw [this]; exact q⟩
theorem r_eqS (Q : VK) (q : Q (.bl (decide (s = z))) H) : rEq (.str s) (.str z) H Q := ⟨rfl, by
  have : decide (V.str s = V.str z) = decide (s = z) := by simp
  rw [this]; exact q⟩
theorem r_neS (Q : VK) (q : Q (.bl (!decide (s = z))) H) : rNe (.str s) (.str z) H Q := ⟨rfl, by
  have : decide (V.str s = V.str z) = decide (s = z) := by simp
  rw [this]; exact q⟩
theorem r_neB (Q : VK) (q : Q (.bl (!decide (a = b))) H) : rNe (.bl a) (.bl b) H Q := ⟨rfl, by
  have : decide (V.bl a = V.bl b) = decide (a = b) := by simp
  rw [this]; exact q⟩
theorem ev_eqI (ha : Ev ta σ H (.int i)) (hb : Ev tb σ H (.int j)) : Ev (tOp rEq ta tb) σ H (.bl (decide (i = j))) := ev_op ha hb fun Q q => r_eqI Q q
theorem ev_eqS (ha : Ev ta σ H (.str s)) (hb : Ev tb σ H (.str z)) : Ev (tOp rEq ta tb) σ H (.bl (decide (s = z))) := ev_op ha hb fun Q q => r_eqS Q q
theorem ev_neS (ha : Ev ta σ H (.str s)) (hb : Ev tb σ H (.str z)) : Ev (tOp rNe ta tb) σ H (.bl (!decide (s = z))) := ev_op ha hb fun Q q => r_neS Q q
theorem ev_neB (ha : Ev ta σ H (.bl a)) (hb : Ev tb σ H (.bl b)) : Ev (tOp rNe ta tb) σ H (.bl (!decide (a = b))) := ev_op ha hb fun Q q => r_neB Q q
def rCatS : R2 := fun x y H Q => ∃ i j, x = .str i ∧ y = .str j ∧ i.length + j.length ≤ sizeLine ∧ Q (.str (i ++ j)) H
theorem op_catS {X : Cx} : OpR X (binaryOp .Add) rCatS := op_add_str
theorem r_catS (c : s.length + z.length ≤ sizeLine) (Q : VK) (q : Q (.str (s ++ z)) H) : rCatS (.str s) (.str z) H Q := ⟨s, z, rfl, rfl, c, q⟩
theorem ev_catS (ha : Ev ta σ H (.str s)) (hb : Ev tb σ H (.str z)) (c : s.length + z.length ≤ sizeLine) : Ev (tOp rCatS ta tb) σ H (.str (s ++ z)) := ev_op ha hb fun Q q => r_catS c Q q
/-- a sign in a written text -/
def rInSg : R2 := fun x y H Q => ∃ (c : Nat) (z : Str), x = .str ⟨#[c]⟩ ∧ y = .str z ∧ Q (.bl (decide (c ∈ z.cps.toList))) H
theorem op_inSg {X : Cx} : OpR X (compareOp .In) rInSg := op_in_sign
theorem ev_inSg {c : Nat} (ha : Ev ta σ H (.str ⟨#[c]⟩)) (hb : Ev tb σ H (.str z)) : Ev (tOp rInSg ta tb) σ H (.bl (decide (c ∈ z.cps.toList))) := ev_op ha hb fun Q q => ⟨c, z, rfl, rfl, q⟩
theorem et_test (h : Ev te σ H (.bl b)) : Et (tTest te) σ H b := fun _ q => h _ ⟨b, rfl, q⟩
theorem et_B (h : Ev te σ H (.bl b)) : Et (tB te) σ H b := fun _ q => h _ ⟨b, rfl, q⟩
theorem et_not (h : Et t σ H a) : Et (tNot t) σ H (!a) := fun _ q => h _ q
theorem et_and (h1 : Et t σ H a) (h2 : a = true → Et u σ H b) : Et (tAnd t u) σ H (a && b) := fun Q q => h1 _ (by
  cases a with
  | true => exact h2 rfl _ q
  | false => exact q)
theorem et_or (h1 : Et t σ H a) (h2 : a = false → Et u σ H b) : Et (tOr t u) σ H (a || b) := fun Q q => h1 _ (by
  cases a with
  | true => exact q
  | false => exact h2 rfl _ q)
theorem ev_orV (h1 : Ev ta σ H (.bl a)) (h2 : a = false → Ev tb σ H (.bl b)) : Ev (tOrV ta tb) σ H (.bl (a || b)) := fun Q q => h1 _ ⟨a, rfl, by
  cases a with
  | true => exact q
  | false => exact h2 rfl _ q⟩
theorem ev_notV (h1 : Ev ta σ H (.bl a)) : Ev (tNotV ta) σ H (.bl (!a)) := fun _ q => h1 _ ⟨a, rfl, q⟩
theorem ev_chainB {r r' : R2} (ha : Ev ta σ H x) (hb : Ev tb σ H y) (hc : a = true → Ev tc σ H v) (h1 : ∀ Q : VK, Q (.bl a) H → r x y H Q) (h2 : a = true → ∀ Q : VK, Q (.bl b) H → r' y v H Q) :
    Ev (tChain r r' ta tb tc) σ H (.bl (a && b)) := fun Q q => ha _ (hb _ (h1 _ ⟨a, rfl, by
  cases a with
  | true => exact hc rfl _ (h2 rfl _ q)
  | false => exact q⟩))
theorem ea_nil : Ea tNil σ H [] := fun _ q => q
theorem ea_cons {tr : TA} (h : Ev ta σ H x) (hr : Ea tr σ H vs) : Ea (tCons ta tr) σ H (x :: vs) := fun _ q => h _ (hr _ q)
theorem eo_no : Eo tNoPart σ H none := fun _ q => q
theorem eo_some (h : Ev te σ H (.int i)) : Eo (tPart te) σ H (some i) := fun _ q => h _ ⟨i, rfl, q⟩
theorem ev_cb {r : List V → Hp → VK → Prop} {tr : TA} (h : Ea tr σ H vs) (hr : ∀ Q : VK, Q v H → r vs H Q) : Ev (tCB r tr) σ H v := fun Q q => h _ (hr _ q)
variable {K : PySem.W.Frag} {α : Type}
theorem ev_ixSq {p : Addr} {ws : List V} (ha : Ev ta σ H (.ref p)) (hb : Ev tb σ H (.int i)) (hs : SqL K H p ws) (e : atI ws i = some v) : Ev (tOp (rIxL K) ta tb) σ H v := ev_op ha hb fun _ q => ⟨p, ws, i, v, rfl, rfl, hs, e, q⟩
theorem ev_ixS {c : Nat} (ha : Ev ta σ H (.str z)) (hb : Ev tb σ H (.int i)) (hl : z.length ≤ sizeLine) (e : atI z.cps.toList i = some c) : Ev (tOp rIxS ta tb) σ H (.str ⟨#[c]⟩) := ev_op ha hb fun _ q => ⟨z, i, c, rfl, rfl, hl, e, q⟩
def rLenSq (K : PySem.W.Frag) : List V → Hp → VK → Prop := fun xs H Q => ∃ p ys, xs = [.ref p] ∧ (SqL K H p ys ∨ SqT K H p ys) ∧ Q (.int ys.length) H
theorem call_lenSq {X : Cx} : CallR X (.builtin "len") (rLenSq X.K) := call_len_seq
def rLenS : List V → Hp → VK → Prop := fun xs H Q => ∃ z, xs = [.str z] ∧ z.length ≤ sizeLine ∧ Q (.int z.length) H
theorem call_lenS {X : Cx} : CallR X (.builtin "len") rLenS := call_len_str
theorem ev_lenL {p : Addr} {ws : List V} (ha : Ev ta σ H (.ref p)) (hs : SqL K H p ws) : Ev (tCB (rLenSq K) (tCons ta tNil)) σ H (.int ws.length) := ev_cb (ea_cons ha ea_nil) fun _ q => ⟨p, ws, rfl, .inl hs, q⟩
end
section
variable {σ σ' : St} {H : Hp} {te : TE} {t : TT} {D : Ends} {t1 t2 tb : TS} {v : V} {b : Bool}
theorem ev_to (h : Ev te σ H v) {Q : VK} (q : Q v H) : te σ H Q := h Q q
theorem ea_to {t : TA} {vs : List V} (h : Ea t σ H vs) {Q : List V → Hp → Prop} (q : Q vs H) : t σ H Q := h Q q
theorem eo_to {t : TO} {o : Option Int} (h : Eo t σ H o) {Q : Option Int → Hp → Prop} (q : Q o H) : t σ H Q := h Q q
theorem et_to (h : Et t σ H b) {Q : Bool → Hp → Prop} (q : Q b H) : t σ H Q := h Q q
end
section
variable {α β τ ρ : Type} {H : Hp} {σ : St} {D : Ends} {tb : TS} {g : TG} {K : PySem.W.Frag}
/-- a walk J over the items xs: at turn i it yields a v of which the i-th item holds -/
structure Wk (J : It) (I : St → Hp → Prop) (im : Hp → V → α → Prop) (xs : List α) : Prop where
  go : ∀ i σ H, I σ H → i < xs.length → J.go i H
  yl : ∀ i σ H v H' x, I σ H → xs[i]? = some x → J.yld i H v H' → I σ H' ∧ im H' v x
  sp : ∀ σ H, I σ H → J.stop xs.length H
/-- for .. in ..: the state s : τ, I s its place in slots and heap; each turn reckons f -/
theorem for_walk {J : It} {I : τ → St → Hp → Prop} {im : Hp → V → α → Prop} {xs : List α} {f : τ → α → R τ} {k : τ → Prop} {e : Exc → Prop} {s : τ}
    (w : ∀ s, Wk J (I s) im xs) (h0 : I s σ H) (hm : R.wp (forR f xs s) k e)
    (turn : ∀ (s : τ) (x : α) (v : V) (σ : St) (H : Hp) (q : τ → Prop) (N : St → Hp → Prop), I s σ H → im H v x → R.wp (f s x) q e → (∀ s' σ' H', q s' → I s' σ' H' → N σ' H') → g v σ H fun σ2 H2 => tb { D with nx := N, ct := N, bk := D.nx } σ2 H2)
    (done : ∀ s σ H, k s → I s σ H → D.nx σ H) :
    ∃ W : Nat → Nat → St → Hp → Prop, (∃ m, W 0 m σ H) ∧ ∀ i m σ H, W i m σ H →
      (J.stop i H ∧ D.nx σ H) ∨ (J.go i H ∧ ∃ N : St → Hp → Prop, (∀ σ' H', N σ' H' → ∃ m', m' < m ∧ W (i + 1) m' σ' H') ∧ ∀ x H', J.yld i H x H' → g x σ H' fun σ2 H2 => tb { D with nx := N, ct := N, bk := D.nx } σ2 H2) := by
  refine ⟨fun i m σ H => m = xs.length - i ∧ i ≤ xs.length ∧ ∃ s, I s σ H ∧ R.wp (forR f (xs.drop i) s) k e, ⟨xs.length, by simp, Nat.zero_le _, s, h0, by simpa using hm⟩, ?_⟩
  rintro i m σ H ⟨rfl, hi, s, hI, hw⟩
  by_cases c : i < xs.length
  · have ed : xs.drop i = xs[i] :: xs.drop (i + 1) := List.drop_eq_getElem_cons c
    rw [ed] at hw
    refine .inr ⟨(w s).go i σ H hI c, fun σ' H' => ∃ s', I s' σ' H' ∧ R.wp (forR f (xs.drop (i + 1)) s') k e, fun σ' H' ⟨s', h1, h2⟩ => ⟨xs.length - (i + 1), by omega, rfl, c, s', h1, h2⟩, fun v H' y => ?_⟩
    obtain ⟨hI', hv⟩ := (w s).yl i σ H v H' xs[i] hI (List.getElem?_eq_getElem c) y
    exact turn s xs[i] v σ H' _ _ hI' hv (R.wp_bind hw) fun s' σ' H'' q hI'' => ⟨s', hI'', q⟩
  · have ei : i = xs.length := by omega
    subst ei
    rw [List.drop_length] at hw
    exact .inl ⟨(w s).sp σ H hI, done s σ H hw hI⟩
/-- .. whose turns may leave it -/
theorem for_walkF {J : It} {I : τ → St → Hp → Prop} {im : Hp → V → α → Prop} {xs : List α} {f : τ → α → R (Fl τ ρ)} {k : Fl τ ρ → Prop} {e : Exc → Prop} {s : τ}
    (w : ∀ s, Wk J (I s) im xs) (h0 : I s σ H) (hm : R.wp (forF f xs s) k e)
    (turn : ∀ (s : τ) (x : α) (v : V) (σ : St) (H : Hp) (q : Fl τ ρ → Prop) (N B : St → Hp → Prop), I s σ H → im H v x → R.wp (f s x) q e → (∀ s' σ' H', q (.go s') → I s' σ' H' → N σ' H') → (∀ s' σ' H', q (.brk s') → I s' σ' H' → B σ' H') → (∀ r, q (.out r) → k (.out r)) →
      g v σ H fun σ2 H2 => tb { D with nx := N, ct := N, bk := B } σ2 H2)
    (done : ∀ s σ H, k (.go s) → I s σ H → D.nx σ H) :
    ∃ W : Nat → Nat → St → Hp → Prop, (∃ m, W 0 m σ H) ∧ ∀ i m σ H, W i m σ H →
      (J.stop i H ∧ D.nx σ H) ∨ (J.go i H ∧ ∃ N : St → Hp → Prop, (∀ σ' H', N σ' H' → ∃ m', m' < m ∧ W (i + 1) m' σ' H') ∧ ∀ x H', J.yld i H x H' → g x σ H' fun σ2 H2 => tb { D with nx := N, ct := N, bk := D.nx } σ2 H2) := by
  refine ⟨fun i m σ H => m = xs.length - i ∧ i ≤ xs.length ∧ ∃ s, I s σ H ∧ R.wp (forF f (xs.drop i) s) k e, ⟨xs.length, by simp, Nat.zero_le _, s, h0, by simpa using hm⟩, ?_⟩
  rintro i m σ H ⟨rfl, hi, s, hI, hw⟩
  by_cases c : i < xs.length
  · have ed : xs.drop i = xs[i] :: xs.drop (i + 1) := List.drop_eq_getElem_cons c
    rw [ed] at hw
    refine .inr ⟨(w s).go i σ H hI c, fun σ' H' => ∃ s', I s' σ' H' ∧ R.wp (forF f (xs.drop (i + 1)) s') k e, fun σ' H' ⟨s', h1, h2⟩ => ⟨xs.length - (i + 1), by omega, rfl, c, s', h1, h2⟩, fun v H' y => ?_⟩
    obtain ⟨hI', hv⟩ := (w s).yl i σ H v H' xs[i] hI (List.getElem?_eq_getElem c) y
    have hw' := R.wp_bind hw
    exact turn s xs[i] v σ H' _ _ _ hI' hv hw' (fun s' σ' H'' q hI'' => ⟨s', hI'', q⟩) (fun s' σ' H'' q hI'' => done s' σ' H'' q hI'') fun r q => q
  · have ei : i = xs.length := by omega
    subst ei
    rw [List.drop_length] at hw
    exact .inl ⟨(w s).sp σ H hI, done s σ H hw hI⟩
/-- a comprehension -/
theorem lc_walk {J : It} {I : Addr → τ → List β → Hp → Prop} {im : Hp → V → α → Prop} [Im G β] {xs : List α} {f : τ → α → R (τ × Option β)} {k : τ × List β → Prop} {e : Exc → Prop} {s : τ} {tt : TT} {te : TE} {vs : List Nat} {Q : VK} {Dr : Addr}
    (w : ∀ s ys, Wk J (fun _ H => I Dr s ys H) im xs) (h0 : I Dr s [] (upd H Dr (.lst []))) (hm : R.wp (compR f xs s) k e) (hl : xs.length ≤ sizeLine)
    (turn : ∀ (s : τ) (ys : List β) (x : α) (v : V) (H : Hp) (q : τ × Option β → Prop) (Nx : Hp → Prop), I Dr s ys H → im H v x → R.wp (f s x) q e → ys.length < sizeLine →
      (∀ s' y u H', q (s', some y) → Im.im G H' u y → I Dr s' ys H' → ∃ acc, H' Dr = some (.lst acc) ∧ acc.length < sizeLine ∧ Nx (upd H' Dr (.lst (acc ++ [u])))) → (∀ s' H', q (s', none) → I Dr s' ys H' → Nx H') →
      g v (wipe σ vs) H fun σ2 H2 => wipe σ2 vs = wipe σ vs ∧ tt σ2 H2 fun b H3 => if b = true then te σ2 H3 fun y H4 => ∃ acc, H4 Dr = some (.lst acc) ∧ acc.length < sizeLine ∧ Nx (upd H4 Dr (.lst (acc ++ [y]))) else Nx H3)
    (app : ∀ s ys y u H, I Dr s ys H → Im.im G H u y → ∃ acc, H Dr = some (.lst acc) ∧ acc.length = ys.length ∧ I Dr s (ys ++ [y]) (upd H Dr (.lst (acc ++ [u]))))
    (done : ∀ s ys H, k (s, ys) → I Dr s ys H → Q (.ref Dr) H) :
    ∃ W : Nat → Nat → Hp → Prop, (∃ m, W 0 m (upd H Dr (.lst []))) ∧ ∀ i m H, W i m H →
      (J.stop i H ∧ Q (.ref Dr) H) ∨ (J.go i H ∧ ∃ Nx : Hp → Prop, (∀ H', Nx H' → ∃ m', m' < m ∧ W (i + 1) m' H') ∧ ∀ x H', J.yld i H x H' → g x (wipe σ vs) H' fun σ2 H2 => wipe σ2 vs = wipe σ vs ∧ tt σ2 H2 fun b H3 =>
        if b = true then te σ2 H3 fun y H4 => ∃ acc, H4 Dr = some (.lst acc) ∧ acc.length < sizeLine ∧ Nx (upd H4 Dr (.lst (acc ++ [y]))) else Nx H3) := by
  refine ⟨fun i m H => m = xs.length - i ∧ i ≤ xs.length ∧ ∃ s ys, ys.length ≤ i ∧ I Dr s ys H ∧ R.wp (compR f (xs.drop i) s) (fun t => k (t.1, ys ++ t.2)) e, ⟨xs.length, by simp, Nat.zero_le _, s, [], Nat.le_refl _, h0, by simpa using hm⟩, ?_⟩
  rintro i m H ⟨rfl, hi, s, ys, hy, hI, hw⟩
  by_cases c : i < xs.length
  · have ed : xs.drop i = xs[i] :: xs.drop (i + 1) := List.drop_eq_getElem_cons c
    rw [ed] at hw
    refine .inr ⟨(w s ys).go i [] H hI c, fun H' => ∃ s' ys', ys'.length ≤ i + 1 ∧ I Dr s' ys' H' ∧ R.wp (compR f (xs.drop (i + 1)) s') (fun t => k (t.1, ys' ++ t.2)) e,
      fun H' ⟨s', ys', h0, h1, h2⟩ => ⟨xs.length - (i + 1), by omega, rfl, c, s', ys', h0, h1, h2⟩, fun v H' y => ?_⟩
    obtain ⟨hI', hv⟩ := (w s ys).yl i [] H v H' xs[i] hI (List.getElem?_eq_getElem c) y
    have hw' := R.wp_bind hw
    refine turn s ys xs[i] v H' _ _ hI' hv hw' (by omega) (fun s' y u H'' q hu hI'' => ?_) (fun s' H'' q hI'' => ?_)
    · have q' := R.wp_bind q
      obtain ⟨acc, ea, la, hI3⟩ := app s' ys y u H'' hI'' hu
      refine ⟨acc, ea, by omega, s', ys ++ [y], by simp; omega, hI3, ?_⟩
      refine R.wp_mono q' (fun t ht => ?_) fun _ z => z
      have ht' : k (t.1, ys ++ y :: t.2) := ht
      rw [List.append_assoc]; exact ht'
    · have q' := R.wp_bind q
      exact ⟨s', ys, by omega, hI'', R.wp_mono q' (fun t ht => ht) fun _ z => z⟩
  · have ei : i = xs.length := by omega
    subst ei
    rw [List.drop_length] at hw
    have hw : k (s, ys ++ []) := hw
    rw [List.append_nil] at hw
    exact .inl ⟨(w s ys).sp [] H hI, done s ys H hw hI⟩
end
end Ml
namespace Ml
open PySem L2
variable {G : Gx}
def idxR {α : Type} (xs : List α) (i : Int) : R α := match atI xs i with
  | some x => .ok x
  | none => .bad
theorem wp_idx {α ρ : Type} {xs : List α} {i : Int} {f : α → R ρ} {q : ρ → Prop} {e : Exc → Prop} (h : R.wp ((idxR xs i).bind f) q e) : ∃ x, atI xs i = some x ∧ R.wp (f x) q e := by
  unfold idxR at h
  cases c : atI xs i with
  | some x => rw [c] at h; exact ⟨x, rfl, h⟩
  | none => rw [c] at h; exact h.elim
theorem atI_map {α β : Type} {xs : List α} {f : α → β} {i : Int} {x : α} (h : atI xs i = some x) : atI (xs.map f) i = some (f x) := by
  unfold atI at h ⊢
  rw [List.length_map]
  cases e : ixN xs.length i with
  | none => rw [e] at h; cases h
  | some j =>
    rw [e] at h
    show (xs.map f)[j]? = some (f x)
    have h : xs[j]? = some x := h
    rw [List.getElem?_map, h]; rfl
theorem atI_im {α : Type} [Im G α] {H : Hp} {vs : List V} {xs : List α} {i : Int} {x : α} (m : imL (G := G) H vs xs) (h : atI xs i = some x) : ∃ v, atI vs i = some v ∧ Im.im G H v x := by
  unfold atI at h ⊢
  rw [m.len]
  cases e : ixN xs.length i with
  | none => rw [e] at h; cases h
  | some j =>
    rw [e] at h
    exact m.get h
theorem atI_ok {α : Type} {xs : List α} {i : Int} (h0 : 0 ≤ i) (h1 : i < xs.length) : ∃ x, xs[i.toNat]? = some x ∧ atI xs i = some x := by
  have hj : i.toNat < xs.length := by omega
  refine ⟨xs[i.toNat], List.getElem?_eq_getElem hj, ?_⟩
  unfold atI ixN
  rw [if_pos h0, if_pos h1]
  exact List.getElem?_eq_getElem hj
theorem idxR_ok {α : Type} {xs : List α} {i : Int} {x : α} (h0 : 0 ≤ i) (h1 : xs[i.toNat]? = some x) : idxR xs i = .ok x := by
  have hl : i.toNat < xs.length := (List.getElem?_eq_some_iff.mp h1).1
  obtain ⟨y, hy, h⟩ := atI_ok (xs := xs) h0 (by omega)
  rw [h1] at hy; cases hy
  unfold idxR; rw [h]
/-- one sign as a text -/
abbrev sg (c : Nat) : Str := ⟨#[c]⟩
def mulOk (i j : Int) : Prop := (-(2 ^ 64) < i ∧ i < 2 ^ 64) ∨ (-(2 ^ 64) < j ∧ j < 2 ^ 64)
instance (i j : Int) : Decidable (mulOk i j) := by unfold mulOk; infer_instance
def rngL (lo : Int) (n : Nat) : List Int := (List.range n).map fun (i : Nat) => lo + (i : Int)
theorem rngL_len (lo : Int) (n : Nat) : (rngL lo n).length = n := by simp [rngL]
theorem rngL_get {lo : Int} {n i : Nat} {x : Int} (h : (rngL lo n)[i]? = some x) : x = lo + (i : Int) ∧ i < n := by
  have hl : i < (rngL lo n).length := (List.getElem?_eq_some_iff.mp h).1
  rw [rngL_len] at hl
  unfold rngL at h
  rw [List.getElem?_map, List.getElem?_range hl] at h
  exact ⟨(Option.some.inj h).symm, hl⟩
section
variable {α τ : Type} {I : St → Hp → Prop} {K : PySem.W.Frag} {a : Addr}
theorem wk_list [Im G α] {xs : List α} (h : ∀ σ H, I σ H → ∃ vs, SqL K H a vs ∧ imL (G := G) H vs xs) : Wk (Itl K a) I (Im.im G) xs where
  go := fun i σ H hI hi => by
    obtain ⟨vs, s, m⟩ := h σ H hI
    have hl : i < vs.length := by rw [m.len]; exact hi
    exact ⟨vs, vs[i], s, List.getElem?_eq_getElem hl⟩
  yl := fun i σ H v H' x hI hx y => by
    obtain ⟨vs, s, m⟩ := h σ H hI
    obtain ⟨rfl, y⟩ := y
    obtain ⟨u, hu, im⟩ := m.get hx
    have e := y vs s
    rw [hu] at e; cases e
    exact ⟨hI, im⟩
  sp := fun σ H hI => by
    obtain ⟨vs, s, m⟩ := h σ H hI
    exact ⟨vs, s, by rw [m.len]; exact Nat.le_refl _⟩
theorem wk_range {lo : Int} {n : Nat} : Wk (Itr lo n) I (fun _ v (x : Int) => v = .int x) (rngL lo n) where
  go := fun i σ H _ hi => by rw [rngL_len] at hi; exact hi
  yl := fun i σ H v H' x hI hx y => by
    obtain ⟨rfl, y⟩ := y
    obtain ⟨e, _⟩ := rngL_get hx
    exact ⟨hI, by rw [y, e]⟩
  sp := fun σ H _ => by rw [rngL_len]; exact Nat.le_refl _
theorem wk_str {z : Str} : Wk (Its z) I (fun _ v (c : Nat) => v = .str (sg c)) z.cps.toList where
  go := fun i σ H _ hi => by show i < z.cps.size; simpa using hi
  yl := fun i σ H v H' x hI hx y => by
    obtain ⟨rfl, c, hc, y⟩ := y
    have : z.cps[i]? = some x := by simpa using hx
    rw [hc] at this; cases this
    exact ⟨hI, y⟩
  sp := fun σ H _ => by show z.cps.size ≤ _; simp
end
theorem Sep.sq {α : Type} [Im G α] {H : Hp} {L : List (Asn G)} (h : Sep H L) {i : Nat} {a : Addr} {xs : List α} (e : L[i]? = some (lstA a xs)) : ∃ vs, SqL G.K H a vs ∧ imL (G := G) H vs xs := by
  obtain ⟨vs, e, m⟩ := h.lst e
  exact ⟨vs, .inl (.inl e), m⟩
theorem Sep.sqF {α : Type} [Fv G α] {H : Hp} {L : List (Asn G)} (h : Sep H L) {i : Nat} {a : Addr} {xs : List α} (e : L[i]? = some (lstA a xs)) : SqL G.K H a (xs.map (Fv.enc G)) := by
  obtain ⟨vs, e, m⟩ := h.sq e
  rw [imL.flat.mp m] at e
  exact e
section
variable {σ σ' : St} {H : Hp} {L L' : List (Asn G)} {D : Ends} {Q : VK} {te ta tb : TE} {α β : Type}
theorem c_op {r : R2} (h : ta σ H fun x H1 => tb σ H1 fun y H2 => r x y H2 Q) : tOp r ta tb σ H Q := h
theorem c_cons {tr : TA} {P : List V → Hp → Prop} (h : ta σ H fun x H1 => tr σ H1 fun xs H2 => P (x :: xs) H2) : tCons ta tr σ H P := h
theorem c_nil {P : List V → Hp → Prop} (h : P [] H) : tNil σ H P := h
theorem c_call {sp : Sp} {dvs : List V} {E : XK} {t : TA} (h : t σ H fun vs H1 => sp (vs ++ dvs) H1 Q E) : tCall sp dvs E t σ H Q := h
theorem c_cb {r : List V → Hp → VK → Prop} {t : TA} (h : t σ H fun vs H1 => r vs H1 Q) : tCB r t σ H Q := h
theorem c_asg {i : Nat} (h : te σ H fun v H1 => D.nx (σ.set i (some v)) H1) : tAsg te (gName i) D σ H := h
theorem c_ret (h : te σ H D.rt) : tRet te D σ H := h
theorem c_drop (h : te σ H fun _ H1 => D.nx σ H1) : tDrop te D σ H := h
theorem c_set {i : Nat} {v : V} (e : σ.set i (some v) = σ') (h : D.nx σ' H) : D.nx (σ.set i (some v)) H := by rw [e]; exact h
/-- a new list of written items -/
def lstK (Q : VK) : List V → Hp → Prop := fun xs H1 => xs.length ≤ sizeLine ∧ ∀ p, H1 p = none → Q (.ref p) (upd H1 p (.lst xs))
def tupK (Q : VK) : List V → Hp → Prop := fun xs H1 => xs.length ≤ sizeLine ∧ ∀ p, H1 p = none → Q (.ref p) (upd H1 p (.tup xs))
theorem k_lst [Im G α] {vs : List V} {xs : List α} (hS : Sep H L) (m : imL (G := G) H vs xs) (z : vs.length ≤ sizeLine) (k : ∀ p H', Sep H' (lstA p xs :: L) → Q (.ref p) H') :
    lstK Q vs H := ⟨z, fun p hp => k p _ (hS.newL hp m)⟩
theorem c_lst {t : TA} (h : t σ H (lstK Q)) : tLst t σ H Q := h
theorem c_tup {t : TA} (h : t σ H (tupK Q)) : tTup t σ H Q := h
theorem c_bm {K : PySem.W.Frag} {T : String} {r : V → List V → Hp → VK → Prop} {to : TE} {t : TA} (h : to σ H fun x H1 => tyV K T x H1 ∧ t σ H1 fun xs H2 => r x xs H2 Q) : tBM K T r to t σ H Q := h
theorem tyL [Im G α] {i : Nat} {a : Addr} {xs : List α} (hS : Sep H L) (e : L[i]? = some (lstA a xs)) : tyV G.K "list" (.ref a) H := by
  obtain ⟨vs, h, _⟩ := hS.sq e
  exact .inl ⟨rfl, vs, h⟩
theorem k_append [Im G α] {i : Nat} {a : Addr} {xs : List α} {x : α} {v : V} (hS : Sep H L) (e : L[i]? = some (lstA a xs)) (hv : Im.im G H v x) (z : xs.length < sizeLine) (e2 : L.set i (lstA a (xs ++ [x])) = L')
    (k : ∀ H', Sep H' L' → Q .non H') : rAppend (.ref a) [v] H Q := by
  obtain ⟨vs, h, m⟩ := hS.lst e
  refine ⟨a, vs, v, rfl, rfl, h, by rw [m.len]; exact z, k _ ?_⟩
  subst e2
  exact hS.putL e (m.app (vs := vs) (ws := [v]) ⟨hv, True.intro⟩)
def cutL (xs : List α) (lo hi : Option Int) : List α := (xs.drop (HT.sIx xs.length 0 lo)).take (HT.sIx xs.length xs.length hi - HT.sIx xs.length 0 lo)
theorem cutL_im [Im G α] {vs : List V} {xs : List α} {lo hi : Option Int} (m : imL (G := G) H vs xs) : imL (G := G) H (cutV vs lo hi) (cutL xs lo hi) := by
  unfold cutV cutL
  rw [m.len]
  exact (m.drop _).take _
theorem c_sl {r : V → Option Int → Option Int → Hp → VK → Prop} {tl th : TO} (h : te σ H fun x H1 => tl σ H1 fun l H2 => th σ H2 fun u H3 => r x l u H3 Q) : tSl r te tl th σ H Q := h
def rListSq (K : PySem.W.Frag) : List V → Hp → VK → Prop := fun xs H Q => ∃ p ys, xs = [.ref p] ∧ (SqL K H p ys ∨ SqT K H p ys) ∧ ∀ l, H l = none → Q (.ref l) (upd H l (.lst ys))
theorem call_listSq {X : Cx} : CallR X (.type "list") (rListSq X.K) := call_list_of
theorem c_m0 {r : V → List V → Hp → VK → Prop} {to : TE} {a : Str} (h1 : Ev to σ H (.str a)) (h : r (.str a) [] H Q) : tM0 r to σ H Q := h1 _ ⟨⟨a, rfl⟩, h⟩
end
end Ml
namespace Ml
open PySem L2
variable {G : Gx}
section
variable {κ β : Type} [DecidableEq κ]
def dget (kvs : List (κ × β)) (k : κ) : Option β := (kvs.find? fun kv => decide (kv.1 = k)).map (·.2)
def dput (kvs : List (κ × β)) (k : κ) (v : β) : List (κ × β) :=
  if (kvs.any fun kv => decide (kv.1 = k)) = true then kvs.map (fun kv => if kv.1 = k then (kv.1, v) else kv) else kvs ++ [(k, v)]
def ddrop (kvs : List (κ × β)) (k : κ) : List (κ × β) := kvs.filter fun kv => decide (kv.1 ≠ k)
def dhas (kvs : List (κ × β)) (k : κ) : Bool := (dget kvs k).isSome
end
class Kx (κ : Type) where
  key : κ → Key
  inj : ∀ {a b : κ}, key a = key b → a = b
instance : Kx Int := ⟨Sum.inl, fun h => Sum.inl.inj h⟩
instance : Kx Str := ⟨Sum.inr, fun h => Sum.inr.inj h⟩
section
variable {κ β : Type} [DecidableEq κ] [Kx κ] [Im G β]
def imD (H : Hp) : List (Key × V) → List (κ × β) → Prop
  | [], [] => True
  | p :: ps, q :: qs => (p.1 = Kx.key q.1 ∧ Im.im G H p.2 q.2) ∧ imD H ps qs
  | _, _ => False
variable {H H' : Hp}
theorem imD.st : ∀ {ps : List (Key × V)} {qs : List (κ × β)}, imD (G := G) H ps qs → Stab G H H' → imD (G := G) H' ps qs
  | [], [], _, _ => True.intro
  | p :: ps, q :: qs, h, s => ⟨⟨h.1.1, Im.st h.1.2 s⟩, imD.st h.2 s⟩
  | [], _ :: _, h, _ => h
  | _ :: _, [], h, _ => h
theorem imD.len : ∀ {ps : List (Key × V)} {qs : List (κ × β)}, imD (G := G) H ps qs → ps.length = qs.length
  | [], [], _ => rfl
  | p :: ps, q :: qs, h => by rw [List.length_cons, List.length_cons, imD.len h.2]
  | [], _ :: _, h => h.elim
  | _ :: _, [], h => h.elim
theorem key_dec (a b : κ) : decide (Kx.key a = Kx.key b) = decide (a = b) := by
  by_cases h : a = b
  · subst h; simp
  · have : ¬ Kx.key a = Kx.key b := fun e => h (Kx.inj e)
    simp [h, this]
theorem imD.val : ∀ {ps : List (Key × V)} {qs : List (κ × β)} (k : κ), imD (G := G) H ps qs → (∀ y, dget qs k = some y → ∃ v, valV ps (Kx.key k) = some v ∧ Im.im G H v y) ∧ (dget qs k = none → valV ps (Kx.key k) = none)
  | [], [], _, _ => ⟨fun y e => (by cases (show (none : Option β) = some y from e)), fun _ => rfl⟩
  | p :: ps, q :: qs, k, ⟨⟨e1, e2⟩, h⟩ => by
    have ih := imD.val k h
    by_cases c : q.1 = k
    · have c1 : p.1 = Kx.key k := by rw [e1, c]
      have d : dget (q :: qs) k = some q.2 := by simp [dget, List.find?_cons, c]
      rw [d, valV_pos c1]
      exact ⟨fun y e => ⟨p.2, rfl, by cases e; exact e2⟩, fun e => by cases e⟩
    · have c1 : ¬ p.1 = Kx.key k := fun z => c (Kx.inj (e1.symm.trans z))
      have d : dget (q :: qs) k = dget qs k := by simp [dget, List.find?_cons, c]
      rw [d, valV_neg c1]
      exact ih
  | [], _ :: _, _, h => h.elim
  | _ :: _, [], _, h => h.elim
theorem imD.any : ∀ {ps : List (Key × V)} {qs : List (κ × β)} (k : κ), imD (G := G) H ps qs → (ps.any fun kv => decide (kv.1 = Kx.key k)) = qs.any fun kv => decide (kv.1 = k)
  | [], [], _, _ => rfl
  | p :: ps, q :: qs, k, ⟨⟨e1, e2⟩, h⟩ => by
    rw [List.any_cons, List.any_cons, imD.any k h, e1, key_dec]
  | [], _ :: _, _, h => h.elim
  | _ :: _, [], _, h => h.elim
theorem imD.app : ∀ {ps rs : List (Key × V)} {qs ts : List (κ × β)}, imD (G := G) H ps qs → imD (G := G) H rs ts → imD (G := G) H (ps ++ rs) (qs ++ ts)
  | [], _, [], _, _, h => h
  | _ :: _, _, _ :: _, _, h, k => ⟨h.1, imD.app h.2 k⟩
  | [], _, _ :: _, _, h, _ => h.elim
  | _ :: _, _, [], _, h, _ => h.elim
theorem imD.rep : ∀ {ps : List (Key × V)} {qs : List (κ × β)} {k : κ} {v : V} {y : β}, imD (G := G) H ps qs → Im.im G H v y →
    imD (G := G) H (ps.map fun kv => if kv.1 = Kx.key k then (kv.1, v) else kv) (qs.map fun kv => if kv.1 = k then (kv.1, y) else kv)
  | [], [], _, _, _, _, _ => True.intro
  | p :: ps, q :: qs, k, v, y, ⟨⟨e1, e2⟩, h⟩, hv => by
    refine ⟨?_, imD.rep h hv⟩
    show (if p.1 = Kx.key k then (p.1, v) else p).1 = Kx.key (if q.1 = k then (q.1, y) else q).1 ∧ Im.im G H (if p.1 = Kx.key k then (p.1, v) else p).2 (if q.1 = k then (q.1, y) else q).2
    by_cases c : q.1 = k
    · have c1 : p.1 = Kx.key k := by rw [e1, c]
      rw [if_pos c, if_pos c1]; exact ⟨e1, hv⟩
    · have c1 : ¬ p.1 = Kx.key k := fun z => c (Kx.inj (e1.symm.trans z))
      rw [if_neg c, if_neg c1]; exact ⟨e1, e2⟩
  | [], _ :: _, _, _, _, h, _ => h.elim
  | _ :: _, [], _, _, _, h, _ => h.elim
theorem imD.put {ps : List (Key × V)} {qs : List (κ × β)} {k : κ} {v : V} {y : β} (h : imD (G := G) H ps qs) (hv : Im.im G H v y) : imD (G := G) H (putK ps (Kx.key k) v) (dput qs k y) := by
  unfold putK dput
  rw [h.any k]
  split
  · exact h.rep hv
  · exact h.app (rs := [(Kx.key k, v)]) (ts := [(k, y)]) ⟨⟨rfl, hv⟩, True.intro⟩
theorem imD.drop : ∀ {ps : List (Key × V)} {qs : List (κ × β)} (k : κ), imD (G := G) H ps qs → imD (G := G) H (dropK ps (Kx.key k)) (ddrop qs k)
  | [], [], _, _ => True.intro
  | p :: ps, q :: qs, k, ⟨⟨e1, e2⟩, h⟩ => by
    have ih := imD.drop k h
    unfold dropK ddrop at ih ⊢
    rw [List.filter_cons, List.filter_cons]
    by_cases c : q.1 = k
    · have c1 : p.1 = Kx.key k := by rw [e1, c]
      simp only [c, c1, ne_eq, not_true_eq_false, decide_false, Bool.false_eq_true, if_false]
      exact ih
    · have c1 : ¬ p.1 = Kx.key k := fun z => c (Kx.inj (e1.symm.trans z))
      simp only [c, c1, ne_eq, not_false_eq_true, decide_true, if_true]
      exact ⟨⟨e1, e2⟩, ih⟩
  | [], _ :: _, _, h => h.elim
  | _ :: _, [], _, h => h.elim
theorem imD.keys : ∀ {ps : List (Key × V)} {qs : List (κ × β)}, imD (G := G) H ps qs → ps.map (·.1) = qs.map fun q => Kx.key q.1
  | [], [], _ => rfl
  | p :: ps, q :: qs, h => by rw [List.map_cons, List.map_cons, imD.keys h.2, h.1.1]
  | [], _ :: _, h => h.elim
  | _ :: _, [], h => h.elim
def dictA (a : Addr) (kvs : List (κ × β)) : Asn G := ⟨fun H fp => fp = [a] ∧ ∃ ps, H a = some (.dK ps) ∧ imD (G := G) H ps kvs,
  fun H H' fp ⟨e, ps, h, m⟩ k s => ⟨e, ps, by rw [k a (by rw [e]; simp)]; exact h, m.st s⟩⟩
variable {L L' : List (Asn G)}
theorem Sep.dict (h : Sep H L) {i : Nat} {a : Addr} {kvs : List (κ × β)} (e : L[i]? = some (dictA a kvs)) : ∃ ps, H a = some (.dK ps) ∧ imD (G := G) H ps kvs := by
  obtain ⟨fp, _, x⟩ := h.at e
  exact x
theorem Sep.newD (h : Sep H L) {p : Addr} (hp : H p = none) : Sep (upd H p (.dK [])) (dictA p ([] : List (κ × β)) :: L) :=
  (h.new (o := .dK []) hp rfl).view fun fp ⟨q, r⟩ => ⟨q, [], r, True.intro⟩
theorem Sep.putD (h : Sep H L) {i : Nat} {a : Addr} {xs ys : List (κ × β)} {ps : List (Key × V)} (e : L[i]? = some (dictA a xs)) (m : imD (G := G) H ps ys) : Sep (upd H a (.dK ps)) (L.set i (dictA a ys)) := by
  obtain ⟨us, e0, mu⟩ := h.dict e
  have h1 : Sep H (L.set i (cell a (.dK us))) := h.viewAt e fun fp ⟨q, _⟩ => ⟨q, e0⟩
  have e1 := get_set (y := cell (G := G) a (.dK us)) e
  have h2 := h1.put (o' := .dK ps) e1 rfl rfl
  rw [set_set] at h2
  have st : Stab G H (upd H a (.dK ps)) := stab_put (h1.getCell e1) rfl rfl
  have h3 := h2.viewAt (B := dictA a ys) (get_set e) fun fp ⟨q, r⟩ => ⟨q, ps, r, m.st st⟩
  rw [set_set] at h3
  exact h3
variable {σ : St} {Q : VK} {td ty tx : TE} {k : κ} {a : Addr} {xs : List (κ × β)} {i : Nat}
theorem k_dnew (hS : Sep H L) (q : ∀ p H', Sep H' (dictA p ([] : List (κ × β)) :: L) → Q (.ref p) H') : tDNewK σ H Q := fun p hp => q p _ (hS.newD hp)
theorem dget_at (hS : Sep H L) (e : L[i]? = some (dictA a xs)) {o : Option β} (ho : dget xs k = o) : ∃ r, DGet H a (kV (Kx.key k)) r ∧ (∀ y, o = some y → ∃ v, r = some v ∧ Im.im G H v y) ∧ (o = none → r = none) := by
  obtain ⟨ps, h, m⟩ := hS.dict e
  obtain ⟨v1, v2⟩ := m.val k
  exact ⟨_, DGet.k h, fun y q => v1 y (ho.trans q), fun q => v2 (ho.trans q)⟩
theorem isD_of (hS : Sep H L) (e : L[i]? = some (dictA a xs)) : IsD H a := by
  obtain ⟨ps, h, _⟩ := hS.dict e
  exact .inl ⟨ps, .inl h⟩
/-- d.setdefault(k, z), what it hands back not looked at -/
theorem k_dsetd0 {z : V} {y : β} (hS : Sep H L) (e : L[i]? = some (dictA a xs)) (hz : Im.im G H z y) (hl : xs.length < sizeLine) (e2 : L.set i (dictA a (if dhas xs k then xs else dput xs k y)) = L')
    (q : ∀ v H', Sep H' L' → Q v H') : ∃ (kvs : List (Key × V)) (k' : Key), H a = some (.dK kvs) ∧ kV (Kx.key k) = kV k' ∧ kvs.length < sizeLine ∧ (∀ v, valV kvs k' = some v → Q v H) ∧ (valV kvs k' = none → Q z (upd H a (.dK (putK kvs k' z)))) := by
  obtain ⟨ps, h, m⟩ := hS.dict e
  obtain ⟨v1, v2⟩ := m.val k
  refine ⟨ps, Kx.key k, h, rfl, by rw [m.len]; exact hl, fun v hv => q v _ ?_, fun hn => q z _ ?_⟩
  · have : dhas xs k = true := by
      unfold dhas
      cases c : dget xs k with
      | none => rw [v2 c] at hv; cases hv
      | some y => rfl
    rw [this] at e2
    subst e2
    have : L.set i (dictA a xs) = L := by
      have hi := (List.getElem?_eq_some_iff.mp e)
      obtain ⟨h1, h2⟩ := hi
      rw [← h2]; exact List.set_getElem_self h1
    rw [if_pos rfl, this]; exact hS
  · have : dhas xs k = false := by
      unfold dhas
      cases c : dget xs k with
      | none => rfl
      | some y => obtain ⟨v, e, _⟩ := v1 y c; rw [e] at hn; cases hn
    rw [this] at e2
    subst e2
    rw [if_neg Bool.false_ne_true]
    exact hS.putD e (m.put hz)
theorem k_dsetd {z : V} {y : β} (hS : Sep H L) (e : L[i]? = some (dictA a xs)) (hd : Ev td σ H (.ref a)) (hy : Ev ty σ H (kV (Kx.key k))) (hx : Ev tx σ H z) (hz : Im.im G H z y) (hl : xs.length < sizeLine) (e2 : L.set i (dictA a (if dhas xs k then xs else dput xs k y)) = L')
    (q : ∀ v H', Sep H' L' → Q v H') : tDSetd td ty tx σ H Q := hd _ ⟨a, rfl, isD_of hS e, hy _ (hx _ (k_dsetd0 hS e hz hl e2 q))⟩
def rListD : List V → Hp → VK → Prop := fun xs H Q => ∃ (a : Addr) (kvs : List (Key × V)), xs = [.ref a] ∧ Rd H a (.dK kvs) ∧ ∀ p, H p = none → Q (.ref p) (upd H p (.lst (kvs.map fun kv => kV kv.1)))
theorem call_lstD {X : Cx} (hc : X.calm = true) : CallR X (.type "list") rListD := call_listD hc
theorem k_listD [Fv G κ] (hk : ∀ k : κ, kV (Kx.key k) = Fv.enc G k) (hS : Sep H L) (e : L[i]? = some (dictA a xs)) (q : ∀ p H', Sep H' (lstA p (xs.map (·.1)) :: L) → Q (.ref p) H') : rListD [.ref a] H Q := by
  obtain ⟨ps, h, m⟩ := hS.dict e
  refine ⟨a, ps, rfl, .inl h, fun p hp => q p _ (hS.newL hp (imL.flat.mpr ?_))⟩
  have e1 : ps.map (fun kv => kV kv.1) = (ps.map (·.1)).map kV := by rw [List.map_map]; rfl
  rw [e1, m.keys, List.map_map, List.map_map]
  exact List.map_congr_left fun q _ => hk q.1
end
class Lay (α : Type) where
  lay : α → Bool
instance : Lay Int := ⟨fun _ => true⟩
instance : Lay Bool := ⟨fun _ => true⟩
instance : Lay Str := ⟨fun x => PyData.strOk x⟩
def layAllB {α : Type} [Lay α] (xs : List α) : Bool := xs.all Lay.lay
class Pd (G : Gx) (α : Type) [Im G α] [DecidableEq α] [Lay α] where
  pd : α → PyData
  dep : Nat
  dp : ∀ {H : Hp} {v : V} {x : α}, Im.im G H v x → Dp G.K H v (pd x)
  lay_ok : ∀ x, Lay.lay x = true → (pd x).canLay0 = true
  dep_ok : ∀ x, (pd x).depth ≤ dep
  eqv : ∀ x y, PyData.eqv (pd x) (pd y) = decide (x = y)
instance pInt : Pd G Int where
  pd := .int
  dep := 0
  dp := fun {H v x} h => by
    have h : v = .int x := h
    subst h; exact .int x
  lay_ok := fun _ _ => rfl
  dep_ok := fun _ => Nat.le_refl _
  eqv := fun x y => by
    show (x == y) = decide (x = y)
    rfl
instance pBool : Pd G Bool where
  pd := .bool
  dep := 0
  dp := fun {H v x} h => by
    have h : v = .bl x := h
    subst h; exact .bl x
  lay_ok := fun _ _ => rfl
  dep_ok := fun _ => Nat.le_refl _
  eqv := fun x y => by cases x <;> cases y <;> rfl
theorem str_beq (x y : Str) : (x == y) = decide (x = y) := by
  by_cases h : x = y
  · subst h; simp
  · simp [h]
instance pStr : Pd G Str where
  pd := .str
  dep := 0
  dp := fun {H v x} h => by
    have h : v = .str x := h
    subst h; exact .str x
  lay_ok := fun _ h => h
  dep_ok := fun _ => Nat.le_refl _
  eqv := fun x y => str_beq x y
section
variable {α : Type} [Im G α] [DecidableEq α] [Lay α] [Pd G α] {H : Hp} {L : List (Asn G)}
theorem dpAll : ∀ {vs : List V} {xs : List α}, imL (G := G) H vs xs → DpAll G.K H vs (xs.map (Pd.pd G))
  | [], [], _ => .nil
  | v :: vs, x :: xs, h => .cons (Pd.dp h.1) (dpAll h.2)
  | [], _ :: _, h => h.elim
  | _ :: _, [], h => h.elim
theorem layAll : ∀ {xs : List α}, layAllB xs = true → PyData.canLayAll0 (xs.map (Pd.pd G)) = true
  | [], _ => rfl
  | x :: xs, h => by
    unfold layAllB at h
    rw [List.all_cons, Bool.and_eq_true] at h
    show ((Pd.pd G x).canLay0 && PyData.canLayAll0 (xs.map (Pd.pd G))) = true
    rw [Pd.lay_ok x h.1, layAll h.2]; rfl
theorem depAll : ∀ (xs : List α), PyData.depthAll (xs.map (Pd.pd G)) ≤ Pd.dep G α
  | [] => Nat.zero_le _
  | x :: xs => by
    show max (Pd.pd G x).depth (PyData.depthAll (xs.map (Pd.pd G))) ≤ _
    exact Nat.max_le.mpr ⟨Pd.dep_ok x, depAll xs⟩
theorem eqvAll_is : ∀ (xs ys : List α), PyData.eqvAll (xs.map (Pd.pd G)) (ys.map (Pd.pd G)) = decide (xs = ys)
  | [], [] => rfl
  | x :: xs, y :: ys => by
    show (PyData.eqv (Pd.pd G x) (Pd.pd G y) && PyData.eqvAll (xs.map (Pd.pd G)) (ys.map (Pd.pd G))) = _
    rw [Pd.eqv, eqvAll_is xs ys]
    simp
  | [], _ :: _ => rfl
  | _ :: _, [] => rfl
variable {a b : Addr} {xs ys : List α} {i j : Nat} {σ : St} {ta tb : TE}
end
section
variable {H : Hp} {L : List (Asn G)} {σ : St} {ta tb : TE} {a : Addr} {i : Nat}
theorem inV_str (x : Str) : ∀ ys : List Str, inV (.str x) (ys.map V.str) = decide (x ∈ ys)
  | [] => rfl
  | y :: ys => by
    have ih := inV_str x ys
    unfold inV at ih ⊢
    rw [List.map_cons, List.any_cons, ih]
    show ((y == x) || _) = _
    by_cases h : y = x
    · subst h; simp
    · have h' : ¬ x = y := fun e => h e.symm
      simp [h, h']
theorem flat_str : ∀ ys : List Str, (ys.map V.str).all flatV = true
  | [] => rfl
  | y :: ys => by rw [List.map_cons, List.all_cons, flat_str ys]; rfl
theorem ev_inL {x : Str} {ys : List Str} (hS : Sep H L) (e : L[i]? = some (lstA a ys)) (ha : Ev ta σ H (.str x)) (hb : Ev tb σ H (.ref a)) : Ev (tOp (rIn G.K false) ta tb) σ H (.bl (decide (x ∈ ys))) := ev_op ha hb fun Q q =>
  ⟨a, ys.map V.str, rfl, .inl (hS.sqF e), rfl, flat_str ys, by
    show Q (.bl (inV (.str x) (ys.map V.str))) H
    rw [inV_str]; exact q⟩
theorem ev_niL {x : Str} {ys : List Str} (hS : Sep H L) (e : L[i]? = some (lstA a ys)) (ha : Ev ta σ H (.str x)) (hb : Ev tb σ H (.ref a)) : Ev (tOp (rIn G.K true) ta tb) σ H (.bl (!decide (x ∈ ys))) := ev_op ha hb fun Q q =>
  ⟨a, ys.map V.str, rfl, .inl (hS.sqF e), rfl, flat_str ys, by
    show Q (.bl (!inV (.str x) (ys.map V.str))) H
    rw [inV_str]; exact q⟩
theorem ev_isi {x : V} {T U : String} {b : Bool} (ha : Ev ta σ H x) (hb : Ev tb σ H (.ty U)) (t : TyX G.K H x (.type T)) (e : kitB T U = some b) : Ev (tCB (rIsi G.K) (tCons ta (tCons tb tNil))) σ H (.bl b) :=
  ev_cb (ea_cons ha (ea_cons hb ea_nil)) fun Q q => ⟨x, .ty U, _, _, b, rfl, .ty U, t, kit_ty e, q⟩
end
end Ml
namespace Ml
open PySem L2
variable {G : Gx}
section
variable {σ σ' : St} {H : Hp} {L L' M : List (Asn G)} {D : Ends} {Q : VK} {te : TE} {tt : TT} {tb : TS} {α β τ ρ : Type} {i : Nat} {v : V} {vs : List Nat}
theorem c_gN {P : St → Hp → Prop} (e : σ.set i (some v) = σ') (h : P σ' H) : gName i v σ H P := by
  show P (σ.set i (some v)) H
  rw [e]; exact h
theorem c_gLc {P : Bool → Hp → Prop} (e : (wipe σ vs).set i (some v) = σ') (hw : wipe σ' vs = wipe σ vs) (h : tt σ' H P) : gName i v (wipe σ vs) H fun σ2 H2 => wipe σ2 vs = wipe σ vs ∧ tt σ2 H2 P := by
  show wipe ((wipe σ vs).set i (some v)) vs = wipe σ vs ∧ tt ((wipe σ vs).set i (some v)) H P
  rw [e]; exact ⟨hw, h⟩
theorem c_yes {A B : Hp → Prop} (h : A H) : tYes σ H fun b H3 => if b = true then A H3 else B H3 := h
theorem lc_app [Im G β] {Dr : Addr} {ys : List β} {y : β} {u : V} (hS : Sep H (lstA Dr ys :: M)) (hu : Im.im G H u y) : ∃ acc, H Dr = some (.lst acc) ∧ acc.length = ys.length ∧ Sep (upd H Dr (.lst (acc ++ [u]))) (lstA Dr (ys ++ [y]) :: M) := by
  obtain ⟨acc, h, m⟩ := hS.lst (i := 0) rfl
  exact ⟨acc, h, m.len, hS.putL (i := 0) rfl (m.app (vs := acc) (ws := [u]) ⟨hu, True.intro⟩)⟩
theorem st_nx (h : D.nx σ H) : tNext D σ H := h
def sq (t : TS) (D : Ends) : Ends := { D with nx := t D }
theorem f_seq {t1 t2 : TS} (h : t1 (sq t2 D) σ H) : tSeq t1 t2 D σ H := h
theorem sq_nx {t2 : TS} (h : t2 D σ H) : (sq t2 D).nx σ H := h
def forK (g : TG) (tb : TS) (D : Ends) (σ : L2.St) : It → Hp → Prop := fun J H1 => ∃ W : Nat → Nat → L2.St → Hp → Prop, (∃ m, W 0 m σ H1) ∧ ∀ i m σ H, W i m σ H →
  (J.stop i H ∧ D.nx σ H) ∨ (J.go i H ∧ ∃ N : L2.St → Hp → Prop, (∀ σ' H', N σ' H' → ∃ m', m' < m ∧ W (i + 1) m' σ' H') ∧ ∀ x H', J.yld i H x H' → g x σ H' fun σ2 H2 => tb { D with nx := N, ct := N, bk := D.nx } σ2 H2)
def loopD (D : Ends) (N B : L2.St → Hp → Prop) : Ends := { D with nx := N, ct := N, bk := B }
theorem c_for {wi : TI} {g : TG} (h : wi σ H (forK g tb D σ)) : tFor wi g tb D σ H := h
def lcK (g : TG) (tt : TT) (te : TE) (vs : List Nat) (σ : L2.St) (Q : VK) : It → Hp → Prop := fun J H1 => ∀ D, H1 D = none → ∃ W : Nat → Nat → Hp → Prop, (∃ m, W 0 m (upd H1 D (.lst []))) ∧ ∀ i m H, W i m H →
  (J.stop i H ∧ Q (.ref D) H) ∨ (J.go i H ∧ ∃ Nx : Hp → Prop, (∀ H', Nx H' → ∃ m', m' < m ∧ W (i + 1) m' H') ∧ ∀ x H', J.yld i H x H' → g x (wipe σ vs) H' fun σ2 H2 => wipe σ2 vs = wipe σ vs ∧ tt σ2 H2 fun b H3 =>
    if b = true then te σ2 H3 fun y H4 => ∃ acc, H4 D = some (.lst acc) ∧ acc.length < sizeLine ∧ Nx (upd H4 D (.lst (acc ++ [y]))) else Nx H3)
theorem c_lc {wi : TI} {g : TG} (h : wi σ H (lcK g tt te vs σ Q)) : tLc wi g tt te vs σ H Q := h
def rng1K (R : It → Hp → Prop) : List V → Hp → Prop := fun vs H1 => ∃ j : Int, vs = [.int j] ∧ -(2 ^ 62) ≤ j ∧ j < 2 ^ 62 ∧ R (Itr 0 j.toNat) H1
def ilK (K : PySem.W.Frag) (R : It → Hp → Prop) : VK := fun x H1 => ∃ a, x = .ref a ∧ (∃ xs, SqL K H1 a xs) ∧ R (Itl K a) H1
def isK (R : It → Hp → Prop) : VK := fun v H1 => ∃ x, v = .str x ∧ R (Its x) H1
theorem c_rng1 {ta : TA} {R : It → Hp → Prop} (h : ta σ H (rng1K R)) : iRng1 ta σ H R := h
theorem c_il {K : PySem.W.Frag} {R : It → Hp → Prop} (h : te σ H (ilK K R)) : iList K te σ H R := h
theorem c_is {R : It → Hp → Prop} (h : te σ H (isK R)) : iStr te σ H R := h
theorem k_rng1 {R : It → Hp → Prop} {j : Int} (h1 : -(2 ^ 62) ≤ j) (h2 : j < 2 ^ 62) (h : R (Itr 0 j.toNat) H) : rng1K R [.int j] H := ⟨j, rfl, h1, h2, h⟩
theorem k_il [Im G α] {a : Addr} {xs : List α} {R : It → Hp → Prop} (hS : Sep H L) (e : L[i]? = some (lstA a xs)) (h : R (Itl G.K a) H) : ilK G.K R (.ref a) H := by
  obtain ⟨vs, s, _⟩ := hS.sq e
  exact ⟨a, rfl, ⟨vs, s⟩, h⟩
theorem k_is {z : Str} {R : It → Hp → Prop} (h : R (Its z) H) : isK R (.str z) H := ⟨z, rfl, h⟩
/-- for .. in .. -/
theorem k_for {J : It} {g : TG} {im : Hp → V → α → Prop} {xs : List α} {f : τ → α → R τ} {rest : τ → R ρ} {q : ρ → Prop} {e : Exc → Prop} {s : τ} (I : τ → L2.St → Hp → Prop)
    (w : ∀ s, Wk J (I s) im xs) (h0 : I s σ H) (hm : R.wp ((forR f xs s).bind rest) q e)
    (turn : ∀ (s : τ) (x : α) (v : V) (σ : L2.St) (H : Hp) (q : τ → Prop) (N : L2.St → Hp → Prop), I s σ H → im H v x → R.wp (f s x) q e → (∀ s' σ' H', q s' → I s' σ' H' → N σ' H') → g v σ H fun σ2 H2 => tb (loopD D N D.nx) σ2 H2)
    (done : ∀ s σ H, R.wp (rest s) q e → I s σ H → D.nx σ H) : forK g tb D σ J H :=
  for_walk (I := I) w h0 (R.wp_bind hm) turn done
/-- a comprehension over owned things -/
theorem lc_sep [Im G β] {J : It} {im : Hp → V → α → Prop} {xs : List α} {f : τ → α → R (τ × Option β)} {rest : τ × List β → R ρ} {q : ρ → Prop} {e : Exc → Prop} {s : τ} (M : τ → List (Asn G))
    (hS : Sep H (M s)) (w : ∀ (Dr : Addr) (s : τ) (ys : List β), Wk J (fun (_ : St) H => Sep H (lstA Dr ys :: M s)) im xs) (hl : xs.length ≤ sizeLine) (hm : R.wp ((compR f xs s).bind rest) q e)
    (turn : ∀ (Dr : Addr) (s : τ) (ys : List β) (x : α) (v : V) (H : Hp) (q : τ × Option β → Prop) (Nx : Hp → Prop), Sep H (lstA Dr ys :: M s) → im H v x → R.wp (f s x) q e →
      (∀ s' y u H', q (s', some y) → Im.im G H' u y → Sep H' (lstA Dr ys :: M s') → ∃ acc, H' Dr = some (.lst acc) ∧ acc.length < sizeLine ∧ Nx (upd H' Dr (.lst (acc ++ [u])))) → (∀ s' H', q (s', none) → Sep H' (lstA Dr ys :: M s') → Nx H') →
      gName i v (wipe σ vs) H fun σ2 H2 => wipe σ2 vs = wipe σ vs ∧ tt σ2 H2 fun b H3 => if b = true then te σ2 H3 fun y H4 => ∃ acc, H4 Dr = some (.lst acc) ∧ acc.length < sizeLine ∧ Nx (upd H4 Dr (.lst (acc ++ [y]))) else Nx H3)
    (done : ∀ (Dr : Addr) (t : τ × List β) H, R.wp (rest t) q e → Sep H (lstA Dr t.2 :: M t.1) → Q (.ref Dr) H) :
    lcK (gName i) tt te vs σ Q J H := fun Dr hD =>
  lc_walk (G := G) (I := fun Dr s ys H => Sep H (lstA Dr ys :: M s)) (im := im) (xs := xs) (f := f) (k := fun t => R.wp (rest t) q e) (e := e) (s := s) (w Dr)
    (hS.newL (vs := []) (xs := ([] : List β)) hD True.intro) (R.wp_bind hm) hl
    (fun s ys x v H q Nx hI hv hw _ k1 k2 => turn Dr s ys x v H q Nx hI hv hw k1 k2)
    (fun s ys y u H hI hu => lc_app hI hu)
    (fun s ys H hk hI => done Dr (s, ys) H hk hI)
theorem c_aug {ti : TIp} {x : V} (e : σ[i]? = some (some x)) (h : te σ H fun y H1 => ti x y H1 fun z H2 => D.nx (σ.set i (some z)) H2) : tAug i te ti D σ H := ⟨x, e, h⟩
theorem c_asgS {to ti : TE} {t : TSet} (h : te σ H fun v H1 => to σ H1 fun o H2 => ti σ H2 fun j H3 => t o j v H3 fun H4 => D.nx σ H4) : tAsg te (gSub to ti t) D σ H := h
def ipS : TIp := fun x y H Q => ∃ i j, x = .str i ∧ y = .str j ∧ i.length + j.length ≤ sizeLine ∧ Q (.str (i ++ j)) H
theorem ip_catS {X : Cx} : PIp X .Add ipS := iop_add_str
theorem m2 {X : Cx} {o : Expr} {m : Str} {apos : Pos} {e f : Expr} {cpos : Pos} (base : attributeBase o m X.env (eval o X.env) = eval o X.env := by rfl)
  (few : ((backTo cpos (starEach [e, f] X.env)).all (fun x => !x.1) && (backToKw cpos (keywordEach [] X.env)).all (fun x => x.1.isSome)
    && decide (([e, f] : List Expr).length + ([] : List Keyword).length + (if ([] : List Keyword).isEmpty then 0 else 1) < 30)) = true := by rfl)
  (line : (apos.endLine == cpos.line) = true := by rfl) (trees : backTo cpos (starEach [e, f] X.env) = [(false, eval e X.env), (false, eval f X.env)] := by rfl) : M2 X o m apos e f cpos := ⟨base, few, line, trees⟩
theorem r_ixSq {K : PySem.W.Frag} {p : Addr} {ws : List V} {i : Int} (hs : SqL K H p ws) (e : atI ws i = some v) (Q : VK) (q : Q v H) : rIxL K (.ref p) (.int i) H Q := ⟨p, ws, i, v, rfl, rfl, hs, e, q⟩
theorem ev_lenLm {K : PySem.W.Frag} {ta : TE} {p : Addr} {xs : List α} {f : α → V} (ha : Ev ta σ H (.ref p)) (hs : SqL K H p (xs.map f)) : Ev (tCB (rLenSq K) (tCons ta tNil)) σ H (.int xs.length) := by
  have := ev_lenL ha hs
  rw [List.length_map] at this
  exact this
theorem ev_m0 {r : V → List V → Hp → VK → Prop} {to : TE} {a : Str} (h1 : Ev to σ H (.str a)) (h : ∀ Q : VK, Q v H → r (.str a) [] H Q) : Ev (tM0 r to) σ H v := fun Q q => c_m0 h1 (h Q q)
end
end Ml
namespace Ml
open PySem L2
variable {G : Gx}
def andK (u : TT) (σ : St) (P : Bool → Hp → Prop) : Bool → Hp → Prop := fun c H => if c = true then u σ H P else P false H
def orK (u : TT) (σ : St) (P : Bool → Hp → Prop) : Bool → Hp → Prop := fun c H => if c = true then P true H else u σ H P
def notK (P : Bool → Hp → Prop) : Bool → Hp → Prop := fun c H => P (!c) H
def ifK (t1 t2 : TS) (D : Ends) (σ : St) : Bool → Hp → Prop := fun c H => if c = true then t1 D σ H else t2 D σ H
/-- a value that is a Bool -/
def blK (P : Bool → Hp → Prop) : VK := fun x H => ∃ k, x = .bl k ∧ P k H
def andVK (tb : TE) (σ : St) (Q : VK) : VK := fun x H => ∃ c, x = .bl c ∧ if c = true then tb σ H Q else Q (.bl false) H
def orVK (tb : TE) (σ : St) (Q : VK) : VK := fun x H => ∃ c, x = .bl c ∧ if c = true then Q (.bl true) H else tb σ H Q
def notVK (Q : VK) : VK := fun x H => ∃ c, x = .bl c ∧ Q (.bl (!c)) H
section
variable {σ : St} {H : Hp} {L : List (Asn G)} {D : Ends} {Q : VK} {P : Bool → Hp → Prop} {t u : TT} {t1 t2 : TS} {ta tb te : TE} {ρ τ : Type} {a b : Bool} {v w : V}
theorem f_and (h : t σ H (andK u σ P)) : tAnd t u σ H P := h
theorem f_or (h : t σ H (orK u σ P)) : tOr t u σ H P := h
theorem f_not (h : t σ H (notK P)) : tNot t σ H P := h
theorem f_if (h : t σ H (ifK t1 t2 D σ)) : tIfS t t1 t2 D σ H := h
theorem f_test (h : te σ H (blK P)) : tTest te σ H P := h
theorem f_B (h : te σ H (blK P)) : tB te σ H P := h
theorem f_bl (h : P b H) : blK P (.bl b) H := ⟨b, rfl, h⟩
theorem f_andV (h : ta σ H (andVK tb σ Q)) : tAndV ta tb σ H Q := h
theorem f_orV (h : ta σ H (orVK tb σ Q)) : tOrV ta tb σ H Q := h
theorem f_notV (h : ta σ H (notVK Q)) : tNotV ta σ H Q := h
theorem f_nV (h : Q (.bl (!b)) H) : notVK Q (.bl b) H := ⟨b, rfl, h⟩
theorem f_nK (h : P (!b) H) : notK P b H := h
variable {A B : R Bool} {rest : Bool → R ρ} {q : ρ → Prop} {e : Exc → Prop}
theorem andK_J (hm : R.wp ((if a = true then A else .ok false).bind rest) q e) (hS : Sep H L)
    (h1 : a = true → ∀ q' : Bool → Prop, R.wp A q' e → (∀ b H', q' b → Sep H' L → P b H') → u σ H P) (k : ∀ b H', R.wp (rest b) q e → Sep H' L → P b H') : andK u σ P a H := by
  have hm' := R.wp_bind hm
  cases a with
  | true => exact h1 rfl _ hm' k
  | false => exact k false H hm' hS
theorem orK_J (hm : R.wp ((if a = true then .ok true else A).bind rest) q e) (hS : Sep H L)
    (h1 : a = false → ∀ q' : Bool → Prop, R.wp A q' e → (∀ b H', q' b → Sep H' L → P b H') → u σ H P) (k : ∀ b H', R.wp (rest b) q e → Sep H' L → P b H') : orK u σ P a H := by
  have hm' := R.wp_bind hm
  cases a with
  | true => exact k true H hm' hS
  | false => exact h1 rfl _ hm' k
theorem andVK_J (hm : R.wp ((if a = true then A else .ok false).bind rest) q e) (hS : Sep H L)
    (h1 : a = true → ∀ q' : Bool → Prop, R.wp A q' e → (∀ b H', q' b → Sep H' L → Q (.bl b) H') → tb σ H Q) (k : ∀ b H', R.wp (rest b) q e → Sep H' L → Q (.bl b) H') : andVK tb σ Q (.bl a) H := by
  have hm' := R.wp_bind hm
  refine ⟨a, rfl, ?_⟩
  cases a with
  | true => exact h1 rfl _ hm' k
  | false => exact k false H hm' hS
theorem orVK_J (hm : R.wp ((if a = true then .ok true else A).bind rest) q e) (hS : Sep H L)
    (h1 : a = false → ∀ q' : Bool → Prop, R.wp A q' e → (∀ b H', q' b → Sep H' L → Q (.bl b) H') → tb σ H Q) (k : ∀ b H', R.wp (rest b) q e → Sep H' L → Q (.bl b) H') : orVK tb σ Q (.bl a) H := by
  have hm' := R.wp_bind hm
  refine ⟨a, rfl, ?_⟩
  cases a with
  | true => exact k true H hm' hS
  | false => exact h1 rfl _ hm' k
theorem ifK_2 (h1 : a = true → t1 D σ H) (h2 : a = false → t2 D σ H) : ifK t1 t2 D σ a H := by
  cases a with
  | true => exact h1 rfl
  | false => exact h2 rfl
theorem ifK_J {A B : R τ} {rest : τ → R ρ} (J : τ → St → Hp → Prop) (hm : R.wp ((if a = true then A else B).bind rest) q e)
    (h1 : a = true → ∀ q' : τ → Prop, R.wp A q' e → (∀ s σ' H', q' s → J s σ' H' → D.nx σ' H') → t1 D σ H)
    (h2 : a = false → ∀ q' : τ → Prop, R.wp B q' e → (∀ s σ' H', q' s → J s σ' H' → D.nx σ' H') → t2 D σ H)
    (k : ∀ s σ' H', R.wp (rest s) q e → J s σ' H' → D.nx σ' H') : ifK t1 t2 D σ a H := by
  have hm' := R.wp_bind hm
  cases a with
  | true => exact h1 rfl _ hm' k
  | false => exact h2 rfl _ hm' k
theorem wp_let {α : Type} {x : α} {f : α → R ρ} (hm : R.wp ((R.ok x).bind f) q e) : ∃ y, x = y ∧ R.wp (f y) q e := ⟨x, rfl, hm⟩
theorem ev_is (h : Ev te σ H v) (e : v = w) : Ev te σ H w := by rw [← e]; exact h
theorem n_is {i : Nat} (e : v = w) (h : D.nx (σ.set i (some w)) H) : D.nx (σ.set i (some v)) H := by rw [e]; exact h
end
end Ml
namespace Ml
open PySem L2
section
variable {X : Cx} (K : PySem.W.Frag) (hK : X.K = K := by rfl)
include hK
theorem ix_listK : IxR X (rIxL K) := by subst hK; exact ix_list
theorem ix_tupK : IxR X (rIxT K) := by subst hK; exact ix_tup
theorem sl_listK : SlR X (rSlL K) := by subst hK; exact sl_list
theorem lenSqK : CallR X (.builtin "len") (rLenSq K) := by subst hK; exact call_lenSq
theorem listSqK : CallR X (.type "list") (rListSq K) := by subst hK; exact call_listSq
theorem isiK : CallR X (.builtin "isinstance") (rIsi K) := by subst hK; exact call_isi
theorem inSqK : OpR X (compareOp .In) (rIn K false) := by subst hK; exact op_in_seq
theorem niSqK : OpR X (compareOp .NotIn) (rIn K true) := by subst hK; exact op_notIn_seq
end
theorem eqDK {X : Cx} (K : PySem.W.Frag) (hu : X.A.units + 64 < cLine) (hK : X.K = K := by rfl) : OpR X (compareOp .Eq) (rEqD K) := by subst hK; exact op_eqD hu
theorem neDK {X : Cx} (K : PySem.W.Frag) (hu : X.A.units + 64 < cLine) (hK : X.K = K := by rfl) : OpR X (compareOp .NotEq) (rNeD K) := by subst hK; exact op_neD hu
theorem allK {X : Cx} (K : PySem.W.Frag) (hc : X.calm = true) (hK : X.K = K := by rfl) : CallR X (.builtin "all") (rAll K) := by subst hK; exact cr_all hc
theorem pi_listK {X : Cx} {tg e : Expr} {tl : TE} (K : PySem.W.Frag) (h : PE X e tl) (hK : X.K = K := by rfl) : PI X tg e (iList K tl) := by subst hK; exact pi_list h
section
variable {X : Cx} {T : String} {name : Str} {id : String} {r : V → List V → Hp → VK → Prop} {o e : Expr} {es : List Expr} {to : TE} {t : TA} {apos cpos : Pos}
theorem pe_bmK (K : PySem.W.Frag) (pa : PlainAttrs T) (slot : Slot T name id) (hty : typeOf (.builtin id) = pure (.type "method_descriptor")) (hm : MtR X id r) (ho : PE X o to) (ha : PA X (e :: es) t) (hK : X.K = K := by rfl)
    (hbase : attributeBase o name X.env (eval o X.env) = eval o X.env := by rfl)
    (hfew : ((backTo cpos (starEach (e :: es) X.env)).all (fun x => !x.1) && (backToKw cpos (keywordEach [] X.env)).all (fun x => x.1.isSome)
      && decide ((e :: es).length + ([] : List Keyword).length + (if ([] : List Keyword).isEmpty then 0 else 1) < 30)) = true := by rfl)
    (hline : (apos.endLine == cpos.line) = true := by rfl) (hs : starEach (e :: es) X.env = (false, eval e X.env) :: starEach es X.env := by rfl) (hplain : (backTo cpos (starEach es X.env)).any (·.1) = false := by rfl) :
    PE X (.Call (.Attribute o name apos) (e :: es) [] cpos) (tBM K T r to t) := by subst hK; exact pe_bm pa slot hty hm ho ha hbase hfew hline hs hplain
end
end Ml
namespace Ml
open PySem L2
theorem im_of_only {G : Gx} {H : Hp} {a : Addr} {ns : List Int} (hO : Only H) (hS : SqL G.K H a (ns.map V.int)) : Im.im G H (.ref a) (⟨ns⟩ : Script) := by
  refine ⟨a, rfl, ?_⟩
  rcases hS with (h | ⟨o, h⟩) | h
  · rcases hO a with z | ⟨o, xs, z⟩
    · rw [h] at z; cases z
    · rw [h] at z; cases z
  · exact .inl ⟨o, h⟩
  · exact .inr h
end Ml
namespace Ml
open PySem L2
variable {G : Gx} {σ : St} {H : Hp} {L : List (Asn G)} {D : Ends} {Q : VK} {α ρ : Type} {v : V}
theorem r_mod {i j : Int} (c : 0 < j) (q : Q (.int (i % j)) H) : rI (fun _ j => 0 < j) (fun i j => V.int (i % j)) (.int i) (.int j) H Q := ⟨i, j, rfl, rfl, c, q⟩
end Ml
namespace Ml
open PySem L2
def fzK (Q : VK) : VK := fun v H => Q v H ∨ ∃ a u, v = .ref a ∧ H a = some u ∧ Mut (some u) ∧ ∀ o, Q v (upd H a (.frz o u))
def tFz (t : TE) : TE := fun σ H Q => t σ H (fzK Q)
theorem pe_fz {X : Cx} {e : Expr} {t : TE} (h : PE X e t) : PE X e (tFz t) := by
  refine ⟨fun pins s σ H Q I hw => ?_⟩
  refine thn (h.run pins s σ H _ I hw) fun v s1 ⟨x, H1, I1, r, q⟩ => ?_
  rcases q with q | ⟨a, u, e, ha, mu, q⟩
  · exact ⟨x, H1, I1, r, q⟩
  · obtain ⟨od, I2⟩ := I1.lock ha mu
    exact ⟨x, _, I2, r, q od⟩
variable {G : Gx}
section
variable {σ : St} {H : Hp} {L : List (Asn G)} {te : TE} {Q : VK} {v : V} {α : Type}
theorem c_fz (h : te σ H (fzK Q)) : tFz te σ H Q := h
theorem fz_no (h : Q v H) : fzK Q v H := .inl h
theorem ev_fz (h : Ev te σ H v) : Ev (tFz te) σ H v := fun Q q => h _ (.inl q)
/-- a locked list: a value -/
instance imList [Im G α] : Im G (List α) := ⟨fun H v xs => ∃ a vs, v = .ref a ∧ (∃ o, H a = some (.frz o (.lst vs))) ∧ imL (G := G) H vs xs,
  fun ⟨a, vs, e, ⟨o, h⟩, m⟩ s => ⟨a, vs, e, ⟨o, s.1 a _ h rfl⟩, m.st s⟩⟩
theorem imPl [Im G α] {a : Addr} {xs : List α} (h : Im.im G H (.ref a) xs) : ∃ vs, SqL G.K H a vs ∧ imL (G := G) H vs xs := by
  obtain ⟨b, vs, e, ⟨o, h⟩, m⟩ := h
  cases e
  exact ⟨vs, .inl (.inr ⟨o, h⟩), m⟩
theorem imPlF [Fv G α] {a : Addr} {xs : List α} (h : Im.im G H (.ref a) xs) : SqL G.K H a (xs.map (Fv.enc G)) := by
  obtain ⟨vs, e, m⟩ := imPl h
  rw [imL.flat.mp m] at e
  exact e
/-- the i-th thing is dropped, the rest stays while its cell changes -/
theorem Sep.drop1 {a : Addr} {o o' : HO} {M : List (Asn G)} (h : Sep H (cell a o :: M)) (kd : kindOf o' = kindOf o) : Sep (upd H a o') M := by
  obtain ⟨fp, ⟨f1, f2, e, ⟨e1, ho⟩, k⟩, h2, h3⟩ := h
  subst e1; subst e
  have nd : ¬ a ∈ f2 := (List.nodup_cons.mp h2).1
  obtain ⟨u, hu, nu⟩ := h3 a (by simp)
  have eu : u = o := by rw [ho] at hu; cases hu; rfl
  have st : Stab G H (upd H a o') := stab_put hu nu (by rw [eu]; exact kd)
  refine ⟨f2, k.loc (fun b m => upd_ne fun z => nd (z ▸ m)) st, (List.nodup_cons.mp h2).2, fun b m => ?_⟩
  obtain ⟨x, hx, nx⟩ := h3 b (by simp [m])
  exact ⟨x, by rw [upd_ne (fun z => nd (by rw [← z]; exact m))]; exact hx, nx⟩
theorem fz_yes [Im G α] {i : Nat} {a : Addr} {xs : List α} (hS : Sep H L) (e : L[i]? = some (lstA a xs)) (k : ∀ H', Sep H' (imA (.ref a) xs :: L.eraseIdx i) → Q (.ref a) H') : fzK Q (.ref a) H := by
  obtain ⟨vs, m, h1⟩ := hS.openL e
  have h0 := h1.getCell (get_set e)
  refine .inr ⟨a, .lst vs, rfl, h0, True.intro, fun o => k _ ?_⟩
  have h2 := h1.perm (pull_perm (get_set (y := cell (G := G) a (.lst vs)) e))
  have e3 : (L.set i (cell a (.lst vs))).eraseIdx i = L.eraseIdx i := by simp [List.eraseIdx_set_eq]
  rw [e3] at h2
  obtain ⟨fp, ⟨f1, f2, _, ⟨ef, _⟩, _⟩, nd0, nper⟩ := id h2
  have nu : per G (.lst vs) = false := rfl
  have st : Stab G H (upd H a (.frz o (.lst vs))) := stab_put h0 nu rfl
  have h4 := h2.drop1 (o' := .frz o (.lst vs)) rfl
  exact h4.addIm ⟨a, vs, rfl, ⟨o, upd_same⟩, m.st st⟩
end
structure T3 (α β γ : Type) where
  a : α
  b : β
  c : γ
  deriving DecidableEq, Repr
structure T4 (α β γ δ : Type) where
  a : α
  b : β
  c : γ
  d : δ
  deriving DecidableEq, Repr
structure T5 (α β γ δ ε : Type) where
  a : α
  b : β
  c : γ
  d : δ
  e : ε
  deriving DecidableEq, Repr
structure T1 (α : Type) where
  a : α
  deriving DecidableEq, Repr
section
variable {α β γ δ ε : Type} [Im G α] [Im G β] [Im G γ] [Im G δ] [Im G ε] {H H' : Hp} {a : Addr} {u1 u2 u3 u4 u5 : V}
instance imT1 : Im G (T1 α) := ⟨fun H v x => ∃ a u1, v = .ref a ∧ H a = some (.tup [u1]) ∧ Im.im G H u1 x.a,
  fun ⟨a, u1, e, h, i1⟩ s => ⟨a, u1, e, s.1 a _ h rfl, Im.st i1 s⟩⟩
instance imT2 : Im G (α × β) := ⟨fun H v x => ∃ a u1 u2, v = .ref a ∧ H a = some (.tup [u1, u2]) ∧ Im.im G H u1 x.1 ∧ Im.im G H u2 x.2,
  fun ⟨a, u1, u2, e, h, i1, i2⟩ s => ⟨a, u1, u2, e, s.1 a _ h rfl, Im.st i1 s, Im.st i2 s⟩⟩
instance imT3 : Im G (T3 α β γ) := ⟨fun H v x => ∃ a u1 u2 u3, v = .ref a ∧ H a = some (.tup [u1, u2, u3]) ∧ Im.im G H u1 x.a ∧ Im.im G H u2 x.b ∧ Im.im G H u3 x.c,
  fun ⟨a, u1, u2, u3, e, h, i1, i2, i3⟩ s => ⟨a, u1, u2, u3, e, s.1 a _ h rfl, Im.st i1 s, Im.st i2 s, Im.st i3 s⟩⟩
instance imT4 : Im G (T4 α β γ δ) := ⟨fun H v x => ∃ a u1 u2 u3 u4, v = .ref a ∧ H a = some (.tup [u1, u2, u3, u4]) ∧ Im.im G H u1 x.a ∧ Im.im G H u2 x.b ∧ Im.im G H u3 x.c ∧ Im.im G H u4 x.d,
  fun ⟨a, u1, u2, u3, u4, e, h, i1, i2, i3, i4⟩ s => ⟨a, u1, u2, u3, u4, e, s.1 a _ h rfl, Im.st i1 s, Im.st i2 s, Im.st i3 s, Im.st i4 s⟩⟩
instance imT5 : Im G (T5 α β γ δ ε) := ⟨fun H v x => ∃ a u1 u2 u3 u4 u5, v = .ref a ∧ H a = some (.tup [u1, u2, u3, u4, u5]) ∧ Im.im G H u1 x.a ∧ Im.im G H u2 x.b ∧ Im.im G H u3 x.c ∧ Im.im G H u4 x.d ∧ Im.im G H u5 x.e,
  fun ⟨a, u1, u2, u3, u4, u5, e, h, i1, i2, i3, i4, i5⟩ s => ⟨a, u1, u2, u3, u4, u5, e, s.1 a _ h rfl, Im.st i1 s, Im.st i2 s, Im.st i3 s, Im.st i4 s, Im.st i5 s⟩⟩
theorem im2 {x : α × β} (h : Im.im G H (.ref a) x) : ∃ u1 u2, H a = some (.tup [u1, u2]) ∧ Im.im G H u1 x.1 ∧ Im.im G H u2 x.2 := by
  obtain ⟨b, u1, u2, e, h⟩ := h; cases e; exact ⟨u1, u2, h⟩
theorem im3 {x : T3 α β γ} (h : Im.im G H (.ref a) x) : ∃ u1 u2 u3, H a = some (.tup [u1, u2, u3]) ∧ Im.im G H u1 x.a ∧ Im.im G H u2 x.b ∧ Im.im G H u3 x.c := by
  obtain ⟨b, u1, u2, u3, e, h⟩ := h; cases e; exact ⟨u1, u2, u3, h⟩
theorem im5 {x : T5 α β γ δ ε} (h : Im.im G H (.ref a) x) : ∃ u1 u2 u3 u4 u5, H a = some (.tup [u1, u2, u3, u4, u5]) ∧ Im.im G H u1 x.a ∧ Im.im G H u2 x.b ∧ Im.im G H u3 x.c ∧ Im.im G H u4 x.d ∧ Im.im G H u5 x.e := by
  obtain ⟨b, u1, u2, u3, u4, u5, e, h⟩ := h; cases e; exact ⟨u1, u2, u3, u4, u5, h⟩
theorem mk2 {x : α × β} (i1 : Im.im G H u1 x.1) (i2 : Im.im G H u2 x.2) (h : H' a = some (.tup [u1, u2])) (s : Stab G H H') : Im.im G H' (.ref a) x := ⟨a, u1, u2, rfl, h, Im.st i1 s, Im.st i2 s⟩
theorem mk3 {x : T3 α β γ} (i1 : Im.im G H u1 x.a) (i2 : Im.im G H u2 x.b) (i3 : Im.im G H u3 x.c) (h : H' a = some (.tup [u1, u2, u3])) (s : Stab G H H') : Im.im G H' (.ref a) x := ⟨a, u1, u2, u3, rfl, h, Im.st i1 s, Im.st i2 s, Im.st i3 s⟩
theorem mk4 {x : T4 α β γ δ} (i1 : Im.im G H u1 x.a) (i2 : Im.im G H u2 x.b) (i3 : Im.im G H u3 x.c) (i4 : Im.im G H u4 x.d) (h : H' a = some (.tup [u1, u2, u3, u4])) (s : Stab G H H') : Im.im G H' (.ref a) x := ⟨a, u1, u2, u3, u4, rfl, h, Im.st i1 s, Im.st i2 s, Im.st i3 s, Im.st i4 s⟩
theorem mk5 {x : T5 α β γ δ ε} (i1 : Im.im G H u1 x.a) (i2 : Im.im G H u2 x.b) (i3 : Im.im G H u3 x.c) (i4 : Im.im G H u4 x.d) (i5 : Im.im G H u5 x.e) (h : H' a = some (.tup [u1, u2, u3, u4, u5])) (s : Stab G H H') : Im.im G H' (.ref a) x :=
  ⟨a, u1, u2, u3, u4, u5, rfl, h, Im.st i1 s, Im.st i2 s, Im.st i3 s, Im.st i4 s, Im.st i5 s⟩
end
class IsRef (G : Gx) (α : Type) [Im G α] : Prop where
  isref : ∀ {H : Hp} {v : V} {x : α}, Im.im G H v x → ∃ a, v = .ref a
theorem isref {α : Type} [Im G α] [IsRef G α] {H : Hp} {v : V} {x : α} (h : Im.im G H v x) : ∃ a, v = .ref a := IsRef.isref h
section
variable {α β γ δ ε : Type} [Im G α] [Im G β] [Im G γ] [Im G δ] [Im G ε]
instance : IsRef G (List α) := ⟨fun h => by obtain ⟨a, _, e, _⟩ := h; exact ⟨a, e⟩⟩
instance : IsRef G (T1 α) := ⟨fun h => by obtain ⟨a, _, e, _⟩ := h; exact ⟨a, e⟩⟩
instance : IsRef G (α × β) := ⟨fun h => by obtain ⟨a, _, _, e, _⟩ := h; exact ⟨a, e⟩⟩
instance : IsRef G (T3 α β γ) := ⟨fun h => by obtain ⟨a, _, _, _, e, _⟩ := h; exact ⟨a, e⟩⟩
instance : IsRef G (T4 α β γ δ) := ⟨fun h => by obtain ⟨a, _, _, _, _, e, _⟩ := h; exact ⟨a, e⟩⟩
instance : IsRef G (T5 α β γ δ ε) := ⟨fun h => by obtain ⟨a, _, _, _, _, _, e, _⟩ := h; exact ⟨a, e⟩⟩
end
section
variable {σ σ' : St} {H : Hp} {L : List (Asn G)} {D : Ends} {Q : VK} {te ta tb : TE} {α : Type} {K : PySem.W.Frag} {v : V}
/-- a tuple is laid -/
theorem k_tupP [Im G α] {vs : List V} {x : α} (hS : Sep H L) (mk : ∀ (H' : Hp) (p : Addr), H' p = some (.tup vs) → Stab G H H' → Im.im G H' (.ref p) x) (hl : vs.length ≤ sizeLine)
    (k : ∀ p H', Sep H' (imA (.ref p) x :: L) → Q (.ref p) H') : tupK Q vs H :=
  ⟨hl, fun p hp => k p _ ((hS.more (same_new hp)).addIm (mk _ p upd_same (.of_same (same_new hp))))⟩
theorem ev_ixT {a : Addr} {i : Int} {us : List V} (ha : Ev ta σ H (.ref a)) (hb : Ev tb σ H (.int i)) (h : H a = some (.tup us)) (e : atI us i = some v) : Ev (tOp (rIxT K) ta tb) σ H v :=
  ev_op ha hb fun _ q => ⟨a, us, i, v, rfl, rfl, SqT.of h, e, q⟩
theorem r_ixT {a : Addr} {i : Int} {us : List V} (h : H a = some (.tup us)) (e : atI us i = some v) (q : Q v H) : rIxT K (.ref a) (.int i) H Q := ⟨a, us, i, v, rfl, rfl, SqT.of h, e, q⟩
/-- a field -/
theorem ev_fld {a C dx : Addr} {fs : List (Str × V)} {f : Str} (ha : Ev ta σ H (.ref a)) (h : H a = some (.ins C dx fs)) (c : Cls K C) (n : NoAttr K C f) (l : fs.lookup f = some v) : Ev (tFld K ta f) σ H v :=
  fun _ q => ha _ ⟨a, C, dx, fs, v, rfl, h, c, n, l, q⟩
end
end Ml
namespace Ml
open PySem L2
inductive Any where
  | str (s : Str) | int (i : Int) | bl (b : Bool) | non | tup (xs : List Any) | lst (xs : List Any) | oth (k : Nat)
section
variable (G : Gx)
mutual
def imAny (H : Hp) : V → Any → Prop
  | v, .str s => v = .str s
  | v, .int i => v = .int i
  | v, .bl b => v = .bl b
  | v, .non => v = .non
  | v, .tup xs => ∃ a vs, v = .ref a ∧ H a = some (.tup vs) ∧ imAnyL H vs xs
  | v, .lst xs => ∃ a vs, v = .ref a ∧ (∃ o, H a = some (.frz o (.lst vs))) ∧ imAnyL H vs xs
  | v, .oth k => ∃ a o, v = .ref a ∧ H a = some o ∧ kindOf o = k ∧ (k = 0 ∨ k = 1)
def imAnyL (H : Hp) : List V → List Any → Prop
  | [], [] => True
  | v :: vs, x :: xs => imAny H v x ∧ imAnyL H vs xs
  | _, _ => False
end
variable {G} {H H' : Hp}
mutual
theorem imAny.st : ∀ {v : V} {x : Any}, imAny H v x → Stab G H H' → imAny H' v x
  | v, .str s, h, _ => by rw [imAny] at h ⊢; exact h
  | v, .int i, h, _ => by rw [imAny] at h ⊢; exact h
  | v, .bl b, h, _ => by rw [imAny] at h ⊢; exact h
  | v, .non, h, _ => by rw [imAny] at h ⊢; exact h
  | v, .tup xs, h, s => by
    rw [imAny] at h ⊢
    obtain ⟨a, vs, e, g, m⟩ := h
    exact ⟨a, vs, e, s.1 a _ g rfl, imAnyL.st m s⟩
  | v, .lst xs, h, s => by
    rw [imAny] at h ⊢
    obtain ⟨a, vs, e, ⟨o, g⟩, m⟩ := h
    exact ⟨a, vs, e, ⟨o, s.1 a _ g rfl⟩, imAnyL.st m s⟩
  | v, .oth k, h, s => by
    rw [imAny] at h ⊢
    obtain ⟨a, o, e, g, q, z⟩ := h
    obtain ⟨o', g', q'⟩ := s.2 a o g
    exact ⟨a, o', e, g', q'.trans q, z⟩
theorem imAnyL.st : ∀ {vs : List V} {xs : List Any}, imAnyL H vs xs → Stab G H H' → imAnyL H' vs xs
  | [], [], h, _ => h
  | v :: vs, x :: xs, h, s => by
    rw [imAnyL] at h ⊢
    exact ⟨imAny.st h.1 s, imAnyL.st h.2 s⟩
  | [], _ :: _, h, _ => by rw [imAnyL] at h; exact h.elim; all_goals simp
  | _ :: _, [], h, _ => by rw [imAnyL] at h; exact h.elim; all_goals simp
end
instance imAnyI : Im G Any := ⟨fun H v x => imAny H v x, fun h s => imAny.st h s⟩
end
variable {G : Gx} {H : Hp} {L : List (Asn G)}
theorem any_str {v : V} {s : Str} : Im.im G H v (Any.str s) ↔ v = .str s := by show imAny H v (.str s) ↔ _; rw [imAny]
theorem any_int {v : V} {s : Int} : Im.im G H v (Any.int s) ↔ v = .int s := by show imAny H v (.int s) ↔ _; rw [imAny]
theorem any_bl {v : V} {s : Bool} : Im.im G H v (Any.bl s) ↔ v = .bl s := by show imAny H v (.bl s) ↔ _; rw [imAny]
theorem any_non {v : V} : Im.im G H v Any.non ↔ v = .non := by show imAny H v .non ↔ _; rw [imAny]
theorem imAnyL_eq : ∀ {vs : List V} {xs : List Any}, imAnyL H vs xs ↔ imL (G := G) H vs xs
  | [], [] => by rw [imAnyL]; exact Iff.rfl
  | v :: vs, x :: xs => by
    rw [imAnyL]
    exact and_congr_right fun _ => imAnyL_eq (vs := vs) (xs := xs)
  | [], _ :: _ => ⟨fun h => by rw [imAnyL] at h; exact h.elim; all_goals simp, fun h => h.elim⟩
  | _ :: _, [] => ⟨fun h => by rw [imAnyL] at h; exact h.elim; all_goals simp, fun h => h.elim⟩
theorem any_tup {v : V} {xs : List Any} : Im.im G H v (Any.tup xs) ↔ ∃ a vs, v = .ref a ∧ H a = some (.tup vs) ∧ imL (G := G) H vs xs := by
  show imAny H v (.tup xs) ↔ _
  rw [imAny]
  exact exists_congr fun a => exists_congr fun vs => and_congr_right fun _ => and_congr_right fun _ => imAnyL_eq
theorem any_lsts {v : V} {xs : List Any} : Im.im G H v (Any.lst xs) ↔ ∃ a vs, v = .ref a ∧ (∃ o, H a = some (.frz o (.lst vs))) ∧ imL (G := G) H vs xs := by
  show imAny H v (.lst xs) ↔ _
  rw [imAny]
  exact exists_congr fun a => exists_congr fun vs => and_congr_right fun _ => and_congr_right fun _ => imAnyL_eq
theorem any_oth {v : V} {k : Nat} : Im.im G H v (Any.oth k) ↔ ∃ a o, v = .ref a ∧ H a = some o ∧ kindOf o = k ∧ (k = 0 ∨ k = 1) := by
  show imAny H v (.oth k) ↔ _
  rw [imAny]
def Any.ty : Any → String
  | .str _ => "str"
  | .int _ => "int"
  | .bl _ => "bool"
  | .non => "NoneType"
  | .tup _ => "tuple"
  | .lst _ => "list"
  | .oth 0 => "list"
  | .oth _ => "dict"
theorem ty_of_kind {K : PySem.W.Frag} {a : Addr} {o : HO} {k : Nat} (h : H a = some o) (e : kindOf o = k) (z : k = 0 ∨ k = 1) : TyX K H (.ref a) (.type (Any.oth k).ty) := by
  rcases z with rfl | rfl
  · cases o with
    | lst xs => exact .base (.lst h)
    | frz o x => cases x with
      | lst xs => exact .base (.frz h)
      | _ => cases e
    | _ => cases e
  · cases o with
    | dK xs => exact .base (.dK h)
    | frz o x => cases x with
      | dK xs => exact .fDict h
      | _ => cases e
    | _ => cases e
theorem ty_any {v : V} {x : Any} (h : Im.im G H v x) : TyX G.K H v (.type x.ty) := by
  cases x with
  | str s => rw [any_str] at h; subst h; exact .base (.str s)
  | int s => rw [any_int] at h; subst h; exact .base (.int s)
  | bl s => rw [any_bl] at h; subst h; exact .base (.bl s)
  | non => rw [any_non] at h; subst h; exact .base .non
  | tup xs => rw [any_tup] at h; obtain ⟨a, vs, rfl, g, _⟩ := h; exact .base (.tup g)
  | lst xs => rw [any_lsts] at h; obtain ⟨a, vs, rfl, ⟨o, g⟩, _⟩ := h; exact .base (.frz g)
  | oth k => rw [any_oth] at h; obtain ⟨a, o, rfl, g, q, z⟩ := h; exact ty_of_kind g q z
/-- isinstance of a plain type -/
def Any.is (x : Any) (t : String) : Bool := x.ty == t || (x.ty == "bool" && t == "int")
theorem any_kit (x : Any) (t : String) (ht : t ∈ ["str", "int", "bool", "tuple", "list", "dict"]) : kitB x.ty t = some (x.is t) := by
  have : ∀ u, u ∈ ["str", "int", "bool", "tuple", "list", "dict", "NoneType"] → ∀ t, t ∈ ["str", "int", "bool", "tuple", "list", "dict"] → kitB u t = some (u == t || (u == "bool" && t == "int")) := by decide +kernel
  refine this _ ?_ t ht
  unfold Any.ty
  split <;> decide
theorem ev_isAny {σ : St} {ta tb : TE} {v : V} {x : Any} {t : String} (ha : Ev ta σ H v) (hb : Ev tb σ H (.ty t)) (h : Im.im G H v x) (ht : t ∈ ["str", "int", "bool", "tuple", "list", "dict"]) : Ev (tCB (rIsi G.K) (tCons ta (tCons tb tNil))) σ H (.bl (x.is t)) :=
  ev_isi ha hb (ty_any h) (any_kit x t ht)
end Ml
namespace Ml
open PySem L2
variable {G : Gx} {H : Hp} {L : List (Asn G)} {ρ : Type} {q : ρ → Prop} {e : Exc → Prop} {Q : VK} {σ : St}
def Any.asStr : Any → R Str
  | .str s => .ok s
  | _ => .bad
def Any.asInt : Any → R Int
  | .int s => .ok s
  | _ => .bad
def Any.asTup : Any → R (List Any)
  | .tup s => .ok s
  | _ => .bad
theorem wp_asStr {x : Any} {f : Str → R ρ} (h : R.wp (x.asStr.bind f) q e) : ∃ s, x = .str s ∧ R.wp (f s) q e := by
  cases x with
  | str s => exact ⟨s, rfl, h⟩
  | _ => exact h.elim
theorem wp_asInt {x : Any} {f : Int → R ρ} (h : R.wp (x.asInt.bind f) q e) : ∃ s, x = .int s ∧ R.wp (f s) q e := by
  cases x with
  | int s => exact ⟨s, rfl, h⟩
  | _ => exact h.elim
theorem wp_asTup {x : Any} {f : List Any → R ρ} (h : R.wp (x.asTup.bind f) q e) : ∃ s, x = .tup s ∧ R.wp (f s) q e := by
  cases x with
  | tup s => exact ⟨s, rfl, h⟩
  | _ => exact h.elim
theorem v_str {v : V} {x : Any} {s : Str} (h : Im.im G H v x) (e : x = .str s) : v = .str s := any_str.mp (e ▸ h)
theorem v_int {v : V} {x : Any} {s : Int} (h : Im.im G H v x) (e : x = .int s) : v = .int s := any_int.mp (e ▸ h)
/-- a tuple, of things of any sort -/
theorem k_tupA {vs : List V} {xs : List Any} (hS : Sep H L) (m : imL (G := G) H vs xs) (hl : vs.length ≤ sizeLine) (k : ∀ p H', Sep H' (imA (.ref p) (Any.tup xs) :: L) → Q (.ref p) H') :
    tupK Q vs H :=
  ⟨hl, fun p hp => k p _ ((hS.more (same_new hp)).addIm (any_tup.mpr ⟨p, vs, rfl, upd_same, m.st (.of_same (same_new hp))⟩))⟩
end Ml
namespace Ml
open PySem L2
variable {G : Gx}
section
variable {α β γ δ ε : Type} [Lay α] [Lay β] [Lay γ] [Lay δ] [Lay ε]
instance layList : Lay (List α) := ⟨layAllB⟩
instance layT1 : Lay (T1 α) := ⟨fun x => Lay.lay x.a⟩
instance layT2 : Lay (α × β) := ⟨fun x => Lay.lay x.1 && Lay.lay x.2⟩
instance layT3 : Lay (T3 α β γ) := ⟨fun x => Lay.lay x.a && (Lay.lay x.b && Lay.lay x.c)⟩
instance layT4 : Lay (T4 α β γ δ) := ⟨fun x => Lay.lay x.a && (Lay.lay x.b && (Lay.lay x.c && Lay.lay x.d))⟩
instance layT5 : Lay (T5 α β γ δ ε) := ⟨fun x => Lay.lay x.a && (Lay.lay x.b && (Lay.lay x.c && (Lay.lay x.d && Lay.lay x.e)))⟩
end
section
variable {α β γ δ ε : Type} [Im G α] [DecidableEq α] [Lay α] [Pd G α] [Im G β] [DecidableEq β] [Lay β] [Pd G β] [Im G γ] [DecidableEq γ] [Lay γ] [Pd G γ] [Im G δ] [DecidableEq δ] [Lay δ] [Pd G δ] [Im G ε] [DecidableEq ε] [Lay ε] [Pd G ε]
instance pdList : Pd G (List α) where
  pd := fun xs => .list (xs.map (Pd.pd G))
  dep := Pd.dep G α + 1
  dp := fun {H v x} h => by
    obtain ⟨a, vs, rfl, ⟨o, g⟩, m⟩ := h
    exact .lst (.inl (.inr ⟨o, g⟩)) (dpAll m)
  lay_ok := fun x h => layAll (G := G) h
  dep_ok := fun x => Nat.succ_le_succ (depAll (G := G) x)
  eqv := fun x y => eqvAll_is x y
theorem canTup (ds : List PyData) : (PyData.tuple ds).canLay0 = PyData.canLayAll0 ds := rfl
theorem canCons (d : PyData) (ds : List PyData) : PyData.canLayAll0 (d :: ds) = (d.canLay0 && PyData.canLayAll0 ds) := rfl
theorem depTup (ds : List PyData) : (PyData.tuple ds).depth = PyData.depthAll ds + 1 := rfl
theorem depCons (d : PyData) (ds : List PyData) : PyData.depthAll (d :: ds) = max d.depth (PyData.depthAll ds) := rfl
theorem depNil : PyData.depthAll [] = 0 := rfl
theorem eqvTup (ds es : List PyData) : PyData.eqv (.tuple ds) (.tuple es) = PyData.eqvAll ds es := rfl
theorem eqvCons (d e : PyData) (ds es : List PyData) : PyData.eqvAll (d :: ds) (e :: es) = (PyData.eqv d e && PyData.eqvAll ds es) := rfl
theorem eqvNil : PyData.eqvAll [] [] = true := rfl
instance pdT1 : Pd G (T1 α) where
  pd := fun x => .tuple [Pd.pd G x.a]
  dep := Pd.dep G α + 1
  dp := fun {H v x} h => by
    obtain ⟨a, u1, rfl, g, i1⟩ := h
    exact .tup (SqT.of g) (.cons (Pd.dp i1) .nil)
  lay_ok := fun x h => by rw [canTup, canCons, Pd.lay_ok x.a h]; rfl
  dep_ok := fun x => by
    rw [depTup, depCons, depNil]
    have := Pd.dep_ok (G := G) x.a
    omega
  eqv := fun x y => by
    rw [eqvTup, eqvCons, eqvNil, Pd.eqv]
    obtain ⟨a⟩ := x; obtain ⟨b⟩ := y
    simp
instance pdT2 : Pd G (α × β) where
  pd := fun x => .tuple [Pd.pd G x.1, Pd.pd G x.2]
  dep := max (Pd.dep G α) (Pd.dep G β) + 1
  dp := fun {H v x} h => by
    obtain ⟨a, u1, u2, rfl, g, i1, i2⟩ := h
    exact .tup (SqT.of g) (.cons (Pd.dp i1) (.cons (Pd.dp i2) .nil))
  lay_ok := fun x h => by
    have h : (Lay.lay x.1 && Lay.lay x.2) = true := h
    rw [Bool.and_eq_true] at h
    rw [canTup, canCons, canCons, Pd.lay_ok x.1 h.1, Pd.lay_ok x.2 h.2]; rfl
  dep_ok := fun x => by
    rw [depTup, depCons, depCons, depNil]
    have := Pd.dep_ok (G := G) x.1
    have := Pd.dep_ok (G := G) x.2
    omega
  eqv := fun x y => by
    rw [eqvTup, eqvCons, eqvCons, eqvNil, Pd.eqv, Pd.eqv]
    obtain ⟨a, b⟩ := x; obtain ⟨c, d⟩ := y
    simp
instance pdT3 : Pd G (T3 α β γ) where
  pd := fun x => .tuple [Pd.pd G x.a, Pd.pd G x.b, Pd.pd G x.c]
  dep := max (Pd.dep G α) (max (Pd.dep G β) (Pd.dep G γ)) + 1
  dp := fun {H v x} h => by
    obtain ⟨a, u1, u2, u3, rfl, g, i1, i2, i3⟩ := h
    exact .tup (SqT.of g) (.cons (Pd.dp i1) (.cons (Pd.dp i2) (.cons (Pd.dp i3) .nil)))
  lay_ok := fun x h => by
    have h : (Lay.lay x.a && (Lay.lay x.b && Lay.lay x.c)) = true := h
    simp only [Bool.and_eq_true] at h
    rw [canTup, canCons, canCons, canCons, Pd.lay_ok x.a h.1, Pd.lay_ok x.b h.2.1, Pd.lay_ok x.c h.2.2]; rfl
  dep_ok := fun x => by
    rw [depTup, depCons, depCons, depCons, depNil]
    have := Pd.dep_ok (G := G) x.a
    have := Pd.dep_ok (G := G) x.b
    have := Pd.dep_ok (G := G) x.c
    omega
  eqv := fun x y => by
    rw [eqvTup, eqvCons, eqvCons, eqvCons, eqvNil, Pd.eqv, Pd.eqv, Pd.eqv]
    obtain ⟨a, b, c⟩ := x; obtain ⟨d, e, f⟩ := y
    simp
instance pdT4 : Pd G (T4 α β γ δ) where
  pd := fun x => .tuple [Pd.pd G x.a, Pd.pd G x.b, Pd.pd G x.c, Pd.pd G x.d]
  dep := max (Pd.dep G α) (max (Pd.dep G β) (max (Pd.dep G γ) (Pd.dep G δ))) + 1
  dp := fun {H v x} h => by
    obtain ⟨a, u1, u2, u3, u4, rfl, g, i1, i2, i3, i4⟩ := h
    exact .tup (SqT.of g) (.cons (Pd.dp i1) (.cons (Pd.dp i2) (.cons (Pd.dp i3) (.cons (Pd.dp i4) .nil))))
  lay_ok := fun x h => by
    have h : (Lay.lay x.a && (Lay.lay x.b && (Lay.lay x.c && Lay.lay x.d))) = true := h
    simp only [Bool.and_eq_true] at h
    rw [canTup, canCons, canCons, canCons, canCons, Pd.lay_ok x.a h.1, Pd.lay_ok x.b h.2.1, Pd.lay_ok x.c h.2.2.1, Pd.lay_ok x.d h.2.2.2]; rfl
  dep_ok := fun x => by
    rw [depTup, depCons, depCons, depCons, depCons, depNil]
    have := Pd.dep_ok (G := G) x.a
    have := Pd.dep_ok (G := G) x.b
    have := Pd.dep_ok (G := G) x.c
    have := Pd.dep_ok (G := G) x.d
    omega
  eqv := fun x y => by
    rw [eqvTup, eqvCons, eqvCons, eqvCons, eqvCons, eqvNil, Pd.eqv, Pd.eqv, Pd.eqv, Pd.eqv]
    obtain ⟨a, b, c, d⟩ := x; obtain ⟨a', b', c', d'⟩ := y
    simp
instance pdT5 : Pd G (T5 α β γ δ ε) where
  pd := fun x => .tuple [Pd.pd G x.a, Pd.pd G x.b, Pd.pd G x.c, Pd.pd G x.d, Pd.pd G x.e]
  dep := max (Pd.dep G α) (max (Pd.dep G β) (max (Pd.dep G γ) (max (Pd.dep G δ) (Pd.dep G ε)))) + 1
  dp := fun {H v x} h => by
    obtain ⟨a, u1, u2, u3, u4, u5, rfl, g, i1, i2, i3, i4, i5⟩ := h
    exact .tup (SqT.of g) (.cons (Pd.dp i1) (.cons (Pd.dp i2) (.cons (Pd.dp i3) (.cons (Pd.dp i4) (.cons (Pd.dp i5) .nil)))))
  lay_ok := fun x h => by
    have h : (Lay.lay x.a && (Lay.lay x.b && (Lay.lay x.c && (Lay.lay x.d && Lay.lay x.e)))) = true := h
    simp only [Bool.and_eq_true] at h
    rw [canTup, canCons, canCons, canCons, canCons, canCons, Pd.lay_ok x.a h.1, Pd.lay_ok x.b h.2.1, Pd.lay_ok x.c h.2.2.1, Pd.lay_ok x.d h.2.2.2.1, Pd.lay_ok x.e h.2.2.2.2]; rfl
  dep_ok := fun x => by
    rw [depTup, depCons, depCons, depCons, depCons, depCons, depNil]
    have := Pd.dep_ok (G := G) x.a
    have := Pd.dep_ok (G := G) x.b
    have := Pd.dep_ok (G := G) x.c
    have := Pd.dep_ok (G := G) x.d
    have := Pd.dep_ok (G := G) x.e
    omega
  eqv := fun x y => by
    rw [eqvTup, eqvCons, eqvCons, eqvCons, eqvCons, eqvCons, eqvNil, Pd.eqv, Pd.eqv, Pd.eqv, Pd.eqv, Pd.eqv]
    obtain ⟨a, b, c, d, e⟩ := x; obtain ⟨a', b', c', d', e'⟩ := y
    simp
end
section
variable {α : Type} [Im G α] [DecidableEq α] [Lay α] [Pd G α] {H : Hp} {L : List (Asn G)} {σ : St} {ta tb : TE} {Q : VK} {v w : V} {x y : α}
theorem shapedP (h : Lay.lay x = true) (d : Pd.dep G α ≤ 64) : SeqAt.shaped (Pd.pd G x) = true := by
  unfold SeqAt.shaped
  rw [Pd.lay_ok x h, decide_eq_true (Nat.le_trans (Pd.dep_ok x) d)]; rfl
/-- the data of a list that one owns -/
theorem dpOwn {i : Nat} {a : Addr} {xs : List α} (hS : Sep H L) (e : L[i]? = some (lstA a xs)) : Dp G.K H (.ref a) (Pd.pd G xs) := by
  obtain ⟨vs, s, m⟩ := hS.sq e
  exact .lst s (dpAll m)
theorem ev_neP (ha : Ev ta σ H v) (hb : Ev tb σ H w) (d1 : Dp G.K H v (Pd.pd G x)) (d2 : Dp G.K H w (Pd.pd G y)) (l1 : Lay.lay x = true) (l2 : Lay.lay y = true) (d : Pd.dep G α ≤ 64) :
    Ev (tOp (rNeD G.K) ta tb) σ H (.bl (!decide (x = y))) := ev_op ha hb fun Q q => by
  refine ⟨_, _, d1, d2, shapedP l1 d, shapedP l2 d, ?_⟩
  rw [Pd.eqv]; exact q
end
mutual
def pdA : Any → PyData
  | .str s => .str s
  | .int i => .int i
  | .bl b => .bool b
  | .non => .none
  | .tup xs => .tuple (pdAL xs)
  | .lst xs => .list (pdAL xs)
  | .oth _ => .none
def pdAL : List Any → List PyData
  | [] => []
  | x :: xs => pdA x :: pdAL xs
end
mutual
def plA : Any → Bool
  | .tup xs => plAL xs
  | .lst xs => plAL xs
  | .oth _ => false
  | _ => true
def plAL : List Any → Bool
  | [] => true
  | x :: xs => plA x && plAL xs
end
section
variable {H : Hp}
mutual
theorem dpA : ∀ {v : V} {x : Any}, imAny H v x → plA x = true → Dp G.K H v (pdA x)
  | v, .str s, h, _ => by rw [imAny] at h; subst h; rw [pdA]; exact .str s
  | v, .int s, h, _ => by rw [imAny] at h; subst h; rw [pdA]; exact .int s
  | v, .bl s, h, _ => by rw [imAny] at h; subst h; rw [pdA]; exact .bl s
  | v, .non, h, _ => by rw [imAny] at h; subst h; rw [pdA]; exact .non
  | v, .tup xs, h, l => by
    rw [imAny] at h; rw [plA] at l; rw [pdA]
    obtain ⟨a, vs, rfl, g, m⟩ := h
    exact .tup (SqT.of g) (dpAL m l)
  | v, .lst xs, h, l => by
    rw [imAny] at h; rw [plA] at l; rw [pdA]
    obtain ⟨a, vs, rfl, ⟨o, g⟩, m⟩ := h
    exact .lst (.inl (.inr ⟨o, g⟩)) (dpAL m l)
  | v, .oth k, h, l => by rw [plA] at l; cases l
theorem dpAL : ∀ {vs : List V} {xs : List Any}, imAnyL H vs xs → plAL xs = true → DpAll G.K H vs (pdAL xs)
  | [], [], h, _ => by rw [pdAL]; exact .nil
  | v :: vs, x :: xs, h, l => by
    rw [imAnyL] at h; rw [plAL, Bool.and_eq_true] at l; rw [pdAL]
    exact .cons (dpA h.1 l.1) (dpAL h.2 l.2)
  | [], _ :: _, h, _ => by rw [imAnyL] at h; exact h.elim; all_goals simp
  | _ :: _, [], h, _ => by rw [imAnyL] at h; exact h.elim; all_goals simp
end
end
/-- x == y of things of any sort -/
def eqA (x y : Any) : R Bool := R.need (plA x = true ∧ plA y = true ∧ SeqAt.shaped (pdA x) = true ∧ SeqAt.shaped (pdA y) = true) (.ok (PyData.eqv (pdA x) (pdA y)))
section
variable {H : Hp} {σ : St} {ta tb : TE} {Q : VK} {v w : V} {x y : Any} {ρ : Type} {q : ρ → Prop} {e : Exc → Prop}
theorem wp_eqA {f : Bool → R ρ} (h : R.wp ((eqA x y).bind f) q e) : ∃ b, (plA x = true ∧ plA y = true ∧ SeqAt.shaped (pdA x) = true ∧ SeqAt.shaped (pdA y) = true ∧ b = PyData.eqv (pdA x) (pdA y)) ∧ R.wp (f b) q e := by
  unfold eqA R.need at h
  by_cases c : plA x = true ∧ plA y = true ∧ SeqAt.shaped (pdA x) = true ∧ SeqAt.shaped (pdA y) = true
  · rw [if_pos c] at h; exact ⟨_, ⟨c.1, c.2.1, c.2.2.1, c.2.2.2, rfl⟩, h⟩
  · rw [if_neg c] at h; exact h.elim
theorem ev_eqA {b : Bool} (ha : Ev ta σ H v) (hb : Ev tb σ H w) (i1 : Im.im G H v x) (i2 : Im.im G H w y) (h : plA x = true ∧ plA y = true ∧ SeqAt.shaped (pdA x) = true ∧ SeqAt.shaped (pdA y) = true ∧ b = PyData.eqv (pdA x) (pdA y)) :
    Ev (tOp (rEqD G.K) ta tb) σ H (.bl b) := ev_op ha hb fun Q q => by
  obtain ⟨h1, h2, h3, h4, rfl⟩ := h
  exact ⟨_, _, dpA i1 h1, dpA i2 h2, h3, h4, q⟩
theorem ev_neA {b : Bool} (ha : Ev ta σ H v) (hb : Ev tb σ H w) (i1 : Im.im G H v x) (i2 : Im.im G H w y) (h : plA x = true ∧ plA y = true ∧ SeqAt.shaped (pdA x) = true ∧ SeqAt.shaped (pdA y) = true ∧ b = PyData.eqv (pdA x) (pdA y)) :
    Ev (tOp (rNeD G.K) ta tb) σ H (.bl (!b)) := ev_op ha hb fun Q q => by
  obtain ⟨h1, h2, h3, h4, rfl⟩ := h
  exact ⟨_, _, dpA i1 h1, dpA i2 h2, h3, h4, q⟩
end
end Ml
namespace L2
open PySem PySem.Spec PyProof.Rows
/-- list + list, either may be locked -/
def rCatR : R2 := fun x y H Q => ∃ l b xs zs, x = .ref l ∧ y = .ref b ∧ Rd H l (.lst xs) ∧ Rd H b (.lst zs) ∧ xs.length + zs.length ≤ sizeLine ∧ ∀ p, H p = none → Q (.ref p) (upd H p (.lst (xs ++ zs)))
theorem op_catR {X : Cx} : OpR X (binaryOp .Add) rCatR := by
  intro pins s σ H x y v u Q I rx ry h
  obtain ⟨l, b, xs, zs, rfl, rfl, hH, hB, hz, q⟩ := h
  cases rx
  cases ry
  obtain ⟨z, its, n, r, e⟩ := hH.ok I.hok
  obtain ⟨z2, its2, n2, r2, e2⟩ := hB.ok I.hok
  have hl := r.length
  have hl2 := r2.length
  refine PySem.P.add_list e e2 ?_ (by rw [List.size_toArray, List.size_toArray]; omega)
  have ea : its.toArray ++ its2.toArray = (its ++ its2).toArray := by simp
  rw [ea]
  exact ⟨.ref _, _, I.lnew (t' := s.toks) (r.append r2) (by rw [List.length_append]; omega), rfl, q _ I.fresh⟩
/-- len of a text, a list, a tuple -/
def rLenAny (K : PySem.W.Frag) : List V → Hp → VK → Prop := fun xs H Q => Ml.rLenS xs H Q ∨ Ml.rLenSq K xs H Q
theorem call_lenAny {X : Cx} : CallR X (.builtin "len") (rLenAny X.K) := by
  intro pins s σ H xs us Q I r h
  rcases h with h | h
  · exact Ml.call_lenS pins s σ H xs us Q I r h
  · exact Ml.call_lenSq pins s σ H xs us Q I r h
section
variable {P : Program} {w : World} {K : PySem.W.Frag} {mg : Str → Option Value} {base : Heap} {x qual : Str} {params : Arguments} {body : List Stmt} {scope : Scope} {dvs : List V} {kws : List (Str × V)} {f : Addr} {fd : FuncData}
theorem FunD.ok0 {N ps : List Str} {k : Nat} {sp : Sp} (F : FunD K x qual params body scope dvs kws f fd) (S : FnScope N ps scope) (len : ∀ vs H Q E, sp vs H Q E → vs.length = ps.length)
    (hbody : ∀ (cdv : Value) (A : Around) (outer : List Env) (s : Shared) (H : Hp) (vs : List V) (Q : VK) (E : XK), Room k (A.deeper (envOfC qual scope s.heap.objs.size f cdv)) → sp vs H Q E →
      ∃ t, PSs (cxOf CX0 P w K mg base N qual scope f cdv A outer s H E).nox body t ∧ t { nx := fun _ H' => Q .non H', rt := Q } (start N vs) H) : FnOk P w K mg base CX0 (k + 1) f fd ps sp :=
  F.ok S len fun cdv A outer s H vs Q E hr hsp => by
    obtain ⟨t, h, q⟩ := hbody cdv A outer s H vs Q E hr hsp
    exact ⟨t, h.nox, q⟩
end
end L2
namespace Ml
open PySem L2
namespace R
variable {α β ρ : Type} {q : α → Prop} {e : Exc → Prop}
def noexc : R α → R α
  | .ok a => .ok a
  | _ => .bad
theorem wp_noexc {m : R α} {f : α → R β} {q : β → Prop} (h : wp ((noexc m).bind f) q e) : wp m (fun a => wp (f a) q e) (fun _ => False) := by
  cases m with
  | ok a => exact h
  | exc x => exact h.elim
  | bad => exact h.elim
end R
def contF {σ ρ β : Type} (k : σ → R β) (o : ρ → R β) : Fl σ ρ → R β
  | .go s => k s
  | .brk s => k s
  | .out r => o r
/-- an exception as it is wished for -/
def Eok (G : Gx) (x : Exc) (E : XK) (H : Hp) : Prop := E (.ref (G.cl x.cls)) none H
variable {G : Gx}
section
variable {σ σ' : St} {H : Hp} {L L' : List (Asn G)} {D : Ends} {Q : VK} {te ta tb : TE} {α β τ ρ : Type} {v w : V} {q : ρ → Prop} {e : Exc → Prop}
theorem k_catG [Im G α] {a b : Addr} {xs ys : List α} (hS : Sep H L) (h1 : ∃ vs, Rd H a (.lst vs) ∧ imL (G := G) H vs xs) (h2 : ∃ vs, Rd H b (.lst vs) ∧ imL (G := G) H vs ys) (z : xs.length + ys.length ≤ sizeLine)
    (k : ∀ p H', Sep H' (lstA p (xs ++ ys) :: L) → Q (.ref p) H') : rCatR (.ref a) (.ref b) H Q := by
  obtain ⟨vs, r1, m1⟩ := h1
  obtain ⟨ws, r2, m2⟩ := h2
  exact ⟨a, b, vs, ws, rfl, rfl, r1, r2, by rw [m1.len, m2.len]; exact z, fun p hp => k p _ (hS.newL hp (m1.app m2))⟩
theorem k_slG [Im G α] {a : Addr} {xs : List α} {lo hi : Option Int} (hS : Sep H L) (h : ∃ vs, SqL G.K H a vs ∧ imL (G := G) H vs xs)
    (k : ∀ p H', Sep H' (lstA p (cutL xs lo hi) :: L) → Q (.ref p) H') : rSlL G.K (.ref a) lo hi H Q := by
  obtain ⟨vs, h, m⟩ := h
  exact ⟨a, vs, rfl, h, fun p hp => k p _ (hS.newL hp (cutL_im m))⟩
theorem k_listG [Im G α] {a : Addr} {xs : List α} (hS : Sep H L) (h : ∃ vs, SqL G.K H a vs ∧ imL (G := G) H vs xs) (k : ∀ p H', Sep H' (lstA p xs :: L) → Q (.ref p) H') : rListSq G.K [.ref a] H Q := by
  obtain ⟨vs, h, m⟩ := h
  exact ⟨a, vs, rfl, .inl h, fun p hp => k p _ (hS.newL hp m)⟩
theorem ev_lenG [Im G α] {a : Addr} {xs : List α} (ha : Ev ta σ H (.ref a)) (h : ∃ vs, SqL G.K H a vs ∧ imL (G := G) H vs xs) : Ev (tCB (rLenSq G.K) (tCons ta tNil)) σ H (.int xs.length) := by
  obtain ⟨vs, s, m⟩ := h
  have := ev_lenL ha s
  rw [m.len] at this
  exact this
theorem ev_inPl {x : Str} {ys : List Str} {a : Addr} (h : Im.im G H (.ref a) ys) (ha : Ev ta σ H (.str x)) (hb : Ev tb σ H (.ref a)) : Ev (tOp (rIn G.K false) ta tb) σ H (.bl (decide (x ∈ ys))) := ev_op ha hb fun Q q =>
  ⟨a, ys.map V.str, rfl, .inl (imPlF h), rfl, flat_str ys, by
    show Q (.bl (inV (.str x) (ys.map V.str))) H
    rw [inV_str]; exact q⟩
/-- the rule on values alone -/
theorem ev_op2 {r : R2} {x y : V} (h : Ev (tOp r (tC x) (tC y)) [] H v) (q : Q v H) : r x y H Q := h Q q
theorem any_tupE {v : V} {x : Any} {xs : List Any} (h : Im.im G H v x) (e : x = .tup xs) : ∃ a vs, v = .ref a ∧ H a = some (.tup vs) ∧ imL (G := G) H vs xs := any_tup.mp (e ▸ h)
def lenA : Any → R Int
  | .str s => R.need (s.length ≤ sizeLine) (.ok s.length)
  | .tup xs => .ok xs.length
  | .lst xs => .ok xs.length
  | _ => .bad
theorem wp_lenA {x : Any} {f : Int → R ρ} (h : R.wp ((lenA x).bind f) q e) : ∃ n, lenA x = .ok n ∧ R.wp (f n) q e := by
  cases c : lenA x with
  | ok n => rw [c] at h; exact ⟨n, rfl, h⟩
  | exc y => exact absurd c (by cases x <;> simp [lenA, R.need] <;> split <;> simp)
  | bad => rw [c] at h; exact h.elim
theorem ev_lenA {x : Any} {n : Int} (ha : Ev ta σ H v) (h : Im.im G H v x) (hn : lenA x = .ok n) : Ev (tCB (rLenAny G.K) (tCons ta tNil)) σ H (.int n) := ev_cb (ea_cons ha ea_nil) fun Q q => by
  cases x with
  | str s =>
    rw [any_str] at h; subst h
    have hn : R.need (s.length ≤ sizeLine) (.ok (s.length : Int)) = .ok n := hn
    by_cases c : s.length ≤ sizeLine
    · rw [R.need_pos c] at hn; cases hn; exact .inl ⟨s, rfl, c, q⟩
    · unfold R.need at hn; rw [if_neg c] at hn; cases hn
  | tup xs =>
    rw [any_tup] at h
    obtain ⟨a, vs, rfl, g, m⟩ := h
    cases hn
    exact .inr ⟨a, vs, rfl, .inr (SqT.of g), by rw [m.len]; exact q⟩
  | lst xs =>
    rw [any_lsts] at h
    obtain ⟨a, vs, rfl, ⟨o, g⟩, m⟩ := h
    cases hn
    exact .inr ⟨a, vs, rfl, .inl (.inl (.inr ⟨o, g⟩)), by rw [m.len]; exact q⟩
  | _ => cases hn
theorem imL_strs : ∀ (ys : List Str), imL (G := G) H (ys.map V.str) ys
  | [] => True.intro
  | y :: ys => ⟨rfl, imL_strs ys⟩
theorem tyStr {K : PySem.W.Frag} {a : Str} : tyV K "str" (.str a) H := rfl
theorem imL.erase [Im G α] : ∀ {vs : List V} {xs : List α} (n : Nat), imL (G := G) H vs xs → imL (G := G) H (vs.eraseIdx n) (xs.eraseIdx n)
  | [], [], n, _ => by simp [imL]
  | v :: vs, x :: xs, 0, h => h.2
  | v :: vs, x :: xs, n + 1, h => ⟨h.1, imL.erase n h.2⟩
  | [], _ :: _, _, h => h.elim
  | _ :: _, [], _, h => h.elim
theorem Sep.newI {C x dx : Addr} (h : Sep H L) (hx : H x = none) (hd : H dx = none) (ne : dx ≠ x) (n : ¬ G.fz C = some 0) : Sep (upd (upd H dx (.own x)) x (.ins C dx [])) (cell x (.ins C dx []) :: L) := by
  have h1 := h.more (same_new (o := HO.own x) hd)
  refine h1.new (o := .ins C dx []) (by rw [upd_ne (Ne.symm ne)]; exact hx) ?_
  show decide (G.fz C = some 0) = false
  exact decide_eq_false n
theorem c_sfld {K : PySem.W.Frag} {f : Str} (h : tb σ H fun y H1 => ta σ H1 fun x H2 => ∃ a C dx fs, x = .ref a ∧ H2 a = some (.ins C dx fs) ∧ Cls K C ∧ NoAttr K C f ∧ fs.length < 1000 ∧ D.nx σ (upd H2 a (.ins C dx (putF f y fs)))) : sFld K ta tb f D σ H := h
theorem k_sfld {K : PySem.W.Frag} {i : Nat} {a C dx : Addr} {fs fs' : List (Str × V)} {f : Str} {y : V} (hS : Sep H L) (e : L[i]? = some (cell a (.ins C dx fs))) (c : Cls K C) (n : NoAttr K C f) (ef : putF f y fs = fs') (hl : fs.length < 1000)
    (np : per G (.ins C dx fs') = false) (eL : L.set i (cell a (.ins C dx fs')) = L') (k : ∀ H', Sep H' L' → D.nx σ H') :
    ∃ a' C' dx' fs'', V.ref a = .ref a' ∧ H a' = some (.ins C' dx' fs'') ∧ Cls K C' ∧ NoAttr K C' f ∧ fs''.length < 1000 ∧ D.nx σ (upd H a' (.ins C' dx' (putF f y fs''))) := by
  refine ⟨a, C, dx, fs, rfl, hS.getCell e, c, n, hl, ?_⟩
  rw [ef]
  refine k _ ?_
  subst eL
  exact hS.put e np rfl
theorem k_sfldP {K : PySem.W.Frag} {i : Nat} {a C dx : Addr} {fs fs' : List (Str × V)} {f : Str} {y : V} (hS : Sep H L) (e : L[i]? = some (cell a (.ins C dx fs))) (c : Cls K C) (n : NoAttr K C f) (ef : putF f y fs = fs') (hl : fs.length < 1000)
    (np : per G (.ins C dx fs') = true) (eL : L.eraseIdx i = L') (k : ∀ H', H' a = some (.ins C dx fs') → Stab G H H' → Sep H' L' → D.nx σ H') :
    ∃ a' C' dx' fs'', V.ref a = .ref a' ∧ H a' = some (.ins C' dx' fs'') ∧ Cls K C' ∧ NoAttr K C' f ∧ fs''.length < 1000 ∧ D.nx σ (upd H a' (.ins C' dx' (putF f y fs''))) := by
  refine ⟨a, C, dx, fs, rfl, hS.getCell e, c, n, hl, ?_⟩
  rw [ef]
  have h1 := hS.perm (pull_perm e)
  obtain ⟨fp, ⟨f1, f2, e0, ⟨e1, ho⟩, _⟩, _, h3⟩ := id h1
  subst e1
  obtain ⟨u, hu, nu⟩ := h3 a (by rw [e0]; simp)
  have eu : u = .ins C dx fs := by rw [ho] at hu; cases hu; rfl
  refine k _ upd_same (stab_put hu nu (by rw [eu]; rfl)) ?_
  subst eL
  exact h1.drop1 rfl
theorem c_meth {C : Addr} {m : Str} {sp : Sp} {dvs : List V} {E : XK} {t : TA} (h : ta σ H fun x H1 => ∃ a dx fs, x = .ref a ∧ H1 a = some (.ins C dx fs) ∧ fs.lookup m = none ∧ t σ H1 fun vs H2 => sp (x :: (vs ++ dvs)) H2 Q E) : tMeth C m sp dvs E ta t σ H Q := h
theorem c_make {C : Addr} {sp : Sp} {dvs : List V} {E : XK} {t : TA} (h : t σ H fun vs H1 => ∀ x dx, H1 x = none → H1 dx = none → dx ≠ x → sp (.ref x :: (vs ++ dvs)) (upd (upd H1 dx (.own x)) x (.ins C dx [])) (fun v H2 => v = .non ∧ Q (.ref x) H2) E) : tMake C sp dvs E t σ H Q := h
theorem k_forF {J : It} {g : TG} {tb : TS} {im : Hp → V → α → Prop} {xs : List α} {f : τ → α → R (Fl τ ρ)} {β : Type} {rest : τ → R β} {o : ρ → R β} {q : β → Prop} {e : Exc → Prop} {s : τ} (I : τ → L2.St → Hp → Prop)
    (w : ∀ s, Wk J (I s) im xs) (h0 : I s σ H) (hm : R.wp ((forF f xs s).bind (contF rest o)) q e)
    (turn : ∀ (s : τ) (x : α) (v : V) (σ : L2.St) (H : Hp) (q' : Fl τ ρ → Prop) (N B : L2.St → Hp → Prop), I s σ H → im H v x → R.wp (f s x) q' e → (∀ s' σ' H', q' (.go s') → I s' σ' H' → N σ' H') → (∀ s' σ' H', q' (.brk s') → I s' σ' H' → B σ' H') → (∀ r, q' (.out r) → R.wp (o r) q e) →
      g v σ H fun σ2 H2 => tb (loopD D N B) σ2 H2)
    (done : ∀ s σ H, R.wp (rest s) q e → I s σ H → D.nx σ H) : forK g tb D σ J H :=
  for_walkF (D := D) (I := I) (k := fun r => R.wp (contF rest o r) q e) w h0 (R.wp_bind hm) (fun s x v σ H q' N B hI hv hw h1 h2 h3 => turn s x v σ H q' N B hI hv hw h1 h2 h3) (fun s σ H h hI => done s σ H h hI)
theorem k_gT {K : PySem.W.Frag} {n : Nat} {t : TGs} {a : Addr} {us : List V} {P : St → Hp → Prop} (h : H a = some (.tup us)) (hl : us.length = n := by rfl) (k : t us σ H P) : gTup K n t (.ref a) σ H P := ⟨a, us, rfl, SqT.of h, hl, k⟩
theorem k_gC {i : Nat} {u : TGs} {us : List V} {P : St → Hp → Prop} (e : σ.set i (some v) = σ') (k : u us σ' H P) : gCons (gName i) u (v :: us) σ H P := ⟨v, us, rfl, by show u us (σ.set i (some v)) H P; rw [e]; exact k⟩
theorem k_gE {P : St → Hp → Prop} (k : P σ H) : gNil [] σ H P := ⟨rfl, k⟩
end
section
variable {X : Cx} (K : PySem.W.Frag) (hK : X.K = K := by rfl)
include hK
theorem sl_tupK : SlR X (rSlT K) := by subst hK; exact sl_tup
theorem lenAnyK : CallR X (.builtin "len") (rLenAny K) := by subst hK; exact call_lenAny
theorem pg_tupK {es : List Expr} {k : Nat} {pos : Pos} {t : TGs} {n : Nat} (hc : X.calm = true) (h : PGs X es t) (hn : (assignEach es X.env).length = n := by rfl) (hst : (assignEach es X.env).findIdx? (·.1) = none := by rfl) : PG X (.Tuple es k pos) (gTup K n t) := by
  subst hK; exact pg_tup hc h hn hst
end
end Ml
namespace L2
open PySem PySem.Spec PyProof.Rows
end L2
namespace Ml
open PySem PySem.Spec PyProof.Rows L2
end Ml
namespace Ml
open PySem L2
section
variable {α β σ ρ : Type}
theorem forR_ok {f : σ → α → R σ} (I : List α → σ → Prop) : ∀ {xs : List α} {s : σ} (pre : List α), I pre s → (∀ p x q s, pre ++ xs = p ++ x :: q → I p s → ∃ s', f s x = .ok s' ∧ I (p ++ [x]) s') → ∃ s', forR f xs s = .ok s' ∧ I (pre ++ xs) s'
  | [], s, pre, h0, _ => ⟨s, rfl, by rw [List.append_nil]; exact h0⟩
  | x :: xs, s, pre, h0, hs => by
    obtain ⟨s1, e1, h1⟩ := hs pre x xs s rfl h0
    obtain ⟨s2, e2, h2⟩ := forR_ok I (xs := xs) (s := s1) (pre ++ [x]) h1 fun p y q s e => hs p y q s (by rw [← e]; simp)
    refine ⟨s2, ?_, by rw [List.append_assoc] at h2; exact h2⟩
    show (f s x).bind _ = _
    rw [e1, R.bind_ok]; exact e2
theorem forR_inv {f : σ → α → R σ} {xs : List α} {s : σ} (I : List α → σ → Prop) (h0 : I [] s) (hs : ∀ p x q s, xs = p ++ x :: q → I p s → ∃ s', f s x = .ok s' ∧ I (p ++ [x]) s') : ∃ s', forR f xs s = .ok s' ∧ I xs s' := by
  obtain ⟨s', h1, h2⟩ := forR_ok I (xs := xs) (s := s) [] h0 fun p x q s e => hs p x q s (by simpa using e)
  exact ⟨s', h1, by simpa using h2⟩
/-- an invariant that does not look at the place -/
theorem forR_keep {f : σ → α → R σ} {xs : List α} {s : σ} (I : σ → Prop) (h0 : I s) (hs : ∀ x s, x ∈ xs → I s → ∃ s', f s x = .ok s' ∧ I s') : ∃ s', forR f xs s = .ok s' ∧ I s' :=
  forR_inv (fun _ s => I s) h0 fun p x q s e h => hs x s (by rw [e]; simp) h
theorem forF_inv {f : σ → α → R (Fl σ ρ)} (I : List α → σ → Prop) : ∀ {xs : List α} {s : σ} (pre : List α), I pre s → (∀ p x q s, pre ++ xs = p ++ x :: q → I p s → ∃ s', f s x = .ok (.go s') ∧ I (p ++ [x]) s') → ∃ s', forF f xs s = .ok (.go s') ∧ I (pre ++ xs) s'
  | [], s, pre, h0, _ => ⟨s, rfl, by rw [List.append_nil]; exact h0⟩
  | x :: xs, s, pre, h0, hs => by
    obtain ⟨s1, e1, h1⟩ := hs pre x xs s rfl h0
    obtain ⟨s2, e2, h2⟩ := forF_inv I (xs := xs) (s := s1) (pre ++ [x]) h1 fun p y q s e => hs p y q s (by rw [← e]; simp)
    refine ⟨s2, ?_, by rw [List.append_assoc] at h2; exact h2⟩
    show (f s x).bind _ = _
    rw [e1, R.bind_ok]; exact e2
/-- the loop goes on to its end -/
theorem forF_keep {f : σ → α → R (Fl σ ρ)} {xs : List α} {s : σ} (I : σ → Prop) (h0 : I s) (hs : ∀ x s, x ∈ xs → I s → ∃ s', f s x = .ok (.go s') ∧ I s') : ∃ s', forF f xs s = .ok (.go s') ∧ I s' := by
  obtain ⟨s', h1, h2⟩ := forF_inv (fun _ s => I s) (xs := xs) (s := s) [] h0 fun p x q s e h => hs x s (by rw [List.nil_append] at e; rw [e]; simp) h
  exact ⟨s', h1, h2⟩
theorem compR_map {f : Unit → α → R (Unit × Option β)} {g : α → β} {xs : List α} (h : ∀ x, x ∈ xs → f () x = .ok ((), some (g x))) : compR f xs () = .ok ((), xs.map g) := by
  induction xs with
  | nil => rfl
  | cons x xs ih =>
    show (f () x).bind _ = _
    rw [h x (by simp), R.bind_ok, ih fun y hy => h y (by simp [hy])]
    rfl
theorem compR_all {f : Unit → α → R (Unit × Option β)} {xs : List α} (P : β → Prop) (h : ∀ x, x ∈ xs → ∃ y, f () x = .ok ((), some y) ∧ P y) : ∃ ys, compR f xs () = .ok ((), ys) ∧ ys.length = xs.length ∧ ∀ y, y ∈ ys → P y := by
  induction xs with
  | nil => exact ⟨[], rfl, rfl, by simp⟩
  | cons x xs ih =>
    obtain ⟨y, e, p⟩ := h x (by simp)
    obtain ⟨ys, e2, l, q⟩ := ih fun z hz => h z (by simp [hz])
    refine ⟨y :: ys, ?_, by simp [l], fun z hz => ?_⟩
    · show (f () x).bind _ = _
      rw [e, R.bind_ok, e2]; rfl
    · rcases List.mem_cons.mp hz with rfl | hz
      · exact p
      · exact q z hz
theorem idxR_mem {xs : List α} {i : Int} (h0 : 0 ≤ i) (h1 : i < xs.length) : ∃ x, idxR xs i = .ok x ∧ x ∈ xs ∧ xs[i.toNat]? = some x := by
  obtain ⟨x, h, _⟩ := atI_ok h0 h1
  exact ⟨x, idxR_ok h0 h, List.mem_of_getElem? h, h⟩
theorem cutL_sub {xs : List α} {lo hi : Option Int} : (cutL xs lo hi).Sublist xs := (List.take_sublist _ _).trans (List.drop_sublist _ _)
theorem cutL_mem {xs : List α} {lo hi : Option Int} {x : α} (h : x ∈ cutL xs lo hi) : x ∈ xs := cutL_sub.subset h
theorem sIx_nn {n d : Nat} {i : Int} (h : 0 ≤ i) : HT.sIx n d (some i) = min i.toNat n := by
  show (if i < 0 then (i + (n : Int)).toNat else min i.toNat n) = _
  rw [if_neg (by omega)]
theorem cutL_to {xs : List α} {i : Int} (h : 0 ≤ i) : cutL xs none (some i) = xs.take i.toNat := by
  unfold cutL
  rw [sIx_nn h, HT.sIx_none, List.drop_zero, Nat.sub_zero]
  by_cases c : i.toNat ≤ xs.length
  · rw [Nat.min_eq_left c]
  · rw [Nat.min_eq_right (by omega), List.take_of_length_le (Nat.le_refl _), List.take_of_length_le (by omega)]
theorem cutL_from {xs : List α} {i : Int} (h : 0 ≤ i) : cutL xs (some i) none = xs.drop i.toNat := by
  unfold cutL
  rw [sIx_nn h, HT.sIx_none]
  by_cases c : i.toNat ≤ xs.length
  · rw [Nat.min_eq_left c, List.take_of_length_le (by rw [List.length_drop]; exact Nat.le_refl _)]
  · rw [Nat.min_eq_right (by omega), List.drop_length, List.drop_of_length_le (by omega), List.take_nil]
theorem cutL_but1 {xs : List α} : cutL xs none (some (-1)) = xs.dropLast := by
  unfold cutL
  have e : HT.sIx xs.length xs.length (some (-1)) = (-1 + (xs.length : Int)).toNat := by
    show (if (-1 : Int) < 0 then (-1 + (xs.length : Int)).toNat else min (-1 : Int).toNat xs.length) = _
    rw [if_pos (by decide)]
  rw [HT.sIx_none, e, List.drop_zero, Nat.sub_zero, List.dropLast_eq_take]
  congr 1; omega
theorem rngL_mem {lo x : Int} {n : Nat} (h : x ∈ rngL lo n) : lo ≤ x ∧ x < lo + n := by
  unfold rngL at h
  obtain ⟨i, hi, rfl⟩ := List.mem_map.mp h
  have := List.mem_range.mp hi
  omega
end
theorem len_app (a b : Str) : (a ++ b).length = a.length + b.length := by
  show (a.cps ++ b.cps).size = a.cps.size + b.cps.size
  rw [Array.size_append]
theorem tl_app (a b : Str) : (a ++ b).cps.toList = a.cps.toList ++ b.cps.toList := by
  show (a.cps ++ b.cps).toList = _
  rw [Array.toList_append]
theorem len_tl (x : Str) : x.length = x.cps.toList.length := by simp [Str.length]
theorem str_ext {x y : Str} (h : x.cps.toList = y.cps.toList) : x = y := Str.ext' (Array.toList_inj.mp h)
/-- all signs below 128 -/
def Asc (x : Str) : Prop := ∀ c, c ∈ x.cps.toList → c < 128
theorem Asc.app {a b : Str} (ha : Asc a) (hb : Asc b) : Asc (a ++ b) := fun c hc => by
  rw [tl_app] at hc
  rcases List.mem_append.mp hc with h | h
  · exact ha c h
  · exact hb c h
theorem Asc.sg {c : Nat} (h : c < 128) : Asc (sg c) := fun d hd => by
  have : d = c := by simpa [Ml.sg] using hd
  omega
theorem Asc.lit {x : Str} (h : x.cps.toList.all (· < 128) = true) : Asc x := fun c hc => by
  have := List.all_eq_true.mp h c hc
  simpa using this
theorem Asc.lay {x : Str} (h : Asc x) : (Lay.lay x : Bool) = true := by
  show PyData.strOk x = true
  unfold PyData.strOk
  rw [← Array.all_toList]
  exact List.all_eq_true.mpr fun c hc => decide_eq_true (Nat.lt_trans (h c hc) (by decide))
theorem lay_all {xs : List Str} (h : ∀ x, x ∈ xs → Asc x) : layAllB xs = true := List.all_eq_true.mpr fun x hx => (h x hx).lay
theorem upper_tl {x : Str} (h : Asc x) : (Txt.upper x).cps.toList = x.cps.toList.map PyProof.Rows.up1 := by
  rw [PyProof.Rows.upper_ascii h]; simp
theorem lower_tl {x : Str} (h : Asc x) : (Txt.lower x).cps.toList = x.cps.toList.map PyProof.Rows.lo1 := by
  rw [PyProof.Rows.lower_ascii h]; simp
theorem up1_lt {c : Nat} (h : c < 128) : PyProof.Rows.up1 c < 128 := by unfold PyProof.Rows.up1; split <;> omega
theorem lo1_lt {c : Nat} (h : c < 128) : PyProof.Rows.lo1 c < 128 := by unfold PyProof.Rows.lo1; split <;> omega
theorem Asc.upper {x : Str} (h : Asc x) : Asc (Txt.upper x) := fun c hc => by
  rw [upper_tl h] at hc
  obtain ⟨d, hd, rfl⟩ := List.mem_map.mp hc
  exact up1_lt (h d hd)
theorem Asc.lower {x : Str} (h : Asc x) : Asc (Txt.lower x) := fun c hc => by
  rw [lower_tl h] at hc
  obtain ⟨d, hd, rfl⟩ := List.mem_map.mp hc
  exact lo1_lt (h d hd)
theorem len_upper {x : Str} (h : Asc x) : (Txt.upper x).length = x.length := by rw [len_tl, upper_tl h, List.length_map, len_tl]
theorem len_lower {x : Str} (h : Asc x) : (Txt.lower x).length = x.length := by rw [len_tl, lower_tl h, List.length_map, len_tl]
theorem len_sg (c : Nat) : (sg c).length = 1 := rfl
end Ml
namespace Ml
open PySem L2
def Ok {α : Type} (m : R α) (P : α → Prop) : Prop := ∃ a, m = .ok a ∧ P a
namespace Ok
variable {α β σ ρ : Type} {P : ρ → Prop}
theorem ret {a : ρ} (h : P a) : Ok (.ok a) P := ⟨a, rfl, h⟩
theorem bind {m : R α} {f : α → R ρ} {Q : α → Prop} (h : Ok m Q) (k : ∀ a, Q a → Ok (f a) P) : Ok (m.bind f) P := by
  obtain ⟨a, e, q⟩ := h
  rw [e, R.bind_ok]; exact k a q
theorem bindE {m : R α} {f : α → R ρ} {a : α} (h : m = .ok a) (k : Ok (f a) P) : Ok (m.bind f) P := by
  rw [h, R.bind_ok]; exact k
theorem lets {a : α} {f : α → R ρ} (k : Ok (f a) P) : Ok ((R.ok a).bind f) P := k
theorem name {a : α} {f : α → R ρ} (k : ∀ y, y = a → Ok (f y) P) : Ok ((R.ok a).bind f) P := k a rfl
theorem need {p : Prop} [Decidable p] {m : R ρ} (h : p) (k : Ok m P) : Ok (R.need p m) P := by rw [R.need_pos h]; exact k
theorem ite {c : Prop} [Decidable c] {a b : R ρ} (h1 : c → Ok a P) (h2 : ¬ c → Ok b P) : Ok (if c then a else b) P := by
  by_cases h : c
  · rw [if_pos h]; exact h1 h
  · rw [if_neg h]; exact h2 h
theorem ifT {c : Prop} [Decidable c] {a b : R ρ} (h : c) (k : Ok a P) : Ok (if c then a else b) P := by rw [if_pos h]; exact k
theorem ifF {c : Prop} [Decidable c] {a b : R ρ} (h : ¬ c) (k : Ok b P) : Ok (if c then a else b) P := by rw [if_neg h]; exact k
theorem mono {Q : ρ → Prop} {m : R ρ} (h : Ok m Q) (k : ∀ a, Q a → P a) : Ok m P := by
  obtain ⟨a, e, q⟩ := h
  exact ⟨a, e, k a q⟩
theorem eq {m : R ρ} {v : ρ} (h : Ok m (· = v)) : m = .ok v := by
  obtain ⟨a, e, q⟩ := h
  rw [e, q]
theorem idx {xs : List α} {i : Int} {f : α → R ρ} (h0 : 0 ≤ i) (h1 : i < xs.length) (k : ∀ x, x ∈ xs → xs[i.toNat]? = some x → Ok (f x) P) : Ok ((idxR xs i).bind f) P := by
  obtain ⟨x, e, m, g⟩ := idxR_mem h0 h1
  rw [e, R.bind_ok]; exact k x m g
theorem forI {f : σ → α → R σ} {xs : List α} {s : σ} {rest : σ → R ρ} (I : List α → σ → Prop) (h0 : I [] s) (hs : ∀ p x q s, xs = p ++ x :: q → I p s → Ok (f s x) (I (p ++ [x]))) (k : ∀ s, I xs s → Ok (rest s) P) : Ok ((forR f xs s).bind rest) P :=
  bind (forR_inv I h0 hs) k
theorem forK {f : σ → α → R σ} {xs : List α} {s : σ} {rest : σ → R ρ} (I : σ → Prop) (h0 : I s) (hs : ∀ x s, x ∈ xs → I s → Ok (f s x) I) (k : ∀ s, I s → Ok (rest s) P) : Ok ((forR f xs s).bind rest) P :=
  bind (forR_keep I h0 hs) k
theorem forFK {τ : Type} {f : σ → α → R (Fl σ τ)} {xs : List α} {s : σ} {rest : Fl σ τ → R ρ} (I : σ → Prop) (h0 : I s) (hs : ∀ x s, x ∈ xs → I s → Ok (f s x) (fun r => ∃ s', r = .go s' ∧ I s')) (k : ∀ s, I s → Ok (rest (.go s)) P) : Ok ((forF f xs s).bind rest) P := by
  obtain ⟨s', e, h⟩ := forF_keep (f := f) (xs := xs) I h0 fun x s hx hI => by
    obtain ⟨r, e, s', rfl, h⟩ := hs x s hx hI
    exact ⟨s', e, h⟩
  exact bindE e (k s' h)
/-- a comprehension whose items all have Q -/
theorem comp {f : Unit → α → R (Unit × Option β)} {xs : List α} {rest : Unit × List β → R ρ} (Q : β → Prop) (h : ∀ x, x ∈ xs → Ok (f () x) (fun r => ∃ y, r.2 = some y ∧ Q y)) (k : ∀ ys, ys.length = xs.length → (∀ y, y ∈ ys → Q y) → Ok (rest ((), ys)) P) : Ok ((compR f xs ()).bind rest) P := by
  obtain ⟨ys, e, l, q⟩ := compR_all (f := f) (xs := xs) Q fun x hx => by
    obtain ⟨r, e, y, e2, hy⟩ := h x hx
    exact ⟨y, by rw [e, ← e2], hy⟩
  exact bindE e (k ys l q)
end Ok
theorem pre_lt {α : Type} {xs p q : List α} {x : α} (e : xs = p ++ x :: q) : p.length < xs.length := by
  rw [e, List.length_append, List.length_cons]; omega
theorem lt_line {n m : Nat} (h : n ≤ m) (hm : m < 16777216) : n < sizeLine := Nat.lt_of_le_of_lt h hm
theorem le_line {n : Nat} (h : n ≤ 16777216) : n ≤ sizeLine := h
end Ml
namespace Ml
open PySem PySem.Spec PyProof.Rows L2
variable {G : Gx}
/-- x is None, of a thing of any sort -/
def Any.isN : Any → Bool
  | .non => true
  | _ => false
theorem isN_of {H : Hp} {v : V} {x : Any} (h : Im.im G H v x) : decide (v = .non) = Any.isN x := by
  have h : imAny H v x := h
  cases x with
  | non => rw [imAny] at h; subst h; rfl
  | str s => rw [imAny] at h; subst h; rfl
  | int s => rw [imAny] at h; subst h; rfl
  | bl s => rw [imAny] at h; subst h; rfl
  | tup s => rw [imAny] at h; obtain ⟨a, vs, rfl, _⟩ := h; rfl
  | lst s => rw [imAny] at h; obtain ⟨a, vs, rfl, _⟩ := h; rfl
  | oth s => rw [imAny] at h; obtain ⟨a, o, rfl, _⟩ := h; rfl
theorem ev_isN {σ : L2.St} {H : Hp} {ta : TE} {v : V} {x : Any} (ha : Ev ta σ H v) (h : Im.im G H v x) : Ev (tIsN ta) σ H (.bl (Any.isN x)) := fun Q q => ha _ (by rw [isN_of h]; exact q)
end Ml
namespace PySem.W
open PySem PySem.Spec PySem.Calls PyProof.Rows
theorem kit_own {K : Frag} {i j : Addr} {b : Bool} (hdct : hasDictIn K j = true) (ht : typeIn K (.ref j) = some (.type "type")) (h : subIn K (.ref i) (.ref j) = some b) (hn : b = true ∨ ¬ i = j) : kitOne K (.ref i) (.ref j) = some b := by
  obtain ⟨cd, hc, _⟩ := any_some hdct
  have e2 : ((clsIn K j).isSome && typeIn K (.ref j) == some (.type "type")) = true := by rw [hc, ht] <;> rfl
  have e3 : kitCls K (.ref i) (.ref j) = some b := by
    show (if ((clsIn K j).isSome && typeIn K (.ref j) == some (.type "type")) = true then subIn K (.ref i) (.ref j) else none) = some b
    rw [if_pos e2]; exact h
  unfold kitOne
  split
  · next q =>
    rcases hn with rfl | hn
    · rfl
    · have : Value.ref i = Value.ref j := eq_of_beq q
      exact absurd (by injection this) hn
  · exact e3
end PySem.W
namespace Ml
open PySem PySem.Spec PyProof.Rows L2
variable {G : Gx}
inductive StV where
  | i (n : Int) | s (x : Script)
def stIm (G : Gx) (H : Hp) (v : V) : StV → Prop
  | .i n => v = .int n
  | .s s => Im.im G H v s
theorem stIm_st {H H' : Hp} {v : V} {x : StV} (h : stIm G H v x) (st : Stab G H H') : stIm G H' v x := by
  cases x with
  | i n => exact h
  | s s =>
    have h : Im.im G H v s := h
    exact (Im.st h st : Im.im G H' v s)
instance stvI : Im G StV := ⟨stIm G, fun h s => stIm_st h s⟩
end Ml
namespace L2
open PySem PySem.Spec PyProof.Rows
end L2
namespace Ml
open PySem PySem.Spec PyProof.Rows L2
variable {G : Gx} {H : Hp} {L : List (Asn G)} {Q : VK}
theorem k_slA {v : V} {xs : List Any} {lo hi : Option Int} (hS : Sep H L) (h1 : Im.im G H v (Any.tup xs)) (n : ¬ (HT.sIx xs.length 0 lo = 0 ∧ HT.sIx xs.length xs.length hi = xs.length))
    (k : ∀ v' H', Sep H' (imA v' (Any.tup (cutL xs lo hi)) :: L) → Q v' H') : rSlT G.K v lo hi H Q := by
  obtain ⟨a, us, rfl, g1, m1⟩ := any_tup.mp h1
  refine ⟨a, us, rfl, SqT.of g1, by rw [m1.len]; exact n, fun p hp => k _ _ ((hS.more (same_new hp)).addIm (any_tup.mpr ⟨p, _, rfl, upd_same, ?_⟩))⟩
  exact (cutL_im m1).st (.of_same (same_new hp))
theorem tupE {v : V} {x : Any} {xs : List Any} (h : Im.im G H v x) (e : x = .tup xs) : Im.im G H v (Any.tup xs) := e ▸ h
theorem imL_str : ∀ {vs : List V} {xs : List Str}, imL (G := G) H vs xs → imL (G := G) H vs (xs.map Any.str)
  | [], [], _ => True.intro
  | v :: vs, x :: xs, h => ⟨any_str.mpr h.1, imL_str h.2⟩
theorem any_lstS {v : V} {xs : List Str} (h : Im.im G H v xs) : Im.im G H v (Any.lst (xs.map Any.str)) := by
  obtain ⟨a, vs, e, g, m⟩ := h
  exact any_lsts.mpr ⟨a, vs, e, g, imL_str m⟩
end Ml
namespace Ml
open PySem PySem.Spec PyProof.Rows L2
variable {G : Gx} {κ β : Type} [Kx κ] [DecidableEq κ] [Im G β] {H : Hp} {L L' : List (Asn G)} {σ : L2.St} {Q : VK} {td ty tx : TE} {k : κ} {a : Addr} {xs : List (κ × β)} {i : Nat}
/-- d[k], k there -/
theorem ev_dget {v : V} {y : β} (hS : Sep H L) (e : L[i]? = some (dictA a xs)) (hd : Ev td σ H (.ref a)) (hy : Ev ty σ H (kV (Kx.key k))) (g : DGet H a (kV (Kx.key k)) (some v)) : Ev (tDGet td ty) σ H v :=
  fun Q q => hd _ (hy _ ⟨a, v, rfl, g, q⟩)
theorem dget_some {y : β} (hS : Sep H L) (e : L[i]? = some (dictA a xs)) (h : dget xs k = some y) : ∃ v, DGet H a (kV (Kx.key k)) (some v) ∧ Im.im G H v y := by
  obtain ⟨r, g, h1, _⟩ := dget_at hS e (k := k) h
  obtain ⟨v, rfl, m⟩ := h1 y rfl
  exact ⟨v, g, m⟩
/-- what d[k] wants: that k is there -/
def dgetR (xs : List (κ × β)) (k : κ) : R β := match dget xs k with
  | some y => .ok y
  | none => .bad
theorem wp_dget {ρ : Type} {q : ρ → Prop} {e : Exc → Prop} {f : β → R ρ} (h : R.wp ((dgetR xs k).bind f) q e) : ∃ y, dget xs k = some y ∧ R.wp (f y) q e := by
  unfold dgetR at h
  cases c : dget xs k with
  | none => rw [c] at h; exact h.elim
  | some y => rw [c] at h; exact ⟨y, rfl, h⟩
/-- d[k] = v -/
theorem k_setD {v : V} {y : β} {P : Hp → Prop} (hS : Sep H L) (e : L[i]? = some (dictA a xs)) (hv : Im.im G H v y) (hl : xs.length < sizeLine) (e2 : L.set i (dictA a (dput xs k y)) = L') (q : ∀ H', Sep H' L' → P H') : rSetD (.ref a) (kV (Kx.key k)) v H P := by
  obtain ⟨ps, h, m⟩ := hS.dict e
  refine ⟨a, _, rfl, .inl ⟨ps, Kx.key k, h, rfl, by rw [m.len]; exact hl, rfl⟩, q _ ?_⟩
  subst e2
  exact hS.putD e (m.put hv)
end Ml
namespace Ml
open PySem PySem.Spec PyProof.Rows L2
end Ml
namespace Ml
open PySem PySem.Spec PyProof.Rows L2
end Ml
namespace Ml
open PySem PySem.Spec PyProof.Rows L2
end Ml
namespace PySem.SeqAt
open AutoSeq1 (wpAny_loadPart')
open MeetsSeq MeetsSeq2 MeetsSeq3
section
variable {prog : Program} {w : World} {A : Around} {s : Shared} {E : Value → Shared → Prop}
def DictAt (s : Shared) (d : Addr) : Prop := ∃ dd es ep sl, s.heap.get? d = some ⟨.type "dict", dd, .dict es ep, sl⟩
theorem DictAt.ty {d : Addr} (h : DictAt s d) : s.TypeIs (.ref d) "dict" := by obtain ⟨dd, es, ep, sl, h⟩ := h; exact ⟨_, h, rfl⟩
end
end PySem.SeqAt
namespace L2
open PySem PySem.Spec PyProof.Rows
end L2
namespace Ml
open PySem PySem.Spec PyProof.Rows L2
variable {G : Gx} {H : Hp} {L : List (Asn G)} {Q : VK}
theorem R.need_rev {α : Type} {p : Prop} {inst : Decidable p} {k : R α} {q : α → Prop} {e : Exc → Prop} {Z : Prop} (f : p → k.wp q e → Z) (h : (@R.need α p inst k).wp q e) : Z := f (R.wp_need h).1 (R.wp_need h).2
end Ml
namespace Ml
open PySem PySem.Spec PyProof.Rows
def leT (a b : Str) : Bool := !decide (b.cps.toList < a.cps.toList)
theorem leT_iff {a b : Str} : leT a b = true ↔ a.cps.toList ≤ b.cps.toList := by
  unfold leT
  rw [Bool.not_eq_true', decide_eq_false_iff_not]
  exact List.not_lt
theorem leT_tr (a b c : Str) (x : leT a b = true) (y : leT b c = true) : leT a c = true := leT_iff.mpr (List.le_trans (leT_iff.mp x) (leT_iff.mp y))
theorem leT_tot (a b : Str) : (leT a b || leT b a) = true := by
  rw [Bool.or_eq_true]
  exact (List.le_total a.cps.toList b.cps.toList).imp leT_iff.mpr leT_iff.mpr
theorem leT_anti {a b : Str} (x : leT a b = true) (y : leT b a = true) : a = b := by
  have e := List.le_antisymm (leT_iff.mp x) (leT_iff.mp y)
  obtain ⟨⟨xs⟩⟩ := a
  obtain ⟨⟨ys⟩⟩ := b
  cases e
  rfl
def sortT (xs : List Str) : List Str := xs.mergeSort leT
theorem sortT_perm (xs : List Str) : (sortT xs).Perm xs := List.mergeSort_perm xs leT
theorem sortT_up (xs : List Str) : (sortT xs).Pairwise (fun a b => leT a b = true) := List.pairwise_mergeSort leT_tr leT_tot xs
theorem up_one : ∀ {xs ys : List Str}, xs.Pairwise (fun a b => leT a b = true) → ys.Pairwise (fun a b => leT a b = true) → xs.Perm ys → xs = ys
  | [], ys, _, _, p => p.nil_eq
  | x :: r, [], _, _, p => absurd p.length_eq (by simp)
  | x :: r, y :: t, ux, uy, p => by
    have ex : x = y := by
      by_cases z : x = y
      · exact z
      · have mx : x ∈ t := (List.mem_cons.mp (p.mem_iff.mp List.mem_cons_self)).resolve_left z
        have my : y ∈ r := (List.mem_cons.mp (p.mem_iff.mpr List.mem_cons_self)).resolve_left (fun q => z q.symm)
        exact leT_anti (List.rel_of_pairwise_cons ux my) (List.rel_of_pairwise_cons uy mx)
    subst ex
    rw [up_one (List.pairwise_cons.mp ux).2 (List.pairwise_cons.mp uy).2 (p.cons_inv)]
theorem rising_leT : ∀ {p : Str} {xs : List Str}, risingS p xs = true → (p :: xs).Pairwise (fun a b => leT a b = true)
  | p, [], _ => List.pairwise_singleton _ _
  | p, x :: r, h => by
    have h' : (!ltCps x.cps.toList p.cps.toList && risingS x r) = true := h
    rw [Bool.and_eq_true, ltCps_eq] at h'
    have t := rising_leT h'.2
    have px : leT p x = true := h'.1
    refine List.pairwise_cons.mpr ⟨fun y hy => ?_, t⟩
    rcases List.mem_cons.mp hy with e | e
    · rw [e]; exact px
    · exact leT_tr _ _ _ px (List.rel_of_pairwise_cons t e)
theorem sorted_leT : ∀ {xs : List Str}, sortedS xs = true → xs.Pairwise (fun a b => leT a b = true)
  | [], _ => List.Pairwise.nil
  | _ :: _, h => rising_leT h
theorem sortT_of {xs ys : List Str} (p : ys.Perm xs) (h : ys.Pairwise (fun a b => leT a b = true)) : ys = sortT xs := up_one h (sortT_up xs) (p.trans (sortT_perm xs).symm)
theorem sortT_congr {xs ys : List Str} (p : xs.Perm ys) : sortT xs = sortT ys := sortT_of ((sortT_perm xs).trans p) (sortT_up xs)
def onceL : List Str → List Str
  | [] => []
  | x :: r => if x ∈ r then onceL r else x :: onceL r
theorem mem_onceL {x : Str} : ∀ {xs : List Str}, x ∈ onceL xs ↔ x ∈ xs
  | [] => Iff.rfl
  | y :: r => by
    unfold onceL
    split
    · rename_i c
      rw [mem_onceL, List.mem_cons]
      exact ⟨.inr, fun h => h.elim (fun e => e ▸ c) id⟩
    · rw [List.mem_cons, List.mem_cons, mem_onceL]
theorem nodup_onceL : ∀ {xs : List Str}, (onceL xs).Nodup
  | [] => List.nodup_nil
  | y :: r => by
    unfold onceL
    split
    · exact nodup_onceL
    · rename_i c
      exact List.nodup_cons.mpr ⟨fun h => c (mem_onceL.mp h), nodup_onceL⟩
theorem perm_of_len : ∀ {xs ys : List Str}, xs.Nodup → (∀ x, x ∈ xs → x ∈ ys) → ys.length ≤ xs.length → ys.Perm xs
  | [], ys, _, _, l => by
    have e : ys = [] := List.length_eq_zero_iff.mp (Nat.le_zero.mp l)
    rw [e]
  | x :: r, ys, d, m, l => by
    obtain ⟨d1, d2⟩ := List.nodup_cons.mp d
    have hx := m x List.mem_cons_self
    have pe := List.perm_cons_erase hx
    refine pe.trans (List.Perm.cons x (perm_of_len d2 (fun y hy => ?_) ?_))
    · rcases List.mem_cons.mp (pe.mem_iff.mp (m y (List.mem_cons_of_mem _ hy))) with e | e
      · rw [e] at hy; exact absurd hy d1
      · exact e
    · have q := pe.length_eq
      simp only [List.length_cons] at q l
      omega
theorem nodup_len : ∀ {xs ys : List Str}, xs.Nodup → (∀ x, x ∈ xs → x ∈ ys) → xs.length ≤ ys.length
  | [], _, _, _ => Nat.zero_le _
  | x :: r, ys, d, m => by
    obtain ⟨d1, d2⟩ := List.nodup_cons.mp d
    have pe := List.perm_cons_erase (m x List.mem_cons_self)
    have q := pe.length_eq
    have t : r.length ≤ (ys.erase x).length := nodup_len d2 fun y hy => by
      rcases List.mem_cons.mp (pe.mem_iff.mp (m y (List.mem_cons_of_mem _ hy))) with e | e
      · rw [e] at hy; exact absurd hy d1
      · exact e
    simp only [List.length_cons] at q ⊢
    omega
theorem perm_same {xs ys : List Str} (d : xs.Nodup) (e : ys.Nodup) (m : ∀ x, x ∈ xs ↔ x ∈ ys) : xs.Perm ys := perm_of_len e (fun x h => (m x).mpr h) (nodup_len d fun x h => (m x).mp h)
/-- sorted(set(xs)) -/
def ssetT (xs : List Str) : List Str := sortT (onceL xs)
theorem mem_ssetT {x : Str} {xs : List Str} : x ∈ ssetT xs ↔ x ∈ xs := (sortT_perm _).mem_iff.trans mem_onceL
theorem ssetT_nodup (xs : List Str) : (ssetT xs).Nodup := (sortT_perm _).nodup_iff.mpr nodup_onceL
theorem ssetT_up (xs : List Str) : (ssetT xs).Pairwise (fun a b => leT a b = true) := sortT_up _
theorem ssetT_is {xs ys : List Str} (d : ys.Nodup) (u : ys.Pairwise (fun a b => leT a b = true)) (m : ∀ x, x ∈ ys ↔ x ∈ xs) : ys = ssetT xs :=
  up_one u (ssetT_up xs) (perm_same d (ssetT_nodup xs) fun x => (m x).trans mem_ssetT.symm)
end Ml
namespace L2
open PySem PySem.Spec PyProof.Rows PySem.Froz Ml
def OrdOk (w : World) (D : SD) : Prop := Ris D.2.2.place.toList ∧ (w.params.followText "set-order" = true ∨ D.2.2.led = true)
theorem ord_tail {w : World} {ep : Nat} {es : Array (Int × Value)} {t : SetTable} {b : Bool} (r : Ris t.place.toList) (l : w.params.followText "set-order" = true ∨ t.led = true) : OrdOk w (tailTx ep es t b) := by
  unfold tailTx
  split
  · exact ⟨relayAll_ris t es _, l.imp id fun z => by rw [relayAll_led]; exact z⟩
  · exact ⟨r, l⟩
theorem ord_add {w : World} {D : SD} {h : Int} {v : Value} (o : OrdOk w D) : OrdOk w (addTx h v D) := by
  obtain ⟨es, ep, t⟩ := D
  have r := layNew_ris t es h v o.1
  have l : w.params.followText "set-order" = true ∨ (layNew t es h v).2.1.led = true := o.2.imp id fun z => by rw [layNew_led]; exact z
  unfold addTx
  dsimp only
  split
  · exact ord_tail r l
  · exact ord_tail r l
structure SX (P : Program) (w : World) (D : SD) (l : List Str) : Prop where
  ok : TxOk P w D l
  nd : l.Nodup
  od : OrdOk w D
section
variable {P : Program} {w : World} {A : Around} {E : Value → Shared → Prop} {s : Shared}
theorem add_had {a : Addr} {T : String} {D : SD} {l : List Str} {k : Str} {u : Tok} {Q : Bool → Shared → Prop} (ho : s.heap.get? a = some (sObj T D)) (F : TxOk P w D l) (hk : k ∈ l) (hb : l.length < scanBound)
    (h : Q false s) : wpAny (model P w) A (setAddHashed a (.str k u) (hashStr w k)) Q E s := by
  obtain ⟨es, ep, t⟩ := D
  have few : es.size < scanBound := by rw [show es.size = l.length from F.sz]; exact hb
  unfold setAddHashed setAddHashedIn
  refine wpAny_holding (wpAny_bind (wpAny_setState_of ho rfl F.fit ?_))
  dsimp only
  rw [byScan_of rfl few F.el]
  simp only [↓reduceIte]
  unfold setAddByScan
  refine wpAny_bind (wpAny_bind (wpAny_rule (wpAny_bind (wpAny_setScan_of (knd := strKind P w) (k := k) (is_str k u) ho rfl F.fit F.el ?_))))
  cases hr : List.findIdx? (fun e => (strKind P w).is k e.2) es.toList with
  | none =>
    obtain ⟨e, he, z⟩ := (F.mem k).mp hk
    have c := List.findIdx?_eq_none_iff.mp hr e he
    rw [z] at c
    cases c
  | some j =>
    dsimp only
    exact wpAny_pure (wpAny_pure h)
/-- one text more, had or new -/
theorem add_any {a : Addr} {T : String} {D : SD} {l : List Str} {k : Str} {u : Tok} {Q : Bool → Shared → Prop} (ho : s.heap.get? a = some (sObj T D)) (F : SX P w D l) (hb : l.length + 1 < scanBound)
    (h : ∀ b h' D' l', (∀ x, x ∈ l' ↔ x ∈ l ∨ x = k) → l'.length ≤ l.length + 1 → SX P w D' l' → h'.get? a = some (sObj T D') → (∀ c o, c ≠ a → s.heap.get? c = some o → h'.get? c = some o) → Q b { s with heap := h' }) :
    wpAny (model P w) A (setAddHashed a (.str k u) (hashStr w k)) Q E s := by
  by_cases c : k ∈ l
  · exact add_had ho F.ok c (Nat.lt_of_succ_lt hb) (h false s.heap D l (fun x => ⟨.inl, fun z => z.elim id fun e => e ▸ c⟩) (Nat.le_succ _) F ho fun _ _ _ e => e)
  · refine add_x ho F.ok c hb (h true _ _ (k :: l) (fun x => List.mem_cons.trans Or.comm) (Nat.le_refl _) ⟨add_ok u F.ok, List.nodup_cons.mpr ⟨c, F.nd⟩, ord_add F.od⟩ (get_upd _ ho rfl) fun d o hd e => ?_)
    exact (PySem.Heap.get?_update_of_ne _ (Ne.symm hd) e)
theorem set_fill {I : Addr} {fp wr : List Addr} {GG : Array GenState → Array GenState → Prop} {n : Nat} {Pv : Nat → Value → Prop} {St : Nat → Shared → Prop} {R : Result → Shared → Prop}
    (W : WalksS P w A.in1 I fp wr GG n Pv St) (S : Addr) (out : S ∉ fp) (xs : List Str) (hn : n = xs.length) (few : xs.length + 1 < scanBound) (val : ∀ i v, Pv i v → ∃ x t, xs[i]? = some x ∧ v = .str x t) :
    ∀ (k i : Nat) (s : Shared), n - i = k → i ≤ n → St i s → (∃ D l, l.length ≤ i ∧ (∀ x, x ∈ l ↔ x ∈ xs.take i) ∧ SX P w D l ∧ s.heap.get? S = some (sObj "set" D)) →
      (∀ s' D l, Moved (S :: wr) GG s s' → (∀ x, x ∈ l ↔ x ∈ xs) → l.length ≤ n → SX P w D l → s'.heap.get? S = some (sObj "set" D) → R (.ok (.ret .none)) s') →
      codeAny (model P w) A (.builtin "set.update.loop" ⟨[.ref S, .ref I], []⟩) R s := by
  have nw : S ∉ wr := fun h => out (W.sub _ h)
  have sub : ∀ b ∈ wr, b ∈ S :: wr := fun b hb => List.mem_cons_of_mem _ hb
  intro k
  induction k with
  | zero =>
    intro i s hk hi st ⟨D, l, hl, hm, F, ho⟩ fin
    have hin : i = n := by omega
    subst hin
    rw [List.take_of_length_le (by omega)] at hm
    refine codeAny_builtin PyProof.Rows.F.entry_set_update_loop ?_
    rw [Around.under_plainId PyProof.Rows.F.plain_set_update_loop _]
    show wpAny _ A.in1 (pyNext (.ref I) >>= _) _ _ s
    refine wpAny_bind (W.done s _ _ st fun s' mv => ?_)
    exact wpAny_pure (fin s' D l (mv.mono sub) hm hl F (mv.heap S _ nw ho))
  | succ k ih =>
    intro i s hk hi st ⟨D, l, hl, hm, F, ho⟩ fin
    have lt : i < n := by omega
    refine codeAny_builtin PyProof.Rows.F.entry_set_update_loop ?_
    rw [Around.under_plainId PyProof.Rows.F.plain_set_update_loop _]
    show wpAny _ A.in1 (pyNext (.ref I) >>= _) _ _ s
    refine wpAny_bind (W.item i s _ _ lt st fun v s' pv st' mv => ?_)
    obtain ⟨z, t, hz, rfl⟩ := val i v pv
    show wpAny _ A.in1 (holding [Value.str z t] (setAdd S (.str z t)) >>= _) _ _ s'
    refine wpAny_bind (wpAny_holding ?_)
    unfold setAdd
    refine wpAny_holding ?_
    refine wpAny_bind ((strKind P w).pyHash (k := z) (is_str z t) ?_)
    refine add_any (s := { s' with toks := s'.toks + 1 }) (mv.heap S _ nw ho) F (by omega) fun b h' D' l' hm' hl' F' ho' same => ?_
    have hm2 : ∀ x, x ∈ l' ↔ x ∈ xs.take (i + 1) := fun x => by
      rw [hm' x, hm x, List.take_add_one, hz]
      simp [List.mem_append]
    refine wpAny_pure ⟨plainId_quiet PyProof.Rows.F.plain_set_update_loop _, ih (i + 1) _ (by omega) lt (W.frame _ s' _ _ st' (Nat.le_succ _) fun b hb o e => ?_) ⟨D', l', by omega, hm2, F', ho'⟩ fun s'' D2 l2 mv2 h1 h2 h3 h4 => ?_⟩
    · exact same b o (fun q => out (q ▸ hb)) e
    · exact fin s'' D2 l2 (Moved.trans W.gtrans ((mv.mono sub).then_heap (Nat.le_succ _) fun b o hb e => same b o (fun q => hb (by rw [q]; exact List.mem_cons_self)) e) mv2) h1 h2 h3 h4
theorem sx_new {led : Bool} (hl : w.params.followText "set-order" = true ∨ led = true) : SX P w (#[], 0, .fresh 0 0 led) [] := ⟨TxOk.nil (by rfl), List.nodup_nil, List.Pairwise.nil, hl⟩
def newSet (w : World) : Obj := { cls := .type "set", dict := none, data := .set #[] 0 (.fresh 0 0 (!w.params.followText "set-order")) }
set_option maxRecDepth 100000 in
theorem set_of_list {l : Addr} {items : Array Value} (xs : List Str) {Q : Value → Shared → Prop} (calm : A.handled = none) (hl : s.heap.IsList l items) (hit : StrsAre items.toList xs) (few : xs.length + 1 < scanBound)
    (fin : ∀ (h' : Heap) (tk : Nat) (D : SD) (m : List Str), SX P w D m → (∀ x, x ∈ m ↔ x ∈ xs) → m.length ≤ xs.length → h'.get? s.heap.objs.size = some (sObj "set" D) → (∀ b o, s.heap.get? b = some o → h'.get? b = some o) → Q (.ref s.heap.objs.size) { s with heap := h', toks := tk }) :
    wpAny (model P w) A (call (.type "set") [.ref l]) Q E s := by
  have isz : items.size = xs.length := by rw [← StrsAre.len_eq hit, Array.length_toList]
  obtain ⟨hd, tl, m_⟩ := PySem.F.called_set.mro
  have m1 := PySem.F.called_set.made
  have m2 := PySem.F.called_set.sub
  refine wpAny_call (codeAny_of_tree ?_)
  show wpAny _ _ (callAny (.type "set") _) _ _ _
  refine wpAny_pure ⟨Code.quiet_builtin _ (by decide +kernel), codeAny_builtin PySem.F.entry_type_call ?_⟩
  rw [Around.under_plain (weight_type_call_type "set" [.ref l] []) rfl]
  have n1 := PySem.F.called_set.notType
  have n2 := PySem.F.called_set.canCreate
  have n3 := PySem.F.typeCall_set_1 (.ref l)
  repeat (any_goals (first | assumption | wp_step))

  refine codeAny_mono (code_set_led1 (.ref l) (E := E) (Q₁ := fun x s₁ => x = .ref s.heap.objs.size ∧ s₁ = { s with heap := s.heap.push (newSet w) }) ⟨rfl, rfl⟩) fun r s₁ hr => ?_
  cases r with
  | error e => exact hr
  | ok fl =>
    cases fl with
    | ret obj =>
      obtain ⟨rfl, rfl⟩ := hr
      have gS : (s.heap.push (newSet w)).get? s.heap.objs.size = some (newSet w) := Heap.get?_push_size _ rfl
      have tS : Shared.TypeIs { s with heap := s.heap.push (newSet w) } (.ref s.heap.objs.size) "set" := ⟨_, gS, rfl⟩
      have i1 := PySem.F.called_set.init.lookup
      have i2 := PySem.F.called_set.init.bind (.ref s.heap.objs.size)
      repeat (any_goals (first | assumption | wp_step))

      refine codeAny_mono (codeAny_call_builtin (R := wants (fun r s₂ => r = .none ∧ ∃ h' tk D m, s₂ = { s with heap := h', toks := tk } ∧ SX P w D m ∧ (∀ x, x ∈ m ↔ x ∈ xs) ∧ m.length ≤ xs.length ∧
          h'.get? s.heap.objs.size = some (sObj "set" D) ∧ (∀ b o, s.heap.get? b = some o → h'.get? b = some o)) E) PySem.F.called_set.init.plain PySem.F.entry_set_init (check_set_init_1 tS ?_)) fun r₂ s₂ hr₂ => ?_
      · obtain ⟨ol, ho, hc, nl, hd⟩ := hl
        obtain ⟨cl_, dc_, dt_, sl_⟩ := ol
        simp only at hc hd
        subst hc; subst hd
        have ho' : (s.heap.push (newSet w)).get? l = some { cls := .type "list", dict := dc_, data := .seq items nl, slots := sl_ } := Heap.get?_push_of_some _ ho
        have s1 := PySem.F.sub_list_set
        have s2 := PySem.F.sub_list_frozenset
        have s3 : (Value.type "list" == Value.type "dict") = false := by decide
        have il : (s.heap.push (newSet w)).IsList l items := ⟨_, ho', rfl, nl, rfl⟩
        unfold Builtin.«set.__init__» noKeywords Builtin.Frozenset.updateFrom
        generalize hPI : pyIter = PI
        wp_walk
        subst hPI

        refine wpAny_pyIter_list il ?_
        refine wpAny_bind (wpAny_runValue ?_)
        have lS : l < s.heap.objs.size := Heap.lt_size ho
        have c3 : A.in1.in1.in1.handled = none := by simp [calm]
        have nI : l ≠ (s.heap.push (newSet w)).objs.size := by
          rw [Heap.size_push]; exact Nat.ne_of_lt (Nat.lt_succ_of_lt lS)
        have nS : s.heap.objs.size ∉ [(s.heap.push (newSet w)).objs.size, l] := by
          rw [Heap.size_push]; simp only [List.mem_cons, List.mem_singleton, List.not_mem_nil, or_false, not_or]
          exact ⟨Nat.ne_of_lt (Nat.lt_succ_self _), Nat.ne_of_gt lS⟩
        have val : ∀ (i : Nat) (v : Value), items[i]? = some v → ∃ x t, xs[i]? = some x ∧ v = .str x t := fun i v hv => by
          have hi : i < xs.length := by rw [← isz]; exact (Array.getElem?_eq_some_iff.mp hv).1
          obtain ⟨t, e⟩ := SS.strs_at hit i v (by rw [Array.getElem?_toList]; exact hv)
          refine ⟨xs[i], t, List.getElem?_eq_getElem hi, ?_⟩
          rw [e, List.getD_eq_getElem?_getD, List.getElem?_eq_getElem hi] <;> rfl
        refine set_fill ((Walks.list c3 _ l nI items).toS) s.heap.objs.size nS xs isz few val (items.size - 0) 0 _ (by omega) (Nat.zero_le _) ⟨⟨_, Heap.get?_push_size _ rfl, rfl, rfl⟩, (il.push _)⟩ ?at0 ?end0
        case at0 =>
          have g0 : ((s.heap.push (newSet w)).push { cls := .type "list_iterator", data := .fields #[.ref l, .int 0 0] }).get? s.heap.objs.size = some (newSet w) := Heap.get?_push_of_some _ gS
          refine ⟨(#[], 0, .fresh 0 0 (!w.params.followText "set-order")), [], Nat.le_refl 0, fun x => by simp, sx_new ?_, g0⟩
          cases w.params.followText "set-order"
          · exact .inr rfl
          · exact .inl rfl
        case end0 =>
          intro s' D m mv hm hlen F hS
          obtain ⟨h', g', d', tk', os'⟩ := s'
          have eg : g' = s.gens := mv.gens
          have ed : d' = s.drawn := mv.drawn
          have eo : os' = s.os := mv.os
          subst eg; subst ed; subst eo
          show wpAny _ _ _ _ _ _
          refine wpAny_pure ?_
          show wpAny _ _ (ret Value.none) _ _ _
          refine wpAny_pure ⟨rfl, h', tk', D, m, rfl, F, hm, by rw [← isz]; exact hlen, hS, fun b o e => ?_⟩
          have b0 : b < s.heap.objs.size := Heap.lt_size e
          have b2 : b ≠ (s.heap.push (newSet w)).objs.size := by
            rw [Heap.size_push]; exact Nat.ne_of_lt (Nat.lt_succ_of_lt b0)
          exact mv.heap b o (by simp only [List.mem_cons, List.mem_singleton, List.not_mem_nil, or_false, not_or]; exact ⟨Nat.ne_of_lt b0, b2⟩) (Heap.get?_push_of_some _ (Heap.get?_push_of_some _ e))
      · cases r₂ with
        | error e => exact hr₂
        | ok fl₂ =>
          cases fl₂ with
          | ret r =>
            obtain ⟨rfl, h', tk, D, m, rfl, F, hm, hlen, hS, hk⟩ := hr₂
            repeat (any_goals (first | assumption | wp_step))
            exact fin _ _ D m F hm hlen hS hk
          | _ => exact hr₂.elim
    | _ => exact hr.elim
set_option maxRecDepth 100000 in
theorem set_of_tuple {l : Addr} {items : Array Value} (xs : List Str) {Q : Value → Shared → Prop} (calm : A.handled = none) (hl : s.heap.IsTuple l items) (hit : StrsAre items.toList xs) (few : xs.length + 1 < scanBound)
    (fin : ∀ (h' : Heap) (tk : Nat) (D : SD) (m : List Str), SX P w D m → (∀ x, x ∈ m ↔ x ∈ xs) → m.length ≤ xs.length → h'.get? s.heap.objs.size = some (sObj "set" D) → (∀ b o, s.heap.get? b = some o → h'.get? b = some o) → Q (.ref s.heap.objs.size) { s with heap := h', toks := tk }) :
    wpAny (model P w) A (call (.type "set") [.ref l]) Q E s := by
  have isz : items.size = xs.length := by rw [← StrsAre.len_eq hit, Array.length_toList]
  obtain ⟨hd, tl, m_⟩ := PySem.F.called_set.mro
  have m1 := PySem.F.called_set.made
  have m2 := PySem.F.called_set.sub
  refine wpAny_call (codeAny_of_tree ?_)
  show wpAny _ _ (callAny (.type "set") _) _ _ _
  refine wpAny_pure ⟨Code.quiet_builtin _ (by decide +kernel), codeAny_builtin PySem.F.entry_type_call ?_⟩
  rw [Around.under_plain (weight_type_call_type "set" [.ref l] []) rfl]
  have n1 := PySem.F.called_set.notType
  have n2 := PySem.F.called_set.canCreate
  have n3 := PySem.F.typeCall_set_1 (.ref l)
  repeat (any_goals (first | assumption | wp_step))

  refine codeAny_mono (code_set_led1 (.ref l) (E := E) (Q₁ := fun x s₁ => x = .ref s.heap.objs.size ∧ s₁ = { s with heap := s.heap.push (newSet w) }) ⟨rfl, rfl⟩) fun r s₁ hr => ?_
  cases r with
  | error e => exact hr
  | ok fl =>
    cases fl with
    | ret obj =>
      obtain ⟨rfl, rfl⟩ := hr
      have gS : (s.heap.push (newSet w)).get? s.heap.objs.size = some (newSet w) := Heap.get?_push_size _ rfl
      have tS : Shared.TypeIs { s with heap := s.heap.push (newSet w) } (.ref s.heap.objs.size) "set" := ⟨_, gS, rfl⟩
      have i1 := PySem.F.called_set.init.lookup
      have i2 := PySem.F.called_set.init.bind (.ref s.heap.objs.size)
      repeat (any_goals (first | assumption | wp_step))

      refine codeAny_mono (codeAny_call_builtin (R := wants (fun r s₂ => r = .none ∧ ∃ h' tk D m, s₂ = { s with heap := h', toks := tk } ∧ SX P w D m ∧ (∀ x, x ∈ m ↔ x ∈ xs) ∧ m.length ≤ xs.length ∧
          h'.get? s.heap.objs.size = some (sObj "set" D) ∧ (∀ b o, s.heap.get? b = some o → h'.get? b = some o)) E) PySem.F.called_set.init.plain PySem.F.entry_set_init (check_set_init_1 tS ?_)) fun r₂ s₂ hr₂ => ?_
      · obtain ⟨ol, ho, hc, nl, hd⟩ := hl
        obtain ⟨cl_, dc_, dt_, sl_⟩ := ol
        simp only at hc hd
        subst hc; subst hd
        have ho' : (s.heap.push (newSet w)).get? l = some { cls := .type "tuple", dict := dc_, data := .seq items nl, slots := sl_ } := Heap.get?_push_of_some _ ho
        have s1 := PySem.F.sub_tuple_set
        have s2 := PySem.F.sub_tuple_frozenset
        have s3 : (Value.type "tuple" == Value.type "dict") = false := by decide
        have il : (s.heap.push (newSet w)).IsTuple l items := ⟨_, ho', rfl, nl, rfl⟩
        unfold Builtin.«set.__init__» noKeywords Builtin.Frozenset.updateFrom
        generalize hPI : pyIter = PI
        wp_walk
        subst hPI

        refine wpAny_pyIter_tuple il ?_
        refine wpAny_bind (wpAny_runValue ?_)
        have lS : l < s.heap.objs.size := Heap.lt_size ho
        have c3 : A.in1.in1.in1.handled = none := by simp [calm]
        have nI : l ≠ (s.heap.push (newSet w)).objs.size := by
          rw [Heap.size_push]; exact Nat.ne_of_lt (Nat.lt_succ_of_lt lS)
        have nS : s.heap.objs.size ∉ [(s.heap.push (newSet w)).objs.size, l] := by
          rw [Heap.size_push]; simp only [List.mem_cons, List.mem_singleton, List.not_mem_nil, or_false, not_or]
          exact ⟨Nat.ne_of_lt (Nat.lt_succ_self _), Nat.ne_of_gt lS⟩
        have val : ∀ (i : Nat) (v : Value), items[i]? = some v → ∃ x t, xs[i]? = some x ∧ v = .str x t := fun i v hv => by
          have hi : i < xs.length := by rw [← isz]; exact (Array.getElem?_eq_some_iff.mp hv).1
          obtain ⟨t, e⟩ := SS.strs_at hit i v (by rw [Array.getElem?_toList]; exact hv)
          refine ⟨xs[i], t, List.getElem?_eq_getElem hi, ?_⟩
          rw [e, List.getD_eq_getElem?_getD, List.getElem?_eq_getElem hi] <;> rfl
        refine set_fill ((Walks.tuple c3 _ l nI items).toS) s.heap.objs.size nS xs isz few val (items.size - 0) 0 _ (by omega) (Nat.zero_le _) ⟨⟨_, Heap.get?_push_size _ rfl, rfl, rfl⟩, (il.push _)⟩ ?at0 ?end0
        case at0 =>
          have g0 : ((s.heap.push (newSet w)).push { cls := .type "tuple_iterator", data := .fields #[.ref l, .int 0 0] }).get? s.heap.objs.size = some (newSet w) := Heap.get?_push_of_some _ gS
          refine ⟨(#[], 0, .fresh 0 0 (!w.params.followText "set-order")), [], Nat.le_refl 0, fun x => by simp, sx_new ?_, g0⟩
          cases w.params.followText "set-order"
          · exact .inr rfl
          · exact .inl rfl
        case end0 =>
          intro s' D m mv hm hlen F hS
          obtain ⟨h', g', d', tk', os'⟩ := s'
          have eg : g' = s.gens := mv.gens
          have ed : d' = s.drawn := mv.drawn
          have eo : os' = s.os := mv.os
          subst eg; subst ed; subst eo
          show wpAny _ _ _ _ _ _
          refine wpAny_pure ?_
          show wpAny _ _ (ret Value.none) _ _ _
          refine wpAny_pure ⟨rfl, h', tk', D, m, rfl, F, hm, by rw [← isz]; exact hlen, hS, fun b o e => ?_⟩
          have b0 : b < s.heap.objs.size := Heap.lt_size e
          have b2 : b ≠ (s.heap.push (newSet w)).objs.size := by
            rw [Heap.size_push]; exact Nat.ne_of_lt (Nat.lt_succ_of_lt b0)
          exact mv.heap b o (by simp only [List.mem_cons, List.mem_singleton, List.not_mem_nil, or_false, not_or]; exact ⟨Nat.ne_of_lt b0, b2⟩) (Heap.get?_push_of_some _ (Heap.get?_push_of_some _ e))
      · cases r₂ with
        | error e => exact hr₂
        | ok fl₂ =>
          cases fl₂ with
          | ret r =>
            obtain ⟨rfl, h', tk, D, m, rfl, F, hm, hlen, hS, hk⟩ := hr₂
            repeat (any_goals (first | assumption | wp_step))
            exact fin _ _ D m F hm hlen hS hk
          | _ => exact hr₂.elim
    | _ => exact hr.elim
theorem elems_strs {l : List (Int × Value)} (g : ElemsOf (strKind P w) l) : ∀ v ∈ l.map (·.2), ∃ k t, v = Value.str k t := fun v hv => by
  obtain ⟨e, he, rfl⟩ := List.mem_map.mp hv
  obtain ⟨⟨k, h1, _⟩, _⟩ := g e he
  obtain ⟨t, ev⟩ := Value.isStrOf_shape (x := k) (v := e.2) h1
  exact ⟨k, t, ev⟩
theorem strs_all : ∀ {vs : List Value}, (∀ v ∈ vs, ∃ k t, v = Value.str k t) → ∃ ks, StrsAre vs ks
  | [], _ => ⟨[], .nil⟩
  | v :: r, h => by
    obtain ⟨k, t, rfl⟩ := h v List.mem_cons_self
    obtain ⟨ks, hk⟩ := strs_all (vs := r) fun u hu => h u (List.mem_cons_of_mem _ hu)
    exact ⟨k :: ks, .cons k t hk⟩
theorem mem_strs {k : Str} : ∀ {vs : List Value} {ks : List Str}, StrsAre vs ks → (k ∈ ks ↔ ∃ t, Value.str k t ∈ vs)
  | _, _, .nil => ⟨fun h => (by cases h), fun ⟨_, h⟩ => (by cases h)⟩
  | _, _, .cons x t h => by
    rw [List.mem_cons, mem_strs h]
    constructor
    · rintro (e | ⟨u, e⟩)
      · exact ⟨t, by rw [e]; exact List.mem_cons_self⟩
      · exact ⟨u, List.mem_cons_of_mem _ e⟩
    · rintro ⟨u, e⟩
      rcases List.mem_cons.mp e with e | e
      · injection e with e1 e2
        exact .inl e1
      · exact .inr ⟨u, e⟩
/-- sorted of a set of fewer than 64 texts -/
theorem sorted_of_set {a : Addr} {D : SD} {l : List Str} {Q : Value → Shared → Prop} (ho : s.heap.get? a = some (sObj "set" D)) (F : SX P w D l) (calm : A.handled = none) (few : l.length < 64)
    (fin : ∀ s' p (out : Array Value) (c : Nat), (∀ b o, s.heap.get? b = some o → s'.heap.get? b = some o) → s'.gens = s.gens → s'.os = s.os → s.heap.objs.size ≤ p →
      s'.heap.get? p = some (seqObj "list" out c) → StrsAre out.toList (sortT l) → Q (.ref p) s') :
    wpAny (model P w) A (call (.builtin "sorted") [.ref a]) Q E s := by
  obtain ⟨es, ep, t⟩ := D
  have sz : es.size = l.length := F.ok.sz
  refine Calls.call_function_entry kind_sorted plain_sorted entry_sorted (args_sorted1 _) ?_
  unfold Builtin.«sorted»
  refine wpAny_bind (m := checkCount "sorted" 1 1 _) (wpAny_pure ?_)
  refine wpAny_bind (collect_set (A := A.in1) calm ⟨_, ho, rfl, rfl⟩ F.ok.fit (by rw [sz]; unfold scanBound; omega) F.od.1 F.od.2 fun s1 vs k1 hz g1 o1 pm => ?_)
  have vl : vs.length = l.length := by rw [pm.length_eq, List.length_map, Array.length_toList]; exact sz
  obtain ⟨ks, hS⟩ := strs_all (vs := vs) fun v hv => elems_strs F.ok.el v (pm.mem_iff.mp hv)
  have kl : ks.length = l.length := by rw [← StrsAre.len_eq hS]; exact vl
  have kp : ks.Perm l := by
    refine perm_of_len F.nd (fun x hx => ?_) (Nat.le_of_eq kl)
    obtain ⟨e, he, z⟩ := (F.ok.mem x).mp hx
    obtain ⟨t', ev⟩ := Value.isStrOf_shape (x := x) (v := e.2) z
    exact (mem_strs hS).mpr ⟨t', pm.mem_iff.mpr (List.mem_map.mpr ⟨e, he, ev⟩)⟩
  refine wpAny_bind (wpAny_newList ?_ (by rw [vl, sizeLine_eq]; omega))
  have oL : (s1.heap.push (seqObj "list" vs.toArray 0)).get? s1.heap.objs.size = some (seqObj "list" vs.toArray 0) := Heap.get?_push_size _ rfl
  refine wpAny_bind (wpAny_holding (wpAny_call_entry slot_list_sort ⟨_, oL, rfl⟩ entry_list_sort
    (list_sort_treeK strKind_oneLt oL hS.keysOf (fun v₁ v₂ rest e => keyKind_strs (by rw [← e]; exact hS)) (by rw [vl]; exact few) fun st' hp hs => ⟨_, rfl, ?_⟩) (args_list_sort _)))
  obtain ⟨ys, g2, g3, g4⟩ := sorted_out_str hS hp hs
  have ey : ys = sortT l := sortT_of (g3.trans kp) (sorted_leT g4)
  rw [ey] at g2
  obtain ⟨c, hc⟩ := sortedHeap_at (vs := vs) (out := (arrOf st').map (·.2)) oL
  refine wpAny_pure ⟨_, rfl, fin _ s1.heap.objs.size _ c (fun b u e => ?_) g1 o1 hz hc g2⟩
  have q := k1 b u e
  have lt := Heap.lt_size q
  show (sortedHeap (s1.heap.push (seqObj "list" vs.toArray 0)) s1.heap.objs.size vs _).get? b = some u
  rw [sortedHeap_old (Nat.ne_of_lt lt) (by rw [size_push']; exact Nat.lt_succ_of_lt lt)]
  exact Heap.get?_push_of_some _ q
end
/-- sorted(set(a)), a a list or a tuple of fewer than 64 texts -/
def rSortSet (K : PySem.W.Frag) : V → Hp → VK → Prop := fun x H Q => ∃ l, ∃ xs : List Str, x = .ref l ∧ (SqL K H l (xs.map V.str) ∨ SqT K H l (xs.map V.str)) ∧ xs.length < 64 ∧ ∀ p, H p = none → Q (.ref p) (upd H p (.lst ((ssetT xs).map V.str)))
def tSortSet (K : PySem.W.Frag) (ta : TE) : TE := fun σ H Q => ta σ H fun x H1 => rSortSet K x H1 Q
section
variable {X : Cx}
theorem pe_sortSet {a : Expr} {ta : TE} {p p2 q pos : Pos} (calm : X.calm = true) (hg : Gl X "sorted") (hm : X.mg "sorted" = none) (hg2 : Gl X "set") (hm2 : X.mg "set" = none) (ha : PE X a ta)
    (na : starEach [a] X.env = (false, eval a X.env) :: starEach [] X.env := by rfl) : PE X (.Call (.Name "sorted" p) [.Call (.Name "set" p2) [a] [] q] [] pos) (tSortSet X.K ta) := by
  have bs : bootBuiltins "set" = some (.type "set") := by decide +kernel
  have bo : bootBuiltins "sorted" = some (.builtin "sorted") := by decide +kernel
  refine ⟨fun pins s σ H Q I h => ?_⟩
  refine Call_ (ld_blt I hg hm bo ?_)
  refine PyProof.Rows.callWith_builtin1 (PyProof.Rows.args_cons ?_ rfl) rfl rfl
  refine Call_ (ld_blt I hg2 hm2 bs ?_)
  refine PyProof.Rows.callWith_type1 (PyProof.Rows.args_cons (thn (ha.run pins s σ H _ I h) fun v s1 ⟨x, H1, I1, r1, q1⟩ => PyProof.Rows.args_nil ?_) na) na rfl
  obtain ⟨l, xs, rfl, hq, few, q1⟩ := q1
  cases r1
  have fin : ∀ (h' : Heap) (tk : Nat) (D : SD) (m : List Str), SX X.prog X.w D m → (∀ x, x ∈ m ↔ x ∈ xs) → m.length ≤ xs.length → h'.get? s1.heap.objs.size = some (sObj "set" D) →
      (∀ b o, s1.heap.get? b = some o → h'.get? b = some o) →
      wpAny (model X.prog X.w) X.A (spliced (backTo pos (starEach [] X.env))) (fun vs s₂ => wpAny (model X.prog X.w) X.A (call (.builtin "sorted") (Value.ref s1.heap.objs.size :: vs)) (EP X pins σ Q) X.xe s₂) X.xe { s1 with heap := h', toks := tk } := fun h' tk D m F mem ml hS same => by
    refine PyProof.Rows.args_nil ?_
    have I2 : Inv X pins σ H1 { s1 with heap := h', toks := tk } := I1.kept same
    refine sorted_of_set (s := { s1 with heap := h', toks := tk }) hS F (I1.ok.hd calm) (by omega) fun s' p out c k g o hz hp hs => ?_
    have em : sortT m = ssetT xs := sortT_congr (perm_same F.nd nodup_onceL fun x => (mem x).trans mem_onceL.symm)
    rw [em] at hs
    have fresh : H1 p = none := I2.hok.fresh hz
    have len : ((ssetT xs).map V.str).length ≤ sizeLine := by
      have z : (ssetT xs).length = m.length := by rw [← em]; exact (sortT_perm m).length_eq
      rw [List.length_map, z, sizeLine_eq]
      omega
    have J : Inv X pins σ (upd H1 p (.lst ((ssetT xs).map V.str))) { ({ s1 with heap := h', toks := tk } : Shared) with heap := s'.heap, gens := s'.gens, drawn := s'.drawn, toks := s'.toks } :=
      I2.call (ch := []) (Un.laid k hz fresh) (I2.hok.laid k hz ⟨len, out.toList, c, vals_of_strs hs, hp⟩) (by rw [g]; exact I2.bare) (fun _ z => nomatch z)
    have e : s' = { ({ s1 with heap := h', toks := tk } : Shared) with heap := s'.heap, gens := s'.gens, drawn := s'.drawn, toks := s'.toks } := by
      cases s'
      cases s1
      cases o
      rfl
    rw [e]
    exact ⟨.ref p, _, J, rfl, q1 p fresh⟩
  rcases hq with hq | hq
  · obtain ⟨its, r, pl, hz⟩ := I1.list hq
    exact set_of_list xs (I1.ok.hd calm) pl.isList (by simpa using strsAre_of r) (by unfold scanBound; omega) fin
  · obtain ⟨its, r, pl, hz⟩ := I1.tuple hq
    exact set_of_tuple xs (I1.ok.hd calm) pl (by simpa using strsAre_of r) (by unfold scanBound; omega) fin
end
end L2
namespace L2
open PySem PySem.Spec PyProof.Rows Ml
section
variable {X : Cx}
theorem pe_sortSetK {a : Expr} {ta : TE} {p p2 q pos : Pos} (K : PySem.W.Frag) (calm : X.calm = true) (hg : Gl X "sorted") (hm : X.mg "sorted" = none) (hg2 : Gl X "set") (hm2 : X.mg "set" = none) (ha : PE X a ta) (hK : X.K = K := by rfl)
    (na : starEach [a] X.env = (false, eval a X.env) :: starEach [] X.env := by rfl) : PE X (.Call (.Name "sorted" p) [.Call (.Name "set" p2) [a] [] q] [] pos) (tSortSet K ta) := by
  subst hK
  exact pe_sortSet calm hg hm hg2 hm2 ha na
theorem sortedSK (K : PySem.W.Frag) (hK : X.K = K := by rfl) : CallR X (.builtin "sorted") (rSortedS K) := by subst hK; exact cr_sortedS
end
end L2
namespace Ml
open PySem PySem.Spec PyProof.Rows L2
variable {G : Gx} {σ : L2.St} {H : Hp} {L : List (Asn G)} {Q : VK} {te : TE} {D : Ends}
def sortSetK (K : PySem.W.Frag) (Q : VK) : VK := fun x H1 => rSortSet K x H1 Q
theorem c_sortSet {K : PySem.W.Frag} (h : te σ H (sortSetK K Q)) : tSortSet K te σ H Q := h
theorem k_sortSet {a : Addr} {xs : List Str} (hS : Sep H L) (hq : SqL G.K H a (xs.map (Fv.enc G)) ∨ SqT G.K H a (xs.map (Fv.enc G))) (few : xs.length < 64) (k : ∀ p H', Sep H' (lstA p (ssetT xs) :: L) → Q (.ref p) H') : sortSetK G.K Q (.ref a) H :=
  ⟨a, xs, rfl, hq, few, fun p hp => k p _ (hS.newL hp (imL_strs _))⟩
def strsR : List Any → R (List Str)
  | [] => .ok []
  | .str s :: r => (strsR r).bind fun l => .ok (s :: l)
  | _ => .bad
def Any.asStrs : Any → R (List Str)
  | .lst xs => strsR xs
  | .tup xs => strsR xs
  | _ => .bad
theorem strsR_im {ρ : Type} {q : ρ → Prop} {e : Exc → Prop} : ∀ {xs : List Any} {f : List Str → R ρ}, R.wp ((strsR xs).bind f) q e → ∃ ss, xs = ss.map Any.str ∧ R.wp (f ss) q e
  | [], f, h => ⟨[], rfl, h⟩
  | .str s :: r, f, h => by
    have h' : R.wp ((strsR r).bind fun l => f (s :: l)) q e := by
      have z : ((strsR r).bind fun l => R.ok (s :: l)).bind f = (strsR r).bind fun l => f (s :: l) := by
        cases strsR r <;> rfl
      rw [← z]
      exact h
    obtain ⟨ss, rfl, hw⟩ := strsR_im h'
    exact ⟨s :: ss, rfl, hw⟩
  | .int _ :: _, _, h => h.elim
  | .bl _ :: _, _, h => h.elim
  | .non :: _, _, h => h.elim
  | .tup _ :: _, _, h => h.elim
  | .lst _ :: _, _, h => h.elim
  | .oth _ :: _, _, h => h.elim
theorem wp_asStrs {x : Any} {ρ : Type} {f : List Str → R ρ} {q : ρ → Prop} {e : Exc → Prop} (h : R.wp (x.asStrs.bind f) q e) : ∃ ss, (x = .lst (ss.map Any.str) ∨ x = .tup (ss.map Any.str)) ∧ R.wp (f ss) q e := by
  cases x with
  | lst xs => obtain ⟨ss, rfl, hw⟩ := strsR_im (xs := xs) h; exact ⟨ss, .inl rfl, hw⟩
  | tup xs => obtain ⟨ss, rfl, hw⟩ := strsR_im (xs := xs) h; exact ⟨ss, .inr rfl, hw⟩
  | _ => exact h.elim
theorem imL_ofStr : ∀ {vs : List V} {ss : List Str}, imL (G := G) H vs (ss.map Any.str) → vs = ss.map V.str
  | [], [], _ => rfl
  | v :: vs, s :: ss, h => by rw [any_str.mp h.1, imL_ofStr h.2]; rfl
theorem strs_at {v : V} {x : Any} {ss : List Str} (h : Im.im G H v x) (e : x = .lst (ss.map Any.str) ∨ x = .tup (ss.map Any.str)) : ∃ a, v = .ref a ∧ (SqL G.K H a (ss.map (Fv.enc G)) ∨ SqT G.K H a (ss.map (Fv.enc G))) := by
  rcases e with e | e
  · subst e
    obtain ⟨a, vs, rfl, ⟨o, ho⟩, m⟩ := any_lsts.mp h
    rw [imL_ofStr m] at ho
    exact ⟨a, rfl, .inl (.inl (.inr ⟨o, ho⟩))⟩
  · subst e
    obtain ⟨a, vs, rfl, ho, m⟩ := any_tup.mp h
    rw [imL_ofStr m] at ho
    exact ⟨a, rfl, .inr (.inl (.inl ho))⟩
theorem k_sortSetA {v : V} {x : Any} {ss : List Str} (hS : Sep H L) (h : Im.im G H v x) (e : x = .lst (ss.map Any.str) ∨ x = .tup (ss.map Any.str)) (few : ss.length < 64) (k : ∀ p H', Sep H' (lstA p (ssetT ss) :: L) → Q (.ref p) H') : sortSetK G.K Q v H := by
  obtain ⟨a, rfl, hq⟩ := strs_at h e
  exact k_sortSet hS hq few k
theorem k_sorted {a : Addr} {xs : List Str} (hS : Sep H L) (hq : SqL G.K H a (xs.map (Fv.enc G))) (few : xs.length < 64) (k : ∀ p H', Sep H' (lstA p (sortT xs) :: L) → Q (.ref p) H') : rSortedS G.K [.ref a] H Q :=
  ⟨a, xs, rfl, hq, few, fun ys p pm up hp => by rw [sortT_of pm (sorted_leT up)]; exact k p _ (hS.newL hp (imL_strs _))⟩
theorem Sep.rdL {α : Type} [Im G α] {i : Nat} {a : Addr} {xs : List α} (hS : Sep H L) (e : L[i]? = some (lstA a xs)) : ∃ vs, Rd H a (.lst vs) ∧ imL (G := G) H vs xs := by
  obtain ⟨vs, h, m⟩ := hS.lst e
  exact ⟨vs, .inl h, m⟩
theorem imPlR {α : Type} [Im G α] {a : Addr} {xs : List α} (h : Im.im G H (.ref a) xs) : ∃ vs, Rd H a (.lst vs) ∧ imL (G := G) H vs xs := by
  obtain ⟨b, vs, e, ho, m⟩ := h
  cases e
  exact ⟨vs, .inr ho, m⟩
def asgK (g : TG) (σ : L2.St) (D : Ends) : VK := fun x H1 => g x σ H1 D.nx
theorem c_asgG {g : TG} (h : te σ H (asgK g σ D)) : tAsg te g D σ H := h
theorem k_asgG {g : TG} {v : V} (h : g v σ H D.nx) : asgK g σ D v H := h
end Ml
namespace L2
open PySem PySem.Spec PyProof.Rows PySem.W
end L2
namespace Ml
open PySem PySem.Spec PyProof.Rows L2
variable {G : Gx} {σ : L2.St} {H H' : Hp} {L L' : List (Asn G)} {Q : VK} {te td ty : TE} {D : Ends}
structure Kt where
  l : List Str
  deriving DecidableEq
def Kt.ks (k : Kt) : List Key := k.l.map Sum.inr
theorem inr_inj : ∀ {xs ys : List Str}, xs.map (Sum.inr : Str → Key) = ys.map Sum.inr → xs = ys
  | [], [], _ => rfl
  | [], _ :: _, h => by cases h
  | _ :: _, [], h => by cases h
  | x :: xs, y :: ys, h => by
    simp only [List.map_cons, List.cons.injEq] at h
    rw [Sum.inr.inj h.1, inr_inj h.2]
theorem Kt.inj {a b : Kt} (h : a.ks = b.ks) : a = b := by
  obtain ⟨xs⟩ := a
  obtain ⟨ys⟩ := b
  have : xs = ys := inr_inj h
  rw [this]
instance imKt : Im G Kt := ⟨fun H v x => ∃ a, v = .ref a ∧ H a = some (.tup (x.l.map V.str)), fun ⟨a, e, h⟩ s => ⟨a, e, s.1 a _ h rfl⟩⟩
instance : IsRef G Kt := ⟨fun h => by obtain ⟨a, e, _⟩ := h; exact ⟨a, e⟩⟩
instance : Lay Kt := ⟨fun x => layAllB x.l⟩
theorem dpStrs {K : PySem.W.Frag} : ∀ xs : List Str, DpAll K H (xs.map V.str) (xs.map PyData.str)
  | [] => .nil
  | x :: r => .cons (.str x) (dpStrs r)
theorem depStrs : ∀ xs : List Str, PyData.depthAll (xs.map PyData.str) = 0
  | [] => rfl
  | x :: r => by
    show max (PyData.depth (.str x)) (PyData.depthAll (r.map PyData.str)) = 0
    rw [depStrs r]; rfl
def pdKt (k : Kt) : PyData := .tuple (k.l.map PyData.str)
theorem canStrs : ∀ xs : List Str, layAllB xs = true → PyData.canLayAll0 (xs.map PyData.str) = true
  | [], _ => rfl
  | x :: r, h => by
    have h : (Lay.lay x && layAllB r) = true := h
    rw [Bool.and_eq_true] at h
    show ((PyData.str x).canLay0 && PyData.canLayAll0 (r.map PyData.str)) = true
    rw [canStrs r h.2, show (PyData.str x).canLay0 = true from h.1]; rfl
theorem eqvStrs : ∀ xs ys : List Str, PyData.eqvAll (xs.map PyData.str) (ys.map PyData.str) = decide (xs = ys)
  | [], [] => rfl
  | [], _ :: _ => rfl
  | _ :: _, [] => rfl
  | x :: xs, y :: ys => by
    show (PyData.eqv (.str x) (.str y) && PyData.eqvAll (xs.map PyData.str) (ys.map PyData.str)) = _
    rw [eqvStrs xs ys, show PyData.eqv (.str x) (.str y) = decide (x = y) from str_beq x y]
    simp
instance pdKtI : Pd G Kt where
  pd := pdKt
  dep := 1
  dp := fun {H v x} h => by
    obtain ⟨a, rfl, g⟩ := h
    exact .tup (SqT.of g) (dpStrs x.l)
  lay_ok := fun x h => canStrs x.l h
  dep_ok := fun x => by
    show PyData.depthAll (x.l.map PyData.str) + 1 ≤ 1
    rw [depStrs]
    exact Nat.le_refl _
  eqv := fun x y => by
    show PyData.eqvAll (x.l.map PyData.str) (y.l.map PyData.str) = _
    rw [eqvStrs]
    obtain ⟨a⟩ := x; obtain ⟨b⟩ := y
    simp
end Ml
namespace Ml
open PySem PySem.Spec PyProof.Rows L2
variable {G : Gx}
section
variable {β : Type} [Im G β]
def imDT (H : Hp) : List (List Key × V) → List (Kt × β) → Prop
  | [], [] => True
  | p :: ps, q :: qs => (p.1 = q.1.ks ∧ Im.im G H p.2 q.2 ∧ ∃ b, H b = some (.tup (q.1.ks.map kV))) ∧ imDT H ps qs
  | _, _ => False
variable {H H' : Hp}
theorem imDT.st : ∀ {ps : List (List Key × V)} {qs : List (Kt × β)}, imDT (G := G) H ps qs → Stab G H H' → imDT (G := G) H' ps qs
  | [], [], _, _ => True.intro
  | _ :: _, _ :: _, h, s => ⟨⟨h.1.1, Im.st h.1.2.1 s, by obtain ⟨b, e⟩ := h.1.2.2; exact ⟨b, s.1 b _ e rfl⟩⟩, imDT.st h.2 s⟩
  | [], _ :: _, h, _ => h
  | _ :: _, [], h, _ => h
theorem imDT.len : ∀ {ps : List (List Key × V)} {qs : List (Kt × β)}, imDT (G := G) H ps qs → ps.length = qs.length
  | [], [], _ => rfl
  | _ :: _, _ :: _, h => by rw [List.length_cons, List.length_cons, imDT.len h.2]
  | [], _ :: _, h => h.elim
  | _ :: _, [], h => h.elim
theorem kt_dec (a b : Kt) : decide (a.ks = b.ks) = decide (a = b) := by
  by_cases h : a = b
  · subst h; simp
  · have : ¬ a.ks = b.ks := fun e => h (Kt.inj e)
    simp [h, this]
theorem imDT.val : ∀ {ps : List (List Key × V)} {qs : List (Kt × β)} (k : Kt), imDT (G := G) H ps qs → (∀ y, dget qs k = some y → ∃ v, valV ps k.ks = some v ∧ Im.im G H v y) ∧ (dget qs k = none → valV ps k.ks = none)
  | [], [], _, _ => ⟨fun y e => (by cases (show (none : Option β) = some y from e)), fun _ => rfl⟩
  | p :: ps, q :: qs, k, ⟨⟨e1, e2, _⟩, h⟩ => by
    have ih := imDT.val k h
    by_cases c : q.1 = k
    · have c1 : p.1 = k.ks := by rw [e1, c]
      have d : dget (q :: qs) k = some q.2 := by simp [dget, List.find?_cons, c]
      rw [d, valV_pos c1]
      exact ⟨fun y e => ⟨p.2, rfl, by cases e; exact e2⟩, fun e => by cases e⟩
    · have c1 : ¬ p.1 = k.ks := fun z => c (Kt.inj (e1.symm.trans z))
      have d : dget (q :: qs) k = dget qs k := by simp [dget, List.find?_cons, c]
      rw [d, valV_neg c1]
      exact ih
  | [], _ :: _, _, h => h.elim
  | _ :: _, [], _, h => h.elim
theorem imDT.any : ∀ {ps : List (List Key × V)} {qs : List (Kt × β)} (k : Kt), imDT (G := G) H ps qs → (ps.any fun kv => decide (kv.1 = k.ks)) = qs.any fun kv => decide (kv.1 = k)
  | [], [], _, _ => rfl
  | p :: ps, q :: qs, k, ⟨⟨e1, _⟩, h⟩ => by
    rw [List.any_cons, List.any_cons, imDT.any k h, e1, kt_dec]
  | [], _ :: _, _, h => h.elim
  | _ :: _, [], _, h => h.elim
theorem imDT.app : ∀ {ps rs : List (List Key × V)} {qs ts : List (Kt × β)}, imDT (G := G) H ps qs → imDT (G := G) H rs ts → imDT (G := G) H (ps ++ rs) (qs ++ ts)
  | [], _, [], _, _, h => h
  | _ :: _, _, _ :: _, _, h, k => ⟨h.1, imDT.app h.2 k⟩
  | [], _, _ :: _, _, h, _ => h.elim
  | _ :: _, _, [], _, h, _ => h.elim
theorem imDT.rep : ∀ {ps : List (List Key × V)} {qs : List (Kt × β)} {k : Kt} {v : V} {y : β}, imDT (G := G) H ps qs → Im.im G H v y →
    imDT (G := G) H (ps.map fun kv => if kv.1 = k.ks then (kv.1, v) else kv) (qs.map fun kv => if kv.1 = k then (kv.1, y) else kv)
  | [], [], _, _, _, _, _ => True.intro
  | p :: ps, q :: qs, k, v, y, ⟨⟨e1, e2, e3⟩, h⟩, hv => by
    refine ⟨?_, imDT.rep h hv⟩
    dsimp only
    by_cases c : q.1 = k
    · have c1 : p.1 = k.ks := by rw [e1, c]
      rw [if_pos c, if_pos c1]; exact ⟨e1, hv, e3⟩
    · have c1 : ¬ p.1 = k.ks := fun z => c (Kt.inj (e1.symm.trans z))
      rw [if_neg c, if_neg c1]; exact ⟨e1, e2, e3⟩
  | [], _ :: _, _, _, _, h, _ => h.elim
  | _ :: _, [], _, _, _, h, _ => h.elim
theorem imDT.put {ps : List (List Key × V)} {qs : List (Kt × β)} {k : Kt} {v : V} {y : β} (h : imDT (G := G) H ps qs) (hv : Im.im G H v y) (hb : ∃ b, H b = some (.tup (k.ks.map kV))) : imDT (G := G) H (putK ps k.ks v) (dput qs k y) := by
  unfold putK dput
  rw [h.any k]
  split
  · exact h.rep hv
  · exact h.app (rs := [(k.ks, v)]) (ts := [(k, y)]) ⟨⟨rfl, hv, hb⟩, True.intro⟩
theorem imDT.at : ∀ {ps : List (List Key × V)} {qs : List (Kt × β)} {j : Nat} {k : List Key} {v : V} {x : Kt}, imDT (G := G) H ps qs → ps[j]? = some (k, v) → (qs.map (·.1))[j]? = some x → k = x.ks
  | p :: _, q :: _, 0, k, v, x, h, e1, e2 => by
    have e1 : p = (k, v) := by simpa using e1
    have e2 : q.1 = x := by simpa using e2
    have := h.1.1
    rw [e1, e2] at this
    exact this
  | _ :: ps, _ :: qs, j + 1, k, v, x, h, e1, e2 => imDT.at (ps := ps) (qs := qs) (j := j) h.2 (by simpa using e1) (by simpa using e2)
  | [], _, _, _, _, _, _, e1, _ => by simp at e1
  | _ :: _, [], _, _, _, _, h, _, _ => h.elim
variable {L L' : List (Asn G)} {σ : L2.St} {Q : VK} {te td ty tx : TE} {k : Kt} {a b : Addr} {xs : List (Kt × β)} {i : Nat}
end
end Ml
namespace Ml
open PySem PySem.Spec PyProof.Rows L2
end Ml
namespace L2
open PySem PySem.Spec PyProof.Rows
end L2
namespace Ml
open PySem PySem.Spec PyProof.Rows L2
end Ml
namespace L2
open PySem PySem.Spec PyProof.Rows
structure MkO (K : PySem.W.Frag) (C : Addr) : Prop where
  makes : PySem.W.makesIn K C = true
  ini : PySem.W.findIn K (.ref C) "__init__" = some (some (.builtin "object.__init__"))
  top : PySem.W.mroIn K C (.type "object") = some true
  kp : PySem.W.keepIn K (.ref C) = true
def tMakeO (C : Addr) : TE := fun _ H Q => ∀ x dx, H x = none → H dx = none → dx ≠ x → Q (.ref x) (upd (upd H dx (.own x)) x (.ins C dx []))
section
variable {X : Cx} {C : Addr} {pins : List (Addr × Obj)} {σ : St} {H : Hp} {s : Shared} {Q : VK}
theorem run_makeO (M : MkO X.K C) (I : Inv X pins σ H s) (h : ∀ x dx, H x = none → H dx = none → dx ≠ x → Q (.ref x) (upd (upd H dx (.own x)) x (.ins C dx []))) :
    wpAny (model X.prog X.w) X.A (call (.ref C) []) (EP X pins σ Q) X.xe s := by
  have hq := h (s.heap.objs.size + 1) s.heap.objs.size (I.hok.fresh (Nat.le_succ _)) (I.hok.fresh (Nat.le_refl _)) (Nat.ne_of_lt (Nat.lt_succ_self _))
  have I2 := Inv.made (C := C) I
  have ho : ((s.heap.push PySem.W.emptyDict).push (PySem.W.instObj C s.heap.objs.size)).get? (s.heap.objs.size + 1) = some (PySem.W.instObj C s.heap.objs.size) := by
    have e : (s.heap.push PySem.W.emptyDict).objs.size = s.heap.objs.size + 1 := size_push' _ _
    rw [← e]
    exact Heap.get?_push_size _ rfl
  refine wpAny_call (make_map0 I.kIn M.makes M.ini (fun self => PySem.W.Looks.of_pure (PySem.W.oi_bind self)) ?_)
  have t1 : PySem.W.Looks (model X.prog X.w) ((s.heap.push PySem.W.emptyDict).push (PySem.W.instObj C s.heap.objs.size)) (typeOf (.ref (s.heap.objs.size + 1))) (.ref C) := (PySem.W.Looks.ld ho).andThen .now
  have t2 : PySem.W.Looks (model X.prog X.w) ((s.heap.push PySem.W.emptyDict).push (PySem.W.instObj C s.heap.objs.size)) (isInstance (.ref (s.heap.objs.size + 1)) (.type "object")) true := t1.andThen (PySem.W.looks_mroIn I2.kIn M.top)
  refine codeAny_call_builtin PySem.W.oi_plain PySem.W.entry_oi (@PySem.W.check_slot (model X.prog X.w) _ _ _ "object.__init__" "object" "__init__" (.ref (s.heap.objs.size + 1)) [] [] _ PySem.W.oi_kind PySem.W.oi_split t2 (PySem.W.oi_args _) ?_)
  rw [PySem.W.oi_run]
  exact wpAny_pure ⟨rfl, V.ref (s.heap.objs.size + 1), _, I2, rfl, hq⟩
theorem pe_makeO {x : Str} {p pos : Pos} (M : MkO X.K C) (hg : Gl X x) (hm : X.mg x = some (.ref C)) (hdb : (x == ("__debug__" : Str)) = false := by decide) : PE X (.Call (.Name x p) [] [] pos) (tMakeO C) := by
  refine ⟨fun pins s σ H Q I h => ?_⟩
  refine wpAny_Call_Name_kw (ld_glob I hg hm ?_ hdb)
  exact PySem.W.callWith_K0 I.kIn M.kp (run_makeO M I h)
end
/-- the class that o has tells which def runs -/
def tMethF (fam : Nat → Bool) (cl : Nat → Addr) (m : Str) (sp : Nat → Sp) (E : XK) (ta : TE) (t : TA) : TE := fun σ H Q => ta σ H fun x H1 => ∃ i a dx fs, x = .ref a ∧ fam i = true ∧ H1 a = some (.ins (cl i) dx fs) ∧ fs.lookup m = none ∧
  t σ H1 fun vs H2 => sp i (x :: vs) H2 Q E
def Dsp (P : Program) (w : World) (K : PySem.W.Frag) (mg : Str → Option Value) (base : Heap) (CX : CXT) (k : Nat) (fam : Nat → Bool) (cl : Nat → Addr) (m : Str) (ps : List Str) (sp : Nat → Sp) : Prop :=
  ∀ i, fam i = true → ∃ f fd, Cls K (cl i) ∧ Meth K (cl i) m f ∧ Binds K fd ps [] ∧ FnOk P w K mg base CX k f fd ps (sp i)
theorem Dsp.mono {P : Program} {w : World} {K : PySem.W.Frag} {mg : Str → Option Value} {base : Heap} {CX : CXT} {j k : Nat} {fam : Nat → Bool} {cl : Nat → Addr} {m : Str} {ps : List Str} {sp : Nat → Sp} (D : Dsp P w K mg base CX j fam cl m ps sp) (h : j ≤ k) : Dsp P w K mg base CX k fam cl m ps sp := fun i hi => by
  obtain ⟨f, fd, a, b, c, F⟩ := D i hi
  exact ⟨f, fd, a, b, c, F.mono h⟩
section
variable {X : Cx} {CX : CXT} {k : Nat} {ps : List Str} {fam : Nat → Bool} {cl : Nat → Addr} {sp : Nat → Sp} {E : XK} {m : Str} {pos apos : Pos} {e o : Expr} {es : List Expr} {ta : TE} {t : TA}
theorem pe_methF {pl : Sem Bool} (he : PE X o ta) (D : Dsp X.prog X.w X.K X.mg X.base CX k fam cl m ps sp) (hr : Room k X.A) (hx : Passes CX X E) (ha : PA X (e :: es) t)
    (hst : starEach (e :: es) X.env = (false, eval e X.env) :: starEach es X.env := by rfl) (hpl : (backTo pos (starEach es X.env)).any (·.1) = false := by rfl)
    (ht : eval (.Call (.Attribute o m apos) (e :: es) [] pos) X.env = (do
      let ov ← eval o X.env
      standAt apos.atName
      let (f, first) ← holding [ov] (getMethod ov m pl)
      callWith pos f first (backTo pos (starEach (e :: es) X.env)) (backToKw pos (keywordEach [] X.env))) := by rfl) :
    PE X (.Call (.Attribute o m apos) (e :: es) [] pos) (tMethF fam cl m sp E ta t) := by
  refine ⟨fun pins s σ H Q I h => ?_⟩
  refine PySem.W.methodCall_KW (pl := pl) (thn (he.run pins s σ H _ I h) fun u s1 ⟨x, H1, I1, rx, i, a, dx, fs, ex, hf, ea, l, q⟩ => ?_) ht
  subst ex
  obtain rfl : u = Value.ref a := rx
  obtain ⟨f, fd, c, hm, hb, F⟩ := D i hf
  refine getmeth_ok I1 ea c hm l ?_
  refine PySem.W.callWith_K (first := [.ref a]) (h₀ := X.base) I.ok.mod.kin hm.kp (thn (ha.run pos pins s1 σ H1 _ I1 q) fun us s2 ⟨vs, H2, I2, r, q2⟩ => ⟨I2.kIn, ?_⟩) hst hpl
  exact run_fn (us := .ref a :: us) (vs := .ref a :: vs) (dvs := []) (ds := []) F hr hb .nil hx I2 (.cons rfl r) (by rw [List.append_nil]; exact q2)
theorem pe_methF0 {pl : Sem Bool} (he : PE X o ta) (D : Dsp X.prog X.w X.K X.mg X.base CX k fam cl m ps sp) (hr : Room k X.A) (hx : Passes CX X E)
    (ht : eval (.Call (.Attribute o m apos) [] [] pos) X.env = (do
      let ov ← eval o X.env
      standAt apos.atName
      let (f, first) ← holding [ov] (getMethod ov m pl)
      callWith pos f first (backTo pos (starEach [] X.env)) (backToKw pos (keywordEach [] X.env))) := by rfl) :
    PE X (.Call (.Attribute o m apos) [] [] pos) (tMethF fam cl m sp E ta tNil) := by
  refine ⟨fun pins s σ H Q I h => ?_⟩
  refine PySem.W.methodCall_KW (pl := pl) (thn (he.run pins s σ H _ I h) fun u s1 ⟨x, H1, I1, rx, i, a, dx, fs, ex, hf, ea, l, q⟩ => ?_) ht
  subst ex
  obtain rfl : u = Value.ref a := rx
  obtain ⟨f, fd, c, hm, hb, F⟩ := D i hf
  refine getmeth_ok I1 ea c hm l ?_
  refine PySem.W.callWith_K0 (first := [.ref a]) I1.kIn hm.kp ?_
  exact run_fn (us := [.ref a]) (vs := [.ref a]) (dvs := []) (ds := []) F hr hb .nil hx I1 (.cons rfl .nil) q
end
end L2
namespace L2
open PySem PySem.Spec PyProof.Rows
theorem fnOk_no {P : Program} {w : World} {K : PySem.W.Frag} {mg : Str → Option Value} {base : Heap} {CX : CXT} {k : Nat} {f : Addr} {fd : FuncData} {ps : List Str} {sp : Sp} (h : ∀ vs H Q E, sp vs H Q E → False) : FnOk P w K mg base CX k f fd ps sp :=
  ⟨fun vs H Q E q => (h _ _ _ _ q).elim, fun A outer s H args us vs Q E _ _ _ _ q => (h _ _ _ _ q).elim⟩
end L2
namespace Ml
open PySem PySem.Spec PyProof.Rows L2
variable {G : Gx} {σ : L2.St} {H : Hp} {L : List (Asn G)} {Q : VK} {te : TE} {t : TA}
def makeOK (C : Addr) (H : Hp) (Q : VK) : Prop := ∀ x dx, H x = none → H dx = none → dx ≠ x → Q (.ref x) (upd (upd H dx (.own x)) x (.ins C dx []))
theorem c_makeO {C : Addr} (h : makeOK C H Q) : tMakeO C σ H Q := h
theorem Sep.newI0 {C x dx : Addr} (h : Sep H L) (hx : H x = none) (hd : H dx = none) (ne : dx ≠ x) (z : G.fz C = some 0) : Sep (upd (upd H dx (.own x)) x (.ins C dx [])) L ∧ upd (upd H dx (.own x)) x (.ins C dx []) x = some (.ins C dx []) := by
  have h1 : Sep (upd H dx (.own x)) L := h.more (same_new hd)
  have hx1 : upd H dx (.own x) x = none := by rw [upd_ne (Ne.symm ne)]; exact hx
  exact ⟨h1.more (same_new hx1), upd_same⟩
def methFK (fam : Nat → Bool) (cl : Nat → Addr) (m : Str) (sp : Nat → Sp) (E : XK) (t : TA) (σ : L2.St) (Q : VK) : VK := fun x H1 => ∃ i a dx fs, x = .ref a ∧ fam i = true ∧ H1 a = some (.ins (cl i) dx fs) ∧ fs.lookup m = none ∧
  t σ H1 fun vs H2 => sp i (x :: vs) H2 Q E
theorem c_methF {fam : Nat → Bool} {cl : Nat → Addr} {m : Str} {sp : Nat → Sp} {E : XK} (h : te σ H (methFK fam cl m sp E t σ Q)) : tMethF fam cl m sp E te t σ H Q := h
def enumL {α : Type} (xs : List α) : List (Int × α) := xs.zipIdx.map fun p => ((p.2 : Int), p.1)
theorem enumL_len {α : Type} (xs : List α) : (enumL xs).length = xs.length := by unfold enumL; rw [List.length_map, List.length_zipIdx]
theorem enumL_get {α : Type} {xs : List α} {i : Nat} {x : Int × α} (h : (enumL xs)[i]? = some x) : ∃ y, xs[i]? = some y ∧ x = ((i : Int), y) := by
  unfold enumL at h
  rw [List.getElem?_map, List.getElem?_zipIdx] at h
  cases e : xs[i]? with
  | none => rw [e] at h; cases h
  | some y =>
    rw [e] at h
    refine ⟨y, rfl, ?_⟩
    have := Option.some.inj h
    simpa using this.symm
theorem wk_enum {α : Type} [Im G α] {I : L2.St → Hp → Prop} {a : Addr} {xs : List α} (h : ∀ σ H, I σ H → ∃ vs, SqL G.K H a vs ∧ imL (G := G) H vs xs) (mo : ∀ σ H H', I σ H → Same H H' → I σ H') : Wk (Ite G.K a) I (Im.im G) (enumL xs) where
  go := fun i σ H hI hi => by
    obtain ⟨vs, s, m⟩ := h σ H hI
    rw [enumL_len] at hi
    have hl : i < vs.length := by rw [m.len]; exact hi
    exact ⟨vs, vs[i], s, List.getElem?_eq_getElem hl⟩
  yl := fun i σ H v H' x hI hx y => by
    obtain ⟨vs, s, m⟩ := h σ H hI
    obtain ⟨T, u, rfl, hT, rfl, y⟩ := y
    obtain ⟨z, hz, rfl⟩ := enumL_get hx
    obtain ⟨u', hu, im⟩ := m.get hz
    have e := y vs s
    rw [hu] at e
    cases e
    exact ⟨mo σ H _ hI (same_new hT), T, .int (i : Nat), _, rfl, upd_same, rfl, Im.st im (.of_same (same_new hT))⟩
  sp := fun σ H hI => by
    obtain ⟨vs, s, m⟩ := h σ H hI
    exact ⟨vs, s, by rw [enumL_len, m.len]; exact Nat.le_refl _⟩
def enK (K : PySem.W.Frag) (R : It → Hp → Prop) : List V → Hp → Prop := fun vs H1 => ∃ a xs, vs = [.ref a] ∧ SqL K H1 a xs ∧ R (Ite K a) H1
theorem c_enum {K : PySem.W.Frag} {ta : TA} {R : It → Hp → Prop} (h : ta σ H (enK K R)) : iEnum K ta σ H R := h
theorem k_enum {α : Type} [Im G α] {a : Addr} {xs : List α} {R : It → Hp → Prop} (hq : ∃ vs, SqL G.K H a vs ∧ imL (G := G) H vs xs) (k : R (Ite G.K a) H) : enK G.K R [.ref a] H := by
  obtain ⟨vs, h, m⟩ := hq
  exact ⟨a, vs, rfl, h, k⟩
theorem pi_enumK {X : Cx} {e : Expr} {ta : TA} {p pos tpos : Pos} {elts : List Expr} {kk : Nat} (K : PySem.W.Frag) (hg : Gl X "enumerate") (hm : X.mg "enumerate" = none) (ha : PA X [e] ta) (hK : X.K = K := by rfl) (hs : starEach [e] X.env = [(false, eval e X.env)] := by rfl) :
    PI X (.Tuple elts kk tpos) (.Call (.Name "enumerate" p) [e] [] pos) (iEnum K ta) := by subst hK; exact pi_enum hg hm ha hs
end Ml
namespace Ml
open PySem PySem.Spec PyProof.Rows L2
variable {G : Gx} {σ : L2.St} {H : Hp} {L L' : List (Asn G)} {Q : VK} {te : TE} {D : Ends}
section
variable {τ ρ : Type}
def whileN : Nat → (τ → Bool) → (τ → R τ) → τ → R τ
  | 0, _, _, _ => .bad
  | n + 1, c, f, s => if c s = true then (f s).bind (whileN n c f) else .ok s
theorem k_whileN {n : Nat} {c : τ → Bool} {f : τ → R τ} {s : τ} {rest : τ → R ρ} {q : ρ → Prop} {e : Exc → Prop} {tc : TT} {tb : TS} (I : τ → L2.St → Hp → Prop) (h0 : I s σ H) (hm : R.wp ((whileN n c f s).bind rest) q e)
    (test : ∀ s σ H, I s σ H → Et tc σ H (c s))
    (turn : ∀ s σ H (q' : τ → Prop) (N : L2.St → Hp → Prop), I s σ H → R.wp (f s) q' e → (∀ s' σ' H', q' s' → I s' σ' H' → N σ' H') → tb (loopD D N D.nx) σ H)
    (done : ∀ s σ H, R.wp (rest s) q e → I s σ H → D.nx σ H) : tWhile tc tb D σ H := by
  refine ⟨fun m σ H => ∃ s, I s σ H ∧ R.wp (whileN m c f s) (fun s => R.wp (rest s) q e) e, ⟨n, s, h0, R.wp_bind hm⟩, ?_⟩
  rintro m σ H ⟨s, hI, hw⟩
  cases m with
  | zero => exact hw.elim
  | succ m =>
    refine test s σ H hI _ ?_
    unfold whileN at hw
    cases h : c s with
    | false =>
      rw [h, if_neg Bool.false_ne_true] at hw
      rw [if_neg Bool.false_ne_true]
      exact done s σ H hw hI
    | true =>
      rw [h, if_pos rfl] at hw
      rw [if_pos rfl]
      exact ⟨fun σ' H' => ∃ s', I s' σ' H' ∧ R.wp (whileN m c f s') (fun s => R.wp (rest s) q e) e, fun σ' H' z => ⟨m, Nat.lt_succ_self _, z⟩,
        turn s σ H _ _ hI (R.wp_bind hw) fun s' σ' H' h1 h2 => ⟨s', h2, h1⟩⟩
end
def itK (K : PySem.W.Frag) (R : It → Hp → Prop) : VK := fun x H1 => ∃ a, x = .ref a ∧ (∃ xs, SqT K H1 a xs) ∧ R (Itt K a) H1
theorem R.wp_ifY {α : Type} {c : Prop} [Decidable c] {a b : R α} {q : α → Prop} {e : Exc → Prop} (h : R.wp (if c then a else b) q e) (x : c) : R.wp a q e := (R.wp_if h).1 x
theorem R.wp_ifN {α : Type} {c : Prop} [Decidable c] {a b : R α} {q : α → Prop} {e : Exc → Prop} (h : R.wp (if c then a else b) q e) (x : ¬ c) : R.wp b q e := (R.wp_if h).2 x
theorem len62 {n : Nat} (h : n ≤ sizeLine) : -(2 ^ 62) ≤ (n : Int) ∧ (n : Int) < 2 ^ 62 := by
  have : sizeLine < 2 ^ 62 := by decide
  exact ⟨by omega, by omega⟩
theorem c_it {K : PySem.W.Frag} {R : It → Hp → Prop} (h : te σ H (itK K R)) : iTup K te σ H R := h
theorem k_itA {a : Addr} {xs : List Any} {R : It → Hp → Prop} (h : Im.im G H (.ref a) (Any.tup xs)) (k : R (Itt G.K a) H) : itK G.K R (.ref a) H := by
  obtain ⟨b, vs, e, g, m⟩ := any_tup.mp h
  cases e
  exact ⟨a, rfl, ⟨vs, SqT.of g⟩, k⟩
theorem any_addr {v : V} {xs : List Any} (h : Im.im G H v (Any.tup xs)) : ∃ a, v = .ref a := by
  obtain ⟨a, vs, e, _⟩ := any_tup.mp h
  exact ⟨a, e⟩
theorem wk_tupA {I : L2.St → Hp → Prop} {a : Addr} {xs : List Any} (f : ∀ σ H, I σ H → Im.im G H (.ref a) (Any.tup xs)) : Wk (Itt G.K a) I (Im.im G) xs where
  go := fun i σ H h hi => by
    obtain ⟨b, vs, e, g, m⟩ := any_tup.mp (f σ H h)
    cases e
    have hl : i < vs.length := by rw [m.len]; exact hi
    exact ⟨vs, vs[i], SqT.of g, List.getElem?_eq_getElem hl⟩
  yl := fun i σ H v H' x h hx y => by
    obtain ⟨b, vs, e, g, m⟩ := any_tup.mp (f σ H h)
    cases e
    obtain ⟨rfl, y⟩ := y
    obtain ⟨u, hu, im⟩ := m.get hx
    have e := y vs (SqT.of g)
    rw [hu] at e; cases e
    exact ⟨h, im⟩
  sp := fun σ H h => by
    obtain ⟨b, vs, e, g, m⟩ := any_tup.mp (f σ H h)
    cases e
    exact ⟨vs, SqT.of g, by rw [m.len]; exact Nat.le_refl _⟩
theorem pi_tupK {X : Cx} {tg l : Expr} {tl : TE} (K : PySem.W.Frag) (hl : PE X l tl) (hK : X.K = K := by rfl) : PI X tg l (iTup K tl) := by subst hK; exact pi_tup hl
section
variable {κ β : Type} [DecidableEq κ] [Kx κ] [Im G β]
def dispEnd (p : Addr) (Q : VK) : List (V × V) → Hp → Prop := fun ps H2 => H2 p = some (.dK []) ∧ ∃ kvs : List (Key × V), ps = kvs.map (fun kv => (kV kv.1, kv.2)) ∧ kvs.length ≤ 15 ∧ Q (.ref p) (upd H2 p (.dK (mergeK [] kvs)))
def dispK (trs : List (TE × TE)) (σ : L2.St) (H : Hp) (Q : VK) : Prop := ∀ p, H p = none → tPairs trs σ (upd H p (.dK [])) (dispEnd p Q)
theorem c_disp {trs : List (TE × TE)} (h : dispK trs σ H Q) : tDisp trs σ H Q := h
def prK2 (x : V) (r : List (TE × TE)) (σ : L2.St) (Z : List (V × V) → Hp → Prop) : VK := fun y H2 => tPairs r σ H2 fun ps H3 => Z ((x, y) :: ps) H3
def prK1 (tv : TE) (r : List (TE × TE)) (σ : L2.St) (Z : List (V × V) → Hp → Prop) : VK := fun x H1 => tv σ H1 (prK2 x r σ Z)
theorem pr_cons {tk tv : TE} {r : List (TE × TE)} {Z : List (V × V) → Hp → Prop} (h : tk σ H (prK1 tv r σ Z)) : tPairs ((tk, tv) :: r) σ H Z := h
theorem pr_1 {tv : TE} {r : List (TE × TE)} {Z : List (V × V) → Hp → Prop} {x : V} (h : tv σ H (prK2 x r σ Z)) : prK1 tv r σ Z x H := h
theorem pr_2 {r : List (TE × TE)} {Z : List (V × V) → Hp → Prop} {x y : V} (h : tPairs r σ H fun ps H3 => Z ((x, y) :: ps) H3) : prK2 x r σ Z y H := h
theorem pr_nil {Z : List (V × V) → Hp → Prop} (h : Z [] H) : tPairs [] σ H Z := h
theorem k_disp {trs : List (TE × TE)} (hS : Sep H L) (k : ∀ p H', Sep H' (dictA p ([] : List (κ × β)) :: L) → tPairs trs σ H' (dispEnd p Q)) : dispK trs σ H Q := fun p np => k p _ (hS.newD np)
def mergeD (kvs more : List (κ × β)) : List (κ × β) := more.foldl (fun acc kv => dput acc kv.1 kv.2) kvs
theorem imD.merge : ∀ {ps : List (Key × V)} {qs : List (κ × β)} {as : List (Key × V)} {bs : List (κ × β)}, imD (G := G) H ps qs → imD (G := G) H as bs → imD (G := G) H (mergeK as ps) (mergeD bs qs)
  | [], [], _, _, _, h => h
  | p :: ps, q :: qs, as, bs, ⟨⟨e1, e2⟩, h⟩, k => by
    show imD H (mergeK (putK as p.1 p.2) ps) (mergeD (dput bs q.1 q.2) qs)
    rw [e1]
    exact imD.merge h (k.put e2)
  | [], _ :: _, _, _, h, _ => h.elim
  | _ :: _, [], _, _, h, _ => h.elim
theorem k_dispEnd {i : Nat} {p : Addr} {ps : List (V × V)} {kvs : List (Key × V)} {qs : List (κ × β)} (hS : Sep H L) (e : L[i]? = some (dictA p ([] : List (κ × β)))) (ep : ps = kvs.map fun kv => (kV kv.1, kv.2)) (m : imD (G := G) H kvs qs) (few : kvs.length ≤ 15)
    (e2 : L.set i (dictA p (mergeD [] qs)) = L') (k : ∀ H', Sep H' L' → Q (.ref p) H') : dispEnd p Q ps H := by
  obtain ⟨us, h0, mu⟩ := hS.dict e
  have eu : us = [] := List.length_eq_zero_iff.mp (mu.len)
  subst eu
  refine ⟨h0, kvs, ep, few, k _ ?_⟩
  subst e2
  exact hS.putD e (m.merge (as := []) (bs := []) True.intro)
end
end Ml
namespace Ml
open PySem PySem.Spec PyProof.Rows L2
variable {G : Gx} {σ : L2.St} {H : Hp} {L L' : List (Asn G)} {Q : VK} {te : TE} {D : Ends}
structure InsC (K : PySem.W.Frag) (C D : Addr) : Prop where
  cl : Cls K C
  ha : PySem.W.findIn K (.ref C) "__class__" = some (some (.builtin "object.__class__"))
  hn : PySem.W.specialIn K (.builtin "object.__class__") "__get__" = some (some (.builtin "getset_descriptor.__get__"))
  ht : PySem.W.takesIn K (.builtin "object.__class__") = some true
  hm : PySem.W.mroIn K C (.type "object") = some true
  kit : PySem.W.kitOne K (.ref C) (.ref D) = some true
theorem ev_isD {a C D dx : Addr} {fs : List (Str × V)} {ta tb : TE} (ha : Ev ta σ H (.ref a)) (hb : Ev tb σ H (.ref D)) (h : H a = some (.ins C dx fs)) (F : InsC G.K C D) :
    Ev (tCB (rIsi G.K) (tCons ta (tCons tb tNil))) σ H (.bl true) :=
  ev_cb (ea_cons ha (ea_cons hb ea_nil)) fun Q q => ⟨.ref a, .ref D, _, _, true, rfl, .own D, .base (.ins h F.cl F.ha F.hn F.ht F.hm), F.kit, q⟩
theorem any_of_cls {P : Addr → List (Str × V) → Prop} {R : Addr → List (Str × V) → Prop} (h : ∃ dx fs, P dx fs ∧ R dx fs) : ∃ dx fs, P dx fs := by
  obtain ⟨a, b, c, _⟩ := h; exact ⟨a, b, c⟩
end Ml
namespace Lw
open PySem L2 Ml
structure Anything where

  deriving DecidableEq
structure HasWord where
  word : Str
  deriving DecidableEq
structure InTitle where
  word : Str
  deriving DecidableEq
structure FromSender where
  word : Str
  deriving DecidableEq
structure InFolder where
  word : Str
  deriving DecidableEq
structure IsMarked where
  word : Str
  deriving DecidableEq
structure OnDays where
  low : Int
  high : Int
  deriving DecidableEq
structure IsAnswer where

  deriving DecidableEq
structure Letter where
  sender : Str
  title : Str
  body : Str
  day : Int
  answers : Str
  deriving DecidableEq
structure Card where
  letter : Letter
  box : Str
  signs : (List Str)
  deriving DecidableEq
inductive Cond where
  | Anything
  | HasWord (word : Str)
  | InTitle (word : Str)
  | FromSender (word : Str)
  | InFolder (word : Str)
  | IsMarked (word : Str)
  | OnDays (low : Int) (high : Int)
  | IsAnswer
  | NotSo (inner : Cond)
  | InThread (inner : Cond)
  | BothSo (first : Cond) (second : Cond)
  | EitherSo (first : Cond) (second : Cond)
def Cond.cls : Cond → Nat
  | .Anything => 1
  | .HasWord .. => 2
  | .InTitle .. => 3
  | .FromSender .. => 4
  | .InFolder .. => 5
  | .IsMarked .. => 6
  | .OnDays .. => 7
  | .IsAnswer => 8
  | .NotSo .. => 9
  | .InThread .. => 10
  | .BothSo .. => 11
  | .EitherSo .. => 12
structure NotSo where
  inner : Cond
structure InThread where
  inner : Cond
structure BothSo where
  first : Cond
  second : Cond
structure EitherSo where
  first : Cond
  second : Cond
def m_Anything_holds (v_self : Anything) (v_card : Card) (v_others : (List Card)) : R Bool :=
R.ok (true)
def m_Anything_tree (v_self : Anything) : R Any :=
R.ok ((Any.tup [(Any.str ("any" : Str))]))
def m_OfWord___init___HasWord (v_word : Str) : R HasWord :=
R.ok ((⟨v_word⟩ : HasWord))
def m_OfWord___init___InTitle (v_word : Str) : R InTitle :=
R.ok ((⟨v_word⟩ : InTitle))
def m_OfWord___init___FromSender (v_word : Str) : R FromSender :=
R.ok ((⟨v_word⟩ : FromSender))
def m_OfWord___init___InFolder (v_word : Str) : R InFolder :=
R.ok ((⟨v_word⟩ : InFolder))
def m_OfWord___init___IsMarked (v_word : Str) : R IsMarked :=
R.ok ((⟨v_word⟩ : IsMarked))
def m_OfWord_sign_HasWord (v_self : HasWord) : R Str :=
R.ok (("word" : Str))
def m_OfWord_tree_HasWord (v_self : HasWord) : R Any :=
(m_OfWord_sign_HasWord v_self).bind fun r3 =>
R.ok ((Any.tup [(Any.str r3), (Any.str v_self.word)]))
def m_InTitle_sign (v_self : InTitle) : R Str :=
R.ok (("title" : Str))
def m_FromSender_sign (v_self : FromSender) : R Str :=
R.ok (("from" : Str))
def m_FromSender_holds (v_self : FromSender) (v_card : Card) (v_others : (List Card)) : R Bool :=
R.ok (decide (v_card.letter.sender = v_self.word))
def m_InFolder_sign (v_self : InFolder) : R Str :=
R.ok (("in" : Str))
def m_InFolder_holds (v_self : InFolder) (v_card : Card) (v_others : (List Card)) : R Bool :=
R.ok (decide (v_card.box = v_self.word))
def m_IsMarked_sign (v_self : IsMarked) : R Str :=
R.ok (("marked" : Str))
def m_IsMarked_holds (v_self : IsMarked) (v_card : Card) (v_others : (List Card)) : R Bool :=
R.ok (decide (v_self.word ∈ v_card.signs))
def m_OnDays___init__ (v_low : Int) (v_high : Int) : R OnDays :=
R.ok ((⟨v_low, v_high⟩ : OnDays))
def m_OnDays_holds (v_self : OnDays) (v_card : Card) (v_others : (List Card)) : R Bool :=
R.ok (decide (v_self.low ≤ v_card.letter.day) && decide (v_card.letter.day ≤ v_self.high))
def m_OnDays_tree (v_self : OnDays) : R Any :=
R.ok ((Any.tup [(Any.str ("day" : Str)), (Any.int v_self.low), (Any.int v_self.high)]))
def m_IsAnswer_holds (v_self : IsAnswer) (v_card : Card) (v_others : (List Card)) : R Bool :=
R.ok (!decide (v_card.letter.answers = ("" : Str)))
def m_IsAnswer_tree (v_self : IsAnswer) : R Any :=
R.ok ((Any.tup [(Any.str ("answers" : Str))]))
def m_OfOne___init___NotSo (v_inner : Cond) : R NotSo :=
R.ok ((⟨v_inner⟩ : NotSo))
def m_OfOne___init___InThread (v_inner : Cond) : R InThread :=
R.ok ((⟨v_inner⟩ : InThread))
def m_OfOne_sign_NotSo (v_self : NotSo) : R Str :=
R.ok (("not" : Str))
def m_OfOne_tree_NotSo (m_Cond_tree : Cond → R Any) (v_self : NotSo) : R Any :=
(m_OfOne_sign_NotSo v_self).bind fun r3 =>
(m_Cond_tree v_self.inner).bind fun r14 =>
R.ok ((Any.tup [(Any.str r3), r14]))
def m_NotSo_holds (m_Cond_holds : Cond → Card → (List Card) → R Bool) (v_self : NotSo) (v_card : Card) (v_others : (List Card)) : R Bool :=
(m_Cond_holds v_self.inner v_card v_others).bind fun r11 =>
R.ok (!r11)
def m_InThread_sign (v_self : InThread) : R Str :=
R.ok (("thread" : Str))
def m_InThread_holds (m_Cond_holds : Cond → Card → (List Card) → R Bool) (v_self : InThread) (v_card : Card) (v_others : (List Card)) : R Bool :=
(forF (ρ := Bool) (fun (s1 : Unit) (x2 : (Int × Card)) =>
R.need (([v_card]).length + (cutL v_others none (some (x2.1))).length ≤ sizeLine) <|
R.need ((([v_card]) ++ (cutL v_others none (some (x2.1)))).length + (cutL v_others (some (x2.1 + 1)) none).length ≤ sizeLine) <|
(m_Cond_holds v_self.inner x2.2 ((([v_card]) ++ (cutL v_others none (some (x2.1)))) ++ (cutL v_others (some (x2.1 + 1)) none))).bind fun r33 =>
if r33 = true then (
R.ok (.out (true))) else (
R.ok (.go ()))) (enumL v_others) ()).bind (contF (fun (s1 : Unit) =>
R.ok (false)) (fun o35 => .ok o35))
def m_OfTwo___init___BothSo (v_first : Cond) (v_second : Cond) : R BothSo :=
R.ok ((⟨v_first, v_second⟩ : BothSo))
def m_OfTwo___init___EitherSo (v_first : Cond) (v_second : Cond) : R EitherSo :=
R.ok ((⟨v_first, v_second⟩ : EitherSo))
def m_OfTwo_sign_BothSo (v_self : BothSo) : R ((Str × Str)) :=
R.ok ((("and" : Str), ("both" : Str)))
def m_OfTwo_tree_BothSo (m_Cond_tree : Cond → R Any) (v_self : BothSo) : R Any :=
(m_OfTwo_sign_BothSo v_self).bind fun r3 =>
(m_Cond_tree v_self.first).bind fun r23 =>
(m_Cond_tree v_self.second).bind fun r38 =>
R.ok ((Any.tup [(Any.str r3.2), r23, r38]))
def m_BothSo_holds (m_Cond_holds : Cond → Card → (List Card) → R Bool) (v_self : BothSo) (v_card : Card) (v_others : (List Card)) : R Bool :=
(m_Cond_holds v_self.first v_card v_others).bind fun r13 =>
(if r13 = true then (
(m_Cond_holds v_self.second v_card v_others).bind fun r27 =>
R.ok (r27)) else R.ok false).bind fun b14 =>
R.ok (b14)
def m_EitherSo_sign (v_self : EitherSo) : R ((Str × Str)) :=
R.ok ((("or" : Str), ("either" : Str)))
def m_EitherSo_holds (m_Cond_holds : Cond → Card → (List Card) → R Bool) (v_self : EitherSo) (v_card : Card) (v_others : (List Card)) : R Bool :=
(m_Cond_holds v_self.first v_card v_others).bind fun r13 =>
(if r13 = true then R.ok true else (
(m_Cond_holds v_self.second v_card v_others).bind fun r27 =>
R.ok (r27))).bind fun b14 =>
R.ok (b14)
def m_of_word (v_sign : Str) (v_word : Str) : R Cond :=
if (decide (v_sign = ("word" : Str))) = true then (
(m_OfWord___init___HasWord v_word).bind fun r4 =>
R.ok ((Cond.HasWord r4.word))) else (
if (decide (v_sign = ("title" : Str))) = true then (
(m_OfWord___init___InTitle v_word).bind fun r10 =>
R.ok ((Cond.InTitle r10.word))) else (
if (decide (v_sign = ("from" : Str))) = true then (
(m_OfWord___init___FromSender v_word).bind fun r16 =>
R.ok ((Cond.FromSender r16.word))) else (
if (decide (v_sign = ("in" : Str))) = true then (
(m_OfWord___init___InFolder v_word).bind fun r22 =>
R.ok ((Cond.InFolder r22.word))) else (
if (decide (v_sign = ("marked" : Str))) = true then (
(m_OfWord___init___IsMarked v_word).bind fun r28 =>
R.ok ((Cond.IsMarked r28.word))) else (
.bad)))))
def m_condition_of_b (m_condition_of : Any → R Cond) (v_tree : Any) : R Cond :=
(Any.asTup v_tree).bind fun xs1 =>
(idxR xs1 (0)).bind fun x3 =>
(eqA x3 (Any.str ("any" : Str))).bind fun b12 =>
if b12 = true then (
R.ok ((Cond.Anything))) else (
(Any.asTup v_tree).bind fun xs18 =>
(idxR xs18 (0)).bind fun x20 =>
(eqA x20 (Any.str ("answers" : Str))).bind fun b29 =>
if b29 = true then (
R.ok ((Cond.IsAnswer))) else (
(Any.asTup v_tree).bind fun xs35 =>
(idxR xs35 (0)).bind fun x37 =>
(eqA x37 (Any.str ("day" : Str))).bind fun b46 =>
if b46 = true then (
(Any.asTup v_tree).bind fun xs48 =>
(idxR xs48 (1)).bind fun x50 =>
(Any.asTup v_tree).bind fun xs59 =>
(idxR xs59 (2)).bind fun x61 =>
(Any.asInt x50).bind fun s74 =>
(Any.asInt x61).bind fun s77 =>
(m_OnDays___init__ s74 s77).bind fun r80 =>
R.ok ((Cond.OnDays r80.low r80.high))) else (
(Any.asTup v_tree).bind fun xs83 =>
(idxR xs83 (0)).bind fun x85 =>
(eqA x85 (Any.str ("not" : Str))).bind fun b94 =>
if b94 = true then (
(Any.asTup v_tree).bind fun xs96 =>
(idxR xs96 (1)).bind fun x98 =>
(m_condition_of x98).bind fun r108 =>
(m_OfOne___init___NotSo r108).bind fun r113 =>
R.ok ((Cond.NotSo r113.inner))) else (
(Any.asTup v_tree).bind fun xs116 =>
(idxR xs116 (0)).bind fun x118 =>
(eqA x118 (Any.str ("thread" : Str))).bind fun b127 =>
if b127 = true then (
(Any.asTup v_tree).bind fun xs129 =>
(idxR xs129 (1)).bind fun x131 =>
(m_condition_of x131).bind fun r141 =>
(m_OfOne___init___InThread r141).bind fun r146 =>
R.ok ((Cond.InThread r146.inner))) else (
(Any.asTup v_tree).bind fun xs149 =>
(idxR xs149 (0)).bind fun x151 =>
(eqA x151 (Any.str ("both" : Str))).bind fun b160 =>
if b160 = true then (
(Any.asTup v_tree).bind fun xs162 =>
(idxR xs162 (1)).bind fun x164 =>
(m_condition_of x164).bind fun r174 =>
(Any.asTup v_tree).bind fun xs177 =>
(idxR xs177 (2)).bind fun x179 =>
(m_condition_of x179).bind fun r189 =>
(m_OfTwo___init___BothSo r174 r189).bind fun r194 =>
R.ok ((Cond.BothSo r194.first r194.second))) else (
(Any.asTup v_tree).bind fun xs197 =>
(idxR xs197 (0)).bind fun x199 =>
(eqA x199 (Any.str ("either" : Str))).bind fun b208 =>
if b208 = true then (
(Any.asTup v_tree).bind fun xs210 =>
(idxR xs210 (1)).bind fun x212 =>
(m_condition_of x212).bind fun r222 =>
(Any.asTup v_tree).bind fun xs225 =>
(idxR xs225 (2)).bind fun x227 =>
(m_condition_of x227).bind fun r237 =>
(m_OfTwo___init___EitherSo r222 r237).bind fun r242 =>
R.ok ((Cond.EitherSo r242.first r242.second))) else (
(Any.asTup v_tree).bind fun xs245 =>
(idxR xs245 (0)).bind fun x247 =>
(Any.asTup v_tree).bind fun xs256 =>
(idxR xs256 (1)).bind fun x258 =>
(Any.asStr x247).bind fun s269 =>
(Any.asStr x258).bind fun s272 =>
(m_of_word s269 s272).bind fun r275 =>
R.ok (r275))))))))
def m_condition_of : Nat → Any → R Cond
  | 0 => fun _ => .bad
  | n + 1 => m_condition_of_b (m_condition_of n)
def m_Card___init__ (v_letter : Letter) (v_folder : Str) (v_marks : Any) : R Card :=
(if (Any.isN v_marks) = true then (
R.ok ((Any.lst (([] : (List Str)).map Any.str)))) else (
R.ok (v_marks))).bind fun (s1 : Any) =>
(Any.asStrs s1).bind fun ss9 =>
R.need (ss9.length < 64) <|
R.ok ((⟨v_letter, v_folder, ssetT ss9⟩ : Card))
def m_is_sign (v_sign : Nat) : R Bool :=
R.ok ((decide (v_sign ∈ (("abcdefghijklmnopqrstuvwxyz" : Str)).cps.toList)) || (decide (v_sign ∈ (("0123456789" : Str)).cps.toList)))
def m_is_word (v_thing : Any) : R Bool :=
(if (!(v_thing.is "str")) = true then R.ok true else (
(lenA v_thing).bind fun n2 =>
R.ok (!(decide (1 ≤ n2) && decide (n2 ≤ 20))))).bind fun b1 =>
if b1 = true then (
R.ok (false)) else (
(Any.asStr v_thing).bind fun s4 =>
R.need (((s4).cps.toList).length ≤ sizeLine) <|
(compR (fun (_ : Unit) (x9 : Nat) =>
(m_is_sign x9).bind fun r12 =>
R.ok ((), some (r12))) ((s4).cps.toList) ()).bind fun (t13 : Unit × List Bool) =>
R.ok (t13.2.all id))
def m_words_of (v_text : Str) : R ((List Str)) :=
R.need ((v_text).length ≤ 5592405) <|
R.need ((Txt.lower v_text).length + ((" " : Str)).length ≤ sizeLine) <|
(forR (fun (s4 : (List Str) × Str) (x5 : Nat) =>
(m_is_sign x5).bind fun r8 =>
(if r8 = true then (
R.need ((s4.2).length + (sg (x5)).length ≤ sizeLine) <|
(R.ok (s4.2 ++ (sg (x5)) : Str)).bind fun y11 =>
R.ok (s4.1, y11)) else (
(if (!decide (s4.2 = ("" : Str))) = true then (
R.need (s4.1.length < sizeLine) <|
R.ok (s4.1 ++ [s4.2], ("" : Str))) else (
R.ok (s4.1, s4.2))).bind fun (s12 : (List Str) × Str) =>
R.ok (s12.1, s12.2))).bind fun (s9 : (List Str) × Str) =>
R.ok (s9.1, s9.2)) (((Txt.lower v_text) ++ (" " : Str)).cps.toList) (([] : (List Str)), ("" : Str))).bind fun (s4 : (List Str) × Str) =>
R.ok (s4.1)
def m_each_once (v_row : (List Str)) : R ((List Str)) :=
(forR (fun (s2 : (List (Str × Bool))) (x3 : Str) =>
R.need (s2.length < sizeLine) <|
R.ok (if dhas s2 x3 then s2 else dput s2 x3 true)) (v_row) (([] : (List (Str × Bool))))).bind fun (s2 : (List (Str × Bool))) =>
R.ok (s2.map (·.1))
def m_is_text (v_thing : Any) (v_most : Int) : R Bool :=
(if (v_thing.is "str") = true then (
(lenA v_thing).bind fun n2 =>
R.ok (decide (n2 ≤ v_most))) else R.ok false).bind fun b1 =>
R.ok (b1)
def m_is_day (v_thing : Any) : R Bool :=
(if (v_thing.is "int") = true then (
(if (!(v_thing.is "bool")) = true then (
(Any.asInt v_thing).bind fun s3 =>
R.ok (decide (0 ≤ s3) && decide (s3 ≤ 9999))) else R.ok false).bind fun b2 =>
R.ok (b2)) else R.ok false).bind fun b1 =>
R.ok (b1)
def m_Letter___init__ (v_sender : Any) (v_title : Any) (v_body : Any) (v_day : Any) (v_answers : Any) : R Letter :=
(R.noexc (m_is_word v_sender)).bind fun r1 =>
(if (!r1) = true then R.ok true else (
(R.noexc (m_is_text v_title 60)).bind fun r3 =>
(if (!r3) = true then R.ok true else (
(Any.asStr v_title).bind fun s5 =>
R.ok (decide (10 ∈ (s5).cps.toList)))).bind fun b4 =>
R.ok (b4))).bind fun b2 =>
if b2 = true then (
.exc ⟨15, 0⟩) else (
(R.noexc (m_is_text v_body 400)).bind fun r9 =>
(if (!r9) = true then R.ok true else (
(R.noexc (m_is_day v_day)).bind fun r11 =>
R.ok (!r11))).bind fun b10 =>
if b10 = true then (
.exc ⟨15, 0⟩) else (
(eqA v_answers (Any.str ("" : Str))).bind fun b13 =>
(if (!b13) = true then (
(R.noexc (m_is_word v_answers)).bind fun r15 =>
R.ok (!r15)) else R.ok false).bind fun b14 =>
if b14 = true then (
.exc ⟨15, 0⟩) else (
(Any.asStr v_sender).bind fun s17 =>
(Any.asStr v_title).bind fun s20 =>
(Any.asStr v_body).bind fun s23 =>
(Any.asInt v_day).bind fun s26 =>
(Any.asStr v_answers).bind fun s29 =>
R.ok ((⟨s17, s20, s23, s26, s29⟩ : Letter)))))
def m_Letter_parts (v_self : Letter) : R ((T5 Str Str Str Int Str)) :=
R.ok ((⟨v_self.sender, v_self.title, v_self.body, v_self.day, v_self.answers⟩ : T5 _ _ _ _ _))
def m_Letter_title_words (v_self : Letter) : R ((List Str)) :=
(m_words_of v_self.title).bind fun r3 =>
(m_each_once r3).bind fun r5 =>
R.ok (r5)
def m_Letter_words (v_self : Letter) : R ((List Str)) :=
(m_words_of v_self.title).bind fun r3 =>
(m_words_of v_self.body).bind fun r7 =>
R.need (r3.length + r7.length ≤ sizeLine) <|
(m_each_once (r3 ++ r7)).bind fun r11 =>
R.ok (r11)
def m_law_cell_at (v_law_script : Script) (v_law_k : Int) : R Int :=
if (decide (v_law_k < (v_law_script.ns.length : Int))) = true then (
(idxR v_law_script.ns (v_law_k)).bind fun x2 =>
R.ok (x2)) else (
R.ok (0))
def m_law_mixed (v_law_script : Script) (v_law_start : Int) (v_law_many : Int) : R ((List Int)) :=
R.need (-(2 ^ 62) ≤ v_law_many ∧ v_law_many < 2 ^ 62) <|
(forR (fun (s3 : (List Int) × Int) (x4 : Int) =>
(m_law_cell_at v_law_script (v_law_start + x4)).bind fun r7 =>
(R.ok (((((s3.2 * 48271) + r7) + (31 * x4)) + 1) % 2147483647 : Int)).bind fun y8 =>
R.need (mulOk (y8) (y8)) <|
R.need (s3.1.length < sizeLine) <|
R.ok (s3.1 ++ [(y8 * y8) % 2147483629], y8)) (rngL 0 (v_law_many).toNat) (([] : (List Int)), 7)).bind fun (s3 : (List Int) × Int) =>
R.ok (s3.1)
def m_law_word_by (v_law_shape : Int) (v_law_k : Int) : R Str :=
if (decide ((v_law_shape % 4) = 1)) = true then (
(R.ok ([("and" : Str), ("or" : Str), ("not" : Str), ("then" : Str), ("if" : Str), ("thread" : Str), ("to" : Str), ("any" : Str), ("day" : Str), ("stop" : Str), ("place" : Str), ("answers" : Str)] : (List Str))).bind fun y3 =>
R.need (y3.length + ([("before" : Str), ("after" : Str), ("word" : Str), ("title" : Str), ("from" : Str), ("in" : Str), ("marked" : Str), ("mark" : Str), ("unmark" : Str)]).length ≤ sizeLine) <|
(R.ok (y3 ++ ([("before" : Str), ("after" : Str), ("word" : Str), ("title" : Str), ("from" : Str), ("in" : Str), ("marked" : Str), ("mark" : Str), ("unmark" : Str)]) : (List Str))).bind fun y7 =>
(idxR y7 (((v_law_shape / 4) + (5 * v_law_k)) % 21)).bind fun x8 =>
R.ok (x8)) else (
(R.ok ((v_law_shape / 4) % 6 : Int)).bind fun y9 =>
R.need (0 < (20 - y9)) <|
R.need (-(2 ^ 62) ≤ ((y9 + 1) + ((v_law_shape / 24) % (20 - y9))) ∧ ((y9 + 1) + ((v_law_shape / 24) % (20 - y9))) < 2 ^ 62) <|
(forR (fun (s12 : Str) (x13 : Int) =>
(if (decide (x13 = y9)) = true then (
(idxR (("abcde1" : Str)).cps.toList (v_law_k)).bind fun c17 =>
R.need ((s12).length + (sg (c17)).length ≤ sizeLine) <|
(R.ok (s12 ++ (sg (c17)) : Str)).bind fun y19 =>
R.ok (y19)) else (
(idxR (("abcdefghijklmnopqrstuvwxyz0123456789" : Str)).cps.toList (((v_law_shape / 500) + (7 * x13)) % 36)).bind fun c20 =>
R.need ((s12).length + (sg (c20)).length ≤ sizeLine) <|
(R.ok (s12 ++ (sg (c20)) : Str)).bind fun y22 =>
R.ok (y22))).bind fun (s16 : Str) =>
R.ok (s16)) (rngL 0 ((y9 + 1) + ((v_law_shape / 24) % (20 - y9))).toNat) (("" : Str))).bind fun (s12 : Str) =>
R.ok (s12))
def m_law_text_by (v_law_shape : Int) (v_law_cells : (List Int)) : R Str :=
(forR (fun (s1 : Str) (x2 : Int) =>
(m_law_word_by v_law_shape (x2 % 5)).bind fun r6 =>
(if (decide (((x2 / 5) % 3) = 1)) = true then (
R.need ((r6).length ≤ 5592405) <|
(R.ok (Txt.upper r6 : Str)).bind fun y9 =>
R.ok (y9)) else (
R.ok (r6))).bind fun (s7 : Str) =>
(idxR ([("" : Str), (" " : Str), ("!" : Str), ("(" : Str)]) ((x2 / 15) % 4)).bind fun x11 =>
R.need ((s1).length + (x11).length ≤ sizeLine) <|
R.need ((s1 ++ x11).length + (s7).length ≤ sizeLine) <|
(R.ok ((s1 ++ x11) ++ s7 : Str)).bind fun y14 =>
(idxR ([(" " : Str), (", " : Str), ("-" : Str), (": " : Str)]) ((x2 / 60) % 4)).bind fun x16 =>
R.need ((y14).length + (x16).length ≤ sizeLine) <|
(R.ok (y14 ++ x16 : Str)).bind fun y18 =>
R.ok (y18)) (v_law_cells) (("" : Str))).bind fun (s1 : Str) =>
R.ok (s1)
def m_law_parts_by (v_law_shape : Int) (v_law_cells : (List Int)) : R ((T5 Str Str Str Int Str)) :=
(idxR v_law_cells (0)).bind fun x1 =>
(m_law_text_by v_law_shape (cutL v_law_cells (some (1)) (some (1 + (x1 % 3))))).bind fun r3 =>
(idxR v_law_cells (8)).bind fun x4 =>
(if (decide (((x4 / 400) % 2) = 1)) = true then (
R.need ((r3).length ≤ sizeLine) <|
(R.ok (Txt.rstripChars r3 (" ,-:" : Str) : Str)).bind fun y7 =>
R.ok (y7)) else (
R.ok (r3))).bind fun (s5 : Str) =>
(idxR v_law_cells (0)).bind fun x8 =>
(m_law_text_by v_law_shape (cutL v_law_cells (some (3)) (some (3 + ((x8 / 3) % 6))))).bind fun r10 =>
(idxR v_law_cells (0)).bind fun x11 =>
(idxR v_law_cells (0)).bind fun x12 =>
(idxR v_law_cells (8)).bind fun x14 =>
(idxR ([0, 9999, (x11 / 18) % 10000, (x12 / 18) % 9]) (x14 % 4)).bind fun x15 =>
(idxR v_law_cells (8)).bind fun x16 =>
(m_law_word_by v_law_shape ((x16 / 4) % 5)).bind fun r17 =>
(idxR v_law_cells (8)).bind fun x19 =>
(idxR ([("" : Str), r17]) ((x19 / 20) % 2)).bind fun x20 =>
(idxR v_law_cells (8)).bind fun x21 =>
(m_law_word_by v_law_shape ((x21 / 40) % 5)).bind fun r22 =>
R.ok ((⟨r22, s5, r10, x15, x20⟩ : T5 _ _ _ _ _))
def m_law_card_by (v_law_shape : Int) (v_law_cells : (List Int)) : R ((T3 (T5 Str Str Str Int Str) Str (List Str))) :=
(idxR v_law_cells (9)).bind fun x1 =>
(m_law_word_by v_law_shape (x1 % 5)).bind fun r2 =>
(idxR v_law_cells (9)).bind fun x4 =>
R.need (-(2 ^ 62) ≤ ((x4 / 5) % 4) ∧ ((x4 / 5) % 4) < 2 ^ 62) <|
(forR (fun (s6 : (List Str)) (x7 : Int) =>
(idxR v_law_cells (9)).bind fun x11 =>
R.need (0 < (20 + (5 * x7)) ∧ (20 + (5 * x7)) < 1073741824) <|
(m_law_word_by v_law_shape ((x11 / (20 + (5 * x7))) % 5)).bind fun r13 =>
(if (!decide (r13 ∈ s6)) = true then (
R.need (s6.length < sizeLine) <|
R.ok (s6 ++ [r13])) else (
R.ok (s6))).bind fun (s14 : (List Str)) =>
R.ok (s14)) (rngL 0 ((x4 / 5) % 4).toNat) (([] : (List Str)))).bind fun (s6 : (List Str)) =>
(m_law_parts_by v_law_shape v_law_cells).bind fun r16 =>
R.need (s6.length < 64) <|
R.ok ((⟨r16, r2, sortT s6⟩ : T3 _ _ _))
def m_law_letter (v_law_parts : (T5 Str Str Str Int Str)) : R Letter :=
(m_Letter___init__ (Any.str v_law_parts.a) (Any.str v_law_parts.b) (Any.str v_law_parts.c) (Any.int v_law_parts.d) (Any.str v_law_parts.e)).bind fun r63 =>
R.ok (r63)
def m_law_made (v_law_card : (T3 (T5 Str Str Str Int Str) Str (List Str))) : R Card :=
(m_law_letter v_law_card.a).bind fun r11 =>
(m_Card___init__ r11 v_law_card.b (Any.lst (v_law_card.c.map Any.str))).bind fun r36 =>
R.ok (r36)
def m_law_leaf_by (v_law_shape : Int) (v_law_cell : Int) : R Any :=
(m_law_word_by v_law_shape ((v_law_cell / 11) % 5)).bind fun r1 =>
(R.ok (v_law_cell % 11 : Int)).bind fun y2 =>
if (decide (y2 = 0)) = true then (
R.ok ((Any.tup [(Any.str ("any" : Str))]))) else (
if (decide (y2 = 1)) = true then (
R.ok ((Any.tup [(Any.str ("answers" : Str))]))) else (
if (decide (y2 < 4)) = true then (
(idxR ([0, (v_law_cell / 55) % 10000, (v_law_cell / 55) % 9]) ((v_law_cell / 3) % 3)).bind fun x11 =>
(idxR ([x11, 9999, (v_law_cell / 77) % 10000, (v_law_cell / 77) % 9]) ((v_law_cell / 5) % 4)).bind fun x13 =>
R.ok ((Any.tup [(Any.str ("day" : Str)), (Any.int x11), (Any.int x13)]))) else (
(idxR ([("word" : Str), ("title" : Str), ("from" : Str), ("in" : Str), ("marked" : Str), ("word" : Str), ("marked" : Str)]) (y2 - 4)).bind fun x17 =>
R.ok ((Any.tup [(Any.str x17), (Any.str r1)])))))
def m_law_threads_b (m_law_threads : Any → R Int) (v_law_tree : Any) : R Int :=
(Any.asTup v_law_tree).bind fun xs1 =>
R.need (¬ (HT.sIx (xs1).length 0 (some (1)) = 0 ∧ HT.sIx (xs1).length (xs1).length none = (xs1).length)) <|
(forR (fun (s8 : Int) (x9 : Any) =>
(if (x9.is "tuple") = true then (
(m_law_threads x9).bind fun r14 =>
(R.ok (if r14 > s8 then r14 else s8 : Int)).bind fun y15 =>
R.ok (y15)) else (
R.ok (s8))).bind fun (s13 : Int) =>
R.ok (s13)) ((cutL xs1 (some (1)) none)) (0)).bind fun (s8 : Int) =>
(Any.asTup v_law_tree).bind fun xs16 =>
(idxR xs16 (0)).bind fun x18 =>
(eqA x18 (Any.str ("thread" : Str))).bind fun b27 =>
R.ok (s8 + (if b27 = true then 1 else 0))
def m_law_threads : Nat → Any → R Int
  | 0 => fun _ => .bad
  | n + 1 => m_law_threads_b (m_law_threads n)
def m_law_tree_by (v_law_shape : Int) (v_law_cells : (List Int)) : R Any :=
(forR (fun (s2 : (List Any)) (x3 : Int) =>
(R.ok (x3 % 9 : Int)).bind fun y8 =>
(if ((decide (y8 < 2)) && (decide (0 < (s2.length : Int)))) = true then (
(idxR s2 (-1)).bind fun x12 =>
R.need ((cutL s2 none (some (-1))).length + ([(Any.tup [(Any.str ("not" : Str)), x12])]).length ≤ sizeLine) <|
(R.ok ((cutL s2 none (some (-1))) ++ ([(Any.tup [(Any.str ("not" : Str)), x12])]) : (List Any))).bind fun y25 =>
R.ok (y25)) else (
(if (decide (y8 = 2)) = true then (
(if (decide (0 < (s2.length : Int))) = true then (
(idxR s2 (-1)).bind fun x28 =>
(m_law_threads 12 x28).bind fun r36 =>
R.ok (decide (r36 < 2))) else R.ok false).bind fun b27 =>
R.ok (b27)) else R.ok false).bind fun b26 =>
(if b26 = true then (
(idxR s2 (-1)).bind fun x40 =>
R.need ((cutL s2 none (some (-1))).length + ([(Any.tup [(Any.str ("thread" : Str)), x40])]).length ≤ sizeLine) <|
(R.ok ((cutL s2 none (some (-1))) ++ ([(Any.tup [(Any.str ("thread" : Str)), x40])]) : (List Any))).bind fun y53 =>
R.ok (y53)) else (
(if ((decide (4 < y8)) && (decide (1 < (s2.length : Int)))) = true then (
(idxR ([("both" : Str), ("either" : Str)]) (y8 % 2)).bind fun x58 =>
(idxR s2 (-2)).bind fun x59 =>
(idxR s2 (-1)).bind fun x67 =>
R.need ((cutL s2 none (some (-2))).length + ([(Any.tup [(Any.str x58), x59, x67])]).length ≤ sizeLine) <|
(R.ok ((cutL s2 none (some (-2))) ++ ([(Any.tup [(Any.str x58), x59, x67])]) : (List Any))).bind fun y80 =>
R.ok (y80)) else (
(m_law_leaf_by v_law_shape (x3 / 9)).bind fun r81 =>
R.need (s2.length < sizeLine) <|
R.ok (s2 ++ [r81]))).bind fun (s54 : (List Any)) =>
R.ok (s54))).bind fun (s37 : (List Any)) =>
R.ok (s37))).bind fun (s9 : (List Any)) =>
R.ok (s9)) (v_law_cells) (([] : (List Any)))).bind fun (s2 : (List Any)) =>
(whileN 64 (fun (s85 : (List Any)) => decide (1 < (s85.length : Int))) (fun (s85 : (List Any)) =>
(idxR v_law_cells (0)).bind fun x89 =>
(idxR ([("both" : Str), ("either" : Str)]) ((x89 / 9) % 2)).bind fun x90 =>
(idxR s85 (-2)).bind fun x91 =>
(idxR s85 (-1)).bind fun x99 =>
R.need ((cutL s85 none (some (-2))).length + ([(Any.tup [(Any.str x90), x91, x99])]).length ≤ sizeLine) <|
(R.ok ((cutL s85 none (some (-2))) ++ ([(Any.tup [(Any.str x90), x91, x99])]) : (List Any))).bind fun y112 =>
R.ok (y112)) (s2)).bind fun (s85 : (List Any)) =>
(idxR s85 (0)).bind fun x113 =>
R.ok (x113)
def m_law_runs (v_law_text : Str) : R ((List Str)) :=
R.need ((v_law_text).length + ((" " : Str)).length ≤ sizeLine) <|
(forR (fun (s3 : (List Str) × Str) (x4 : Nat) =>
(if (Txt.isalnum (sg (x4))) = true then (
R.need ((sg (x4)).length ≤ 5592405) <|
R.need ((s3.2).length + (Txt.lower (sg (x4))).length ≤ sizeLine) <|
(R.ok (s3.2 ++ (Txt.lower (sg (x4))) : Str)).bind fun y10 =>
R.ok (s3.1, y10)) else (
(if (!decide (s3.2 = ("" : Str))) = true then (
R.need (s3.1.length < sizeLine) <|
R.ok (s3.1 ++ [s3.2], ("" : Str))) else (
R.ok (s3.1, s3.2))).bind fun (s11 : (List Str) × Str) =>
R.ok (s11.1, s11.2))).bind fun (s7 : (List Str) × Str) =>
R.ok (s7.1, s7.2)) ((v_law_text ++ (" " : Str)).cps.toList) (([] : (List Str)), ("" : Str))).bind fun (s3 : (List Str) × Str) =>
R.ok (s3.1)
def m_law_holds_b (m_law_holds : Any → (T3 (T5 Str Str Str Int Str) Str (List Str)) → (List (T3 (T5 Str Str Str Int Str) Str (List Str))) → R Bool) (v_law_tree : Any) (v_law_card : (T3 (T5 Str Str Str Int Str) Str (List Str))) (v_law_others : (List (T3 (T5 Str Str Str Int Str) Str (List Str)))) : R Bool :=
(Any.asTup v_law_tree).bind fun xs12 =>
(idxR xs12 (0)).bind fun x14 =>
(eqA x14 (Any.str ("any" : Str))).bind fun b24 =>
if b24 = true then (
R.ok (true)) else (
(eqA x14 (Any.str ("answers" : Str))).bind fun b26 =>
if b26 = true then (
R.ok (!decide (v_law_card.a.e = ("" : Str)))) else (
(eqA x14 (Any.str ("day" : Str))).bind fun b39 =>
if b39 = true then (
(Any.asTup v_law_tree).bind fun xs41 =>
(idxR xs41 (1)).bind fun x43 =>
(Any.asTup v_law_tree).bind fun xs63 =>
(idxR xs63 (2)).bind fun x65 =>
(Any.asInt x43).bind fun s74 =>
(Any.asInt x65).bind fun s77 =>
R.ok (decide (s74 ≤ v_law_card.a.d) && decide (v_law_card.a.d ≤ s77))) else (
(eqA x14 (Any.str ("not" : Str))).bind fun b80 =>
if b80 = true then (
(Any.asTup v_law_tree).bind fun xs82 =>
(idxR xs82 (1)).bind fun x84 =>
(m_law_holds x84 v_law_card v_law_others).bind fun r94 =>
R.ok (!r94)) else (
(eqA x14 (Any.str ("both" : Str))).bind fun b95 =>
if b95 = true then (
(Any.asTup v_law_tree).bind fun xs97 =>
(idxR xs97 (1)).bind fun x99 =>
(m_law_holds x99 v_law_card v_law_others).bind fun r109 =>
(if r109 = true then (
(Any.asTup v_law_tree).bind fun xs111 =>
(idxR xs111 (2)).bind fun x113 =>
(m_law_holds x113 v_law_card v_law_others).bind fun r123 =>
R.ok (r123)) else R.ok false).bind fun b110 =>
R.ok (b110)) else (
(eqA x14 (Any.str ("either" : Str))).bind fun b124 =>
if b124 = true then (
(Any.asTup v_law_tree).bind fun xs126 =>
(idxR xs126 (1)).bind fun x128 =>
(m_law_holds x128 v_law_card v_law_others).bind fun r138 =>
(if r138 = true then R.ok true else (
(Any.asTup v_law_tree).bind fun xs140 =>
(idxR xs140 (2)).bind fun x142 =>
(m_law_holds x142 v_law_card v_law_others).bind fun r152 =>
R.ok (r152))).bind fun b139 =>
R.ok (b139)) else (
(eqA x14 (Any.str ("thread" : Str))).bind fun b153 =>
if b153 = true then (
R.need (v_law_others.length ≤ sizeLine) <|
(forF (ρ := Bool) (fun (s156 : Unit) (x157 : Int) =>
(Any.asTup v_law_tree).bind fun xs161 =>
(idxR xs161 (1)).bind fun x163 =>
(idxR v_law_others (x157)).bind fun x173 =>
R.need (([v_law_card]).length + (cutL v_law_others none (some (x157))).length ≤ sizeLine) <|
R.need ((([v_law_card]) ++ (cutL v_law_others none (some (x157)))).length + (cutL v_law_others (some (x157 + 1)) none).length ≤ sizeLine) <|
(m_law_holds x163 x173 ((([v_law_card]) ++ (cutL v_law_others none (some (x157)))) ++ (cutL v_law_others (some (x157 + 1)) none))).bind fun r189 =>
if r189 = true then (
R.ok (.out (true))) else (
R.ok (.go ()))) (rngL 0 ((v_law_others.length : Int)).toNat) ()).bind (contF (fun (s156 : Unit) =>
R.ok (false)) (fun o191 => .ok o191))) else (
(m_law_runs v_law_card.a.b).bind fun r204 =>
(R.ok (mergeD [] ([(("title" : Str), r204), (("from" : Str), [v_law_card.a.a]), (("in" : Str), [v_law_card.b])] : (List (Str × (List Str)))) : (List (Str × (List Str))))).bind fun y222 =>
(dgetR y222 ("title" : Str)).bind fun y223 =>
(m_law_runs v_law_card.a.c).bind fun r240 =>
R.need (y223.length + r240.length ≤ sizeLine) <|
R.need (y222.length < sizeLine) <|
R.need ((dput y222 ("word" : Str) (y223 ++ r240)).length < sizeLine) <|
(Any.asTup v_law_tree).bind fun xs247 =>
(idxR xs247 (1)).bind fun x249 =>
(Any.asStr x14).bind fun s258 =>
(dgetR (dput (dput y222 ("word" : Str) (y223 ++ r240)) ("marked" : Str) v_law_card.c) s258).bind fun y261 =>
(Any.asStr x249).bind fun s266 =>
R.ok (decide (s266 ∈ y261)))))))))
def m_law_holds : Nat → Any → (T3 (T5 Str Str Str Int Str) Str (List Str)) → (List (T3 (T5 Str Str Str Int Str) Str (List Str))) → R Bool
  | 0 => fun _ _ _ => .bad
  | n + 1 => m_law_holds_b (m_law_holds n)
def m_law_shown (v_law_card : Card) : R ((T3 (T5 Str Str Str Int Str) Str (List Str))) :=
(m_Letter_parts v_law_card.letter).bind fun r11 =>
R.ok ((⟨r11, v_law_card.box, v_law_card.signs⟩ : T3 _ _ _))
def m_OfWord_tree_InTitle (v_self : InTitle) : R Any :=
(m_InTitle_sign v_self).bind fun r3 =>
R.ok ((Any.tup [(Any.str r3), (Any.str v_self.word)]))
def m_OfWord_tree_FromSender (v_self : FromSender) : R Any :=
(m_FromSender_sign v_self).bind fun r3 =>
R.ok ((Any.tup [(Any.str r3), (Any.str v_self.word)]))
def m_OfWord_tree_InFolder (v_self : InFolder) : R Any :=
(m_InFolder_sign v_self).bind fun r3 =>
R.ok ((Any.tup [(Any.str r3), (Any.str v_self.word)]))
def m_OfWord_tree_IsMarked (v_self : IsMarked) : R Any :=
(m_IsMarked_sign v_self).bind fun r3 =>
R.ok ((Any.tup [(Any.str r3), (Any.str v_self.word)]))
def m_HasWord_holds (v_self : HasWord) (v_card : Card) (v_others : (List Card)) : R Bool :=
(m_Letter_words v_card.letter).bind fun r13 =>
R.ok (decide (v_self.word ∈ r13))
def m_InTitle_holds (v_self : InTitle) (v_card : Card) (v_others : (List Card)) : R Bool :=
(m_Letter_title_words v_card.letter).bind fun r13 =>
R.ok (decide (v_self.word ∈ r13))
def m_OfOne_tree_InThread (m_Cond_tree : Cond → R Any) (v_self : InThread) : R Any :=
(m_InThread_sign v_self).bind fun r3 =>
(m_Cond_tree v_self.inner).bind fun r14 =>
R.ok ((Any.tup [(Any.str r3), r14]))
def m_OfTwo_tree_EitherSo (m_Cond_tree : Cond → R Any) (v_self : EitherSo) : R Any :=
(m_EitherSo_sign v_self).bind fun r3 =>
(m_Cond_tree v_self.first).bind fun r23 =>
(m_Cond_tree v_self.second).bind fun r38 =>
R.ok ((Any.tup [(Any.str r3.2), r23, r38]))
def m_Cond_tree : Nat → Cond → R Any
  | 0, _ => .bad
  | n + 1, .Anything => m_Anything_tree ⟨⟩ 
  | n + 1, .HasWord word => m_OfWord_tree_HasWord ⟨word⟩ 
  | n + 1, .InTitle word => m_OfWord_tree_InTitle ⟨word⟩ 
  | n + 1, .FromSender word => m_OfWord_tree_FromSender ⟨word⟩ 
  | n + 1, .InFolder word => m_OfWord_tree_InFolder ⟨word⟩ 
  | n + 1, .IsMarked word => m_OfWord_tree_IsMarked ⟨word⟩ 
  | n + 1, .OnDays low high => m_OnDays_tree ⟨low, high⟩ 
  | n + 1, .IsAnswer => m_IsAnswer_tree ⟨⟩ 
  | n + 1, .NotSo inner => m_OfOne_tree_NotSo (m_Cond_tree n) ⟨inner⟩ 
  | n + 1, .InThread inner => m_OfOne_tree_InThread (m_Cond_tree n) ⟨inner⟩ 
  | n + 1, .BothSo first second => m_OfTwo_tree_BothSo (m_Cond_tree n) ⟨first, second⟩ 
  | n + 1, .EitherSo first second => m_OfTwo_tree_EitherSo (m_Cond_tree n) ⟨first, second⟩
def m_Cond_holds : Nat → Cond → Card → (List Card) → R Bool
  | 0, _, _, _ => .bad
  | n + 1, .Anything, x1, x2 => m_Anything_holds ⟨⟩ x1 x2
  | n + 1, .HasWord word, x1, x2 => m_HasWord_holds ⟨word⟩ x1 x2
  | n + 1, .InTitle word, x1, x2 => m_InTitle_holds ⟨word⟩ x1 x2
  | n + 1, .FromSender word, x1, x2 => m_FromSender_holds ⟨word⟩ x1 x2
  | n + 1, .InFolder word, x1, x2 => m_InFolder_holds ⟨word⟩ x1 x2
  | n + 1, .IsMarked word, x1, x2 => m_IsMarked_holds ⟨word⟩ x1 x2
  | n + 1, .OnDays low high, x1, x2 => m_OnDays_holds ⟨low, high⟩ x1 x2
  | n + 1, .IsAnswer, x1, x2 => m_IsAnswer_holds ⟨⟩ x1 x2
  | n + 1, .NotSo inner, x1, x2 => m_NotSo_holds (m_Cond_holds n) ⟨inner⟩ x1 x2
  | n + 1, .InThread inner, x1, x2 => m_InThread_holds (m_Cond_holds n) ⟨inner⟩ x1 x2
  | n + 1, .BothSo first second, x1, x2 => m_BothSo_holds (m_Cond_holds n) ⟨first, second⟩ x1 x2
  | n + 1, .EitherSo first second, x1, x2 => m_EitherSo_holds (m_Cond_holds n) ⟨first, second⟩ x1 x2
def m_law_told (v_law_condition : Cond) (v_law_tree : Any) (v_law_cards : (List (T3 (T5 Str Str Str Int Str) Str (List Str)))) (v_law_made_here : (List Card)) : R Bool :=
R.need (v_law_cards.length ≤ sizeLine) <|
(forF (ρ := Bool) (fun (s2 : Unit) (x3 : Int) =>
R.need ((cutL v_law_made_here none (some (x3))).length + (cutL v_law_made_here (some (x3 + 1)) none).length ≤ sizeLine) <|
(R.ok ((cutL v_law_made_here none (some (x3))) ++ (cutL v_law_made_here (some (x3 + 1)) none) : (List Card))).bind fun y15 =>
(idxR v_law_made_here (x3)).bind fun x21 =>
(m_Cond_holds 12 v_law_condition x21 y15).bind fun r30 =>
(idxR v_law_cards (x3)).bind fun x31 =>
R.need ((cutL v_law_cards none (some (x3))).length + (cutL v_law_cards (some (x3 + 1)) none).length ≤ sizeLine) <|
(m_law_holds 12 v_law_tree x31 ((cutL v_law_cards none (some (x3))) ++ (cutL v_law_cards (some (x3 + 1)) none))).bind fun r44 =>
if (false || (!decide (r30 = r44))) = true then (
R.ok (.out (false))) else (
R.need ((y15).length ≤ sizeLine) <|
(compR (fun (_ : Unit) (x48 : Card) =>
(m_law_shown x48).bind fun r53 =>
R.ok ((), some (r53))) (y15) ()).bind fun (t56 : Unit × List (T3 (T5 Str Str Str Int Str) Str (List Str))) =>
R.need ((y15).length ≤ sizeLine) <|
(compR (fun (_ : Unit) (x59 : Card) =>
(m_law_shown x59).bind fun r64 =>
R.ok ((), some (r64))) (y15) ()).bind fun (t67 : Unit × List (T3 (T5 Str Str Str Int Str) Str (List Str))) =>
R.need (Lay.lay (t56.2 : (List (T3 (T5 Str Str Str Int Str) Str (List Str)))) = true) <|
R.need (Lay.lay (t67.2 : (List (T3 (T5 Str Str Str Int Str) Str (List Str)))) = true) <|
if (!decide ((t56.2 : (List (T3 (T5 Str Str Str Int Str) Str (List Str)))) = t67.2)) = true then (
R.ok (.out (false))) else (
R.ok (.go ())))) (rngL 0 ((v_law_cards.length : Int)).toNat) ()).bind (contF (fun (s2 : Unit) =>
(m_Cond_tree 12 v_law_condition).bind fun r75 =>
(eqA r75 v_law_tree).bind fun b78 =>
(if b78 = true then (
R.ok (true)) else R.ok false).bind fun b79 =>
R.ok (b79)) (fun o83 => .ok o83))
def m_law (v_law_script : Script) : R Bool :=
(m_law_mixed v_law_script 0 52).bind fun r1 =>
(idxR r1 (50)).bind fun x3 =>
(idxR r1 (51)).bind fun x4 =>
R.need (-(2 ^ 62) ≤ (1 + (x4 % 4)) ∧ (1 + (x4 % 4)) < 2 ^ 62) <|
R.need ((rngL 0 (1 + (x4 % 4)).toNat).length ≤ sizeLine) <|
(compR (fun (_ : Unit) (x8 : Int) =>
(m_law_card_by x3 (cutL r1 (some (10 * x8)) (some ((10 * x8) + 10)))).bind fun r12 =>
R.ok ((), some (r12))) (rngL 0 (1 + (x4 % 4)).toNat) ()).bind fun (t15 : Unit × List (T3 (T5 Str Str Str Int Str) Str (List Str))) =>
R.need ((t15.2).length ≤ sizeLine) <|
(compR (fun (_ : Unit) (x18 : (T3 (T5 Str Str Str Int Str) Str (List Str))) =>
(m_law_made x18).bind fun r23 =>
R.ok ((), some (r23))) (t15.2) ()).bind fun (t26 : Unit × List Card) =>
(idxR r1 (51)).bind fun x27 =>
(m_law_tree_by x3 (cutL r1 (some (40)) (some (41 + ((x27 / 4) % 7))))).bind fun r29 =>
(idxR r1 (51)).bind fun x32 =>
(m_law_tree_by x3 (cutL r1 (some (43)) (some (45 + ((x32 / 28) % 4))))).bind fun r34 =>
(m_condition_of 12 r29).bind fun r37 =>
(m_condition_of 12 r34).bind fun r40 =>
(m_law_told r37 r29 t15.2 t26.2).bind fun r43 =>
(if (!r43) = true then R.ok true else (
(m_law_told r40 r34 t15.2 t26.2).bind fun r45 =>
R.ok (!r45))).bind fun b44 =>
if b44 = true then (
R.ok (false)) else (
(m_law_told r37 r29 t15.2 t26.2).bind fun r47 =>
R.ok (r47))
end Lw
namespace Lw
open PySem L2 Ml
theorem alph_len : ("abcdefghijklmnopqrstuvwxyz0123456789" : Str).cps.toList.length = 36 := by decide +kernel
def wsg (c : Nat) : Bool := (97 ≤ c && c ≤ 122) || (48 ≤ c && c ≤ 57)
theorem wsg_lt {c : Nat} (h : wsg c = true) : c < 128 := by
  unfold wsg at h
  simp at h
  omega
theorem alph_wsg : ∀ c, c ∈ ("abcdefghijklmnopqrstuvwxyz0123456789" : Str).cps.toList → wsg c = true := by
  have : ("abcdefghijklmnopqrstuvwxyz0123456789" : Str).cps.toList.all wsg = true := by decide +kernel
  exact fun c hc => List.all_eq_true.mp this c hc
theorem alph_at {ρ : Type} {P : ρ → Prop} {i : Int} {f : Nat → R ρ} (k : ∀ c, wsg c = true → Ok (f c) P) : Ok ((idxR ("abcdefghijklmnopqrstuvwxyz0123456789" : Str).cps.toList (i % 36)).bind f) P :=
  .idx (Int.emod_nonneg _ (by decide)) (by rw [alph_len]; exact Int.emod_lt_of_pos _ (by decide)) fun c m _ => k c (alph_wsg c m)
/-- word signs alone -/
def Wsg (x : Str) : Prop := ∀ c, c ∈ x.cps.toList → wsg c = true
theorem Wsg.asc {x : Str} (h : Wsg x) : Asc x := fun c hc => wsg_lt (h c hc)
theorem Wsg.app {a b : Str} (ha : Wsg a) (hb : Wsg b) : Wsg (a ++ b) := fun c hc => by
  rw [tl_app] at hc
  rcases List.mem_append.mp hc with h | h
  · exact ha c h
  · exact hb c h
theorem Wsg.sg {c : Nat} (h : wsg c = true) : Wsg (sg c) := fun d hd => by
  have : d = c := by simpa [Ml.sg] using hd
  rw [this]; exact h
theorem Wsg.lit {x : Str} (h : x.cps.toList.all wsg = true) : Wsg x := fun c hc => List.all_eq_true.mp h c hc
theorem is_sign_eq (c : Nat) : m_is_sign c = .ok (wsg c) := by
  unfold m_is_sign
  congr 1
  have h1 : (("abcdefghijklmnopqrstuvwxyz" : Str)).cps.toList = (List.range 26).map (97 + ·) := by decide +kernel
  have h2 : (("0123456789" : Str)).cps.toList = (List.range 10).map (48 + ·) := by decide +kernel
  rw [h1, h2]
  unfold wsg
  rw [Bool.eq_iff_iff]
  simp only [Bool.or_eq_true, decide_eq_true_eq, List.mem_map, List.mem_range, Bool.and_eq_true]
  constructor
  · rintro (⟨a, h, rfl⟩ | ⟨a, h, rfl⟩) <;> omega
  · rintro (h | h)
    · exact .inl ⟨c - 97, by omega, by omega⟩
    · exact .inr ⟨c - 48, by omega, by omega⟩
theorem pdA_str (s : Str) : pdA (.str s) = .str s := by rw [pdA]
theorem pdA_int (s : Int) : pdA (.int s) = .int s := by rw [pdA]
theorem plA_str (s : Str) : plA (.str s) = true := by rw [plA] <;> (intro _ h; cases h)
theorem plA_int (s : Int) : plA (.int s) = true := by rw [plA] <;> (intro _ h; cases h)
theorem shaped_str {s : Str} (h : Asc s) : SeqAt.shaped (.str s) = true := by
  have h1 : (PyData.str s).canLay0 = true := h.lay
  unfold SeqAt.shaped
  rw [h1]; rfl
theorem eqA_str {a b : Str} (ha : Asc a) (hb : Asc b) : eqA (.str a) (.str b) = .ok (decide (a = b)) := by
  unfold eqA
  rw [R.need_pos (by rw [plA_str, plA_str, pdA_str, pdA_str]; exact ⟨rfl, rfl, shaped_str ha, shaped_str hb⟩), pdA_str, pdA_str]
  exact congrArg R.ok (str_beq a b)
theorem asc_empty : Asc ("" : Str) := Asc.lit (by decide +kernel)
def isWord (s : Str) : Bool := (decide (1 ≤ s.length) && decide (s.length ≤ 20)) && s.cps.toList.all wsg
theorem isWord_iff {s : Str} : isWord s = true ↔ Wsg s ∧ 1 ≤ s.length ∧ s.length ≤ 20 := by
  unfold isWord
  simp only [Bool.and_eq_true, decide_eq_true_eq, List.all_eq_true]
  exact ⟨fun ⟨⟨a, b⟩, c⟩ => ⟨c, a, b⟩, fun ⟨c, a, b⟩ => ⟨⟨a, b⟩, c⟩⟩
theorem is_word_str {s : Str} (hl : s.length ≤ sizeLine) : m_is_word (.str s) = .ok (isWord s) := by
  unfold m_is_word
  have e1 : (Any.str s).is "str" = true := rfl
  rw [e1]
  have e2 : lenA (.str s) = .ok (s.length : Int) := R.need_pos hl _
  show ((lenA (.str s)).bind _).bind _ = _
  rw [e2, R.bind_ok, R.bind_ok]
  by_cases c : 1 ≤ s.length ∧ s.length ≤ 20
  · have c1 : (decide ((1 : Int) ≤ (s.length : Int)) && decide ((s.length : Int) ≤ 20)) = true := by simp; omega
    rw [c1]
    rw [if_neg (by decide)]
    show (R.need _ _) = _
    rw [R.need_pos (by rw [← len_tl]; exact hl), compR_map (g := wsg) fun x _ => by rw [is_sign_eq]; rfl]
    rw [R.bind_ok]
    congr 1
    unfold isWord
    have c2 : (decide (1 ≤ s.length) && decide (s.length ≤ 20)) = true := by simp; exact c
    rw [c2]
    simp [List.all_map]
  · have c1 : (decide ((1 : Int) ≤ (s.length : Int)) && decide ((s.length : Int) ≤ 20)) = false := by
      rw [Bool.and_eq_false_iff]; simp; omega
    rw [c1]
    have c2 : isWord s = false := by
      unfold isWord
      have : (decide (1 ≤ s.length) && decide (s.length ≤ 20)) = false := by rw [Bool.and_eq_false_iff]; simp; omega
      rw [this]; rfl
    rw [c2]; rfl
theorem is_text_str {s : Str} {n : Int} (hl : s.length ≤ sizeLine) : m_is_text (.str s) n = .ok (decide ((s.length : Int) ≤ n)) := by
  unfold m_is_text
  have e2 : lenA (.str s) = .ok (s.length : Int) := R.need_pos hl _
  have e1 : (Any.str s).is "str" = true := rfl
  rw [e1, if_pos rfl, e2]; rfl
theorem is_day_int {n : Int} : m_is_day (.int n) = .ok (decide (0 ≤ n) && decide (n ≤ 9999)) := by
  unfold m_is_day
  have e1 : (Any.int n).is "int" = true := rfl
  have e2 : (Any.int n).is "bool" = false := rfl
  rw [e1, e2]; rfl
structure GoodL (a b c : Str) (d : Int) (e : Str) : Prop where
  ga : isWord a = true
  gb : b.length ≤ 60
  bn : ¬ 10 ∈ b.cps.toList
  gc : c.length ≤ 400
  d0 : 0 ≤ d
  d1 : d ≤ 9999
  ge : e = ("" : Str) ∨ isWord e = true
theorem e_asc {e : Str} (h : e = ("" : Str) ∨ isWord e = true) : Asc e ∧ e.length ≤ 20 := by
  rcases h with rfl | h
  · exact ⟨asc_empty, by decide⟩
  · exact ⟨(isWord_iff.mp h).1.asc, (isWord_iff.mp h).2.2⟩
theorem Letter_ok {a b c e : Str} {d : Int} (h : GoodL a b c d e) : m_Letter___init__ (.str a) (.str b) (.str c) (.int d) (.str e) = .ok ⟨a, b, c, d, e⟩ := by
  unfold m_Letter___init__
  have ha := isWord_iff.mp h.ga
  have he := e_asc h.ge
  have b60 := h.gb
  have c400 := h.gc
  rw [is_word_str (le_line (by omega)), is_text_str (le_line (by omega)), is_text_str (le_line (by omega)), is_day_int, eqA_str he.1 asc_empty, is_word_str (s := e) (le_line (by omega)), h.ga]
  have e1 : decide ((b.length : Int) ≤ 60) = true := by simp; omega
  have e2 : decide ((c.length : Int) ≤ 400) = true := by simp; omega
  have e3 : (decide (0 ≤ d) && decide (d ≤ 9999)) = true := by simp; exact ⟨h.d0, h.d1⟩
  have e4 : decide (10 ∈ b.cps.toList) = false := by simp only [decide_eq_false_iff_not]; exact h.bn
  rw [e1, e2, e3]
  simp only [R.noexc, R.bind_ok, Any.asStr, Any.asInt, e4]
  simp only [Bool.not_true, Bool.false_eq_true, if_false, R.bind_ok]
  rcases h.ge with rfl | h5
  · simp
  · rw [h5]
    by_cases z : e = ("" : Str) <;> simp [z]
theorem cell_at_ok (s : Script) {k : Int} (h : 0 ≤ k) : Ok (m_law_cell_at s k) fun _ => True := by
  unfold m_law_cell_at
  refine .ite (fun c => ?_) fun _ => .ret trivial
  exact .idx h (of_decide_eq_true c) fun _ _ _ => .ret trivial
theorem mixed_ok (s : Script) : Ok (m_law_mixed s 0 52) fun r => r.length = 52 ∧ ∀ x, x ∈ r → 0 ≤ x ∧ x < 2147483629 := by
  unfold m_law_mixed
  refine .need (by decide) ?_
  refine .forI (fun pre (s : List Int × Int) => s.1.length = pre.length ∧ (∀ x, x ∈ s.1 → 0 ≤ x ∧ x < 2147483629)) ⟨rfl, by simp⟩ ?_ ?_
  · rintro p x q ⟨l, m⟩ ep ⟨hl, hx⟩
    have hp := pre_lt ep
    rw [rngL_len] at hp
    have hp2 : p.length < 52 := hp
    have hx0 := rngL_mem (show x ∈ rngL 0 (52 : Int).toNat by rw [ep]; simp)
    refine .bind (cell_at_ok s (by omega)) fun c _ => .lets ?_
    dsimp only
    have hy0 : 0 ≤ ((m * 48271 + c) + 31 * x + 1) % 2147483647 := Int.emod_nonneg _ (by decide)
    have hy1 : ((m * 48271 + c) + 31 * x + 1) % 2147483647 < 2147483647 := Int.emod_lt_of_pos _ (by decide)
    generalize ((m * 48271 + c) + 31 * x + 1) % 2147483647 = y at *
    have hl' : l.length = p.length := hl
    refine .need (show mulOk y y from .inl ⟨by omega, by omega⟩) (.need (lt_line (m := 1000) (by omega) (by decide)) (.ret ⟨by simp [hl'], fun z hz => ?_⟩))
    rcases List.mem_append.mp hz with h | h
    · exact hx z h
    · rw [List.mem_singleton.mp h]
      exact ⟨Int.emod_nonneg _ (by decide), Int.emod_lt_of_pos _ (by decide)⟩
  · rintro ⟨l, m⟩ ⟨hl, hx⟩
    exact .ret ⟨by rw [hl, rngL_len]; rfl, hx⟩
theorem own_words : ([("and" : Str), ("or" : Str), ("not" : Str), ("then" : Str), ("if" : Str), ("thread" : Str), ("to" : Str), ("any" : Str), ("day" : Str), ("stop" : Str), ("place" : Str), ("answers" : Str)] ++ [("before" : Str), ("after" : Str), ("word" : Str), ("title" : Str), ("from" : Str), ("in" : Str), ("marked" : Str), ("mark" : Str), ("unmark" : Str)]).all isWord = true := by decide +kernel
theorem abc_wsg : Wsg ("abcde1" : Str) := Wsg.lit (by decide +kernel)
theorem word_by_ok {b k : Int} (hb : 0 ≤ b) (hk : 0 ≤ k ∧ k < 5) : Ok (m_law_word_by b k) fun z => isWord z = true := by
  unfold m_law_word_by
  refine .ite (fun _ => ?_) fun _ => ?_
  · refine .lets (.need (by decide) (.lets (.idx (Int.emod_nonneg _ (by decide)) (Int.emod_lt_of_pos _ (by decide)) fun x hx _ => .ret (List.all_eq_true.mp own_words x hx))))
  · refine .lets ?_
    have h0 : 0 ≤ b / 4 % 6 := Int.emod_nonneg _ (by decide)
    have h1 : b / 4 % 6 < 6 := Int.emod_lt_of_pos _ (by decide)
    generalize b / 4 % 6 = pl at *
    refine .need (by omega) ?_
    have g0 : 0 ≤ b / 24 % (20 - pl) := Int.emod_nonneg _ (by omega)
    have g1 : b / 24 % (20 - pl) < 20 - pl := Int.emod_lt_of_pos _ (by omega)
    generalize b / 24 % (20 - pl) = q at *
    refine .need (by omega) ?_
    refine .forI (fun pre (s : Str) => Wsg s ∧ s.length = pre.length) ⟨Wsg.lit (by decide +kernel), rfl⟩ ?_ ?_
    · rintro p x r s ep ⟨hs, hl⟩
      have hp := pre_lt ep
      rw [rngL_len] at hp
      have app1 : ∀ {c : Nat}, wsg c = true → Ok (R.need ((s).length + (sg (c)).length ≤ sizeLine) <| (R.ok (s ++ (sg (c)) : Str)).bind fun y19 => R.ok (y19)) (fun s : Str => Wsg s ∧ s.length = (p ++ [x]).length) := fun {c} hc =>
        .need (le_line (by rw [len_sg]; omega)) (.lets (.ret ⟨hs.app (Wsg.sg hc), by rw [len_app, len_sg, hl, List.length_append]; rfl⟩))
      refine .bind (Q := fun s : Str => Wsg s ∧ s.length = (p ++ [x]).length) (.ite (fun _ => ?_) fun _ => ?_) fun s hs => .ret hs
      · refine .idx hk.1 (show k < ((("abcde1" : Str)).cps.toList.length : Int) from ?_) fun c hc _ => app1 (abc_wsg c hc)
        have : (("abcde1" : Str)).cps.toList.length = 6 := by decide +kernel
        rw [this]; omega
      · exact alph_at fun c hc => app1 hc
    · rintro s ⟨hs, hl⟩
      rw [rngL_len] at hl
      exact .ret (isWord_iff.mpr ⟨hs, by omega, by omega⟩)
/-- no line feed, nothing wide -/
def Pl (x : Str) : Prop := ∀ c, c ∈ x.cps.toList → 11 ≤ c ∧ c < 128
theorem Pl.asc {x : Str} (h : Pl x) : Asc x := fun c hc => (h c hc).2
theorem Pl.app {a b : Str} (ha : Pl a) (hb : Pl b) : Pl (a ++ b) := fun c hc => by
  rw [tl_app] at hc
  rcases List.mem_append.mp hc with h | h
  · exact ha c h
  · exact hb c h
theorem Pl.ofW {x : Str} (h : Wsg x) : Pl x := fun c hc => by
  have := h c hc
  unfold wsg at this
  simp at this
  omega
theorem Pl.up {x : Str} (h : Wsg x) : Pl (Txt.upper x) := fun c hc => by
  rw [upper_tl h.asc] at hc
  obtain ⟨d, hd, rfl⟩ := List.mem_map.mp hc
  have := h d hd
  unfold wsg at this
  simp at this
  unfold PyProof.Rows.up1
  split <;> omega
theorem Pl.mem {l : List Str} {x : Str} (hm : x ∈ l) (hl : l.all (fun x => (x.cps.toList.all fun c => decide (11 ≤ c ∧ c < 128)) && decide (x.length ≤ 2)) = true) : Pl x ∧ x.length ≤ 2 := by
  have := List.all_eq_true.mp hl x hm
  simp only [Bool.and_eq_true, decide_eq_true_eq, List.all_eq_true] at this
  exact ⟨this.1, this.2⟩
theorem text_by_ok {b : Int} {l : List Int} (hb : 0 ≤ b) (hl : l.length ≤ 5) : Ok (m_law_text_by b l) fun z => Pl z ∧ z.length ≤ 24 * l.length := by
  unfold m_law_text_by
  refine .forI (fun pre (s : Str) => Pl s ∧ s.length ≤ 24 * pre.length) ⟨(Pl.mem (l := [("" : Str)]) (by simp) (by decide +kernel)).1, Nat.zero_le _⟩ ?_ ?_
  · rintro p x r s ep ⟨hs, hn⟩
    have hp := pre_lt ep
    refine .bind (word_by_ok hb ⟨Int.emod_nonneg _ (by decide), Int.emod_lt_of_pos _ (by decide)⟩) fun w hw => ?_
    have hw := isWord_iff.mp hw
    refine .bind (Q := fun z : Str => Pl z ∧ z.length ≤ 20) (.ite (fun _ => ?_) fun _ => .ret ⟨.ofW hw.1, hw.2.2⟩) fun z hz => ?_
    · exact .need (by have := hw.2.2; omega) (.lets (.ret ⟨Pl.up hw.1, by rw [len_upper hw.1.asc]; exact hw.2.2⟩))
    · refine .idx (Int.emod_nonneg _ (by decide)) (Int.emod_lt_of_pos _ (by decide)) fun u hu _ => ?_
      have hu := Pl.mem hu (by decide +kernel)
      refine .need (le_line (by omega)) (.need (le_line (by rw [len_app]; omega)) (.lets ?_))
      refine .idx (Int.emod_nonneg _ (by decide)) (Int.emod_lt_of_pos _ (by decide)) fun v hv _ => ?_
      have hv := Pl.mem hv (by decide +kernel)
      refine .need (le_line (by rw [len_app, len_app]; omega)) (.lets (.ret ⟨((hs.app hu.1).app hz.1).app hv.1, ?_⟩))
      rw [len_app, len_app, len_app, List.length_append]
      simp only [List.length_cons, List.length_nil]
      omega
  · rintro s h
    exact .ret h
theorem Pl.rs {x y : Str} (h : Pl x) : Pl (Txt.rstripChars x y) := fun c hc => by
  refine h c ?_
  have e : Txt.rstripChars x y = Txt.stripBy y.cps.contains false true x := rfl
  rw [e, PyProof.Rows.stripBy_eq] at hc
  have hc' : c ∈ (x.cps.extract _ _).toList := hc
  rw [Array.toList_extract] at hc'
  exact List.mem_of_mem_drop (List.mem_of_mem_take hc')
theorem cutL_len2 {α : Type} {xs : List α} {a b : Int} (ha : 0 ≤ a) (hb : 0 ≤ b) : (cutL xs (some a) (some b)).length ≤ b.toNat - a.toNat := by
  unfold cutL
  rw [sIx_nn ha, sIx_nn hb, List.length_take]
  omega
theorem parts_by_ok {b : Int} {l : List Int} (hb : 0 ≤ b) (hl : 10 ≤ l.length) (hx : ∀ x, x ∈ l → 0 ≤ x ∧ x < 2147483629) :
    Ok (m_law_parts_by b l) fun p => GoodL p.a p.b p.c p.d p.e ∧ Asc p.b ∧ Asc p.c := by
  have at_ : ∀ {ρ : Type} {P : ρ → Prop} {i : Int} {f : Int → R ρ}, 0 ≤ i → i < 10 → (∀ x : Int, 0 ≤ x → Ok (f x) P) → Ok ((idxR l i).bind f) P := fun h0 h1 k => .idx h0 (by omega) fun x hm _ => k x (hx x hm).1
  have m5 : ∀ n : Int, 0 ≤ n % 5 ∧ n % 5 < 5 := fun n => ⟨Int.emod_nonneg _ (by decide), Int.emod_lt_of_pos _ (by decide)⟩
  unfold m_law_parts_by
  refine at_ (by decide) (by decide) fun x1 h1 => ?_
  have e0 := Int.emod_nonneg x1 (show (3 : Int) ≠ 0 by decide)
  have e1 := Int.emod_lt_of_pos x1 (show (0 : Int) < 3 by decide)
  have c1 := cutL_len2 (xs := l) (a := 1) (b := 1 + x1 % 3) (by decide) (by omega)
  refine .bind (text_by_ok hb (by omega)) fun t ht => at_ (by decide) (by decide) fun x4 h4 => ?_
  have ht2 : t.length ≤ 60 := by omega
  refine .bind (Q := fun z : Str => Pl z ∧ z.length ≤ 60) (.ite (fun _ => ?_) fun _ => .ret ⟨ht.1, ht2⟩) fun z hz => ?_
  · exact .need (le_line (by omega)) (.lets (.ret ⟨ht.1.rs, Nat.le_trans (PyProof.Rows.len_rstripChars _ _) ht2⟩))
  · refine at_ (by decide) (by decide) fun x8 h8 => ?_
    have e2 := Int.emod_nonneg (x8 / 3) (show (6 : Int) ≠ 0 by decide)
    have e3 := Int.emod_lt_of_pos (x8 / 3) (show (0 : Int) < 6 by decide)
    have c3 := cutL_len2 (xs := l) (a := 3) (b := 3 + x8 / 3 % 6) (by decide) (by omega)
    refine .bind (text_by_ok hb (by omega)) fun u hu => ?_
    refine at_ (by decide) (by decide) fun x11 h11 => at_ (by decide) (by decide) fun x12 h12 => at_ (by decide) (by decide) fun x14 h14 => ?_
    refine .idx (Int.emod_nonneg _ (by decide)) (Int.emod_lt_of_pos _ (by decide)) fun d hd _ => ?_
    have hd : 0 ≤ d ∧ d ≤ 9999 := by
      have g0 := Int.emod_nonneg (x11 / 18) (show (10000 : Int) ≠ 0 by decide)
      have g1 := Int.emod_lt_of_pos (x11 / 18) (show (0 : Int) < 10000 by decide)
      have g2 := Int.emod_nonneg (x12 / 18) (show (9 : Int) ≠ 0 by decide)
      have g3 := Int.emod_lt_of_pos (x12 / 18) (show (0 : Int) < 9 by decide)
      simp only [List.mem_cons, List.not_mem_nil, or_false] at hd
      rcases hd with rfl | rfl | rfl | rfl
      · omega
      · omega
      · omega
      · omega
    refine at_ (by decide) (by decide) fun x16 h16 => .bind (word_by_ok hb (m5 _)) fun w hw => at_ (by decide) (by decide) fun x19 h19 => ?_
    refine .idx (Int.emod_nonneg _ (by decide)) (Int.emod_lt_of_pos _ (by decide)) fun e he _ => ?_
    have he : e = ("" : Str) ∨ isWord e = true := by
      simp only [List.mem_cons, List.not_mem_nil, or_false] at he
      rcases he with rfl | rfl
      · exact .inl rfl
      · exact .inr hw
    refine at_ (by decide) (by decide) fun x21 h21 => .bind (word_by_ok hb (m5 _)) fun v hv => .ret ?_
    exact ⟨⟨hv, hz.2, fun h => by have := (hz.1 10 h).1; omega, by show u.length ≤ 400; omega, hd.1, hd.2, he⟩, hz.1.asc, hu.1.asc⟩
/-- marks: rising, each once, words -/
structure Mks (M : List Str) : Prop where
  up : M.Pairwise (fun a b => leT a b = true)
  nd : M.Nodup
  wd : ∀ x, x ∈ M → isWord x = true
  few : M.length ≤ 3
theorem card_by_ok {b : Int} {l : List Int} (hb : 0 ≤ b) (hl : 10 ≤ l.length) (hx : ∀ x, x ∈ l → 0 ≤ x ∧ x < 2147483629) :
    Ok (m_law_card_by b l) fun t => (GoodL t.a.a t.a.b t.a.c t.a.d t.a.e ∧ Asc t.a.b ∧ Asc t.a.c) ∧ isWord t.b = true ∧ Mks t.c := by
  have at_ : ∀ {ρ : Type} {P : ρ → Prop} {i : Int} {f : Int → R ρ}, 0 ≤ i → i < 10 → (∀ x : Int, 0 ≤ x → Ok (f x) P) → Ok ((idxR l i).bind f) P := fun h0 h1 k => .idx h0 (by omega) fun x hm _ => k x (hx x hm).1
  have m5 : ∀ n : Int, 0 ≤ n % 5 ∧ n % 5 < 5 := fun n => ⟨Int.emod_nonneg _ (by decide), Int.emod_lt_of_pos _ (by decide)⟩
  unfold m_law_card_by
  refine at_ (by decide) (by decide) fun x1 h1 => .bind (word_by_ok hb (m5 _)) fun f hf => at_ (by decide) (by decide) fun x4 h4 => ?_
  have e0 := Int.emod_nonneg (x4 / 5) (show (4 : Int) ≠ 0 by decide)
  have e1 := Int.emod_lt_of_pos (x4 / 5) (show (0 : Int) < 4 by decide)
  refine .need (by omega) ?_
  refine .forI (fun pre (s : List Str) => s.Nodup ∧ (∀ x, x ∈ s → isWord x = true) ∧ s.length ≤ pre.length) ⟨List.nodup_nil, by simp, Nat.zero_le _⟩ ?_ ?_
  · rintro p x q s ep ⟨hs, hw, hn⟩
    have hp := pre_lt ep
    rw [rngL_len] at hp
    have hm := rngL_mem (show x ∈ rngL 0 (x4 / 5 % 4).toNat by rw [ep]; simp)
    refine at_ (by decide) (by decide) fun x11 h11 => .need (by omega) (.bind (word_by_ok hb (m5 _)) fun w hw2 => ?_)
    refine .bind (Q := fun s : List Str => s.Nodup ∧ (∀ x, x ∈ s → isWord x = true) ∧ s.length ≤ (p ++ [x]).length) (.ite (fun c => ?_) fun _ => .ret ⟨hs, hw, by rw [List.length_append]; omega⟩) fun s h => .ret h
    have c : w ∉ s := by simpa using c
    refine .need (lt_line (m := 3) (by omega) (by decide)) (.ret ⟨?_, fun z hz => ?_, ?_⟩)
    · exact (List.perm_append_singleton w s).nodup_iff.mpr (List.nodup_cons.mpr ⟨c, hs⟩)
    · rcases List.mem_append.mp hz with h | h
      · exact hw z h
      · rw [List.mem_singleton.mp h]; exact hw2
    · rw [List.length_append, List.length_append]
      simp only [List.length_cons, List.length_nil]
      omega
  · rintro s ⟨hs, hw, hn⟩
    rw [rngL_len] at hn
    refine .bind (parts_by_ok hb hl hx) fun p hp => .need (by omega) (.ret ⟨hp, hf, ⟨sortT_up s, (sortT_perm s).nodup_iff.mpr hs, fun x hx => hw x ((sortT_perm s).mem_iff.mp hx), ?_⟩⟩)
    show (sortT s).length ≤ 3
    rw [(sortT_perm s).length_eq]
    omega
theorem lay_parts {a b c e : Str} {d : Int} (h1 : Asc a) (h2 : Asc b) (h3 : Asc c) (h5 : Asc e) : (Lay.lay (⟨a, b, c, d, e⟩ : T5 Str Str Str Int Str) : Bool) = true := by
  show (Lay.lay a && (Lay.lay b && (Lay.lay c && (Lay.lay d && Lay.lay e)))) = true
  rw [h1.lay, h2.lay, h3.lay, h5.lay]; rfl
theorem isW_asc {x : Str} (h : isWord x = true) : Asc x := (isWord_iff.mp h).1.asc
def tr : Cond → Any
  | .Anything => .tup [.str ("any" : Str)]
  | .HasWord w => .tup [.str ("word" : Str), .str w]
  | .InTitle w => .tup [.str ("title" : Str), .str w]
  | .FromSender w => .tup [.str ("from" : Str), .str w]
  | .InFolder w => .tup [.str ("in" : Str), .str w]
  | .IsMarked w => .tup [.str ("marked" : Str), .str w]
  | .OnDays a b => .tup [.str ("day" : Str), .int a, .int b]
  | .IsAnswer => .tup [.str ("answers" : Str)]
  | .NotSo c => .tup [.str ("not" : Str), tr c]
  | .InThread c => .tup [.str ("thread" : Str), tr c]
  | .BothSo a b => .tup [.str ("both" : Str), tr a, tr b]
  | .EitherSo a b => .tup [.str ("either" : Str), tr a, tr b]
def dep : Cond → Nat
  | .NotSo c => dep c + 1
  | .InThread c => dep c + 1
  | .BothSo a b => max (dep a) (dep b) + 1
  | .EitherSo a b => max (dep a) (dep b) + 1
  | _ => 1
def Gc : Cond → Prop
  | .HasWord w => isWord w = true
  | .InTitle w => isWord w = true
  | .FromSender w => isWord w = true
  | .InFolder w => isWord w = true
  | .IsMarked w => isWord w = true
  | .NotSo c => Gc c
  | .InThread c => Gc c
  | .BothSo a b => Gc a ∧ Gc b
  | .EitherSo a b => Gc a ∧ Gc b
  | _ => True
theorem dep_pos (c : Cond) : 1 ≤ dep c := by cases c <;> simp [dep]
def kd : List Str := [("any" : Str), ("word" : Str), ("title" : Str), ("from" : Str), ("in" : Str), ("marked" : Str), ("day" : Str), ("answers" : Str), ("not" : Str), ("thread" : Str), ("both" : Str), ("either" : Str)]
theorem kd_asc : kd.all (fun k => k.cps.toList.all (· < 128)) = true := by decide +kernel
theorem kdE {i j : Nat} {k l : Str} (hi : kd[i]? = some k) (hj : kd[j]? = some l) : eqA (.str k) (.str l) = .ok (decide (k = l)) :=
  eqA_str (Asc.lit (List.all_eq_true.mp kd_asc k (List.mem_of_getElem? hi))) (Asc.lit (List.all_eq_true.mp kd_asc l (List.mem_of_getElem? hj)))
theorem q0_0 : eqA (.str ("any" : Str)) (.str ("any" : Str)) = .ok true := (kdE (i := 0) (j := 0) rfl rfl).trans (by congr 1)
theorem q1_0 : eqA (.str ("word" : Str)) (.str ("any" : Str)) = .ok false := (kdE (i := 1) (j := 0) rfl rfl).trans (congrArg R.ok (decide_eq_false (by decide +kernel)))
theorem q1_7 : eqA (.str ("word" : Str)) (.str ("answers" : Str)) = .ok false := (kdE (i := 1) (j := 7) rfl rfl).trans (congrArg R.ok (decide_eq_false (by decide +kernel)))
theorem q1_6 : eqA (.str ("word" : Str)) (.str ("day" : Str)) = .ok false := (kdE (i := 1) (j := 6) rfl rfl).trans (congrArg R.ok (decide_eq_false (by decide +kernel)))
theorem q1_8 : eqA (.str ("word" : Str)) (.str ("not" : Str)) = .ok false := (kdE (i := 1) (j := 8) rfl rfl).trans (congrArg R.ok (decide_eq_false (by decide +kernel)))
theorem q1_9 : eqA (.str ("word" : Str)) (.str ("thread" : Str)) = .ok false := (kdE (i := 1) (j := 9) rfl rfl).trans (congrArg R.ok (decide_eq_false (by decide +kernel)))
theorem q1_10 : eqA (.str ("word" : Str)) (.str ("both" : Str)) = .ok false := (kdE (i := 1) (j := 10) rfl rfl).trans (congrArg R.ok (decide_eq_false (by decide +kernel)))
theorem q1_11 : eqA (.str ("word" : Str)) (.str ("either" : Str)) = .ok false := (kdE (i := 1) (j := 11) rfl rfl).trans (congrArg R.ok (decide_eq_false (by decide +kernel)))
theorem q2_0 : eqA (.str ("title" : Str)) (.str ("any" : Str)) = .ok false := (kdE (i := 2) (j := 0) rfl rfl).trans (congrArg R.ok (decide_eq_false (by decide +kernel)))
theorem q2_7 : eqA (.str ("title" : Str)) (.str ("answers" : Str)) = .ok false := (kdE (i := 2) (j := 7) rfl rfl).trans (congrArg R.ok (decide_eq_false (by decide +kernel)))
theorem q2_6 : eqA (.str ("title" : Str)) (.str ("day" : Str)) = .ok false := (kdE (i := 2) (j := 6) rfl rfl).trans (congrArg R.ok (decide_eq_false (by decide +kernel)))
theorem q2_8 : eqA (.str ("title" : Str)) (.str ("not" : Str)) = .ok false := (kdE (i := 2) (j := 8) rfl rfl).trans (congrArg R.ok (decide_eq_false (by decide +kernel)))
theorem q2_9 : eqA (.str ("title" : Str)) (.str ("thread" : Str)) = .ok false := (kdE (i := 2) (j := 9) rfl rfl).trans (congrArg R.ok (decide_eq_false (by decide +kernel)))
theorem q2_10 : eqA (.str ("title" : Str)) (.str ("both" : Str)) = .ok false := (kdE (i := 2) (j := 10) rfl rfl).trans (congrArg R.ok (decide_eq_false (by decide +kernel)))
theorem q2_11 : eqA (.str ("title" : Str)) (.str ("either" : Str)) = .ok false := (kdE (i := 2) (j := 11) rfl rfl).trans (congrArg R.ok (decide_eq_false (by decide +kernel)))
theorem q3_0 : eqA (.str ("from" : Str)) (.str ("any" : Str)) = .ok false := (kdE (i := 3) (j := 0) rfl rfl).trans (congrArg R.ok (decide_eq_false (by decide +kernel)))
theorem q3_7 : eqA (.str ("from" : Str)) (.str ("answers" : Str)) = .ok false := (kdE (i := 3) (j := 7) rfl rfl).trans (congrArg R.ok (decide_eq_false (by decide +kernel)))
theorem q3_6 : eqA (.str ("from" : Str)) (.str ("day" : Str)) = .ok false := (kdE (i := 3) (j := 6) rfl rfl).trans (congrArg R.ok (decide_eq_false (by decide +kernel)))
theorem q3_8 : eqA (.str ("from" : Str)) (.str ("not" : Str)) = .ok false := (kdE (i := 3) (j := 8) rfl rfl).trans (congrArg R.ok (decide_eq_false (by decide +kernel)))
theorem q3_9 : eqA (.str ("from" : Str)) (.str ("thread" : Str)) = .ok false := (kdE (i := 3) (j := 9) rfl rfl).trans (congrArg R.ok (decide_eq_false (by decide +kernel)))
theorem q3_10 : eqA (.str ("from" : Str)) (.str ("both" : Str)) = .ok false := (kdE (i := 3) (j := 10) rfl rfl).trans (congrArg R.ok (decide_eq_false (by decide +kernel)))
theorem q3_11 : eqA (.str ("from" : Str)) (.str ("either" : Str)) = .ok false := (kdE (i := 3) (j := 11) rfl rfl).trans (congrArg R.ok (decide_eq_false (by decide +kernel)))
theorem q4_0 : eqA (.str ("in" : Str)) (.str ("any" : Str)) = .ok false := (kdE (i := 4) (j := 0) rfl rfl).trans (congrArg R.ok (decide_eq_false (by decide +kernel)))
theorem q4_7 : eqA (.str ("in" : Str)) (.str ("answers" : Str)) = .ok false := (kdE (i := 4) (j := 7) rfl rfl).trans (congrArg R.ok (decide_eq_false (by decide +kernel)))
theorem q4_6 : eqA (.str ("in" : Str)) (.str ("day" : Str)) = .ok false := (kdE (i := 4) (j := 6) rfl rfl).trans (congrArg R.ok (decide_eq_false (by decide +kernel)))
theorem q4_8 : eqA (.str ("in" : Str)) (.str ("not" : Str)) = .ok false := (kdE (i := 4) (j := 8) rfl rfl).trans (congrArg R.ok (decide_eq_false (by decide +kernel)))
theorem q4_9 : eqA (.str ("in" : Str)) (.str ("thread" : Str)) = .ok false := (kdE (i := 4) (j := 9) rfl rfl).trans (congrArg R.ok (decide_eq_false (by decide +kernel)))
theorem q4_10 : eqA (.str ("in" : Str)) (.str ("both" : Str)) = .ok false := (kdE (i := 4) (j := 10) rfl rfl).trans (congrArg R.ok (decide_eq_false (by decide +kernel)))
theorem q4_11 : eqA (.str ("in" : Str)) (.str ("either" : Str)) = .ok false := (kdE (i := 4) (j := 11) rfl rfl).trans (congrArg R.ok (decide_eq_false (by decide +kernel)))
theorem q5_0 : eqA (.str ("marked" : Str)) (.str ("any" : Str)) = .ok false := (kdE (i := 5) (j := 0) rfl rfl).trans (congrArg R.ok (decide_eq_false (by decide +kernel)))
theorem q5_7 : eqA (.str ("marked" : Str)) (.str ("answers" : Str)) = .ok false := (kdE (i := 5) (j := 7) rfl rfl).trans (congrArg R.ok (decide_eq_false (by decide +kernel)))
theorem q5_6 : eqA (.str ("marked" : Str)) (.str ("day" : Str)) = .ok false := (kdE (i := 5) (j := 6) rfl rfl).trans (congrArg R.ok (decide_eq_false (by decide +kernel)))
theorem q5_8 : eqA (.str ("marked" : Str)) (.str ("not" : Str)) = .ok false := (kdE (i := 5) (j := 8) rfl rfl).trans (congrArg R.ok (decide_eq_false (by decide +kernel)))
theorem q5_9 : eqA (.str ("marked" : Str)) (.str ("thread" : Str)) = .ok false := (kdE (i := 5) (j := 9) rfl rfl).trans (congrArg R.ok (decide_eq_false (by decide +kernel)))
theorem q5_10 : eqA (.str ("marked" : Str)) (.str ("both" : Str)) = .ok false := (kdE (i := 5) (j := 10) rfl rfl).trans (congrArg R.ok (decide_eq_false (by decide +kernel)))
theorem q5_11 : eqA (.str ("marked" : Str)) (.str ("either" : Str)) = .ok false := (kdE (i := 5) (j := 11) rfl rfl).trans (congrArg R.ok (decide_eq_false (by decide +kernel)))
theorem q6_0 : eqA (.str ("day" : Str)) (.str ("any" : Str)) = .ok false := (kdE (i := 6) (j := 0) rfl rfl).trans (congrArg R.ok (decide_eq_false (by decide +kernel)))
theorem q6_7 : eqA (.str ("day" : Str)) (.str ("answers" : Str)) = .ok false := (kdE (i := 6) (j := 7) rfl rfl).trans (congrArg R.ok (decide_eq_false (by decide +kernel)))
theorem q6_6 : eqA (.str ("day" : Str)) (.str ("day" : Str)) = .ok true := (kdE (i := 6) (j := 6) rfl rfl).trans (by congr 1)
theorem q7_0 : eqA (.str ("answers" : Str)) (.str ("any" : Str)) = .ok false := (kdE (i := 7) (j := 0) rfl rfl).trans (congrArg R.ok (decide_eq_false (by decide +kernel)))
theorem q7_7 : eqA (.str ("answers" : Str)) (.str ("answers" : Str)) = .ok true := (kdE (i := 7) (j := 7) rfl rfl).trans (by congr 1)
theorem q8_0 : eqA (.str ("not" : Str)) (.str ("any" : Str)) = .ok false := (kdE (i := 8) (j := 0) rfl rfl).trans (congrArg R.ok (decide_eq_false (by decide +kernel)))
theorem q8_7 : eqA (.str ("not" : Str)) (.str ("answers" : Str)) = .ok false := (kdE (i := 8) (j := 7) rfl rfl).trans (congrArg R.ok (decide_eq_false (by decide +kernel)))
theorem q8_6 : eqA (.str ("not" : Str)) (.str ("day" : Str)) = .ok false := (kdE (i := 8) (j := 6) rfl rfl).trans (congrArg R.ok (decide_eq_false (by decide +kernel)))
theorem q8_8 : eqA (.str ("not" : Str)) (.str ("not" : Str)) = .ok true := (kdE (i := 8) (j := 8) rfl rfl).trans (by congr 1)
theorem q9_0 : eqA (.str ("thread" : Str)) (.str ("any" : Str)) = .ok false := (kdE (i := 9) (j := 0) rfl rfl).trans (congrArg R.ok (decide_eq_false (by decide +kernel)))
theorem q9_7 : eqA (.str ("thread" : Str)) (.str ("answers" : Str)) = .ok false := (kdE (i := 9) (j := 7) rfl rfl).trans (congrArg R.ok (decide_eq_false (by decide +kernel)))
theorem q9_6 : eqA (.str ("thread" : Str)) (.str ("day" : Str)) = .ok false := (kdE (i := 9) (j := 6) rfl rfl).trans (congrArg R.ok (decide_eq_false (by decide +kernel)))
theorem q9_8 : eqA (.str ("thread" : Str)) (.str ("not" : Str)) = .ok false := (kdE (i := 9) (j := 8) rfl rfl).trans (congrArg R.ok (decide_eq_false (by decide +kernel)))
theorem q9_9 : eqA (.str ("thread" : Str)) (.str ("thread" : Str)) = .ok true := (kdE (i := 9) (j := 9) rfl rfl).trans (by congr 1)
theorem q9_10 : eqA (.str ("thread" : Str)) (.str ("both" : Str)) = .ok false := (kdE (i := 9) (j := 10) rfl rfl).trans (congrArg R.ok (decide_eq_false (by decide +kernel)))
theorem q9_11 : eqA (.str ("thread" : Str)) (.str ("either" : Str)) = .ok false := (kdE (i := 9) (j := 11) rfl rfl).trans (congrArg R.ok (decide_eq_false (by decide +kernel)))
theorem q10_0 : eqA (.str ("both" : Str)) (.str ("any" : Str)) = .ok false := (kdE (i := 10) (j := 0) rfl rfl).trans (congrArg R.ok (decide_eq_false (by decide +kernel)))
theorem q10_7 : eqA (.str ("both" : Str)) (.str ("answers" : Str)) = .ok false := (kdE (i := 10) (j := 7) rfl rfl).trans (congrArg R.ok (decide_eq_false (by decide +kernel)))
theorem q10_6 : eqA (.str ("both" : Str)) (.str ("day" : Str)) = .ok false := (kdE (i := 10) (j := 6) rfl rfl).trans (congrArg R.ok (decide_eq_false (by decide +kernel)))
theorem q10_8 : eqA (.str ("both" : Str)) (.str ("not" : Str)) = .ok false := (kdE (i := 10) (j := 8) rfl rfl).trans (congrArg R.ok (decide_eq_false (by decide +kernel)))
theorem q10_9 : eqA (.str ("both" : Str)) (.str ("thread" : Str)) = .ok false := (kdE (i := 10) (j := 9) rfl rfl).trans (congrArg R.ok (decide_eq_false (by decide +kernel)))
theorem q10_10 : eqA (.str ("both" : Str)) (.str ("both" : Str)) = .ok true := (kdE (i := 10) (j := 10) rfl rfl).trans (by congr 1)
theorem q11_0 : eqA (.str ("either" : Str)) (.str ("any" : Str)) = .ok false := (kdE (i := 11) (j := 0) rfl rfl).trans (congrArg R.ok (decide_eq_false (by decide +kernel)))
theorem q11_7 : eqA (.str ("either" : Str)) (.str ("answers" : Str)) = .ok false := (kdE (i := 11) (j := 7) rfl rfl).trans (congrArg R.ok (decide_eq_false (by decide +kernel)))
theorem q11_6 : eqA (.str ("either" : Str)) (.str ("day" : Str)) = .ok false := (kdE (i := 11) (j := 6) rfl rfl).trans (congrArg R.ok (decide_eq_false (by decide +kernel)))
theorem q11_8 : eqA (.str ("either" : Str)) (.str ("not" : Str)) = .ok false := (kdE (i := 11) (j := 8) rfl rfl).trans (congrArg R.ok (decide_eq_false (by decide +kernel)))
theorem q11_9 : eqA (.str ("either" : Str)) (.str ("thread" : Str)) = .ok false := (kdE (i := 11) (j := 9) rfl rfl).trans (congrArg R.ok (decide_eq_false (by decide +kernel)))
theorem q11_10 : eqA (.str ("either" : Str)) (.str ("both" : Str)) = .ok false := (kdE (i := 11) (j := 10) rfl rfl).trans (congrArg R.ok (decide_eq_false (by decide +kernel)))
theorem q11_11 : eqA (.str ("either" : Str)) (.str ("either" : Str)) = .ok true := (kdE (i := 11) (j := 11) rfl rfl).trans (by congr 1)
theorem ofw1 (w : Str) : m_of_word ("word" : Str) w = .ok (.HasWord w) := by
  unfold m_of_word
  rw [if_pos (by decide +kernel)]
  rfl
theorem ofw2 (w : Str) : m_of_word ("title" : Str) w = .ok (.InTitle w) := by
  unfold m_of_word
  rw [if_neg (by decide +kernel)]
  rw [if_pos (by decide +kernel)]
  rfl
theorem ofw3 (w : Str) : m_of_word ("from" : Str) w = .ok (.FromSender w) := by
  unfold m_of_word
  rw [if_neg (by decide +kernel)]
  rw [if_neg (by decide +kernel)]
  rw [if_pos (by decide +kernel)]
  rfl
theorem ofw4 (w : Str) : m_of_word ("in" : Str) w = .ok (.InFolder w) := by
  unfold m_of_word
  rw [if_neg (by decide +kernel)]
  rw [if_neg (by decide +kernel)]
  rw [if_neg (by decide +kernel)]
  rw [if_pos (by decide +kernel)]
  rfl
theorem ofw5 (w : Str) : m_of_word ("marked" : Str) w = .ok (.IsMarked w) := by
  unfold m_of_word
  rw [if_neg (by decide +kernel)]
  rw [if_neg (by decide +kernel)]
  rw [if_neg (by decide +kernel)]
  rw [if_neg (by decide +kernel)]
  rw [if_pos (by decide +kernel)]
  rfl
theorem co0 {f : Any → R Cond} : m_condition_of_b f (tr (.Anything)) = .ok (.Anything) := by
  refine Ok.eq ?_
  unfold m_condition_of_b tr
  exact .bindE rfl (.bindE rfl (.bindE q0_0 (.ifT rfl (.ret rfl))))
theorem co1 {f : Any → R Cond} {w : Str} : m_condition_of_b f (tr (.HasWord w)) = .ok (.HasWord w) := by
  refine Ok.eq ?_
  unfold m_condition_of_b tr
  exact .bindE rfl (.bindE rfl (.bindE q1_0 (.ifF Bool.false_ne_true (.bindE rfl (.bindE rfl (.bindE q1_7 (.ifF Bool.false_ne_true (.bindE rfl (.bindE rfl (.bindE q1_6 (.ifF Bool.false_ne_true (.bindE rfl (.bindE rfl (.bindE q1_8 (.ifF Bool.false_ne_true (.bindE rfl (.bindE rfl (.bindE q1_9 (.ifF Bool.false_ne_true (.bindE rfl (.bindE rfl (.bindE q1_10 (.ifF Bool.false_ne_true (.bindE rfl (.bindE rfl (.bindE q1_11 (.ifF Bool.false_ne_true (.bindE rfl (.bindE rfl (.bindE rfl (.bindE rfl (.bindE rfl (.bindE rfl (.bindE (ofw1 w) (.ret rfl)))))))))))))))))))))))))))))))))))
theorem co2 {f : Any → R Cond} {w : Str} : m_condition_of_b f (tr (.InTitle w)) = .ok (.InTitle w) := by
  refine Ok.eq ?_
  unfold m_condition_of_b tr
  exact .bindE rfl (.bindE rfl (.bindE q2_0 (.ifF Bool.false_ne_true (.bindE rfl (.bindE rfl (.bindE q2_7 (.ifF Bool.false_ne_true (.bindE rfl (.bindE rfl (.bindE q2_6 (.ifF Bool.false_ne_true (.bindE rfl (.bindE rfl (.bindE q2_8 (.ifF Bool.false_ne_true (.bindE rfl (.bindE rfl (.bindE q2_9 (.ifF Bool.false_ne_true (.bindE rfl (.bindE rfl (.bindE q2_10 (.ifF Bool.false_ne_true (.bindE rfl (.bindE rfl (.bindE q2_11 (.ifF Bool.false_ne_true (.bindE rfl (.bindE rfl (.bindE rfl (.bindE rfl (.bindE rfl (.bindE rfl (.bindE (ofw2 w) (.ret rfl)))))))))))))))))))))))))))))))))))
theorem co3 {f : Any → R Cond} {w : Str} : m_condition_of_b f (tr (.FromSender w)) = .ok (.FromSender w) := by
  refine Ok.eq ?_
  unfold m_condition_of_b tr
  exact .bindE rfl (.bindE rfl (.bindE q3_0 (.ifF Bool.false_ne_true (.bindE rfl (.bindE rfl (.bindE q3_7 (.ifF Bool.false_ne_true (.bindE rfl (.bindE rfl (.bindE q3_6 (.ifF Bool.false_ne_true (.bindE rfl (.bindE rfl (.bindE q3_8 (.ifF Bool.false_ne_true (.bindE rfl (.bindE rfl (.bindE q3_9 (.ifF Bool.false_ne_true (.bindE rfl (.bindE rfl (.bindE q3_10 (.ifF Bool.false_ne_true (.bindE rfl (.bindE rfl (.bindE q3_11 (.ifF Bool.false_ne_true (.bindE rfl (.bindE rfl (.bindE rfl (.bindE rfl (.bindE rfl (.bindE rfl (.bindE (ofw3 w) (.ret rfl)))))))))))))))))))))))))))))))))))
theorem co4 {f : Any → R Cond} {w : Str} : m_condition_of_b f (tr (.InFolder w)) = .ok (.InFolder w) := by
  refine Ok.eq ?_
  unfold m_condition_of_b tr
  exact .bindE rfl (.bindE rfl (.bindE q4_0 (.ifF Bool.false_ne_true (.bindE rfl (.bindE rfl (.bindE q4_7 (.ifF Bool.false_ne_true (.bindE rfl (.bindE rfl (.bindE q4_6 (.ifF Bool.false_ne_true (.bindE rfl (.bindE rfl (.bindE q4_8 (.ifF Bool.false_ne_true (.bindE rfl (.bindE rfl (.bindE q4_9 (.ifF Bool.false_ne_true (.bindE rfl (.bindE rfl (.bindE q4_10 (.ifF Bool.false_ne_true (.bindE rfl (.bindE rfl (.bindE q4_11 (.ifF Bool.false_ne_true (.bindE rfl (.bindE rfl (.bindE rfl (.bindE rfl (.bindE rfl (.bindE rfl (.bindE (ofw4 w) (.ret rfl)))))))))))))))))))))))))))))))))))
theorem co5 {f : Any → R Cond} {w : Str} : m_condition_of_b f (tr (.IsMarked w)) = .ok (.IsMarked w) := by
  refine Ok.eq ?_
  unfold m_condition_of_b tr
  exact .bindE rfl (.bindE rfl (.bindE q5_0 (.ifF Bool.false_ne_true (.bindE rfl (.bindE rfl (.bindE q5_7 (.ifF Bool.false_ne_true (.bindE rfl (.bindE rfl (.bindE q5_6 (.ifF Bool.false_ne_true (.bindE rfl (.bindE rfl (.bindE q5_8 (.ifF Bool.false_ne_true (.bindE rfl (.bindE rfl (.bindE q5_9 (.ifF Bool.false_ne_true (.bindE rfl (.bindE rfl (.bindE q5_10 (.ifF Bool.false_ne_true (.bindE rfl (.bindE rfl (.bindE q5_11 (.ifF Bool.false_ne_true (.bindE rfl (.bindE rfl (.bindE rfl (.bindE rfl (.bindE rfl (.bindE rfl (.bindE (ofw5 w) (.ret rfl)))))))))))))))))))))))))))))))))))
theorem co6 {f : Any → R Cond} {a b : Int} : m_condition_of_b f (tr (.OnDays a b)) = .ok (.OnDays a b) := by
  refine Ok.eq ?_
  unfold m_condition_of_b tr
  exact .bindE rfl (.bindE rfl (.bindE q6_0 (.ifF Bool.false_ne_true (.bindE rfl (.bindE rfl (.bindE q6_7 (.ifF Bool.false_ne_true (.bindE rfl (.bindE rfl (.bindE q6_6 (.ifT rfl (.bindE rfl (.bindE rfl (.bindE rfl (.bindE rfl (.bindE rfl (.bindE rfl (.bindE rfl (.ret rfl)))))))))))))))))))
theorem co7 {f : Any → R Cond} : m_condition_of_b f (tr (.IsAnswer)) = .ok (.IsAnswer) := by
  refine Ok.eq ?_
  unfold m_condition_of_b tr
  exact .bindE rfl (.bindE rfl (.bindE q7_0 (.ifF Bool.false_ne_true (.bindE rfl (.bindE rfl (.bindE q7_7 (.ifT rfl (.ret rfl))))))))
theorem co8 {f : Any → R Cond} {c : Cond} (h : f (tr c) = .ok c) : m_condition_of_b f (tr (.NotSo c)) = .ok (.NotSo c) := by
  refine Ok.eq ?_
  unfold m_condition_of_b tr
  exact .bindE rfl (.bindE rfl (.bindE q8_0 (.ifF Bool.false_ne_true (.bindE rfl (.bindE rfl (.bindE q8_7 (.ifF Bool.false_ne_true (.bindE rfl (.bindE rfl (.bindE q8_6 (.ifF Bool.false_ne_true (.bindE rfl (.bindE rfl (.bindE q8_8 (.ifT rfl (.bindE rfl (.bindE rfl (.bindE h (.bindE rfl (.ret rfl))))))))))))))))))))
theorem co9 {f : Any → R Cond} {c : Cond} (h : f (tr c) = .ok c) : m_condition_of_b f (tr (.InThread c)) = .ok (.InThread c) := by
  refine Ok.eq ?_
  unfold m_condition_of_b tr
  exact .bindE rfl (.bindE rfl (.bindE q9_0 (.ifF Bool.false_ne_true (.bindE rfl (.bindE rfl (.bindE q9_7 (.ifF Bool.false_ne_true (.bindE rfl (.bindE rfl (.bindE q9_6 (.ifF Bool.false_ne_true (.bindE rfl (.bindE rfl (.bindE q9_8 (.ifF Bool.false_ne_true (.bindE rfl (.bindE rfl (.bindE q9_9 (.ifT rfl (.bindE rfl (.bindE rfl (.bindE h (.bindE rfl (.ret rfl))))))))))))))))))))))))
theorem co10 {f : Any → R Cond} {a b : Cond} (ha : f (tr a) = .ok a) (hb : f (tr b) = .ok b) : m_condition_of_b f (tr (.BothSo a b)) = .ok (.BothSo a b) := by
  refine Ok.eq ?_
  unfold m_condition_of_b tr
  exact .bindE rfl (.bindE rfl (.bindE q10_0 (.ifF Bool.false_ne_true (.bindE rfl (.bindE rfl (.bindE q10_7 (.ifF Bool.false_ne_true (.bindE rfl (.bindE rfl (.bindE q10_6 (.ifF Bool.false_ne_true (.bindE rfl (.bindE rfl (.bindE q10_8 (.ifF Bool.false_ne_true (.bindE rfl (.bindE rfl (.bindE q10_9 (.ifF Bool.false_ne_true (.bindE rfl (.bindE rfl (.bindE q10_10 (.ifT rfl (.bindE rfl (.bindE rfl (.bindE ha (.bindE rfl (.bindE rfl (.bindE hb (.bindE rfl (.ret rfl)))))))))))))))))))))))))))))))
theorem co11 {f : Any → R Cond} {a b : Cond} (ha : f (tr a) = .ok a) (hb : f (tr b) = .ok b) : m_condition_of_b f (tr (.EitherSo a b)) = .ok (.EitherSo a b) := by
  refine Ok.eq ?_
  unfold m_condition_of_b tr
  exact .bindE rfl (.bindE rfl (.bindE q11_0 (.ifF Bool.false_ne_true (.bindE rfl (.bindE rfl (.bindE q11_7 (.ifF Bool.false_ne_true (.bindE rfl (.bindE rfl (.bindE q11_6 (.ifF Bool.false_ne_true (.bindE rfl (.bindE rfl (.bindE q11_8 (.ifF Bool.false_ne_true (.bindE rfl (.bindE rfl (.bindE q11_9 (.ifF Bool.false_ne_true (.bindE rfl (.bindE rfl (.bindE q11_10 (.ifF Bool.false_ne_true (.bindE rfl (.bindE rfl (.bindE q11_11 (.ifT rfl (.bindE rfl (.bindE rfl (.bindE ha (.bindE rfl (.bindE rfl (.bindE hb (.bindE rfl (.ret rfl)))))))))))))))))))))))))))))))))))
theorem cond_of_tr : ∀ (n : Nat) (c : Cond), dep c ≤ n → m_condition_of n (tr c) = .ok c
  | 0, c, h => absurd (dep_pos c) (by omega)
  | n + 1, c, h => by
    show m_condition_of_b (m_condition_of n) (tr c) = .ok c
    cases c with
    | Anything => exact co0
    | HasWord w => exact co1
    | InTitle w => exact co2
    | FromSender w => exact co3
    | InFolder w => exact co4
    | IsMarked w => exact co5
    | OnDays a b => exact co6
    | IsAnswer => exact co7
    | NotSo c => exact co8 (cond_of_tr n c (by simp only [dep] at h; omega))
    | InThread c => exact co9 (cond_of_tr n c (by simp only [dep] at h; omega))
    | BothSo a b => exact co10 (cond_of_tr n a (by simp only [dep] at h; omega)) (cond_of_tr n b (by simp only [dep] at h; omega))
    | EitherSo a b => exact co11 (cond_of_tr n a (by simp only [dep] at h; omega)) (cond_of_tr n b (by simp only [dep] at h; omega))
theorem tree_tr : ∀ (n : Nat) (c : Cond), dep c ≤ n → m_Cond_tree n c = .ok (tr c)
  | 0, c, h => absurd (dep_pos c) (by omega)
  | n + 1, c, h => by
    cases c with
    | Anything => rfl
    | HasWord w => rfl
    | InTitle w => rfl
    | FromSender w => rfl
    | InFolder w => rfl
    | IsMarked w => rfl
    | OnDays a b => rfl
    | IsAnswer => rfl
    | NotSo c =>
      refine Ok.eq ?_
      exact .bindE (m := m_Cond_tree n c) (tree_tr n c (by simp only [dep] at h; omega)) (.ret rfl)
    | InThread c =>
      refine Ok.eq ?_
      exact .bindE (m := m_Cond_tree n c) (tree_tr n c (by simp only [dep] at h; omega)) (.ret rfl)
    | BothSo a b =>
      refine Ok.eq ?_
      exact .bindE (m := m_Cond_tree n a) (tree_tr n a (by simp only [dep] at h; omega)) (.bindE (m := m_Cond_tree n b) (tree_tr n b (by simp only [dep] at h; omega)) (.ret rfl))
    | EitherSo a b =>
      refine Ok.eq ?_
      exact .bindE (m := m_Cond_tree n a) (tree_tr n a (by simp only [dep] at h; omega)) (.bindE (m := m_Cond_tree n b) (tree_tr n b (by simp only [dep] at h; omega)) (.ret rfl))
theorem kd_lay {i : Nat} {k : Str} (hi : kd[i]? = some k) : (PyData.str k).canLay0 = true := (Asc.lit (List.all_eq_true.mp kd_asc k (List.mem_of_getElem? hi))).lay
theorem tr_lay : ∀ c : Cond, Gc c → plA (tr c) = true ∧ (pdA (tr c)).canLay0 = true ∧ (pdA (tr c)).depth ≤ dep c
  | .Anything, h => by
    have k := kd_lay (i := 0) rfl
    unfold tr
    rw [plA, pdA, plAL, plAL, pdAL, pdAL, pdA_str, plA_str]
    simp only [PyData.canLay0, PyData.canLayAll0, PyData.depth, PyData.depthAll, dep] at k ⊢
    refine ⟨rfl, ?_, by omega⟩
    rw [k]; rfl
  | .HasWord w, h => by
    have k := kd_lay (i := 1) rfl
    have hw : (PyData.str w).canLay0 = true := (isW_asc h).lay
    unfold tr
    rw [plA, pdA, plAL, plAL, plAL, pdAL, pdAL, pdAL, pdA_str, pdA_str, plA_str, plA_str]
    simp only [PyData.canLayAll0, PyData.depth, PyData.depthAll, dep, k, hw, PyData.canLay0] at k hw ⊢
    refine ⟨rfl, ?_, by omega⟩
    rw [k, hw]; rfl
  | .InTitle w, h => by
    have k := kd_lay (i := 2) rfl
    have hw : (PyData.str w).canLay0 = true := (isW_asc h).lay
    unfold tr
    rw [plA, pdA, plAL, plAL, plAL, pdAL, pdAL, pdAL, pdA_str, pdA_str, plA_str, plA_str]
    simp only [PyData.canLayAll0, PyData.depth, PyData.depthAll, dep, k, hw, PyData.canLay0] at k hw ⊢
    refine ⟨rfl, ?_, by omega⟩
    rw [k, hw]; rfl
  | .FromSender w, h => by
    have k := kd_lay (i := 3) rfl
    have hw : (PyData.str w).canLay0 = true := (isW_asc h).lay
    unfold tr
    rw [plA, pdA, plAL, plAL, plAL, pdAL, pdAL, pdAL, pdA_str, pdA_str, plA_str, plA_str]
    simp only [PyData.canLayAll0, PyData.depth, PyData.depthAll, dep, k, hw, PyData.canLay0] at k hw ⊢
    refine ⟨rfl, ?_, by omega⟩
    rw [k, hw]; rfl
  | .InFolder w, h => by
    have k := kd_lay (i := 4) rfl
    have hw : (PyData.str w).canLay0 = true := (isW_asc h).lay
    unfold tr
    rw [plA, pdA, plAL, plAL, plAL, pdAL, pdAL, pdAL, pdA_str, pdA_str, plA_str, plA_str]
    simp only [PyData.canLayAll0, PyData.depth, PyData.depthAll, dep, k, hw, PyData.canLay0] at k hw ⊢
    refine ⟨rfl, ?_, by omega⟩
    rw [k, hw]; rfl
  | .IsMarked w, h => by
    have k := kd_lay (i := 5) rfl
    have hw : (PyData.str w).canLay0 = true := (isW_asc h).lay
    unfold tr
    rw [plA, pdA, plAL, plAL, plAL, pdAL, pdAL, pdAL, pdA_str, pdA_str, plA_str, plA_str]
    simp only [PyData.canLayAll0, PyData.depth, PyData.depthAll, dep, k, hw, PyData.canLay0] at k hw ⊢
    refine ⟨rfl, ?_, by omega⟩
    rw [k, hw]; rfl
  | .OnDays a b, h => by
    have k := kd_lay (i := 6) rfl
    unfold tr
    rw [plA, pdA, plAL, plAL, plAL, plAL, pdAL, pdAL, pdAL, pdAL, pdA_str, pdA_int, pdA_int, plA_str, plA_int, plA_int]
    simp only [PyData.canLayAll0, PyData.depth, PyData.depthAll, dep, PyData.canLay0] at k ⊢
    refine ⟨rfl, ?_, by omega⟩
    rw [k]; rfl
  | .IsAnswer, h => by
    have k := kd_lay (i := 7) rfl
    unfold tr
    rw [plA, pdA, plAL, plAL, pdAL, pdAL, pdA_str, plA_str]
    simp only [PyData.canLay0, PyData.canLayAll0, PyData.depth, PyData.depthAll, dep] at k ⊢
    refine ⟨rfl, ?_, by omega⟩
    rw [k]; rfl
  | .NotSo c, h => by
    have k := kd_lay (i := 8) rfl
    obtain ⟨h1, h2, h3⟩ := tr_lay c h
    unfold tr
    rw [plA, pdA, plAL, plAL, plAL, pdAL, pdAL, pdAL, pdA_str, plA_str, h1]
    simp only [PyData.canLayAll0, PyData.depth, PyData.depthAll, dep, PyData.canLay0] at k ⊢
    refine ⟨rfl, ?_, by omega⟩
    rw [k, h2]; rfl
  | .InThread c, h => by
    have k := kd_lay (i := 9) rfl
    obtain ⟨h1, h2, h3⟩ := tr_lay c h
    unfold tr
    rw [plA, pdA, plAL, plAL, plAL, pdAL, pdAL, pdAL, pdA_str, plA_str, h1]
    simp only [PyData.canLayAll0, PyData.depth, PyData.depthAll, dep, PyData.canLay0] at k ⊢
    refine ⟨rfl, ?_, by omega⟩
    rw [k, h2]; rfl
  | .BothSo a b, h => by
    have k := kd_lay (i := 10) rfl
    obtain ⟨h1, h2, h3⟩ := tr_lay a h.1
    obtain ⟨g1, g2, g3⟩ := tr_lay b h.2
    unfold tr
    rw [plA, pdA, plAL, plAL, plAL, plAL, pdAL, pdAL, pdAL, pdAL, pdA_str, plA_str, h1, g1]
    simp only [PyData.canLayAll0, PyData.depth, PyData.depthAll, dep, PyData.canLay0] at k ⊢
    refine ⟨rfl, ?_, by omega⟩
    rw [k, h2, g2]; rfl
  | .EitherSo a b, h => by
    have k := kd_lay (i := 11) rfl
    obtain ⟨h1, h2, h3⟩ := tr_lay a h.1
    obtain ⟨g1, g2, g3⟩ := tr_lay b h.2
    unfold tr
    rw [plA, pdA, plAL, plAL, plAL, plAL, pdAL, pdAL, pdAL, pdAL, pdA_str, plA_str, h1, g1]
    simp only [PyData.canLayAll0, PyData.depth, PyData.depthAll, dep, PyData.canLay0] at k ⊢
    refine ⟨rfl, ?_, by omega⟩
    rw [k, h2, g2]; rfl
theorem tr_self {c : Cond} (h : Gc c) (d : dep c ≤ 64) : eqA (tr c) (tr c) = .ok true := by
  obtain ⟨h1, h2, h3⟩ := tr_lay c h
  have s : SeqAt.shaped (pdA (tr c)) = true := by
    unfold SeqAt.shaped
    rw [h2]
    simp; omega
  unfold eqA
  rw [R.need_pos ⟨h1, h1, s, s⟩, SeqAt.eqv_refl _ h2]
def stepW (s : List Str × Str) (c : Nat) : List Str × Str := if wsg c = true then (s.1, s.2 ++ sg c) else if s.2 = ("" : Str) then s else (s.1 ++ [s.2], ("" : Str))
def runW (cs : List Nat) : List Str × Str := cs.foldl stepW ([], ("" : Str))
def wordsF (t : Str) : List Str := (runW (t.cps.toList.map PyProof.Rows.lo1 ++ [32])).1
theorem runW_snoc (p : List Nat) (c : Nat) : runW (p ++ [c]) = stepW (runW p) c := by unfold runW; rw [List.foldl_append]; rfl
theorem str_ne_nil {s : Str} (h : s ≠ ("" : Str)) : 1 ≤ s.length := by
  rcases Nat.lt_or_ge 0 s.length with h1 | h1
  · exact h1
  · exact absurd (str_ext (by
      have : s.cps.toList.length = 0 := by rw [← len_tl]; omega
      rw [List.eq_nil_of_length_eq_zero this]; decide)) h
theorem Wsg.nil : Wsg ("" : Str) := Wsg.lit (by decide +kernel)
theorem runW_inv (p : List Nat) : (runW p).2.length ≤ p.length ∧ (runW p).1.length ≤ p.length ∧ Wsg (runW p).2 ∧ (∀ w, w ∈ (runW p).1 → Wsg w ∧ 1 ≤ w.length ∧ w.length ≤ p.length) ∧ (((runW p).1.map (·.length)).sum + (runW p).2.length ≤ p.length) := by
  obtain ⟨q, rfl⟩ : ∃ q, p = List.reverse q := ⟨p.reverse, by simp⟩
  induction q with
  | nil => exact ⟨by decide, by decide, Wsg.nil, fun w hw => absurd hw (by simp [runW]), by decide⟩
  | cons c q ih =>
    obtain ⟨h1, h2, h3, h4, h5⟩ := ih
    rw [List.reverse_cons, runW_snoc, List.length_append, List.length_singleton]
    unfold stepW
    by_cases d : wsg c = true
    · rw [if_pos d]
      dsimp only
      rw [len_app, len_sg]
      exact ⟨by omega, by omega, h3.app (Wsg.sg d), fun w hw => ⟨(h4 w hw).1, (h4 w hw).2.1, by have := (h4 w hw).2.2; omega⟩, by omega⟩
    · rw [if_neg d]
      by_cases e : (runW q.reverse).2 = ("" : Str)
      · rw [if_pos e]
        exact ⟨by omega, by omega, h3, fun w hw => ⟨(h4 w hw).1, (h4 w hw).2.1, by have := (h4 w hw).2.2; omega⟩, by omega⟩
      · rw [if_neg e]
        dsimp only
        have e0 : ("" : Str).length = 0 := by decide
        rw [e0, List.length_append, List.length_singleton, List.map_append, List.sum_append]
        refine ⟨by omega, by omega, Wsg.nil, fun w hw => ?_, by rw [List.map_singleton, List.sum_singleton]; omega⟩
        rcases List.mem_append.mp hw with hw | hw
        · exact ⟨(h4 w hw).1, (h4 w hw).2.1, by have := (h4 w hw).2.2; omega⟩
        · rw [List.mem_singleton.mp hw]
          exact ⟨h3, str_ne_nil e, by omega⟩
theorem wordsF_len (t : Str) : (wordsF t).length ≤ t.length + 1 := by
  have hi := runW_inv (t.cps.toList.map PyProof.Rows.lo1 ++ [32])
  rw [List.length_append, List.length_map, ← len_tl] at hi
  exact hi.2.1
theorem forR_run {σ α : Type} {f : σ → α → R σ} {g : σ → α → σ} {xs : List α} {s : σ} (h : ∀ p x q, xs = p ++ x :: q → f (p.foldl g s) x = .ok (g (p.foldl g s) x)) : forR f xs s = .ok (xs.foldl g s) := by
  obtain ⟨a, e, q⟩ := forR_inv (f := f) (xs := xs) (s := s) (fun p t => t = p.foldl g s) rfl fun p x q t e ht => by
    subst ht
    exact ⟨_, h p x q e, by rw [List.foldl_append]; rfl⟩
  rw [e, q]
theorem words_of_eq {t : Str} (ha : Asc t) (hl : t.length ≤ 100000) : m_words_of t = .ok (wordsF t) := by
  unfold m_words_of
  have e1 : (" " : Str).length = 1 := by decide
  rw [R.need_pos (show t.length ≤ 5592405 by omega), R.need_pos (le_line (by rw [len_lower ha, e1]; omega))]
  have ec : ((Txt.lower t ++ (" " : Str)).cps.toList) = t.cps.toList.map PyProof.Rows.lo1 ++ [32] := by
    rw [tl_app, lower_tl ha]; rfl
  rw [ec]
  have := forR_run (xs := t.cps.toList.map PyProof.Rows.lo1 ++ [32]) (s := (([] : List Str), ("" : Str))) (g := stepW) (f := fun (s4 : (List Str) × Str) (x5 : Nat) =>
(m_is_sign x5).bind fun r8 =>
(if r8 = true then (
R.need ((s4.2).length + (sg (x5)).length ≤ sizeLine) <|
(R.ok (s4.2 ++ (sg (x5)) : Str)).bind fun y11 =>
.ok (s4.1, y11)) else (
(if (!decide (s4.2 = ("" : Str))) = true then (
R.need (s4.1.length < sizeLine) <|
.ok (s4.1 ++ [s4.2], ("" : Str))) else (
.ok (s4.1, s4.2))).bind fun (s12 : (List Str) × Str) =>
.ok (s12.1, s12.2))).bind fun (s9 : (List Str) × Str) =>
.ok (s9.1, s9.2)) fun p c q e => ?_
  · rw [this]; rfl
  · rw [is_sign_eq, R.bind_ok]
    have hp := pre_lt e
    rw [List.length_append, List.length_map, ← len_tl, List.length_singleton] at hp
    have hi := runW_inv p
    change R.bind _ _ = R.ok (stepW (runW p) c)
    change (if wsg c = true then _ else _ : R (List Str × Str)).bind _ = _
    change (if wsg c = true then (R.need ((runW p).2.length + (sg c).length ≤ sizeLine) <| R.ok ((runW p).1, (runW p).2 ++ sg c)) else (if (!decide ((runW p).2 = ("" : Str))) = true then (R.need ((runW p).1.length < sizeLine) <| R.ok ((runW p).1 ++ [(runW p).2], ("" : Str))) else R.ok ((runW p).1, (runW p).2)).bind _ : R (List Str × Str)).bind _ = _
    unfold stepW
    by_cases d : wsg c = true
    · rw [if_pos d, if_pos d, R.need_pos (le_line (by rw [len_sg]; omega))]; rfl
    · rw [if_neg d, if_neg d]
      by_cases z : (runW p).2 = ("" : Str)
      · rw [if_pos z, if_neg (by simp [z])]; rfl
      · rw [if_neg z, if_pos (by simp [z]), R.need_pos (lt_line (m := 200000) (by omega) (by decide))]; rfl
def onceF (l : List Str) (x : Str) : List Str := if x ∈ l then l else l ++ [x]
def once (row : List Str) : List Str := row.foldl onceF []
theorem dget_iff {β : Type} (d : List (Str × β)) (k : Str) : dhas d k = decide (k ∈ d.map (·.1)) := by
  induction d with
  | nil => rfl
  | cons p d ih =>
    by_cases c : p.1 = k
    · have h1 : dhas (p :: d) k = true := by simp [dhas, dget, List.find?_cons, c]
      rw [h1, List.map_cons, c]; simp
    · have h1 : dhas (p :: d) k = dhas d k := by simp [dhas, dget, List.find?_cons, c]
      have c' : ¬ k = p.1 := fun e => c e.symm
      rw [h1, ih]; simp only [List.map_cons, List.mem_cons, c', false_or]
theorem dput_new {β : Type} (d : List (Str × β)) (k : Str) (v : β) (h : ¬ k ∈ d.map (·.1)) : dput d k v = d ++ [(k, v)] := by
  unfold dput
  have : (d.any fun kv => decide (kv.1 = k)) = false := by
    rw [List.any_eq_false]
    intro x hx
    have : x.1 ≠ k := fun e => h (List.mem_map.mpr ⟨x, hx, e⟩)
    simpa using this
  rw [this]; rfl
theorem m_each_once_ok {row : List Str} (h : row.length ≤ 10000) : m_each_once row = .ok (once row) := by
  refine Ok.eq ?_
  unfold m_each_once
  refine .forI (fun pre d => d.map (·.1) = once pre ∧ d.length ≤ pre.length) ⟨rfl, Nat.le_refl _⟩ ?_ fun d hd => .ret hd.1
  rintro p x q d ep ⟨h1, h2⟩
  have hp := pre_lt ep
  have eo : once (p ++ [x]) = onceF (once p) x := by unfold once; rw [List.foldl_append]; rfl
  refine .need (lt_line (m := 10000) (by omega) (by decide)) (.ret ?_)
  rw [eo, ← h1, dget_iff]
  unfold onceF
  by_cases c : x ∈ d.map (·.1)
  · rw [if_pos (decide_eq_true c), if_pos c]
    exact ⟨rfl, by simp; omega⟩
  · rw [if_neg (by simpa using c), if_neg c, dput_new d x true c]
    exact ⟨by simp, by simp; omega⟩
theorem isalnum_lo {c : Nat} (h : c < 128) : Txt.isalnum (sg c) = wsg (PyProof.Rows.lo1 c) := by
  have : (List.range 128).all (fun c => Txt.isalnum (sg c) == wsg (PyProof.Rows.lo1 c)) = true := by decide +kernel
  exact eq_of_beq (List.all_eq_true.mp this c (List.mem_range.mpr h))
theorem lower_sg {c : Nat} (h : c < 128) : Txt.lower (sg c) = sg (PyProof.Rows.lo1 c) := str_ext (by rw [lower_tl (Asc.sg h)]; rfl)
theorem runs_eq {t : Str} (ha : Asc t) (hl : t.length ≤ 100000) : m_law_runs t = .ok (wordsF t) := by
  unfold m_law_runs
  have e1 : (" " : Str).length = 1 := by decide
  rw [R.need_pos (le_line (by rw [e1]; omega))]
  have ec : ((t ++ (" " : Str)).cps.toList) = t.cps.toList ++ [32] := by rw [tl_app]; rfl
  have eW : wordsF t = ((t.cps.toList ++ [32]).foldl (fun s c => stepW s (PyProof.Rows.lo1 c)) ([], ("" : Str))).1 := by
    unfold wordsF runW
    have : t.cps.toList.map PyProof.Rows.lo1 ++ [32] = (t.cps.toList ++ [32]).map PyProof.Rows.lo1 := by rw [List.map_append]; rfl
    rw [this, List.foldl_map]
  rw [ec, eW]
  have asc : ∀ c, c ∈ t.cps.toList ++ [32] → c < 128 := fun c hc => by
    rcases List.mem_append.mp hc with h | h
    · exact ha c h
    · rw [List.mem_singleton.mp h]; decide
  have ln : (t.cps.toList ++ [32]).length ≤ 100001 := by rw [List.length_append, ← len_tl, List.length_singleton]; omega
  generalize t.cps.toList ++ [32] = cs at *
  refine Ok.eq ?_
  refine .bindE (forR_run (xs := cs) (s := (([] : List Str), ("" : Str))) (g := fun s c => stepW s (PyProof.Rows.lo1 c)) fun p c q e => ?_) (.ret rfl)
  have hp := pre_lt e
  have hc := asc c (by rw [e]; simp)
  have hi := runW_inv (p.map PyProof.Rows.lo1)
  unfold runW at hi
  rw [List.foldl_map, List.length_map] at hi
  generalize p.foldl (fun s c => stepW s (PyProof.Rows.lo1 c)) ([], ("" : Str)) = s at *
  rw [isalnum_lo hc, lower_sg hc]
  unfold stepW
  by_cases d : wsg (PyProof.Rows.lo1 c) = true
  · rw [if_pos d, if_pos d, R.need_pos (by rw [len_sg]; decide), R.need_pos (le_line (by rw [len_sg]; omega))]; rfl
  · rw [if_neg d, if_neg d]
    by_cases z : s.2 = ("" : Str)
    · rw [if_pos z, if_neg (by simp [z])]; rfl
    · rw [if_neg z, if_pos (by simp [z]), R.need_pos (lt_line (m := 200000) (by omega) (by decide))]; rfl
abbrev T3c := T3 (T5 Str Str Str Int Str) Str (List Str)
structure Wc (t : T3c) : Prop where
  gl : GoodL t.a.a t.a.b t.a.c t.a.d t.a.e
  ab : Asc t.a.b
  ac : Asc t.a.c
  bx : isWord t.b = true
  mm : Mks t.c
def mkL (p : T5 Str Str Str Int Str) : Letter := ⟨p.a, p.b, p.c, p.d, p.e⟩
def mkC (t : T3c) : Card := ⟨mkL t.a, t.b, t.c⟩
def hold : Cond → T3c → List T3c → Bool
  | .Anything, _, _ => true
  | .HasWord w, t, _ => decide (w ∈ wordsF t.a.b ++ wordsF t.a.c)
  | .InTitle w, t, _ => decide (w ∈ wordsF t.a.b)
  | .FromSender w, t, _ => decide (t.a.a = w)
  | .InFolder w, t, _ => decide (t.b = w)
  | .IsMarked w, t, _ => decide (w ∈ t.c)
  | .OnDays a b, t, _ => decide (a ≤ t.a.d) && decide (t.a.d ≤ b)
  | .IsAnswer, t, _ => !decide (t.a.e = ("" : Str))
  | .NotSo c, t, os => !hold c t os
  | .InThread c, t, os => (List.range os.length).any fun k => hold c (os.getD k t) (([t] ++ os.take k) ++ os.drop (k + 1))
  | .BothSo a b, t, os => hold a t os && hold b t os
  | .EitherSo a b, t, os => hold a t os || hold b t os
theorem once_iff (row : List Str) (x : Str) : x ∈ once row ↔ x ∈ row := by
  have : ∀ (row l : List Str), x ∈ row.foldl onceF l ↔ x ∈ l ∨ x ∈ row := fun row => by
    induction row with
    | nil => intro l; simp
    | cons y r ih =>
      intro l
      rw [List.foldl_cons, ih]
      unfold onceF
      split
      · next h =>
        rw [List.mem_cons]
        exact ⟨fun q => q.elim .inl fun q => .inr (.inr q), fun q => q.elim .inl fun q => q.elim (fun e => .inl (e ▸ h)) .inr⟩
      · rw [List.mem_append, List.mem_singleton, List.mem_cons, or_assoc]
  have h := this row []
  simpa [once] using h
theorem title_words_eq {p : T5 Str Str Str Int Str} (hb : Asc p.b) (lb : p.b.length ≤ 60) : m_Letter_title_words (mkL p) = .ok (once (wordsF p.b)) := by
  refine Ok.eq ?_
  have l1 := wordsF_len p.b
  exact .bindE (words_of_eq hb (by show p.b.length ≤ 100000; omega)) (.bindE (m_each_once_ok (by show (wordsF p.b).length ≤ 10000; omega)) (.ret rfl))
theorem words_eq {p : T5 Str Str Str Int Str} (hb : Asc p.b) (lb : p.b.length ≤ 60) (hc : Asc p.c) (lc : p.c.length ≤ 400) : m_Letter_words (mkL p) = .ok (once (wordsF p.b ++ wordsF p.c)) := by
  refine Ok.eq ?_
  have l1 := wordsF_len p.b
  have l2 := wordsF_len p.c
  exact .bindE (words_of_eq hb (by show p.b.length ≤ 100000; omega)) (.bindE (words_of_eq hc (by show p.c.length ≤ 100000; omega)) (.need (le_line (by show (wordsF p.b).length + (wordsF p.c).length ≤ 16777216; omega)) (.bindE (m_each_once_ok (by rw [List.length_append]; show (wordsF p.b).length + (wordsF p.c).length ≤ 10000; omega)) (.ret rfl))))
theorem any_loop {α : Type} {f : Unit → α → R (Fl Unit Bool)} {p : α → Bool} : ∀ {xs : List α}, (∀ x, x ∈ xs → f () x = if p x = true then .ok (.out true) else .ok (.go ())) → (forF f xs ()).bind (contF (fun _ => R.ok false) fun o => R.ok o) = .ok (xs.any p)
  | [], _ => rfl
  | x :: xs, h => by
    have h1 := h x (by simp)
    have h2 := any_loop (f := f) (p := p) (xs := xs) fun y hy => h y (by simp [hy])
    show ((f () x).bind _).bind _ = _
    rw [h1]
    by_cases c : p x = true
    · rw [if_pos c, List.any_cons, c]; rfl
    · rw [if_neg c, List.any_cons, show p x = false by simpa using c]
      exact h2
theorem others_ok {os : List T3c} {t : T3c} {k : Nat} (hk : k < os.length) (ht : Wc t) (ho : ∀ u, u ∈ os → Wc u) (hl : os.length ≤ 3) :
    Wc (os.getD k t) ∧ (∀ u, u ∈ ([t] ++ os.take k) ++ os.drop (k + 1) → Wc u) ∧ (([t] ++ os.take k) ++ os.drop (k + 1)).length ≤ 3 := by
  refine ⟨?_, fun u hu => ?_, ?_⟩
  · rw [List.getD_eq_getElem?_getD, List.getElem?_eq_getElem hk]
    exact ho _ (List.getElem_mem hk)
  · rcases List.mem_append.mp hu with h | h
    · rcases List.mem_append.mp h with h | h
      · rw [List.mem_singleton.mp h]; exact ht
      · exact ho u (List.mem_of_mem_take h)
    · exact ho u (List.mem_of_mem_drop h)
  · simp only [List.length_append, List.length_take, List.length_drop, List.length_singleton]
    omega
theorem enum_rng {β : Type} (os : List β) (t : β) : enumL os = (List.range os.length).map fun (k : Nat) => ((k : Int), os.getD k t) := by
  apply List.ext_getElem?
  intro i
  unfold enumL
  rw [List.getElem?_map, List.getElem?_map, List.getElem?_zipIdx]
  by_cases h : i < os.length
  · rw [List.getElem?_eq_getElem h, List.getElem?_range h]
    simp [List.getElem?_eq_getElem h]
  · rw [List.getElem?_eq_none (by omega), List.getElem?_eq_none (by simp; omega)]; rfl
theorem holds_eq : ∀ (n : Nat) (c : Cond) (t : T3c) (os : List T3c), dep c ≤ n → Wc t → (∀ u, u ∈ os → Wc u) → os.length ≤ 3 → m_Cond_holds n c (mkC t) (os.map mkC) = .ok (hold c t os)
  | 0, c, _, _, h, _, _, _ => absurd (dep_pos c) (by omega)
  | n + 1, c, t, os, h, ht, ho, hl => by
    have lb := ht.gl.gb
    have lc := ht.gl.gc
    cases c with
    | Anything => rfl
    | HasWord w =>
      refine Ok.eq ?_
      refine .bindE (words_eq ht.ab lb ht.ac lc) (.ret ?_)
      exact decide_eq_decide.mpr (once_iff _ w)
    | InTitle w =>
      refine Ok.eq ?_
      refine .bindE (title_words_eq ht.ab lb) (.ret ?_)
      exact decide_eq_decide.mpr (once_iff _ w)
    | FromSender w => rfl
    | InFolder w => rfl
    | IsMarked w => rfl
    | OnDays a b => rfl
    | IsAnswer => rfl
    | NotSo c =>
      refine Ok.eq ?_
      exact .bindE (m := m_Cond_holds n c (mkC t) (os.map mkC)) (holds_eq n c t os (by simp only [dep] at h; omega) ht ho hl) (.ret rfl)
    | InThread c =>
      have hd : dep c ≤ n := by simp only [dep] at h; omega
      have e : hold (.InThread c) t os = (enumL (os.map mkC)).any fun x => hold c (os.getD x.1.toNat t) (([t] ++ os.take x.1.toNat) ++ os.drop (x.1.toNat + 1)) := by
        rw [enum_rng (os.map mkC) (mkC t), List.any_map, List.length_map]; rfl
      rw [e]
      refine any_loop fun x hx => ?_
      obtain ⟨i, hi⟩ := List.mem_iff_getElem?.mp hx
      obtain ⟨y, hy, rfl⟩ := enumL_get hi
      rw [List.getElem?_map] at hy
      have hk : i < os.length := by
        by_cases q : i < os.length
        · exact q
        · rw [List.getElem?_eq_none (by omega)] at hy; cases hy
      rw [List.getElem?_eq_getElem hk] at hy
      cases Option.some.inj hy
      obtain ⟨o1, o2, o3⟩ := others_ok hk ht ho hl
      have e1 : os.getD i t = os[i] := by rw [List.getD_eq_getElem?_getD, List.getElem?_eq_getElem hk]; rfl
      have c1 : cutL (os.map mkC) none (some (i : Int)) = (os.take i).map mkC := by rw [cutL_to (by omega), List.map_take]; rfl
      have c2 : cutL (os.map mkC) (some ((i : Int) + 1)) none = (os.drop (i + 1)).map mkC := by rw [cutL_from (by omega), List.map_drop]; rfl
      have ih := holds_eq n c (os.getD i t) (([t] ++ os.take i) ++ os.drop (i + 1)) hd o1 o2 o3
      dsimp only [Int.toNat_natCast]
      rw [c1, c2, R.need_pos (le_line (by simp only [List.length_map, List.length_take, List.length_singleton]; omega)), R.need_pos (le_line (by simp only [List.length_append, List.length_map, List.length_take, List.length_drop, List.length_singleton]; omega))]
      have e2 : ([mkC t] ++ (os.take i).map mkC) ++ (os.drop (i + 1)).map mkC = (([t] ++ os.take i) ++ os.drop (i + 1)).map mkC := by simp
      rw [e2, ← e1]
      show (m_Cond_holds n c _ _).bind _ = _
      rw [ih]; rfl
    | BothSo a b =>
      refine Ok.eq ?_
      refine .bindE (m := m_Cond_holds n a (mkC t) (os.map mkC)) (holds_eq n a t os (by simp only [dep] at h; omega) ht ho hl) ?_
      have hb := holds_eq n b t os (by simp only [dep] at h; omega) ht ho hl
      refine .bind (Q := fun z => z = (hold a t os && hold b t os)) (.ite (fun q => .bindE hb (.ret (by rw [q]; rfl))) fun q => .ret (by rw [show hold a t os = false by simpa using q]; rfl)) fun z hz => .ret hz
    | EitherSo a b =>
      refine Ok.eq ?_
      refine .bindE (m := m_Cond_holds n a (mkC t) (os.map mkC)) (holds_eq n a t os (by simp only [dep] at h; omega) ht ho hl) ?_
      have hb := holds_eq n b t os (by simp only [dep] at h; omega) ht ho hl
      refine .bind (Q := fun z => z = (hold a t os || hold b t os)) (.ite (fun q => .ret (by rw [q]; rfl)) fun q => .bindE hb (.ret (by rw [show hold a t os = false by simpa using q]; rfl))) fun z hz => .ret hz
theorem dg_ne {β : Type} {k' k : Str} {v : β} {r : List (Str × β)} (h : k' ≠ k) : dgetR ((k', v) :: r) k = dgetR r k := by
  unfold dgetR dget
  rw [List.find?_cons, decide_eq_false h]
theorem dg_eq {β : Type} {k : Str} {v : β} {r : List (Str × β)} : dgetR ((k, v) :: r) k = .ok v := by
  unfold dgetR dget
  rw [List.find?_cons, decide_eq_true (rfl : k = k)]; rfl
def wd (A B C : List Str) : List (Str × List Str) := [(("title" : Str), A), (("from" : Str), B), (("in" : Str), C)]
def we (A B C D E : List Str) : List (Str × List Str) := [(("title" : Str), A), (("from" : Str), B), (("in" : Str), C), (("word" : Str), D), (("marked" : Str), E)]
theorem dp_new {β : Type} {d : List (Str × β)} {k : Str} {v : β} {ks : List Str} (e : d.map (·.1) = ks) (h : ¬ k ∈ ks) : dput d k v = d ++ [(k, v)] := dput_new d k v (by rw [e]; exact h)
theorem wd_eq (A B C : List Str) : mergeD [] (wd A B C) = wd A B C := by
  unfold mergeD
  conv => lhs; unfold wd
  rw [List.foldl_cons, List.foldl_cons, List.foldl_cons, List.foldl_nil]
  dsimp only
  rw [dp_new (d := ([] : List (Str × List Str))) (ks := []) rfl (by simp)]
  rw [dp_new (d := _ ++ _) (ks := [("title" : Str)]) rfl (by decide +kernel)]
  rw [dp_new (d := _ ++ _) (ks := [("title" : Str), ("from" : Str)]) rfl (by decide +kernel)]
  rfl
theorem we_eq (A B C D E : List Str) : dput (dput (wd A B C) ("word" : Str) D) ("marked" : Str) E = we A B C D E := by
  rw [dp_new (d := wd A B C) (ks := [("title" : Str), ("from" : Str), ("in" : Str)]) rfl (by decide +kernel)]
  rw [dp_new (d := _ ++ _) (ks := [("title" : Str), ("from" : Str), ("in" : Str), ("word" : Str)]) rfl (by decide +kernel)]
  rfl
theorem we_title (A B C D E : List Str) : dgetR (we A B C D E) ("title" : Str) = .ok A := dg_eq
theorem we_from (A B C D E : List Str) : dgetR (we A B C D E) ("from" : Str) = .ok B := (dg_ne (by decide +kernel)).trans dg_eq
theorem we_in (A B C D E : List Str) : dgetR (we A B C D E) ("in" : Str) = .ok C := (dg_ne (by decide +kernel)).trans ((dg_ne (by decide +kernel)).trans dg_eq)
theorem we_word (A B C D E : List Str) : dgetR (we A B C D E) ("word" : Str) = .ok D := (dg_ne (by decide +kernel)).trans ((dg_ne (by decide +kernel)).trans ((dg_ne (by decide +kernel)).trans dg_eq))
theorem we_marked (A B C D E : List Str) : dgetR (we A B C D E) ("marked" : Str) = .ok E := (dg_ne (by decide +kernel)).trans ((dg_ne (by decide +kernel)).trans ((dg_ne (by decide +kernel)).trans ((dg_ne (by decide +kernel)).trans dg_eq)))
/-- the last part: the words that are asked for, where they are kept -/
theorem dict_part {P : Bool → Prop} {t : T3c} (W : Wc t) {xs : List Any} {k w : Str} {ws : List Str} (hxs : idxR xs 1 = .ok (.str w))
    (hg : dgetR (we (wordsF t.a.b) [t.a.a] [t.b] (wordsF t.a.b ++ wordsF t.a.c) t.c) k = .ok ws) (hP : P (decide (w ∈ ws))) :
    Ok ((m_law_runs t.a.b).bind fun r204 =>
(R.ok (mergeD [] ([(("title" : Str), r204), (("from" : Str), [t.a.a]), (("in" : Str), [t.b])] : (List (Str × (List Str)))) : (List (Str × (List Str))))).bind fun y222 =>
(dgetR y222 ("title" : Str)).bind fun y223 =>
(m_law_runs t.a.c).bind fun r240 =>
R.need (y223.length + r240.length ≤ sizeLine) <|
R.need (y222.length < sizeLine) <|
R.need ((dput y222 ("word" : Str) (y223 ++ r240)).length < sizeLine) <|
(Any.asTup (.tup xs)).bind fun xs247 =>
(idxR xs247 (1)).bind fun x249 =>
(Any.asStr (.str k)).bind fun s258 =>
(dgetR (dput (dput y222 ("word" : Str) (y223 ++ r240)) ("marked" : Str) t.c) s258).bind fun y261 =>
(Any.asStr x249).bind fun s266 =>
R.ok (decide (s266 ∈ y261))) P := by
  have lb := W.gl.gb
  have lc := W.gl.gc
  have l1 := wordsF_len t.a.b
  have l2 := wordsF_len t.a.c
  refine .bindE (runs_eq W.ab (by omega)) (.name fun y hy => ?_)
  have hy : y = wd (wordsF t.a.b) [t.a.a] [t.b] := hy.trans (wd_eq _ _ _)
  subst hy
  refine .bindE dg_eq (.bindE (runs_eq W.ac (by omega)) (.need (le_line (by omega)) (.need (show 3 < sizeLine by decide) (.need (by rw [dp_new (d := wd _ _ _) (ks := [("title" : Str), ("from" : Str), ("in" : Str)]) rfl (by decide +kernel)]; show 4 < sizeLine; decide) ?_))))
  refine .bindE rfl (.bindE hxs (.bindE rfl (.bindE (a := ws) ?_ (.bindE rfl (.ret hP)))))
  rw [we_eq]
  exact hg
theorem lh0 {f : Any → T3c → List T3c → R Bool} {t : T3c} {os : List T3c} (W : Wc t) : m_law_holds_b f (tr (.Anything)) t os = .ok (hold (.Anything) t os) := by
  refine Ok.eq ?_
  unfold m_law_holds_b tr
  refine .bindE rfl (.bindE rfl (.bindE q0_0 (.ifT rfl (.ret rfl))))
theorem lh1 {f : Any → T3c → List T3c → R Bool} {t : T3c} {os : List T3c} (W : Wc t) {w : Str} : m_law_holds_b f (tr (.HasWord w)) t os = .ok (hold (.HasWord w) t os) := by
  refine Ok.eq ?_
  unfold m_law_holds_b tr
  refine .bindE rfl (.bindE rfl (.bindE q1_0 (.ifF Bool.false_ne_true (.bindE q1_7 (.ifF Bool.false_ne_true (.bindE q1_6 (.ifF Bool.false_ne_true (.bindE q1_8 (.ifF Bool.false_ne_true (.bindE q1_10 (.ifF Bool.false_ne_true (.bindE q1_11 (.ifF Bool.false_ne_true (.bindE q1_9 (.ifF Bool.false_ne_true (dict_part W rfl (we_word _ _ _ _ _) rfl))))))))))))))))
theorem lh2 {f : Any → T3c → List T3c → R Bool} {t : T3c} {os : List T3c} (W : Wc t) {w : Str} : m_law_holds_b f (tr (.InTitle w)) t os = .ok (hold (.InTitle w) t os) := by
  refine Ok.eq ?_
  unfold m_law_holds_b tr
  refine .bindE rfl (.bindE rfl (.bindE q2_0 (.ifF Bool.false_ne_true (.bindE q2_7 (.ifF Bool.false_ne_true (.bindE q2_6 (.ifF Bool.false_ne_true (.bindE q2_8 (.ifF Bool.false_ne_true (.bindE q2_10 (.ifF Bool.false_ne_true (.bindE q2_11 (.ifF Bool.false_ne_true (.bindE q2_9 (.ifF Bool.false_ne_true (dict_part W rfl (we_title _ _ _ _ _) rfl))))))))))))))))
theorem lh3 {f : Any → T3c → List T3c → R Bool} {t : T3c} {os : List T3c} (W : Wc t) {w : Str} : m_law_holds_b f (tr (.FromSender w)) t os = .ok (hold (.FromSender w) t os) := by
  refine Ok.eq ?_
  unfold m_law_holds_b tr
  refine .bindE rfl (.bindE rfl (.bindE q3_0 (.ifF Bool.false_ne_true (.bindE q3_7 (.ifF Bool.false_ne_true (.bindE q3_6 (.ifF Bool.false_ne_true (.bindE q3_8 (.ifF Bool.false_ne_true (.bindE q3_10 (.ifF Bool.false_ne_true (.bindE q3_11 (.ifF Bool.false_ne_true (.bindE q3_9 (.ifF Bool.false_ne_true (dict_part W rfl (we_from _ _ _ _ _) (by show decide (w ∈ [t.a.a]) = decide (t.a.a = w); exact decide_eq_decide.mpr (by rw [List.mem_singleton]; exact eq_comm))))))))))))))))))
theorem lh4 {f : Any → T3c → List T3c → R Bool} {t : T3c} {os : List T3c} (W : Wc t) {w : Str} : m_law_holds_b f (tr (.InFolder w)) t os = .ok (hold (.InFolder w) t os) := by
  refine Ok.eq ?_
  unfold m_law_holds_b tr
  refine .bindE rfl (.bindE rfl (.bindE q4_0 (.ifF Bool.false_ne_true (.bindE q4_7 (.ifF Bool.false_ne_true (.bindE q4_6 (.ifF Bool.false_ne_true (.bindE q4_8 (.ifF Bool.false_ne_true (.bindE q4_10 (.ifF Bool.false_ne_true (.bindE q4_11 (.ifF Bool.false_ne_true (.bindE q4_9 (.ifF Bool.false_ne_true (dict_part W rfl (we_in _ _ _ _ _) (by show decide (w ∈ [t.b]) = decide (t.b = w); exact decide_eq_decide.mpr (by rw [List.mem_singleton]; exact eq_comm))))))))))))))))))
theorem lh5 {f : Any → T3c → List T3c → R Bool} {t : T3c} {os : List T3c} (W : Wc t) {w : Str} : m_law_holds_b f (tr (.IsMarked w)) t os = .ok (hold (.IsMarked w) t os) := by
  refine Ok.eq ?_
  unfold m_law_holds_b tr
  refine .bindE rfl (.bindE rfl (.bindE q5_0 (.ifF Bool.false_ne_true (.bindE q5_7 (.ifF Bool.false_ne_true (.bindE q5_6 (.ifF Bool.false_ne_true (.bindE q5_8 (.ifF Bool.false_ne_true (.bindE q5_10 (.ifF Bool.false_ne_true (.bindE q5_11 (.ifF Bool.false_ne_true (.bindE q5_9 (.ifF Bool.false_ne_true (dict_part W rfl (we_marked _ _ _ _ _) rfl))))))))))))))))
theorem lh6 {f : Any → T3c → List T3c → R Bool} {t : T3c} {os : List T3c} (W : Wc t) {a b : Int} : m_law_holds_b f (tr (.OnDays a b)) t os = .ok (hold (.OnDays a b) t os) := by
  refine Ok.eq ?_
  unfold m_law_holds_b tr
  refine .bindE rfl (.bindE rfl (.bindE q6_0 (.ifF Bool.false_ne_true (.bindE q6_7 (.ifF Bool.false_ne_true (.bindE q6_6 (.ifT rfl (.bindE rfl (.bindE rfl (.bindE rfl (.bindE rfl (.bindE rfl (.bindE rfl (.ret rfl))))))))))))))
theorem lh7 {f : Any → T3c → List T3c → R Bool} {t : T3c} {os : List T3c} (W : Wc t) : m_law_holds_b f (tr (.IsAnswer)) t os = .ok (hold (.IsAnswer) t os) := by
  refine Ok.eq ?_
  unfold m_law_holds_b tr
  refine .bindE rfl (.bindE rfl (.bindE q7_0 (.ifF Bool.false_ne_true (.bindE q7_7 (.ifT rfl (.ret rfl))))))
theorem lh8 {f : Any → T3c → List T3c → R Bool} {t : T3c} {os : List T3c} (W : Wc t) {c : Cond} (h : f (tr c) t os = .ok (hold c t os)) : m_law_holds_b f (tr (.NotSo c)) t os = .ok (hold (.NotSo c) t os) := by
  refine Ok.eq ?_
  unfold m_law_holds_b tr
  refine .bindE rfl (.bindE rfl (.bindE q8_0 (.ifF Bool.false_ne_true (.bindE q8_7 (.ifF Bool.false_ne_true (.bindE q8_6 (.ifF Bool.false_ne_true (.bindE q8_8 (.ifT rfl (.bindE rfl (.bindE rfl (.bindE h (.ret rfl)))))))))))))
theorem lh9 {f : Any → T3c → List T3c → R Bool} {t : T3c} {os : List T3c} (W : Wc t) {c : Cond} (ho : ∀ u, u ∈ os → Wc u) (hl : os.length ≤ 3) (h : ∀ u us, Wc u → (∀ v, v ∈ us → Wc v) → us.length ≤ 3 → f (tr c) u us = .ok (hold c u us)) : m_law_holds_b f (tr (.InThread c)) t os = .ok (hold (.InThread c) t os) := by
  refine Ok.eq ?_
  unfold m_law_holds_b tr
  refine .bindE rfl (.bindE rfl (.bindE q9_0 (.ifF Bool.false_ne_true (.bindE q9_7 (.ifF Bool.false_ne_true (.bindE q9_6 (.ifF Bool.false_ne_true (.bindE q9_8 (.ifF Bool.false_ne_true (.bindE q9_10 (.ifF Bool.false_ne_true (.bindE q9_11 (.ifF Bool.false_ne_true (.bindE q9_9 (.ifT rfl (.need (le_line (by omega)) ?_))))))))))))))))
  refine Ok.mono (Q := fun z => z = hold (.InThread c) t os) ⟨_, ?_, rfl⟩ fun z hz => hz
  have e : hold (.InThread c) t os = (rngL 0 ((os.length : Int)).toNat).any fun x => hold c (os.getD x.toNat t) (([t] ++ os.take x.toNat) ++ os.drop (x.toNat + 1)) := by
    unfold rngL
    rw [List.any_map, Int.toNat_natCast]
    show (List.range os.length).any _ = (List.range os.length).any _
    congr 1
    funext k
    show _ = hold c (os.getD ((0 : Int) + (k : Int)).toNat t) (([t] ++ os.take ((0 : Int) + (k : Int)).toNat) ++ os.drop (((0 : Int) + (k : Int)).toNat + 1))
    rw [Int.zero_add, Int.toNat_natCast]
  rw [e]
  refine any_loop fun x hx => ?_
  have hx := rngL_mem hx
  obtain ⟨i, rfl⟩ : ∃ i : Nat, x = (i : Int) := ⟨x.toNat, by omega⟩
  have hk : i < os.length := by omega
  obtain ⟨o1, o2, o3⟩ := others_ok hk W ho hl
  have e1 : os.getD i t = os[i] := by rw [List.getD_eq_getElem?_getD, List.getElem?_eq_getElem hk]; rfl
  have ei : idxR os (i : Int) = .ok os[i] := by
    obtain ⟨y, h1, _, h2⟩ := idxR_mem (xs := os) (i := (i : Int)) (by omega) (by omega)
    rw [Int.toNat_natCast, List.getElem?_eq_getElem hk] at h2
    rw [h1, Option.some.inj h2]
  show (idxR os (i : Int)).bind _ = _
  rw [ei, cutL_to (by omega), cutL_from (by omega), ← e1]
  show R.need _ _ = _
  rw [R.need_pos (le_line (by simp only [List.length_take, List.length_singleton]; omega)), R.need_pos (le_line (by simp only [List.length_append, List.length_take, List.length_drop, List.length_singleton]; omega))]
  show (f (tr c) (os.getD i t) (([t] ++ os.take i) ++ os.drop (i + 1))).bind _ = _
  rw [h _ _ o1 o2 o3]
  rfl
theorem lh10 {f : Any → T3c → List T3c → R Bool} {t : T3c} {os : List T3c} (W : Wc t) {a b : Cond} (ha : f (tr a) t os = .ok (hold a t os)) (hb : f (tr b) t os = .ok (hold b t os)) : m_law_holds_b f (tr (.BothSo a b)) t os = .ok (hold (.BothSo a b) t os) := by
  refine Ok.eq ?_
  unfold m_law_holds_b tr
  refine .bindE rfl (.bindE rfl (.bindE q10_0 (.ifF Bool.false_ne_true (.bindE q10_7 (.ifF Bool.false_ne_true (.bindE q10_6 (.ifF Bool.false_ne_true (.bindE q10_8 (.ifF Bool.false_ne_true (.bindE q10_10 (.ifT rfl (.bindE rfl (.bindE rfl (.bindE ha (.bind (Q := fun z => z = (hold a t os && hold b t os)) (.ite (fun q => .bindE rfl (.bindE rfl (.bindE hb (.ret (by rw [q]; rfl))))) fun q => .ret (by rw [show hold a t os = false by simpa using q]; rfl)) fun z hz => .ret hz)))))))))))))))
theorem lh11 {f : Any → T3c → List T3c → R Bool} {t : T3c} {os : List T3c} (W : Wc t) {a b : Cond} (ha : f (tr a) t os = .ok (hold a t os)) (hb : f (tr b) t os = .ok (hold b t os)) : m_law_holds_b f (tr (.EitherSo a b)) t os = .ok (hold (.EitherSo a b) t os) := by
  refine Ok.eq ?_
  unfold m_law_holds_b tr
  refine .bindE rfl (.bindE rfl (.bindE q11_0 (.ifF Bool.false_ne_true (.bindE q11_7 (.ifF Bool.false_ne_true (.bindE q11_6 (.ifF Bool.false_ne_true (.bindE q11_8 (.ifF Bool.false_ne_true (.bindE q11_10 (.ifF Bool.false_ne_true (.bindE q11_11 (.ifT rfl (.bindE rfl (.bindE rfl (.bindE ha (.bind (Q := fun z => z = (hold a t os || hold b t os)) (.ite (fun q => .ret (by rw [q]; rfl)) fun q => .bindE rfl (.bindE rfl (.bindE hb (.ret (by rw [show hold a t os = false by simpa using q]; rfl))))) fun z hz => .ret hz)))))))))))))))))
theorem law_holds_eq : ∀ (n : Nat) (c : Cond) (t : T3c) (os : List T3c), dep c ≤ n → Wc t → (∀ u, u ∈ os → Wc u) → os.length ≤ 3 → m_law_holds n (tr c) t os = .ok (hold c t os)
  | 0, c, _, _, h, _, _, _ => absurd (dep_pos c) (by omega)
  | n + 1, c, t, os, h, ht, ho, hl => by
    show m_law_holds_b (m_law_holds n) (tr c) t os = _
    cases c with
    | Anything => exact lh0 ht
    | HasWord w => exact lh1 ht
    | InTitle w => exact lh2 ht
    | FromSender w => exact lh3 ht
    | InFolder w => exact lh4 ht
    | IsMarked w => exact lh5 ht
    | OnDays a b => exact lh6 ht
    | IsAnswer => exact lh7 ht
    | NotSo c => exact lh8 ht (law_holds_eq n c t os (by simp only [dep] at h; omega) ht ho hl)
    | InThread c => exact lh9 ht ho hl fun u us h1 h2 h3 => law_holds_eq n c u us (by simp only [dep] at h; omega) h1 h2 h3
    | BothSo a b => exact lh10 ht (law_holds_eq n a t os (by simp only [dep] at h; omega) ht ho hl) (law_holds_eq n b t os (by simp only [dep] at h; omega) ht ho hl)
    | EitherSo a b => exact lh11 ht (law_holds_eq n a t os (by simp only [dep] at h; omega) ht ho hl) (law_holds_eq n b t os (by simp only [dep] at h; omega) ht ho hl)
theorem idx0 {α : Type} {x : α} {r : List α} : idxR (x :: r) 0 = .ok x := by
  obtain ⟨y, h1, _, h2⟩ := idxR_mem (xs := x :: r) (i := 0) (by decide) (by rw [List.length_cons]; omega)
  rw [h1]
  exact congrArg R.ok (Option.some.inj h2).symm
theorem thr_b {f : Any → R Int} {i : Nat} {k : Str} {r : List Any} (hk : kd[i]? = some k) (h : ∀ x, x ∈ r → x.is "tuple" = true → Ok (f x) fun _ => True) : Ok (m_law_threads_b f (.tup (.str k :: r))) fun _ => True := by
  unfold m_law_threads_b
  refine .bindE (a := .str k :: r) rfl (.need (fun z => ?_) ?_)
  · have z := z.1
    rw [sIx_nn (by decide), List.length_cons] at z
    have : min (1 : Int).toNat (r.length + 1) = 1 := by show min 1 _ = 1; omega
    omega
  · rw [cutL_from (by decide)]
    refine .forK (fun _ => True) trivial (fun x s hx _ => ?_) fun s _ => ?_
    · refine .bind (Q := fun _ => True) (.ite (fun q => .bind (h x hx q) fun a _ => .lets (.ret trivial)) fun _ => .ret trivial) fun _ _ => .ret trivial
    · exact .bindE (a := .str k :: r) rfl (.bindE idx0 (.bindE (kdE (j := 9) hk rfl) (.ret trivial)))
theorem threads_ok : ∀ (n : Nat) (c : Cond), dep c ≤ n → Ok (m_law_threads n (tr c)) fun _ => True
  | 0, c, h => absurd (dep_pos c) (by omega)
  | n + 1, c, h => by
    show Ok (m_law_threads_b (m_law_threads n) (tr c)) _
    have no : ∀ {x : Any} {P : Prop}, x.is "tuple" = false → x.is "tuple" = true → P := fun h1 h2 => by rw [h1] at h2; cases h2
    cases c with
    | Anything => exact thr_b (i := 0) rfl (by simp)
    | HasWord w => exact thr_b (i := 1) rfl fun x hx => by rw [List.mem_singleton.mp hx]; exact no rfl
    | InTitle w => exact thr_b (i := 2) rfl fun x hx => by rw [List.mem_singleton.mp hx]; exact no rfl
    | FromSender w => exact thr_b (i := 3) rfl fun x hx => by rw [List.mem_singleton.mp hx]; exact no rfl
    | InFolder w => exact thr_b (i := 4) rfl fun x hx => by rw [List.mem_singleton.mp hx]; exact no rfl
    | IsMarked w => exact thr_b (i := 5) rfl fun x hx => by rw [List.mem_singleton.mp hx]; exact no rfl
    | OnDays a b =>
      refine thr_b (i := 6) rfl fun x hx => ?_
      simp only [List.mem_cons, List.not_mem_nil, or_false] at hx
      rcases hx with rfl | rfl <;> exact no rfl
    | IsAnswer => exact thr_b (i := 7) rfl (by simp)
    | NotSo c => exact thr_b (i := 8) rfl fun x hx _ => by rw [List.mem_singleton.mp hx]; exact threads_ok n c (by simp only [dep] at h; omega)
    | InThread c => exact thr_b (i := 9) rfl fun x hx _ => by rw [List.mem_singleton.mp hx]; exact threads_ok n c (by simp only [dep] at h; omega)
    | BothSo a b =>
      refine thr_b (i := 10) rfl fun x hx _ => ?_
      simp only [List.mem_cons, List.not_mem_nil, or_false] at hx
      rcases hx with rfl | rfl
      · exact threads_ok n a (by simp only [dep] at h; omega)
      · exact threads_ok n b (by simp only [dep] at h; omega)
    | EitherSo a b =>
      refine thr_b (i := 11) rfl fun x hx _ => ?_
      simp only [List.mem_cons, List.not_mem_nil, or_false] at hx
      rcases hx with rfl | rfl
      · exact threads_ok n a (by simp only [dep] at h; omega)
      · exact threads_ok n b (by simp only [dep] at h; omega)
theorem leaf_ok {b x : Int} (hb : 0 ≤ b) (hx : 0 ≤ x) : Ok (m_law_leaf_by b x) fun r => ∃ c, r = tr c ∧ Gc c ∧ dep c = 1 := by
  unfold m_law_leaf_by
  refine .bind (word_by_ok hb ⟨Int.emod_nonneg _ (by decide), Int.emod_lt_of_pos _ (by decide)⟩) fun w hw => .lets ?_
  have h0 : 0 ≤ x % 11 := Int.emod_nonneg _ (by decide)
  have h1 : x % 11 < 11 := Int.emod_lt_of_pos _ (by decide)
  refine .ite (fun _ => .ret ⟨.Anything, rfl, trivial, rfl⟩) fun _ => .ite (fun _ => .ret ⟨.IsAnswer, rfl, trivial, rfl⟩) fun _ => .ite (fun _ => ?_) fun q => ?_
  · refine .idx (Int.emod_nonneg _ (by decide)) (Int.emod_lt_of_pos _ (by decide)) fun y _ _ => .idx (Int.emod_nonneg _ (by decide)) (Int.emod_lt_of_pos _ (by decide)) fun z _ _ => .ret ⟨.OnDays y z, rfl, trivial, rfl⟩
  · have q : 4 ≤ x % 11 := by
      have := of_decide_eq_false (by simpa using q : decide (x % 11 < 4) = false)
      omega
    refine .idx (by omega) (by show x % 11 - 4 < 7; omega) fun k hk _ => .ret ?_
    simp only [List.mem_cons, List.not_mem_nil, or_false] at hk
    rcases hk with rfl | rfl | rfl | rfl | rfl | rfl | rfl
    · exact ⟨.HasWord w, rfl, hw, rfl⟩
    · exact ⟨.InTitle w, rfl, hw, rfl⟩
    · exact ⟨.FromSender w, rfl, hw, rfl⟩
    · exact ⟨.InFolder w, rfl, hw, rfl⟩
    · exact ⟨.IsMarked w, rfl, hw, rfl⟩
    · exact ⟨.HasWord w, rfl, hw, rfl⟩
    · exact ⟨.IsMarked w, rfl, hw, rfl⟩
theorem idx_end {α : Type} {xs : List α} {j : Nat} (hj : j < xs.length) : idxR xs (-((j : Int) + 1)) = .ok (xs[xs.length - 1 - j]'(by omega)) := by
  have e : ixN xs.length (-((j : Int) + 1)) = some (xs.length - 1 - j) := by
    unfold ixN
    rw [if_neg (by omega), if_pos (by omega)]
    congr 1; omega
  unfold idxR atI
  rw [e]
  show (match xs[xs.length - 1 - j]? with | some x => R.ok x | none => R.bad) = _
  rw [List.getElem?_eq_getElem (by omega)]
theorem last1 {α : Type} {l : List α} {x : α} : idxR (l ++ [x]) (-1) = .ok x := by
  have h := idx_end (xs := l ++ [x]) (j := 0) (by simp)
  have e : (-(((0 : Nat) : Int) + 1)) = -1 := rfl
  rw [e] at h
  rw [h]
  congr 1
  simp
theorem last2 {α : Type} {l : List α} {x y : α} : idxR (l ++ [x, y]) (-1) = .ok y ∧ idxR (l ++ [x, y]) (-2) = .ok x := by
  have h0 := idx_end (xs := l ++ [x, y]) (j := 0) (by simp)
  have h1 := idx_end (xs := l ++ [x, y]) (j := 1) (by simp)
  have e0 : (-(((0 : Nat) : Int) + 1)) = -1 := rfl
  have e1 : (-(((1 : Nat) : Int) + 1)) = -2 := rfl
  rw [e0] at h0
  rw [e1] at h1
  rw [h0, h1]
  exact ⟨by congr 1; simp, by congr 1; simp⟩
theorem but2 {α : Type} {l : List α} {x y : α} : cutL (l ++ [x, y]) none (some (-2)) = l := by
  unfold cutL
  have e : HT.sIx (l ++ [x, y]).length (l ++ [x, y]).length (some (-2)) = l.length := by
    show (if (-2 : Int) < 0 then (-2 + ((l ++ [x, y]).length : Int)).toNat else min (-2 : Int).toNat (l ++ [x, y]).length) = _
    rw [if_pos (by decide), List.length_append]
    simp only [List.length_cons, List.length_nil]
    omega
  rw [HT.sIx_none, e, List.drop_zero, Nat.sub_zero]
  simp
theorem split1 {α : Type} {l : List α} (h : 0 < l.length) : ∃ m x, l = m ++ [x] := ⟨l.dropLast, l.getLast (by intro e; rw [e] at h; simp at h), (List.dropLast_concat_getLast _).symm⟩
/-- a pile of trees, not deeper together than n -/
def Pile (n : Nat) (s : List Any) : Prop := ∃ cs : List Cond, s = cs.map tr ∧ (∀ c, c ∈ cs → Gc c) ∧ (cs.map dep).sum ≤ n
theorem Pile.len {n : Nat} {s : List Any} (h : Pile n s) : s.length ≤ n := by
  obtain ⟨cs, rfl, _, h⟩ := h
  rw [List.length_map]
  have : ∀ cs : List Cond, cs.length ≤ (cs.map dep).sum := fun cs => by
    induction cs with
    | nil => exact Nat.le_refl _
    | cons c r ih =>
      have := dep_pos c
      rw [List.map_cons, List.sum_cons, List.length_cons]; omega
  exact Nat.le_trans (this cs) h
theorem Pile.put {n m : Nat} {s : List Any} {c : Cond} (h : Pile n s) (g : Gc c) (e : n + dep c ≤ m) : Pile m (s ++ [tr c]) := by
  obtain ⟨cs, rfl, h1, h2⟩ := h
  refine ⟨cs ++ [c], by simp, fun d hd => ?_, by rw [List.map_append, List.sum_append, List.map_singleton, List.sum_singleton]; omega⟩
  rcases List.mem_append.mp hd with q | q
  · exact h1 d q
  · rw [List.mem_singleton.mp q]; exact g
theorem Pile.last {n : Nat} {s : List Any} (h : Pile n s) (l : 0 < s.length) : ∃ p c k, s = p ++ [tr c] ∧ Pile k p ∧ Gc c ∧ k + dep c ≤ n := by
  obtain ⟨cs, rfl, h1, h2⟩ := h
  rw [List.length_map] at l
  obtain ⟨m, c, rfl⟩ := split1 l
  rw [List.map_append, List.sum_append, List.map_singleton, List.sum_singleton] at h2
  exact ⟨m.map tr, c, (m.map dep).sum, by simp, ⟨m, rfl, fun d hd => h1 d (by simp [hd]), Nat.le_refl _⟩, h1 c (by simp), h2⟩
theorem Pile.last2 {n : Nat} {s : List Any} (h : Pile n s) (l : 1 < s.length) : ∃ p a b k, s = p ++ [tr a, tr b] ∧ Pile k p ∧ Gc a ∧ Gc b ∧ k + dep a + dep b ≤ n := by
  obtain ⟨p, b, k, rfl, hp, gb, e⟩ := h.last (by omega)
  rw [List.length_append, List.length_singleton] at l
  obtain ⟨q, a, j, rfl, hq, ga, e2⟩ := hp.last (by omega)
  exact ⟨q, a, b, j, by simp, hq, ga, gb, by omega⟩
theorem join_ok {n : Nat} {s : List Any} {y : Int} (h : Pile n s) (hn : n ≤ 12) (l : 1 < s.length) (hy : 0 ≤ y ∧ y < 2) :
    Ok ((idxR ([("both" : Str), ("either" : Str)]) y).bind fun x58 =>
(idxR s (-2)).bind fun x59 =>
(idxR s (-1)).bind fun x67 =>
R.need ((cutL s none (some (-2))).length + ([(Any.tup [(Any.str x58), x59, x67])]).length ≤ sizeLine) <|
(R.ok ((cutL s none (some (-2))) ++ ([(Any.tup [(Any.str x58), x59, x67])]) : (List Any))).bind fun y80 =>
R.ok (y80)) fun r => Pile n r ∧ r.length + 1 = s.length := by
  obtain ⟨p, a, b, k, rfl, hp, ga, gb, e⟩ := h.last2 l
  have hl := hp.len
  refine .idx hy.1 (show y < 2 from hy.2) fun w hw _ => .bindE last2.2 (.bindE last2.1 ?_)
  rw [but2]
  refine .need (le_line (by simp only [List.length_singleton]; omega)) (.lets (.ret ?_))
  have h1 := dep_pos a
  have h2 := dep_pos b
  refine ⟨?_, by simp⟩
  simp only [List.mem_cons, List.not_mem_nil, or_false] at hw
  rcases hw with rfl | rfl
  · exact hp.put (c := .BothSo a b) ⟨ga, gb⟩ (by simp only [dep]; omega)
  · exact hp.put (c := .EitherSo a b) ⟨ga, gb⟩ (by simp only [dep]; omega)
theorem while_ok {n : Nat} (hn : n ≤ 12) {f : List Any → R (List Any)} (hf : ∀ s, Pile n s → 1 < s.length → Ok (f s) fun r => Pile n r ∧ r.length + 1 = s.length) :
    ∀ (m : Nat) (s : List Any), Pile n s → s.length < m → 0 < s.length → Ok (whileN m (fun s => decide (1 < (s.length : Int))) f s) fun r => Pile n r ∧ r.length = 1
  | 0, s, _, h, _ => absurd h (by omega)
  | m + 1, s, hs, h, h0 => by
    unfold whileN
    refine .ite (fun c => ?_) fun c => ?_
    · have c : 1 < s.length := by have := of_decide_eq_true c; omega
      exact .bind (hf s hs c) fun r hr => while_ok hn hf m r hr.1 (by omega) (by omega)
    · have c : ¬ (1 < (s.length : Int)) := by simpa using c
      exact .ret ⟨hs, by omega⟩
theorem tree_by_ok {b : Int} {l : List Int} (hb : 0 ≤ b) (h0 : 0 < l.length) (hl : l.length ≤ 7) (hx : ∀ x, x ∈ l → 0 ≤ x ∧ x < 2147483629) :
    Ok (m_law_tree_by b l) fun r => ∃ c, r = tr c ∧ Gc c ∧ dep c ≤ 12 := by
  unfold m_law_tree_by
  refine .forI (fun pre s => Pile pre.length s ∧ (pre ≠ [] → 0 < s.length)) ⟨⟨[], rfl, by simp, Nat.le_refl _⟩, fun h => absurd rfl h⟩ ?_ ?_
  · rintro p x q s ep ⟨hs, _⟩
    have hp := pre_lt ep
    have x0 := (hx x (by rw [ep]; simp)).1
    have sl := hs.len
    have lp : (p ++ [x]).length = p.length + 1 := by simp
    refine .lets ?_
    have y0 : 0 ≤ x % 9 := Int.emod_nonneg _ (by decide)
    generalize x % 9 = y at *
    have fin : ∀ {m : R (List Any)}, Ok m (fun r => Pile (p ++ [x]).length r ∧ 0 < r.length) → Ok m fun r => Pile (p ++ [x]).length r ∧ (p ++ [x] ≠ [] → 0 < r.length) := fun h => h.mono fun r hr => ⟨hr.1, fun _ => hr.2⟩
    refine fin ?_
    rw [lp]
    have pos : ∀ {n : Nat}, decide (0 < (n : Int)) = true → 0 < n := fun h => by have := of_decide_eq_true h; omega
    refine .bind (Q := fun r => Pile (p.length + 1) r ∧ 0 < r.length) (.ite (fun c => ?_) fun c => ?_) fun r hr => .ret hr
    · rw [Bool.and_eq_true] at c
      obtain ⟨u, d, k, rfl, hu, gd, e⟩ := hs.last (pos c.2)
      have ul := hu.len
      refine .bindE last1 ?_
      rw [cutL_but1, List.dropLast_concat]
      exact .need (le_line (by simp only [List.length_singleton]; omega)) (.lets (.ret ⟨hu.put (c := .NotSo d) gd (by simp only [dep]; omega), by simp⟩))
    · refine .bind (Q := fun b26 => b26 = true → 0 < s.length) (.ite (fun _ => ?_) fun _ => .ret fun z => absurd z Bool.false_ne_true) fun b26 hb26 => ?_
      · refine .bind (Q := fun b27 => b27 = true → 0 < s.length) (.ite (fun c2 => ?_) fun _ => .ret fun z => absurd z Bool.false_ne_true) fun z hz => .ret hz
        obtain ⟨u, d, k, rfl, hu, gd, e⟩ := hs.last (pos c2)
        exact .bindE last1 (.bind (threads_ok 12 d (by omega)) fun n _ => .ret fun _ => by simp)
      · refine .bind (Q := fun r => Pile (p.length + 1) r ∧ 0 < r.length) (.ite (fun c2 => ?_) fun c2 => ?_) fun r hr => .ret hr
        · obtain ⟨u, d, k, rfl, hu, gd, e⟩ := hs.last (hb26 c2)
          have ul := hu.len
          refine .bindE last1 ?_
          rw [cutL_but1, List.dropLast_concat]
          exact .need (le_line (by simp only [List.length_singleton]; omega)) (.lets (.ret ⟨hu.put (c := .InThread d) gd (by simp only [dep]; omega), by simp⟩))
        · refine .bind (Q := fun r => Pile (p.length + 1) r ∧ 0 < r.length) (.ite (fun c3 => ?_) fun c3 => ?_) fun r hr => .ret hr
          · rw [Bool.and_eq_true] at c3
            have c4 : 1 < s.length := by have := of_decide_eq_true c3.2; omega
            refine (join_ok hs (by omega) c4 ⟨Int.emod_nonneg _ (by decide), Int.emod_lt_of_pos _ (by decide)⟩).mono fun r hr => ⟨?_, by omega⟩
            obtain ⟨cs, e1, e2, e3⟩ := hr.1
            exact ⟨cs, e1, e2, by omega⟩
          · refine .bind (leaf_ok hb (Int.ediv_nonneg x0 (by decide))) fun r hr => ?_
            obtain ⟨c, rfl, gc, dc⟩ := hr
            exact .need (lt_line (m := 10) (by omega) (by decide)) (.ret ⟨hs.put gc (by omega), by simp⟩)
  · rintro s ⟨hs, h1⟩
    have h1 := h1 (by intro e; rw [e] at h0; simp at h0)
    have sl := hs.len
    refine .bind (while_ok (n := l.length) (by omega) (fun s hs c => ?_) 64 s hs (by omega) h1) fun r hr => ?_
    · refine .idx (by decide) (by omega) fun x _ _ => ?_
      exact join_ok hs (by omega) c ⟨Int.emod_nonneg _ (by decide), Int.emod_lt_of_pos _ (by decide)⟩
    · obtain ⟨⟨cs, rfl, g, d⟩, l1⟩ := hr
      rw [List.length_map] at l1
      obtain ⟨c, rfl⟩ := List.length_eq_one_iff.mp l1
      have d : dep c ≤ l.length := by simpa using d
      exact .bindE (a := tr c) rfl (.ret ⟨c, rfl, g c (by simp), by omega⟩)
theorem strsR_map : ∀ xs : List Str, strsR (xs.map Any.str) = .ok xs
  | [] => rfl
  | x :: r => by
    show (strsR (r.map Any.str)).bind _ = _
    rw [strsR_map r]
    rfl
theorem Mks.set {M N : List Str} (h : Mks M) (m : ∀ x, x ∈ M ↔ x ∈ N) : ssetT N = M := (ssetT_is h.nd h.up m).symm
theorem made_eq {t : T3c} (W : Wc t) : m_law_made t = .ok (mkC t) := by
  have h3 := W.mm.few
  refine Ok.eq ?_
  unfold m_law_made
  refine .bindE (a := mkL t.a) ?_ (.bindE (a := mkC t) ?_ (.ret rfl))
  · unfold m_law_letter
    rw [Letter_ok W.gl]; rfl
  · have : m_Card___init__ (mkL t.a) t.b (Any.lst (t.c.map Any.str)) = (strsR (t.c.map Any.str)).bind fun ss => R.need (ss.length < 64) <| R.ok (⟨mkL t.a, t.b, ssetT ss⟩ : Card) := rfl
    rw [this, strsR_map]
    show R.need (t.c.length < 64) _ = _
    rw [R.need_pos (by omega), W.mm.set fun x => Iff.rfl]; rfl
theorem lay_t {t : T3c} (W : Wc t) : (Lay.lay t : Bool) = true := by
  show (Lay.lay t.a && (Lay.lay t.b && Lay.lay t.c)) = true
  rw [show (Lay.lay t.a : Bool) = true from lay_parts (isW_asc W.gl.ga) W.ab W.ac (e_asc W.gl.ge).1, (isW_asc W.bx).lay, show (Lay.lay t.c : Bool) = true from lay_all fun x hx => isW_asc (W.mm.wd x hx)]; rfl
theorem lay_ts {ts : List T3c} (W : ∀ t, t ∈ ts → Wc t) : (Lay.lay ts : Bool) = true := List.all_eq_true.mpr fun t ht => lay_t (W t ht)
theorem comp_shown (os : List T3c) : compR (fun (_ : Unit) (x48 : Card) =>
(m_law_shown x48).bind fun r53 =>
R.ok ((), some (r53))) (os.map mkC) () = .ok ((), os) := by
  rw [compR_map (g := fun c : Card => (⟨⟨c.letter.sender, c.letter.title, c.letter.body, c.letter.day, c.letter.answers⟩, c.box, c.signs⟩ : T3c)) fun x _ => rfl, List.map_map]
  congr 2
  exact List.map_id _
theorem told_ok {c : Cond} (g : Gc c) (d : dep c ≤ 12) {ts : List T3c} (W : ∀ t, t ∈ ts → Wc t) (hl : ts.length ≤ 4) : m_law_told c (tr c) ts (ts.map mkC) = .ok true := by
  refine Ok.eq ?_
  unfold m_law_told
  refine .need (le_line (by omega)) ?_
  refine .forFK (fun _ => True) trivial (fun x s hx _ => ?_) fun s _ => ?_
  · have hx := rngL_mem hx
    obtain ⟨i, rfl⟩ : ∃ i : Nat, x = (i : Int) := ⟨x.toNat, by omega⟩
    have hk : i < ts.length := by omega
    have ei : idxR ts (i : Int) = .ok ts[i] := by
      obtain ⟨y, h1, _, h2⟩ := idxR_mem (xs := ts) (i := (i : Int)) (by omega) (by omega)
      rw [Int.toNat_natCast, List.getElem?_eq_getElem hk] at h2
      rw [h1, Option.some.inj h2]
    have em : idxR (ts.map mkC) (i : Int) = .ok (mkC ts[i]) := by
      obtain ⟨y, h1, _, h2⟩ := idxR_mem (xs := ts.map mkC) (i := (i : Int)) (by omega) (by rw [List.length_map]; omega)
      rw [Int.toNat_natCast, List.getElem?_map, List.getElem?_eq_getElem hk] at h2
      rw [h1, ← Option.some.inj h2]
    have c1 : cutL (ts.map mkC) none (some (i : Int)) = (ts.take i).map mkC := by rw [cutL_to (by omega), List.map_take]; rfl
    have c2 : cutL (ts.map mkC) (some ((i : Int) + 1)) none = (ts.drop (i + 1)).map mkC := by rw [cutL_from (by omega), List.map_drop]; rfl
    have c3 : cutL ts none (some (i : Int)) = ts.take i := by rw [cutL_to (by omega)]; rfl
    have c4 : cutL ts (some ((i : Int) + 1)) none = ts.drop (i + 1) := by rw [cutL_from (by omega)]; rfl
    rw [c1, c2, c3, c4, ← List.map_append]
    have ol : (ts.take i ++ ts.drop (i + 1)).length ≤ 3 := by simp only [List.length_append, List.length_take, List.length_drop]; omega
    have l1 : (ts.take i).length + (ts.drop (i + 1)).length ≤ 3 := by rw [← List.length_append]; exact ol
    have oW : ∀ u, u ∈ ts.take i ++ ts.drop (i + 1) → Wc u := fun u hu => by
      rcases List.mem_append.mp hu with h | h
      · exact W u (List.mem_of_mem_take h)
      · exact W u (List.mem_of_mem_drop h)
    have tW : Wc ts[i] := W _ (List.getElem_mem hk)
    generalize ts[i] = t at *
    refine .need (le_line (by rw [List.length_map, List.length_map]; omega)) (.lets (.bindE em (.bindE (holds_eq 12 c t _ d tW oW ol) (.bindE ei (.need (le_line (by omega)) (.bindE (law_holds_eq 12 c t _ d tW oW ol) ?_))))))
    refine .ifF (by simp) (.need (le_line (by rw [List.length_map]; omega)) (.bindE (comp_shown _) (.need (le_line (by rw [List.length_map]; omega)) (.bindE (comp_shown _) (.need (lay_ts oW) (.need (lay_ts oW) (.ifF (by simp) (.ret ⟨(), rfl, trivial⟩))))))))
  · exact .bindE (tree_tr 12 c d) (.bindE (tr_self g (by omega)) (.bind (Q := fun z => z = true) (.ifT rfl (.ret rfl)) fun z hz => .ret hz))
theorem cutL_in {α : Type} {xs : List α} {a b n : Nat} (h : a + n ≤ xs.length) (e : b = a + n) : (cutL xs (some (a : Int)) (some (b : Int))).length = n := by
  unfold cutL
  rw [sIx_nn (by omega), sIx_nn (by omega), List.length_take, List.length_drop]
  omega
theorem law_ok (s : Script) (_ : s.ns.length ≤ 63) : m_law s = .ok true := by
  unfold m_law
  refine Ok.eq ?_
  refine .bind (mixed_ok s) fun r hr => ?_
  obtain ⟨hl, hx⟩ := hr
  have at_ : ∀ {ρ : Type} {P : ρ → Prop} {i : Int} {f : Int → R ρ}, 0 ≤ i → i < 52 → (∀ x : Int, 0 ≤ x → Ok (f x) P) → Ok ((idxR r i).bind f) P := fun h0 h1 k => .idx h0 (by rw [hl]; exact h1) fun x hm _ => k x (hx x hm).1
  have cx : ∀ {a b : Option Int}, ∀ x, x ∈ cutL r a b → 0 ≤ x ∧ x < 2147483629 := fun x h => hx x (cutL_mem h)
  refine at_ (by decide) (by decide) fun b hb => at_ (by decide) (by decide) fun x4 h4 => ?_
  have g0 := Int.emod_nonneg x4 (show (4 : Int) ≠ 0 by decide)
  have g1 := Int.emod_lt_of_pos x4 (show (0 : Int) < 4 by decide)
  refine .need (by omega) (.need (le_line (by rw [rngL_len]; omega)) ?_)
  refine .comp (fun t : T3c => Wc t) (fun x hm => ?_) fun ts tl tW => ?_
  · have hm := rngL_mem hm
    obtain ⟨i, rfl⟩ : ∃ i : Nat, x = (i : Int) := ⟨x.toNat, by omega⟩
    have ll : (cutL r (some (10 * (i : Int))) (some ((10 * (i : Int)) + 10))).length = 10 := by
      have := cutL_in (xs := r) (a := 10 * i) (b := 10 * i + 10) (n := 10) (by omega) rfl
      rw [show ((10 * i : Nat) : Int) = 10 * (i : Int) by omega, show ((10 * i + 10 : Nat) : Int) = 10 * (i : Int) + 10 by omega] at this
      exact this
    refine .bind (card_by_ok hb (by omega) cx) fun t ht => .ret ⟨t, rfl, ⟨ht.1.1, ht.1.2.1, ht.1.2.2, ht.2.1, ht.2.2⟩⟩
  · rw [rngL_len] at tl
    dsimp only
    refine .need (le_line (by omega)) ?_
    refine .bindE (a := ((), ts.map mkC)) (compR_map fun t ht => by rw [made_eq (tW t ht)]; rfl) ?_
    refine at_ (by decide) (by decide) fun x27 h27 => ?_
    have e0 := Int.emod_nonneg (x27 / 4) (show (7 : Int) ≠ 0 by decide)
    have e1 := Int.emod_lt_of_pos (x27 / 4) (show (0 : Int) < 7 by decide)
    obtain ⟨n, hn⟩ : ∃ n : Nat, 41 + x27 / 4 % 7 = ((41 + n : Nat) : Int) := ⟨(x27 / 4 % 7).toNat, by omega⟩
    rw [hn]
    have l1 := cutL_in (xs := r) (a := 40) (b := 41 + n) (n := 1 + n) (by omega) (by omega)
    refine .bind (tree_by_ok hb (by rw [show ((40 : Nat) : Int) = 40 from rfl] at l1; omega) (by rw [show ((40 : Nat) : Int) = 40 from rfl] at l1; omega) cx) fun t1 ht1 => ?_
    obtain ⟨c1, rfl, gc1, d1⟩ := ht1
    refine at_ (by decide) (by decide) fun x32 h32 => ?_
    have e2 := Int.emod_nonneg (x32 / 28) (show (4 : Int) ≠ 0 by decide)
    have e3 := Int.emod_lt_of_pos (x32 / 28) (show (0 : Int) < 4 by decide)
    obtain ⟨m, hm⟩ : ∃ m : Nat, 45 + x32 / 28 % 4 = ((45 + m : Nat) : Int) := ⟨(x32 / 28 % 4).toNat, by omega⟩
    rw [hm]
    have l2 := cutL_in (xs := r) (a := 43) (b := 45 + m) (n := 2 + m) (by omega) (by omega)
    refine .bind (tree_by_ok hb (by rw [show ((43 : Nat) : Int) = 43 from rfl] at l2; omega) (by rw [show ((43 : Nat) : Int) = 43 from rfl] at l2; omega) cx) fun t2 ht2 => ?_
    obtain ⟨c2, rfl, gc2, d2⟩ := ht2
    have k1 := told_ok gc1 d1 tW (by omega)
    have k2 := told_ok gc2 d2 tW (by omega)
    refine .bindE (cond_of_tr 12 c1 d1) (.bindE (cond_of_tr 12 c2 d2) (.bindE k1 ?_))
    refine .bind (Q := fun z => z = false) (.ifF (by simp) (.bindE k2 (.ret rfl))) fun z hz => ?_
    subst hz
    exact .ifF (by simp) (.bindE k1 (.ret rfl))
end Lw
namespace Lw
open PySem PySem.Spec PyProof.Rows L2 Ml
instance imAnythingI {G : Gx} : Im G Anything := ⟨fun H v x => ∃ a dx, v = .ref a ∧ G.fz (G.cl 1) = some 0 ∧ H a = some (.ins (G.cl 1) dx []),
  fun ⟨a, dx, e, z, h⟩ s => ⟨a, dx, e, z, s.1 a _ h (by show decide (G.fz (G.cl 1) = some 0) = true; rw [z]; rfl)⟩⟩
instance {G : Gx} : IsRef G Anything := ⟨fun h => by obtain ⟨a, _, e, _⟩ := h; exact ⟨a, e⟩⟩
instance imHasWordI {G : Gx} : Im G HasWord := ⟨fun H v x => ∃ a dx, v = .ref a ∧ G.fz (G.cl 2) = some 1 ∧ H a = some (.ins (G.cl 2) dx [("word", (.str (x.word)))]),
  fun ⟨a, dx, e, z, h⟩ s => ⟨a, dx, e, z, s.1 a _ h (by show decide (G.fz (G.cl 2) = some 1) = true; rw [z]; rfl)⟩⟩
instance {G : Gx} : IsRef G HasWord := ⟨fun h => by obtain ⟨a, _, e, _⟩ := h; exact ⟨a, e⟩⟩
theorem im_HasWord {G : Gx} {H : Hp} {a : Addr} {x : HasWord} (h : Im.im G H (.ref a) x) : ∃ dx, H a = some (.ins (G.cl 2) dx [("word", (.str (x.word)))]) := by
  obtain ⟨b, dx, e, _, h⟩ := h; cases e; exact ⟨dx, h⟩
theorem mk_HasWord {G : Gx} {H : Hp} {a dx : Addr} {f_word : Str} (z : G.fz (G.cl 2) = some 1) (h : H a = some (.ins (G.cl 2) dx [("word", (.str (f_word)))])) : Im.im G H (.ref a) (⟨f_word⟩ : HasWord) := ⟨a, dx, rfl, z, h⟩
instance imInTitleI {G : Gx} : Im G InTitle := ⟨fun H v x => ∃ a dx, v = .ref a ∧ G.fz (G.cl 3) = some 1 ∧ H a = some (.ins (G.cl 3) dx [("word", (.str (x.word)))]),
  fun ⟨a, dx, e, z, h⟩ s => ⟨a, dx, e, z, s.1 a _ h (by show decide (G.fz (G.cl 3) = some 1) = true; rw [z]; rfl)⟩⟩
instance {G : Gx} : IsRef G InTitle := ⟨fun h => by obtain ⟨a, _, e, _⟩ := h; exact ⟨a, e⟩⟩
theorem im_InTitle {G : Gx} {H : Hp} {a : Addr} {x : InTitle} (h : Im.im G H (.ref a) x) : ∃ dx, H a = some (.ins (G.cl 3) dx [("word", (.str (x.word)))]) := by
  obtain ⟨b, dx, e, _, h⟩ := h; cases e; exact ⟨dx, h⟩
theorem mk_InTitle {G : Gx} {H : Hp} {a dx : Addr} {f_word : Str} (z : G.fz (G.cl 3) = some 1) (h : H a = some (.ins (G.cl 3) dx [("word", (.str (f_word)))])) : Im.im G H (.ref a) (⟨f_word⟩ : InTitle) := ⟨a, dx, rfl, z, h⟩
instance imFromSenderI {G : Gx} : Im G FromSender := ⟨fun H v x => ∃ a dx, v = .ref a ∧ G.fz (G.cl 4) = some 1 ∧ H a = some (.ins (G.cl 4) dx [("word", (.str (x.word)))]),
  fun ⟨a, dx, e, z, h⟩ s => ⟨a, dx, e, z, s.1 a _ h (by show decide (G.fz (G.cl 4) = some 1) = true; rw [z]; rfl)⟩⟩
instance {G : Gx} : IsRef G FromSender := ⟨fun h => by obtain ⟨a, _, e, _⟩ := h; exact ⟨a, e⟩⟩
theorem im_FromSender {G : Gx} {H : Hp} {a : Addr} {x : FromSender} (h : Im.im G H (.ref a) x) : ∃ dx, H a = some (.ins (G.cl 4) dx [("word", (.str (x.word)))]) := by
  obtain ⟨b, dx, e, _, h⟩ := h; cases e; exact ⟨dx, h⟩
theorem mk_FromSender {G : Gx} {H : Hp} {a dx : Addr} {f_word : Str} (z : G.fz (G.cl 4) = some 1) (h : H a = some (.ins (G.cl 4) dx [("word", (.str (f_word)))])) : Im.im G H (.ref a) (⟨f_word⟩ : FromSender) := ⟨a, dx, rfl, z, h⟩
instance imInFolderI {G : Gx} : Im G InFolder := ⟨fun H v x => ∃ a dx, v = .ref a ∧ G.fz (G.cl 5) = some 1 ∧ H a = some (.ins (G.cl 5) dx [("word", (.str (x.word)))]),
  fun ⟨a, dx, e, z, h⟩ s => ⟨a, dx, e, z, s.1 a _ h (by show decide (G.fz (G.cl 5) = some 1) = true; rw [z]; rfl)⟩⟩
instance {G : Gx} : IsRef G InFolder := ⟨fun h => by obtain ⟨a, _, e, _⟩ := h; exact ⟨a, e⟩⟩
theorem im_InFolder {G : Gx} {H : Hp} {a : Addr} {x : InFolder} (h : Im.im G H (.ref a) x) : ∃ dx, H a = some (.ins (G.cl 5) dx [("word", (.str (x.word)))]) := by
  obtain ⟨b, dx, e, _, h⟩ := h; cases e; exact ⟨dx, h⟩
theorem mk_InFolder {G : Gx} {H : Hp} {a dx : Addr} {f_word : Str} (z : G.fz (G.cl 5) = some 1) (h : H a = some (.ins (G.cl 5) dx [("word", (.str (f_word)))])) : Im.im G H (.ref a) (⟨f_word⟩ : InFolder) := ⟨a, dx, rfl, z, h⟩
instance imIsMarkedI {G : Gx} : Im G IsMarked := ⟨fun H v x => ∃ a dx, v = .ref a ∧ G.fz (G.cl 6) = some 1 ∧ H a = some (.ins (G.cl 6) dx [("word", (.str (x.word)))]),
  fun ⟨a, dx, e, z, h⟩ s => ⟨a, dx, e, z, s.1 a _ h (by show decide (G.fz (G.cl 6) = some 1) = true; rw [z]; rfl)⟩⟩
instance {G : Gx} : IsRef G IsMarked := ⟨fun h => by obtain ⟨a, _, e, _⟩ := h; exact ⟨a, e⟩⟩
theorem im_IsMarked {G : Gx} {H : Hp} {a : Addr} {x : IsMarked} (h : Im.im G H (.ref a) x) : ∃ dx, H a = some (.ins (G.cl 6) dx [("word", (.str (x.word)))]) := by
  obtain ⟨b, dx, e, _, h⟩ := h; cases e; exact ⟨dx, h⟩
theorem mk_IsMarked {G : Gx} {H : Hp} {a dx : Addr} {f_word : Str} (z : G.fz (G.cl 6) = some 1) (h : H a = some (.ins (G.cl 6) dx [("word", (.str (f_word)))])) : Im.im G H (.ref a) (⟨f_word⟩ : IsMarked) := ⟨a, dx, rfl, z, h⟩
instance imOnDaysI {G : Gx} : Im G OnDays := ⟨fun H v x => ∃ a dx, v = .ref a ∧ G.fz (G.cl 7) = some 2 ∧ H a = some (.ins (G.cl 7) dx [("low", (.int (x.low))), ("high", (.int (x.high)))]),
  fun ⟨a, dx, e, z, h⟩ s => ⟨a, dx, e, z, s.1 a _ h (by show decide (G.fz (G.cl 7) = some 2) = true; rw [z]; rfl)⟩⟩
instance {G : Gx} : IsRef G OnDays := ⟨fun h => by obtain ⟨a, _, e, _⟩ := h; exact ⟨a, e⟩⟩
theorem im_OnDays {G : Gx} {H : Hp} {a : Addr} {x : OnDays} (h : Im.im G H (.ref a) x) : ∃ dx, H a = some (.ins (G.cl 7) dx [("low", (.int (x.low))), ("high", (.int (x.high)))]) := by
  obtain ⟨b, dx, e, _, h⟩ := h; cases e; exact ⟨dx, h⟩
theorem mk_OnDays {G : Gx} {H : Hp} {a dx : Addr} {f_low : Int} {f_high : Int} (z : G.fz (G.cl 7) = some 2) (h : H a = some (.ins (G.cl 7) dx [("low", (.int (f_low))), ("high", (.int (f_high)))])) : Im.im G H (.ref a) (⟨f_low, f_high⟩ : OnDays) := ⟨a, dx, rfl, z, h⟩
instance imIsAnswerI {G : Gx} : Im G IsAnswer := ⟨fun H v x => ∃ a dx, v = .ref a ∧ G.fz (G.cl 8) = some 0 ∧ H a = some (.ins (G.cl 8) dx []),
  fun ⟨a, dx, e, z, h⟩ s => ⟨a, dx, e, z, s.1 a _ h (by show decide (G.fz (G.cl 8) = some 0) = true; rw [z]; rfl)⟩⟩
instance {G : Gx} : IsRef G IsAnswer := ⟨fun h => by obtain ⟨a, _, e, _⟩ := h; exact ⟨a, e⟩⟩
instance imLetterI {G : Gx} : Im G Letter := ⟨fun H v x => ∃ a dx, v = .ref a ∧ G.fz (G.cl 16) = some 5 ∧ H a = some (.ins (G.cl 16) dx [("sender", (.str (x.sender))), ("title", (.str (x.title))), ("body", (.str (x.body))), ("day", (.int (x.day))), ("answers", (.str (x.answers)))]),
  fun ⟨a, dx, e, z, h⟩ s => ⟨a, dx, e, z, s.1 a _ h (by show decide (G.fz (G.cl 16) = some 5) = true; rw [z]; rfl)⟩⟩
instance {G : Gx} : IsRef G Letter := ⟨fun h => by obtain ⟨a, _, e, _⟩ := h; exact ⟨a, e⟩⟩
theorem im_Letter {G : Gx} {H : Hp} {a : Addr} {x : Letter} (h : Im.im G H (.ref a) x) : ∃ dx, H a = some (.ins (G.cl 16) dx [("sender", (.str (x.sender))), ("title", (.str (x.title))), ("body", (.str (x.body))), ("day", (.int (x.day))), ("answers", (.str (x.answers)))]) := by
  obtain ⟨b, dx, e, _, h⟩ := h; cases e; exact ⟨dx, h⟩
theorem mk_Letter {G : Gx} {H : Hp} {a dx : Addr} {f_sender : Str} {f_title : Str} {f_body : Str} {f_day : Int} {f_answers : Str} (z : G.fz (G.cl 16) = some 5) (h : H a = some (.ins (G.cl 16) dx [("sender", (.str (f_sender))), ("title", (.str (f_title))), ("body", (.str (f_body))), ("day", (.int (f_day))), ("answers", (.str (f_answers)))])) : Im.im G H (.ref a) (⟨f_sender, f_title, f_body, f_day, f_answers⟩ : Letter) := ⟨a, dx, rfl, z, h⟩
instance imCardI {G : Gx} : Im G Card := ⟨fun H v x => ∃ a dx u_letter u_signs, v = .ref a ∧ G.fz (G.cl 13) = some 3 ∧ H a = some (.ins (G.cl 13) dx [("letter", u_letter), ("box", (.str (x.box))), ("signs", u_signs)]) ∧ Im.im G H u_letter x.letter ∧ Im.im G H u_signs x.signs,
  fun ⟨a, dx, u_letter, u_signs, e, z, h, i0, i1⟩ s => ⟨a, dx, u_letter, u_signs, e, z, s.1 a _ h (by show decide (G.fz (G.cl 13) = some 3) = true; rw [z]; rfl), Im.st i0 s, Im.st i1 s⟩⟩
instance {G : Gx} : IsRef G Card := ⟨fun h => by obtain ⟨a, _, _, _, e, _⟩ := h; exact ⟨a, e⟩⟩
theorem im_Card {G : Gx} {H : Hp} {a : Addr} {x : Card} (h : Im.im G H (.ref a) x) : ∃ dx u_letter u_signs, H a = some (.ins (G.cl 13) dx [("letter", u_letter), ("box", (.str (x.box))), ("signs", u_signs)]) ∧ Im.im G H u_letter x.letter ∧ Im.im G H u_signs x.signs := by
  obtain ⟨b, dx, u_letter, u_signs, e, _, h⟩ := h; cases e; exact ⟨dx, u_letter, u_signs, h⟩
theorem mk_Card {G : Gx} {H : Hp} {a dx : Addr} {f_letter : Letter} {f_box : Str} {f_signs : (List Str)} {u_letter : V} {u_signs : V} (z : G.fz (G.cl 13) = some 3) (h : H a = some (.ins (G.cl 13) dx [("letter", u_letter), ("box", (.str (f_box))), ("signs", u_signs)])) (i_letter : Im.im G H u_letter f_letter) (i_signs : Im.im G H u_signs f_signs) : Im.im G H (.ref a) (⟨f_letter, f_box, f_signs⟩ : Card) := ⟨a, dx, u_letter, u_signs, rfl, z, h, i_letter, i_signs⟩
def imCond {G : Gx} (H : Hp) : V → Cond → Prop
  | v, .Anything => ∃ a dx, v = .ref a ∧ G.fz (G.cl 1) = some 0 ∧ H a = some (.ins (G.cl 1) dx [])
  | v, .HasWord word => ∃ a dx, v = .ref a ∧ G.fz (G.cl 2) = some 1 ∧ H a = some (.ins (G.cl 2) dx [("word", (.str (word)))])
  | v, .InTitle word => ∃ a dx, v = .ref a ∧ G.fz (G.cl 3) = some 1 ∧ H a = some (.ins (G.cl 3) dx [("word", (.str (word)))])
  | v, .FromSender word => ∃ a dx, v = .ref a ∧ G.fz (G.cl 4) = some 1 ∧ H a = some (.ins (G.cl 4) dx [("word", (.str (word)))])
  | v, .InFolder word => ∃ a dx, v = .ref a ∧ G.fz (G.cl 5) = some 1 ∧ H a = some (.ins (G.cl 5) dx [("word", (.str (word)))])
  | v, .IsMarked word => ∃ a dx, v = .ref a ∧ G.fz (G.cl 6) = some 1 ∧ H a = some (.ins (G.cl 6) dx [("word", (.str (word)))])
  | v, .OnDays low high => ∃ a dx, v = .ref a ∧ G.fz (G.cl 7) = some 2 ∧ H a = some (.ins (G.cl 7) dx [("low", (.int (low))), ("high", (.int (high)))])
  | v, .IsAnswer => ∃ a dx, v = .ref a ∧ G.fz (G.cl 8) = some 0 ∧ H a = some (.ins (G.cl 8) dx [])
  | v, .NotSo inner => ∃ a dx u_inner, v = .ref a ∧ G.fz (G.cl 9) = some 1 ∧ H a = some (.ins (G.cl 9) dx [("inner", u_inner)]) ∧ imCond (G := G) H u_inner inner
  | v, .InThread inner => ∃ a dx u_inner, v = .ref a ∧ G.fz (G.cl 10) = some 1 ∧ H a = some (.ins (G.cl 10) dx [("inner", u_inner)]) ∧ imCond (G := G) H u_inner inner
  | v, .BothSo first second => ∃ a dx u_first u_second, v = .ref a ∧ G.fz (G.cl 11) = some 2 ∧ H a = some (.ins (G.cl 11) dx [("first", u_first), ("second", u_second)]) ∧ imCond (G := G) H u_first first ∧ imCond (G := G) H u_second second
  | v, .EitherSo first second => ∃ a dx u_first u_second, v = .ref a ∧ G.fz (G.cl 12) = some 2 ∧ H a = some (.ins (G.cl 12) dx [("first", u_first), ("second", u_second)]) ∧ imCond (G := G) H u_first first ∧ imCond (G := G) H u_second second
theorem imCond_st {G : Gx} {H H' : Hp} : ∀ {v : V} {x : Cond}, imCond (G := G) H v x → Stab G H H' → imCond (G := G) H' v x
  | _, .Anything, ⟨a, dx, e, z, h⟩, s => ⟨a, dx, e, z, s.1 a _ h (by show decide (G.fz (G.cl 1) = some 0) = true; rw [z]; rfl)⟩
  | _, .HasWord word, ⟨a, dx, e, z, h⟩, s => ⟨a, dx, e, z, s.1 a _ h (by show decide (G.fz (G.cl 2) = some 1) = true; rw [z]; rfl)⟩
  | _, .InTitle word, ⟨a, dx, e, z, h⟩, s => ⟨a, dx, e, z, s.1 a _ h (by show decide (G.fz (G.cl 3) = some 1) = true; rw [z]; rfl)⟩
  | _, .FromSender word, ⟨a, dx, e, z, h⟩, s => ⟨a, dx, e, z, s.1 a _ h (by show decide (G.fz (G.cl 4) = some 1) = true; rw [z]; rfl)⟩
  | _, .InFolder word, ⟨a, dx, e, z, h⟩, s => ⟨a, dx, e, z, s.1 a _ h (by show decide (G.fz (G.cl 5) = some 1) = true; rw [z]; rfl)⟩
  | _, .IsMarked word, ⟨a, dx, e, z, h⟩, s => ⟨a, dx, e, z, s.1 a _ h (by show decide (G.fz (G.cl 6) = some 1) = true; rw [z]; rfl)⟩
  | _, .OnDays low high, ⟨a, dx, e, z, h⟩, s => ⟨a, dx, e, z, s.1 a _ h (by show decide (G.fz (G.cl 7) = some 2) = true; rw [z]; rfl)⟩
  | _, .IsAnswer, ⟨a, dx, e, z, h⟩, s => ⟨a, dx, e, z, s.1 a _ h (by show decide (G.fz (G.cl 8) = some 0) = true; rw [z]; rfl)⟩
  | _, .NotSo inner, ⟨a, dx, u_inner, e, z, h, i0⟩, s => ⟨a, dx, u_inner, e, z, s.1 a _ h (by show decide (G.fz (G.cl 9) = some 1) = true; rw [z]; rfl), imCond_st i0 s⟩
  | _, .InThread inner, ⟨a, dx, u_inner, e, z, h, i0⟩, s => ⟨a, dx, u_inner, e, z, s.1 a _ h (by show decide (G.fz (G.cl 10) = some 1) = true; rw [z]; rfl), imCond_st i0 s⟩
  | _, .BothSo first second, ⟨a, dx, u_first, u_second, e, z, h, i0, i1⟩, s => ⟨a, dx, u_first, u_second, e, z, s.1 a _ h (by show decide (G.fz (G.cl 11) = some 2) = true; rw [z]; rfl), imCond_st i0 s, imCond_st i1 s⟩
  | _, .EitherSo first second, ⟨a, dx, u_first, u_second, e, z, h, i0, i1⟩, s => ⟨a, dx, u_first, u_second, e, z, s.1 a _ h (by show decide (G.fz (G.cl 12) = some 2) = true; rw [z]; rfl), imCond_st i0 s, imCond_st i1 s⟩
instance imCondI {G : Gx} : Im G Cond := ⟨imCond (G := G), imCond_st⟩
instance {G : Gx} : IsRef G Cond := ⟨fun {H v x} h => by cases x <;> (have h := (show imCond H v _ from h); unfold imCond at h) <;> (first | (obtain ⟨a, _, e, _⟩ := h; exact ⟨a, e⟩) | (obtain ⟨a, _, _, e, _⟩ := h; exact ⟨a, e⟩) | (obtain ⟨a, _, _, _, e, _⟩ := h; exact ⟨a, e⟩))⟩
instance imNotSoI {G : Gx} : Im G NotSo := ⟨fun H v x => ∃ a dx u_inner, v = .ref a ∧ G.fz (G.cl 9) = some 1 ∧ H a = some (.ins (G.cl 9) dx [("inner", u_inner)]) ∧ Im.im G H u_inner x.inner,
  fun ⟨a, dx, u_inner, e, z, h, i0⟩ s => ⟨a, dx, u_inner, e, z, s.1 a _ h (by show decide (G.fz (G.cl 9) = some 1) = true; rw [z]; rfl), Im.st i0 s⟩⟩
instance {G : Gx} : IsRef G NotSo := ⟨fun h => by obtain ⟨a, _, _, e, _⟩ := h; exact ⟨a, e⟩⟩
theorem im_NotSo {G : Gx} {H : Hp} {a : Addr} {x : NotSo} (h : Im.im G H (.ref a) x) : ∃ dx u_inner, H a = some (.ins (G.cl 9) dx [("inner", u_inner)]) ∧ Im.im G H u_inner x.inner := by
  obtain ⟨b, dx, u_inner, e, _, h⟩ := h; cases e; exact ⟨dx, u_inner, h⟩
theorem mk_NotSo {G : Gx} {H : Hp} {a dx : Addr} {f_inner : Cond} {u_inner : V} (z : G.fz (G.cl 9) = some 1) (h : H a = some (.ins (G.cl 9) dx [("inner", u_inner)])) (i_inner : Im.im G H u_inner f_inner) : Im.im G H (.ref a) (⟨f_inner⟩ : NotSo) := ⟨a, dx, u_inner, rfl, z, h, i_inner⟩
instance imInThreadI {G : Gx} : Im G InThread := ⟨fun H v x => ∃ a dx u_inner, v = .ref a ∧ G.fz (G.cl 10) = some 1 ∧ H a = some (.ins (G.cl 10) dx [("inner", u_inner)]) ∧ Im.im G H u_inner x.inner,
  fun ⟨a, dx, u_inner, e, z, h, i0⟩ s => ⟨a, dx, u_inner, e, z, s.1 a _ h (by show decide (G.fz (G.cl 10) = some 1) = true; rw [z]; rfl), Im.st i0 s⟩⟩
instance {G : Gx} : IsRef G InThread := ⟨fun h => by obtain ⟨a, _, _, e, _⟩ := h; exact ⟨a, e⟩⟩
theorem im_InThread {G : Gx} {H : Hp} {a : Addr} {x : InThread} (h : Im.im G H (.ref a) x) : ∃ dx u_inner, H a = some (.ins (G.cl 10) dx [("inner", u_inner)]) ∧ Im.im G H u_inner x.inner := by
  obtain ⟨b, dx, u_inner, e, _, h⟩ := h; cases e; exact ⟨dx, u_inner, h⟩
theorem mk_InThread {G : Gx} {H : Hp} {a dx : Addr} {f_inner : Cond} {u_inner : V} (z : G.fz (G.cl 10) = some 1) (h : H a = some (.ins (G.cl 10) dx [("inner", u_inner)])) (i_inner : Im.im G H u_inner f_inner) : Im.im G H (.ref a) (⟨f_inner⟩ : InThread) := ⟨a, dx, u_inner, rfl, z, h, i_inner⟩
instance imBothSoI {G : Gx} : Im G BothSo := ⟨fun H v x => ∃ a dx u_first u_second, v = .ref a ∧ G.fz (G.cl 11) = some 2 ∧ H a = some (.ins (G.cl 11) dx [("first", u_first), ("second", u_second)]) ∧ Im.im G H u_first x.first ∧ Im.im G H u_second x.second,
  fun ⟨a, dx, u_first, u_second, e, z, h, i0, i1⟩ s => ⟨a, dx, u_first, u_second, e, z, s.1 a _ h (by show decide (G.fz (G.cl 11) = some 2) = true; rw [z]; rfl), Im.st i0 s, Im.st i1 s⟩⟩
instance {G : Gx} : IsRef G BothSo := ⟨fun h => by obtain ⟨a, _, _, _, e, _⟩ := h; exact ⟨a, e⟩⟩
theorem im_BothSo {G : Gx} {H : Hp} {a : Addr} {x : BothSo} (h : Im.im G H (.ref a) x) : ∃ dx u_first u_second, H a = some (.ins (G.cl 11) dx [("first", u_first), ("second", u_second)]) ∧ Im.im G H u_first x.first ∧ Im.im G H u_second x.second := by
  obtain ⟨b, dx, u_first, u_second, e, _, h⟩ := h; cases e; exact ⟨dx, u_first, u_second, h⟩
theorem mk_BothSo {G : Gx} {H : Hp} {a dx : Addr} {f_first : Cond} {f_second : Cond} {u_first : V} {u_second : V} (z : G.fz (G.cl 11) = some 2) (h : H a = some (.ins (G.cl 11) dx [("first", u_first), ("second", u_second)])) (i_first : Im.im G H u_first f_first) (i_second : Im.im G H u_second f_second) : Im.im G H (.ref a) (⟨f_first, f_second⟩ : BothSo) := ⟨a, dx, u_first, u_second, rfl, z, h, i_first, i_second⟩
instance imEitherSoI {G : Gx} : Im G EitherSo := ⟨fun H v x => ∃ a dx u_first u_second, v = .ref a ∧ G.fz (G.cl 12) = some 2 ∧ H a = some (.ins (G.cl 12) dx [("first", u_first), ("second", u_second)]) ∧ Im.im G H u_first x.first ∧ Im.im G H u_second x.second,
  fun ⟨a, dx, u_first, u_second, e, z, h, i0, i1⟩ s => ⟨a, dx, u_first, u_second, e, z, s.1 a _ h (by show decide (G.fz (G.cl 12) = some 2) = true; rw [z]; rfl), Im.st i0 s, Im.st i1 s⟩⟩
instance {G : Gx} : IsRef G EitherSo := ⟨fun h => by obtain ⟨a, _, _, _, e, _⟩ := h; exact ⟨a, e⟩⟩
theorem im_EitherSo {G : Gx} {H : Hp} {a : Addr} {x : EitherSo} (h : Im.im G H (.ref a) x) : ∃ dx u_first u_second, H a = some (.ins (G.cl 12) dx [("first", u_first), ("second", u_second)]) ∧ Im.im G H u_first x.first ∧ Im.im G H u_second x.second := by
  obtain ⟨b, dx, u_first, u_second, e, _, h⟩ := h; cases e; exact ⟨dx, u_first, u_second, h⟩
theorem mk_EitherSo {G : Gx} {H : Hp} {a dx : Addr} {f_first : Cond} {f_second : Cond} {u_first : V} {u_second : V} (z : G.fz (G.cl 12) = some 2) (h : H a = some (.ins (G.cl 12) dx [("first", u_first), ("second", u_second)])) (i_first : Im.im G H u_first f_first) (i_second : Im.im G H u_second f_second) : Im.im G H (.ref a) (⟨f_first, f_second⟩ : EitherSo) := ⟨a, dx, u_first, u_second, rfl, z, h, i_first, i_second⟩
theorem to_Anything {G : Gx} {H : Hp} {v : V} {x : Anything} (h : Im.im G H v x) : Im.im G H v (Cond.Anything) := by
  show imCond H v _
  unfold imCond
  exact h
theorem of_Anything {G : Gx} {H : Hp} {v : V} (h : Im.im G H v (Cond.Anything)) : Im.im G H v (⟨⟩ : Anything) := by
  have h := (show imCond H v _ from h)
  unfold imCond at h
  exact h
theorem to_HasWord {G : Gx} {H : Hp} {v : V} {x : HasWord} (h : Im.im G H v x) : Im.im G H v (Cond.HasWord x.word) := by
  show imCond H v _
  unfold imCond
  exact h
theorem of_HasWord {G : Gx} {H : Hp} {v : V} {word : Str} (h : Im.im G H v (Cond.HasWord word)) : Im.im G H v (⟨word⟩ : HasWord) := by
  have h := (show imCond H v _ from h)
  unfold imCond at h
  exact h
theorem to_InTitle {G : Gx} {H : Hp} {v : V} {x : InTitle} (h : Im.im G H v x) : Im.im G H v (Cond.InTitle x.word) := by
  show imCond H v _
  unfold imCond
  exact h
theorem of_InTitle {G : Gx} {H : Hp} {v : V} {word : Str} (h : Im.im G H v (Cond.InTitle word)) : Im.im G H v (⟨word⟩ : InTitle) := by
  have h := (show imCond H v _ from h)
  unfold imCond at h
  exact h
theorem to_FromSender {G : Gx} {H : Hp} {v : V} {x : FromSender} (h : Im.im G H v x) : Im.im G H v (Cond.FromSender x.word) := by
  show imCond H v _
  unfold imCond
  exact h
theorem of_FromSender {G : Gx} {H : Hp} {v : V} {word : Str} (h : Im.im G H v (Cond.FromSender word)) : Im.im G H v (⟨word⟩ : FromSender) := by
  have h := (show imCond H v _ from h)
  unfold imCond at h
  exact h
theorem to_InFolder {G : Gx} {H : Hp} {v : V} {x : InFolder} (h : Im.im G H v x) : Im.im G H v (Cond.InFolder x.word) := by
  show imCond H v _
  unfold imCond
  exact h
theorem of_InFolder {G : Gx} {H : Hp} {v : V} {word : Str} (h : Im.im G H v (Cond.InFolder word)) : Im.im G H v (⟨word⟩ : InFolder) := by
  have h := (show imCond H v _ from h)
  unfold imCond at h
  exact h
theorem to_IsMarked {G : Gx} {H : Hp} {v : V} {x : IsMarked} (h : Im.im G H v x) : Im.im G H v (Cond.IsMarked x.word) := by
  show imCond H v _
  unfold imCond
  exact h
theorem of_IsMarked {G : Gx} {H : Hp} {v : V} {word : Str} (h : Im.im G H v (Cond.IsMarked word)) : Im.im G H v (⟨word⟩ : IsMarked) := by
  have h := (show imCond H v _ from h)
  unfold imCond at h
  exact h
theorem to_OnDays {G : Gx} {H : Hp} {v : V} {x : OnDays} (h : Im.im G H v x) : Im.im G H v (Cond.OnDays x.low x.high) := by
  show imCond H v _
  unfold imCond
  exact h
theorem of_OnDays {G : Gx} {H : Hp} {v : V} {low : Int} {high : Int} (h : Im.im G H v (Cond.OnDays low high)) : Im.im G H v (⟨low, high⟩ : OnDays) := by
  have h := (show imCond H v _ from h)
  unfold imCond at h
  exact h
theorem to_IsAnswer {G : Gx} {H : Hp} {v : V} {x : IsAnswer} (h : Im.im G H v x) : Im.im G H v (Cond.IsAnswer) := by
  show imCond H v _
  unfold imCond
  exact h
theorem of_IsAnswer {G : Gx} {H : Hp} {v : V} (h : Im.im G H v (Cond.IsAnswer)) : Im.im G H v (⟨⟩ : IsAnswer) := by
  have h := (show imCond H v _ from h)
  unfold imCond at h
  exact h
theorem to_NotSo {G : Gx} {H : Hp} {v : V} {x : NotSo} (h : Im.im G H v x) : Im.im G H v (Cond.NotSo x.inner) := by
  show imCond H v _
  unfold imCond
  exact h
theorem of_NotSo {G : Gx} {H : Hp} {v : V} {inner : Cond} (h : Im.im G H v (Cond.NotSo inner)) : Im.im G H v (⟨inner⟩ : NotSo) := by
  have h := (show imCond H v _ from h)
  unfold imCond at h
  exact h
theorem to_InThread {G : Gx} {H : Hp} {v : V} {x : InThread} (h : Im.im G H v x) : Im.im G H v (Cond.InThread x.inner) := by
  show imCond H v _
  unfold imCond
  exact h
theorem of_InThread {G : Gx} {H : Hp} {v : V} {inner : Cond} (h : Im.im G H v (Cond.InThread inner)) : Im.im G H v (⟨inner⟩ : InThread) := by
  have h := (show imCond H v _ from h)
  unfold imCond at h
  exact h
theorem to_BothSo {G : Gx} {H : Hp} {v : V} {x : BothSo} (h : Im.im G H v x) : Im.im G H v (Cond.BothSo x.first x.second) := by
  show imCond H v _
  unfold imCond
  exact h
theorem of_BothSo {G : Gx} {H : Hp} {v : V} {first : Cond} {second : Cond} (h : Im.im G H v (Cond.BothSo first second)) : Im.im G H v (⟨first, second⟩ : BothSo) := by
  have h := (show imCond H v _ from h)
  unfold imCond at h
  exact h
theorem to_EitherSo {G : Gx} {H : Hp} {v : V} {x : EitherSo} (h : Im.im G H v x) : Im.im G H v (Cond.EitherSo x.first x.second) := by
  show imCond H v _
  unfold imCond
  exact h
theorem of_EitherSo {G : Gx} {H : Hp} {v : V} {first : Cond} {second : Cond} (h : Im.im G H v (Cond.EitherSo first second)) : Im.im G H v (⟨first, second⟩ : EitherSo) := by
  have h := (show imCond H v _ from h)
  unfold imCond at h
  exact h
abbrev isC_Cond (i : Nat) : Bool := ([1, 2, 3, 4, 5, 6, 7, 8, 9, 10, 11, 12] : List Nat).contains i
theorem fam_Cond (c : Cond) : isC_Cond c.cls = true := by cases c <;> rfl
theorem cls_Cond {G : Gx} {H : Hp} {a : Addr} {c : Cond} (h : Im.im G H (.ref a) c) : ∃ dx fs, H a = some (.ins (G.cl c.cls) dx fs) ∧ ∀ m, m ∈ [("holds" : Str), ("tree" : Str)] → fs.lookup m = none := by
  have h := (show imCond H (.ref a) c from h)
  cases c with
  | Anything =>
    unfold imCond at h
    obtain ⟨b, dx, e, _, h⟩ := h
    cases e
    exact ⟨dx, _, h, fun m hm => by simp only [List.mem_cons, List.not_mem_nil, or_false] at hm; rcases hm with rfl | rfl <;> rfl⟩
  | HasWord word =>
    unfold imCond at h
    obtain ⟨b, dx, e, _, h⟩ := h
    cases e
    exact ⟨dx, _, h, fun m hm => by simp only [List.mem_cons, List.not_mem_nil, or_false] at hm; rcases hm with rfl | rfl <;> rfl⟩
  | InTitle word =>
    unfold imCond at h
    obtain ⟨b, dx, e, _, h⟩ := h
    cases e
    exact ⟨dx, _, h, fun m hm => by simp only [List.mem_cons, List.not_mem_nil, or_false] at hm; rcases hm with rfl | rfl <;> rfl⟩
  | FromSender word =>
    unfold imCond at h
    obtain ⟨b, dx, e, _, h⟩ := h
    cases e
    exact ⟨dx, _, h, fun m hm => by simp only [List.mem_cons, List.not_mem_nil, or_false] at hm; rcases hm with rfl | rfl <;> rfl⟩
  | InFolder word =>
    unfold imCond at h
    obtain ⟨b, dx, e, _, h⟩ := h
    cases e
    exact ⟨dx, _, h, fun m hm => by simp only [List.mem_cons, List.not_mem_nil, or_false] at hm; rcases hm with rfl | rfl <;> rfl⟩
  | IsMarked word =>
    unfold imCond at h
    obtain ⟨b, dx, e, _, h⟩ := h
    cases e
    exact ⟨dx, _, h, fun m hm => by simp only [List.mem_cons, List.not_mem_nil, or_false] at hm; rcases hm with rfl | rfl <;> rfl⟩
  | OnDays low high =>
    unfold imCond at h
    obtain ⟨b, dx, e, _, h⟩ := h
    cases e
    exact ⟨dx, _, h, fun m hm => by simp only [List.mem_cons, List.not_mem_nil, or_false] at hm; rcases hm with rfl | rfl <;> rfl⟩
  | IsAnswer =>
    unfold imCond at h
    obtain ⟨b, dx, e, _, h⟩ := h
    cases e
    exact ⟨dx, _, h, fun m hm => by simp only [List.mem_cons, List.not_mem_nil, or_false] at hm; rcases hm with rfl | rfl <;> rfl⟩
  | NotSo inner =>
    unfold imCond at h
    obtain ⟨b, dx, u_inner, e, _, h, _⟩ := h
    cases e
    exact ⟨dx, _, h, fun m hm => by simp only [List.mem_cons, List.not_mem_nil, or_false] at hm; rcases hm with rfl | rfl <;> rfl⟩
  | InThread inner =>
    unfold imCond at h
    obtain ⟨b, dx, u_inner, e, _, h, _⟩ := h
    cases e
    exact ⟨dx, _, h, fun m hm => by simp only [List.mem_cons, List.not_mem_nil, or_false] at hm; rcases hm with rfl | rfl <;> rfl⟩
  | BothSo first second =>
    unfold imCond at h
    obtain ⟨b, dx, u_first, u_second, e, _, h, _⟩ := h
    cases e
    exact ⟨dx, _, h, fun m hm => by simp only [List.mem_cons, List.not_mem_nil, or_false] at hm; rcases hm with rfl | rfl <;> rfl⟩
  | EitherSo first second =>
    unfold imCond at h
    obtain ⟨b, dx, u_first, u_second, e, _, h, _⟩ := h
    cases e
    exact ⟨dx, _, h, fun m hm => by simp only [List.mem_cons, List.not_mem_nil, or_false] at hm; rcases hm with rfl | rfl <;> rfl⟩
def sp_Cond_tree (G : Gx) (m_Cond_tree : Cond → R Any) (i : Nat) : Sp := fun vs H Q E => ∃ (a_v_self : Addr) (v_self : Cond) (F : Asn G), vs = [(.ref a_v_self)] ∧ Im.im G H (.ref a_v_self) v_self ∧ v_self.cls = i ∧ Sep H ([F] : List (Asn G)) ∧ R.wp (m_Cond_tree v_self) (fun r => ∀ (p : V) H', Sep H' ([imA p (r : Any), F] : List (Asn G)) → Q p H') (fun _ => False)
def sp_Cond_holds (G : Gx) (m_Cond_holds : Cond → Card → (List Card) → R Bool) (i : Nat) : Sp := fun vs H Q E => ∃ (a_v_self : Addr) (v_self : Cond) (a_v_card : Addr) (v_card : Card) (a_v_others : Addr) (v_others : (List Card)) (F : Asn G), vs = [(.ref a_v_self), (.ref a_v_card), .ref a_v_others] ∧ Im.im G H (.ref a_v_self) v_self ∧ Im.im G H (.ref a_v_card) v_card ∧ v_self.cls = i ∧ Sep H ([lstA a_v_others (v_others : (List Card)), F] : List (Asn G)) ∧ R.wp (m_Cond_holds v_self v_card v_others) (fun r => ∀ H', Sep H' ([lstA a_v_others (v_others : (List Card)), F] : List (Asn G)) → Q (.bl (r)) H') (fun _ => False)
def top (i : Nat) : Stmt := PySem.Challenge.pw_mailroom_k12_conditions_hold.main.body.getD i (.Pass ⟨0, 0, 0, 0⟩)
abbrev s_Anything_holds : Stmt := inClass (top 3) 0
abbrev s_Anything_tree : Stmt := inClass (top 3) 1
abbrev s_OfWord___init__ : Stmt := inClass (top 4) 0
abbrev s_OfWord_sign : Stmt := inClass (top 4) 1
abbrev s_OfWord_tree : Stmt := inClass (top 4) 2
abbrev s_InTitle_sign : Stmt := inClass (top 6) 0
abbrev s_FromSender_sign : Stmt := inClass (top 7) 0
abbrev s_FromSender_holds : Stmt := inClass (top 7) 1
abbrev s_InFolder_sign : Stmt := inClass (top 8) 0
abbrev s_InFolder_holds : Stmt := inClass (top 8) 1
abbrev s_IsMarked_sign : Stmt := inClass (top 9) 0
abbrev s_IsMarked_holds : Stmt := inClass (top 9) 1
abbrev s_OnDays___init__ : Stmt := inClass (top 10) 0
abbrev s_OnDays_holds : Stmt := inClass (top 10) 1
abbrev s_OnDays_tree : Stmt := inClass (top 10) 2
abbrev s_IsAnswer_holds : Stmt := inClass (top 11) 0
abbrev s_IsAnswer_tree : Stmt := inClass (top 11) 1
abbrev s_OfOne___init__ : Stmt := inClass (top 12) 0
abbrev s_OfOne_sign : Stmt := inClass (top 12) 1
abbrev s_OfOne_tree : Stmt := inClass (top 12) 2
abbrev s_NotSo_holds : Stmt := inClass (top 13) 0
abbrev s_InThread_sign : Stmt := inClass (top 14) 0
abbrev s_InThread_holds : Stmt := inClass (top 14) 1
abbrev s_OfTwo___init__ : Stmt := inClass (top 15) 0
abbrev s_OfTwo_sign : Stmt := inClass (top 15) 1
abbrev s_OfTwo_tree : Stmt := inClass (top 15) 2
abbrev s_BothSo_holds : Stmt := inClass (top 16) 0
abbrev s_EitherSo_sign : Stmt := inClass (top 17) 0
abbrev s_EitherSo_holds : Stmt := inClass (top 17) 1
abbrev s_of_word : Stmt := top 18
abbrev s_condition_of : Stmt := top 19
abbrev s_Card___init__ : Stmt := inClass (top 21) 0
abbrev s_is_sign : Stmt := top 29
abbrev s_is_word : Stmt := top 30
abbrev s_words_of : Stmt := top 31
abbrev s_each_once : Stmt := top 32
abbrev s_is_text : Stmt := top 37
abbrev s_is_day : Stmt := top 38
abbrev s_Letter___init__ : Stmt := inClass (top 39) 0
abbrev s_Letter_parts : Stmt := inClass (top 39) 1
abbrev s_Letter_title_words : Stmt := inClass (top 39) 2
abbrev s_Letter_words : Stmt := inClass (top 39) 3
abbrev s_law_cell_at : Stmt := top 41
abbrev s_law_mixed : Stmt := top 42
abbrev s_law_word_by : Stmt := top 43
abbrev s_law_text_by : Stmt := top 44
abbrev s_law_parts_by : Stmt := top 45
abbrev s_law_card_by : Stmt := top 46
abbrev s_law_letter : Stmt := top 47
abbrev s_law_made : Stmt := top 48
abbrev s_law_leaf_by : Stmt := top 49
abbrev s_law_threads : Stmt := top 50
abbrev s_law_tree_by : Stmt := top 51
abbrev s_law_runs : Stmt := top 52
abbrev s_law_holds : Stmt := top 53
abbrev s_law_shown : Stmt := top 54
abbrev s_HasWord_holds : Stmt := inClass (top 5) 0
abbrev s_InTitle_holds : Stmt := inClass (top 6) 1
abbrev s_law_told : Stmt := top 55
abbrev s_law : Stmt := top 56
structure Txt (G : Gx) (mg : Str → Option Value) where
  a_Anything_holds : Addr
  fd_Anything_holds : FuncData
  F_Anything_holds : Fun G.K "holds" "Anything.holds" s_Anything_holds a_Anything_holds fd_Anything_holds
  b_Anything_holds : Binds G.K fd_Anything_holds ["self", "card", "others"] []
  kp_Anything_holds : PySem.W.keepIn G.K (.ref a_Anything_holds) = true
  m_Anything_holds : Meth G.K (G.cl 1) "holds" a_Anything_holds
  a_Anything_tree : Addr
  fd_Anything_tree : FuncData
  F_Anything_tree : Fun G.K "tree" "Anything.tree" s_Anything_tree a_Anything_tree fd_Anything_tree
  b_Anything_tree : Binds G.K fd_Anything_tree ["self"] []
  kp_Anything_tree : PySem.W.keepIn G.K (.ref a_Anything_tree) = true
  m_Anything_tree : Meth G.K (G.cl 1) "tree" a_Anything_tree
  a_OfWord___init__ : Addr
  fd_OfWord___init__ : FuncData
  F_OfWord___init__ : Fun G.K "__init__" "OfWord.__init__" s_OfWord___init__ a_OfWord___init__ fd_OfWord___init__
  b_OfWord___init__ : Binds G.K fd_OfWord___init__ ["self", "word"] []
  kp_OfWord___init__ : PySem.W.keepIn G.K (.ref a_OfWord___init__) = true
  k_HasWord : Mk G.K (G.cl 2) a_OfWord___init__
  k_InTitle : Mk G.K (G.cl 3) a_OfWord___init__
  k_FromSender : Mk G.K (G.cl 4) a_OfWord___init__
  k_InFolder : Mk G.K (G.cl 5) a_OfWord___init__
  k_IsMarked : Mk G.K (G.cl 6) a_OfWord___init__
  a_OfWord_sign : Addr
  fd_OfWord_sign : FuncData
  F_OfWord_sign : Fun G.K "sign" "OfWord.sign" s_OfWord_sign a_OfWord_sign fd_OfWord_sign
  b_OfWord_sign : Binds G.K fd_OfWord_sign ["self"] []
  kp_OfWord_sign : PySem.W.keepIn G.K (.ref a_OfWord_sign) = true
  m_HasWord_sign : Meth G.K (G.cl 2) "sign" a_OfWord_sign
  a_OfWord_tree : Addr
  fd_OfWord_tree : FuncData
  F_OfWord_tree : Fun G.K "tree" "OfWord.tree" s_OfWord_tree a_OfWord_tree fd_OfWord_tree
  b_OfWord_tree : Binds G.K fd_OfWord_tree ["self"] []
  kp_OfWord_tree : PySem.W.keepIn G.K (.ref a_OfWord_tree) = true
  m_HasWord_tree : Meth G.K (G.cl 2) "tree" a_OfWord_tree
  m_InTitle_tree : Meth G.K (G.cl 3) "tree" a_OfWord_tree
  m_FromSender_tree : Meth G.K (G.cl 4) "tree" a_OfWord_tree
  m_InFolder_tree : Meth G.K (G.cl 5) "tree" a_OfWord_tree
  m_IsMarked_tree : Meth G.K (G.cl 6) "tree" a_OfWord_tree
  a_InTitle_sign : Addr
  fd_InTitle_sign : FuncData
  F_InTitle_sign : Fun G.K "sign" "InTitle.sign" s_InTitle_sign a_InTitle_sign fd_InTitle_sign
  b_InTitle_sign : Binds G.K fd_InTitle_sign ["self"] []
  kp_InTitle_sign : PySem.W.keepIn G.K (.ref a_InTitle_sign) = true
  m_InTitle_sign : Meth G.K (G.cl 3) "sign" a_InTitle_sign
  a_FromSender_sign : Addr
  fd_FromSender_sign : FuncData
  F_FromSender_sign : Fun G.K "sign" "FromSender.sign" s_FromSender_sign a_FromSender_sign fd_FromSender_sign
  b_FromSender_sign : Binds G.K fd_FromSender_sign ["self"] []
  kp_FromSender_sign : PySem.W.keepIn G.K (.ref a_FromSender_sign) = true
  m_FromSender_sign : Meth G.K (G.cl 4) "sign" a_FromSender_sign
  a_FromSender_holds : Addr
  fd_FromSender_holds : FuncData
  F_FromSender_holds : Fun G.K "holds" "FromSender.holds" s_FromSender_holds a_FromSender_holds fd_FromSender_holds
  b_FromSender_holds : Binds G.K fd_FromSender_holds ["self", "card", "others"] []
  kp_FromSender_holds : PySem.W.keepIn G.K (.ref a_FromSender_holds) = true
  m_FromSender_holds : Meth G.K (G.cl 4) "holds" a_FromSender_holds
  a_InFolder_sign : Addr
  fd_InFolder_sign : FuncData
  F_InFolder_sign : Fun G.K "sign" "InFolder.sign" s_InFolder_sign a_InFolder_sign fd_InFolder_sign
  b_InFolder_sign : Binds G.K fd_InFolder_sign ["self"] []
  kp_InFolder_sign : PySem.W.keepIn G.K (.ref a_InFolder_sign) = true
  m_InFolder_sign : Meth G.K (G.cl 5) "sign" a_InFolder_sign
  a_InFolder_holds : Addr
  fd_InFolder_holds : FuncData
  F_InFolder_holds : Fun G.K "holds" "InFolder.holds" s_InFolder_holds a_InFolder_holds fd_InFolder_holds
  b_InFolder_holds : Binds G.K fd_InFolder_holds ["self", "card", "others"] []
  kp_InFolder_holds : PySem.W.keepIn G.K (.ref a_InFolder_holds) = true
  m_InFolder_holds : Meth G.K (G.cl 5) "holds" a_InFolder_holds
  a_IsMarked_sign : Addr
  fd_IsMarked_sign : FuncData
  F_IsMarked_sign : Fun G.K "sign" "IsMarked.sign" s_IsMarked_sign a_IsMarked_sign fd_IsMarked_sign
  b_IsMarked_sign : Binds G.K fd_IsMarked_sign ["self"] []
  kp_IsMarked_sign : PySem.W.keepIn G.K (.ref a_IsMarked_sign) = true
  m_IsMarked_sign : Meth G.K (G.cl 6) "sign" a_IsMarked_sign
  a_IsMarked_holds : Addr
  fd_IsMarked_holds : FuncData
  F_IsMarked_holds : Fun G.K "holds" "IsMarked.holds" s_IsMarked_holds a_IsMarked_holds fd_IsMarked_holds
  b_IsMarked_holds : Binds G.K fd_IsMarked_holds ["self", "card", "others"] []
  kp_IsMarked_holds : PySem.W.keepIn G.K (.ref a_IsMarked_holds) = true
  m_IsMarked_holds : Meth G.K (G.cl 6) "holds" a_IsMarked_holds
  a_OnDays___init__ : Addr
  fd_OnDays___init__ : FuncData
  F_OnDays___init__ : Fun G.K "__init__" "OnDays.__init__" s_OnDays___init__ a_OnDays___init__ fd_OnDays___init__
  b_OnDays___init__ : Binds G.K fd_OnDays___init__ ["self", "low", "high"] []
  kp_OnDays___init__ : PySem.W.keepIn G.K (.ref a_OnDays___init__) = true
  k_OnDays : Mk G.K (G.cl 7) a_OnDays___init__
  a_OnDays_holds : Addr
  fd_OnDays_holds : FuncData
  F_OnDays_holds : Fun G.K "holds" "OnDays.holds" s_OnDays_holds a_OnDays_holds fd_OnDays_holds
  b_OnDays_holds : Binds G.K fd_OnDays_holds ["self", "card", "others"] []
  kp_OnDays_holds : PySem.W.keepIn G.K (.ref a_OnDays_holds) = true
  m_OnDays_holds : Meth G.K (G.cl 7) "holds" a_OnDays_holds
  a_OnDays_tree : Addr
  fd_OnDays_tree : FuncData
  F_OnDays_tree : Fun G.K "tree" "OnDays.tree" s_OnDays_tree a_OnDays_tree fd_OnDays_tree
  b_OnDays_tree : Binds G.K fd_OnDays_tree ["self"] []
  kp_OnDays_tree : PySem.W.keepIn G.K (.ref a_OnDays_tree) = true
  m_OnDays_tree : Meth G.K (G.cl 7) "tree" a_OnDays_tree
  a_IsAnswer_holds : Addr
  fd_IsAnswer_holds : FuncData
  F_IsAnswer_holds : Fun G.K "holds" "IsAnswer.holds" s_IsAnswer_holds a_IsAnswer_holds fd_IsAnswer_holds
  b_IsAnswer_holds : Binds G.K fd_IsAnswer_holds ["self", "card", "others"] []
  kp_IsAnswer_holds : PySem.W.keepIn G.K (.ref a_IsAnswer_holds) = true
  m_IsAnswer_holds : Meth G.K (G.cl 8) "holds" a_IsAnswer_holds
  a_IsAnswer_tree : Addr
  fd_IsAnswer_tree : FuncData
  F_IsAnswer_tree : Fun G.K "tree" "IsAnswer.tree" s_IsAnswer_tree a_IsAnswer_tree fd_IsAnswer_tree
  b_IsAnswer_tree : Binds G.K fd_IsAnswer_tree ["self"] []
  kp_IsAnswer_tree : PySem.W.keepIn G.K (.ref a_IsAnswer_tree) = true
  m_IsAnswer_tree : Meth G.K (G.cl 8) "tree" a_IsAnswer_tree
  a_OfOne___init__ : Addr
  fd_OfOne___init__ : FuncData
  F_OfOne___init__ : Fun G.K "__init__" "OfOne.__init__" s_OfOne___init__ a_OfOne___init__ fd_OfOne___init__
  b_OfOne___init__ : Binds G.K fd_OfOne___init__ ["self", "inner"] []
  kp_OfOne___init__ : PySem.W.keepIn G.K (.ref a_OfOne___init__) = true
  k_NotSo : Mk G.K (G.cl 9) a_OfOne___init__
  k_InThread : Mk G.K (G.cl 10) a_OfOne___init__
  a_OfOne_sign : Addr
  fd_OfOne_sign : FuncData
  F_OfOne_sign : Fun G.K "sign" "OfOne.sign" s_OfOne_sign a_OfOne_sign fd_OfOne_sign
  b_OfOne_sign : Binds G.K fd_OfOne_sign ["self"] []
  kp_OfOne_sign : PySem.W.keepIn G.K (.ref a_OfOne_sign) = true
  m_NotSo_sign : Meth G.K (G.cl 9) "sign" a_OfOne_sign
  a_OfOne_tree : Addr
  fd_OfOne_tree : FuncData
  F_OfOne_tree : Fun G.K "tree" "OfOne.tree" s_OfOne_tree a_OfOne_tree fd_OfOne_tree
  b_OfOne_tree : Binds G.K fd_OfOne_tree ["self"] []
  kp_OfOne_tree : PySem.W.keepIn G.K (.ref a_OfOne_tree) = true
  m_NotSo_tree : Meth G.K (G.cl 9) "tree" a_OfOne_tree
  m_InThread_tree : Meth G.K (G.cl 10) "tree" a_OfOne_tree
  a_NotSo_holds : Addr
  fd_NotSo_holds : FuncData
  F_NotSo_holds : Fun G.K "holds" "NotSo.holds" s_NotSo_holds a_NotSo_holds fd_NotSo_holds
  b_NotSo_holds : Binds G.K fd_NotSo_holds ["self", "card", "others"] []
  kp_NotSo_holds : PySem.W.keepIn G.K (.ref a_NotSo_holds) = true
  m_NotSo_holds : Meth G.K (G.cl 9) "holds" a_NotSo_holds
  a_InThread_sign : Addr
  fd_InThread_sign : FuncData
  F_InThread_sign : Fun G.K "sign" "InThread.sign" s_InThread_sign a_InThread_sign fd_InThread_sign
  b_InThread_sign : Binds G.K fd_InThread_sign ["self"] []
  kp_InThread_sign : PySem.W.keepIn G.K (.ref a_InThread_sign) = true
  m_InThread_sign : Meth G.K (G.cl 10) "sign" a_InThread_sign
  a_InThread_holds : Addr
  fd_InThread_holds : FuncData
  F_InThread_holds : Fun G.K "holds" "InThread.holds" s_InThread_holds a_InThread_holds fd_InThread_holds
  b_InThread_holds : Binds G.K fd_InThread_holds ["self", "card", "others"] []
  kp_InThread_holds : PySem.W.keepIn G.K (.ref a_InThread_holds) = true
  m_InThread_holds : Meth G.K (G.cl 10) "holds" a_InThread_holds
  a_OfTwo___init__ : Addr
  fd_OfTwo___init__ : FuncData
  F_OfTwo___init__ : Fun G.K "__init__" "OfTwo.__init__" s_OfTwo___init__ a_OfTwo___init__ fd_OfTwo___init__
  b_OfTwo___init__ : Binds G.K fd_OfTwo___init__ ["self", "first", "second"] []
  kp_OfTwo___init__ : PySem.W.keepIn G.K (.ref a_OfTwo___init__) = true
  k_BothSo : Mk G.K (G.cl 11) a_OfTwo___init__
  k_EitherSo : Mk G.K (G.cl 12) a_OfTwo___init__
  a_OfTwo_sign : Addr
  fd_OfTwo_sign : FuncData
  F_OfTwo_sign : Fun G.K "sign" "OfTwo.sign" s_OfTwo_sign a_OfTwo_sign fd_OfTwo_sign
  b_OfTwo_sign : Binds G.K fd_OfTwo_sign ["self"] []
  kp_OfTwo_sign : PySem.W.keepIn G.K (.ref a_OfTwo_sign) = true
  m_BothSo_sign : Meth G.K (G.cl 11) "sign" a_OfTwo_sign
  a_OfTwo_tree : Addr
  fd_OfTwo_tree : FuncData
  F_OfTwo_tree : Fun G.K "tree" "OfTwo.tree" s_OfTwo_tree a_OfTwo_tree fd_OfTwo_tree
  b_OfTwo_tree : Binds G.K fd_OfTwo_tree ["self"] []
  kp_OfTwo_tree : PySem.W.keepIn G.K (.ref a_OfTwo_tree) = true
  m_BothSo_tree : Meth G.K (G.cl 11) "tree" a_OfTwo_tree
  m_EitherSo_tree : Meth G.K (G.cl 12) "tree" a_OfTwo_tree
  a_BothSo_holds : Addr
  fd_BothSo_holds : FuncData
  F_BothSo_holds : Fun G.K "holds" "BothSo.holds" s_BothSo_holds a_BothSo_holds fd_BothSo_holds
  b_BothSo_holds : Binds G.K fd_BothSo_holds ["self", "card", "others"] []
  kp_BothSo_holds : PySem.W.keepIn G.K (.ref a_BothSo_holds) = true
  m_BothSo_holds : Meth G.K (G.cl 11) "holds" a_BothSo_holds
  a_EitherSo_sign : Addr
  fd_EitherSo_sign : FuncData
  F_EitherSo_sign : Fun G.K "sign" "EitherSo.sign" s_EitherSo_sign a_EitherSo_sign fd_EitherSo_sign
  b_EitherSo_sign : Binds G.K fd_EitherSo_sign ["self"] []
  kp_EitherSo_sign : PySem.W.keepIn G.K (.ref a_EitherSo_sign) = true
  m_EitherSo_sign : Meth G.K (G.cl 12) "sign" a_EitherSo_sign
  a_EitherSo_holds : Addr
  fd_EitherSo_holds : FuncData
  F_EitherSo_holds : Fun G.K "holds" "EitherSo.holds" s_EitherSo_holds a_EitherSo_holds fd_EitherSo_holds
  b_EitherSo_holds : Binds G.K fd_EitherSo_holds ["self", "card", "others"] []
  kp_EitherSo_holds : PySem.W.keepIn G.K (.ref a_EitherSo_holds) = true
  m_EitherSo_holds : Meth G.K (G.cl 12) "holds" a_EitherSo_holds
  a_of_word : Addr
  fd_of_word : FuncData
  F_of_word : Fun G.K "of_word" "of_word" s_of_word a_of_word fd_of_word
  b_of_word : Binds G.K fd_of_word ["sign", "word"] []
  kp_of_word : PySem.W.keepIn G.K (.ref a_of_word) = true
  g_of_word : mg "of_word" = some (.ref a_of_word)
  a_condition_of : Addr
  fd_condition_of : FuncData
  F_condition_of : Fun G.K "condition_of" "condition_of" s_condition_of a_condition_of fd_condition_of
  b_condition_of : Binds G.K fd_condition_of ["tree"] []
  kp_condition_of : PySem.W.keepIn G.K (.ref a_condition_of) = true
  g_condition_of : mg "condition_of" = some (.ref a_condition_of)
  a_Card___init__ : Addr
  fd_Card___init__ : FuncData
  F_Card___init__ : FunD G.K "__init__" "Card.__init__" (defArgs s_Card___init__) (defBody s_Card___init__) (defScope s_Card___init__) [.str ("inbox" : Str), .non] [] a_Card___init__ fd_Card___init__
  b_Card___init__ : Binds G.K fd_Card___init__ ["self", "letter", "folder", "marks"] []
  kp_Card___init__ : PySem.W.keepIn G.K (.ref a_Card___init__) = true
  k_Card : Mk G.K (G.cl 13) a_Card___init__
  a_is_sign : Addr
  fd_is_sign : FuncData
  F_is_sign : Fun G.K "is_sign" "is_sign" s_is_sign a_is_sign fd_is_sign
  b_is_sign : Binds G.K fd_is_sign ["sign"] []
  kp_is_sign : PySem.W.keepIn G.K (.ref a_is_sign) = true
  g_is_sign : mg "is_sign" = some (.ref a_is_sign)
  a_is_word : Addr
  fd_is_word : FuncData
  F_is_word : Fun G.K "is_word" "is_word" s_is_word a_is_word fd_is_word
  b_is_word : Binds G.K fd_is_word ["thing"] []
  kp_is_word : PySem.W.keepIn G.K (.ref a_is_word) = true
  g_is_word : mg "is_word" = some (.ref a_is_word)
  a_words_of : Addr
  fd_words_of : FuncData
  F_words_of : Fun G.K "words_of" "words_of" s_words_of a_words_of fd_words_of
  b_words_of : Binds G.K fd_words_of ["text"] []
  kp_words_of : PySem.W.keepIn G.K (.ref a_words_of) = true
  g_words_of : mg "words_of" = some (.ref a_words_of)
  a_each_once : Addr
  fd_each_once : FuncData
  F_each_once : Fun G.K "each_once" "each_once" s_each_once a_each_once fd_each_once
  b_each_once : Binds G.K fd_each_once ["row"] []
  kp_each_once : PySem.W.keepIn G.K (.ref a_each_once) = true
  g_each_once : mg "each_once" = some (.ref a_each_once)
  a_is_text : Addr
  fd_is_text : FuncData
  F_is_text : Fun G.K "is_text" "is_text" s_is_text a_is_text fd_is_text
  b_is_text : Binds G.K fd_is_text ["thing", "most"] []
  kp_is_text : PySem.W.keepIn G.K (.ref a_is_text) = true
  g_is_text : mg "is_text" = some (.ref a_is_text)
  a_is_day : Addr
  fd_is_day : FuncData
  F_is_day : Fun G.K "is_day" "is_day" s_is_day a_is_day fd_is_day
  b_is_day : Binds G.K fd_is_day ["thing"] []
  kp_is_day : PySem.W.keepIn G.K (.ref a_is_day) = true
  g_is_day : mg "is_day" = some (.ref a_is_day)
  a_Letter___init__ : Addr
  fd_Letter___init__ : FuncData
  F_Letter___init__ : FunD G.K "__init__" "Letter.__init__" (defArgs s_Letter___init__) (defBody s_Letter___init__) (defScope s_Letter___init__) [.str ("" : Str)] [] a_Letter___init__ fd_Letter___init__
  b_Letter___init__ : Binds G.K fd_Letter___init__ ["self", "sender", "title", "body", "day", "answers"] []
  kp_Letter___init__ : PySem.W.keepIn G.K (.ref a_Letter___init__) = true
  k_Letter : Mk G.K (G.cl 16) a_Letter___init__
  a_Letter_parts : Addr
  fd_Letter_parts : FuncData
  F_Letter_parts : Fun G.K "parts" "Letter.parts" s_Letter_parts a_Letter_parts fd_Letter_parts
  b_Letter_parts : Binds G.K fd_Letter_parts ["self"] []
  kp_Letter_parts : PySem.W.keepIn G.K (.ref a_Letter_parts) = true
  m_Letter_parts : Meth G.K (G.cl 16) "parts" a_Letter_parts
  a_Letter_title_words : Addr
  fd_Letter_title_words : FuncData
  F_Letter_title_words : Fun G.K "title_words" "Letter.title_words" s_Letter_title_words a_Letter_title_words fd_Letter_title_words
  b_Letter_title_words : Binds G.K fd_Letter_title_words ["self"] []
  kp_Letter_title_words : PySem.W.keepIn G.K (.ref a_Letter_title_words) = true
  m_Letter_title_words : Meth G.K (G.cl 16) "title_words" a_Letter_title_words
  a_Letter_words : Addr
  fd_Letter_words : FuncData
  F_Letter_words : Fun G.K "words" "Letter.words" s_Letter_words a_Letter_words fd_Letter_words
  b_Letter_words : Binds G.K fd_Letter_words ["self"] []
  kp_Letter_words : PySem.W.keepIn G.K (.ref a_Letter_words) = true
  m_Letter_words : Meth G.K (G.cl 16) "words" a_Letter_words
  a_law_cell_at : Addr
  fd_law_cell_at : FuncData
  F_law_cell_at : Fun G.K "_law_cell_at" "_law_cell_at" s_law_cell_at a_law_cell_at fd_law_cell_at
  b_law_cell_at : Binds G.K fd_law_cell_at ["_law_script", "_law_k"] []
  kp_law_cell_at : PySem.W.keepIn G.K (.ref a_law_cell_at) = true
  g_law_cell_at : mg "_law_cell_at" = some (.ref a_law_cell_at)
  a_law_mixed : Addr
  fd_law_mixed : FuncData
  F_law_mixed : Fun G.K "_law_mixed" "_law_mixed" s_law_mixed a_law_mixed fd_law_mixed
  b_law_mixed : Binds G.K fd_law_mixed ["_law_script", "_law_start", "_law_many"] []
  kp_law_mixed : PySem.W.keepIn G.K (.ref a_law_mixed) = true
  g_law_mixed : mg "_law_mixed" = some (.ref a_law_mixed)
  a_law_word_by : Addr
  fd_law_word_by : FuncData
  F_law_word_by : Fun G.K "_law_word_by" "_law_word_by" s_law_word_by a_law_word_by fd_law_word_by
  b_law_word_by : Binds G.K fd_law_word_by ["_law_shape", "_law_k"] []
  kp_law_word_by : PySem.W.keepIn G.K (.ref a_law_word_by) = true
  g_law_word_by : mg "_law_word_by" = some (.ref a_law_word_by)
  a_law_text_by : Addr
  fd_law_text_by : FuncData
  F_law_text_by : Fun G.K "_law_text_by" "_law_text_by" s_law_text_by a_law_text_by fd_law_text_by
  b_law_text_by : Binds G.K fd_law_text_by ["_law_shape", "_law_cells"] []
  kp_law_text_by : PySem.W.keepIn G.K (.ref a_law_text_by) = true
  g_law_text_by : mg "_law_text_by" = some (.ref a_law_text_by)
  a_law_parts_by : Addr
  fd_law_parts_by : FuncData
  F_law_parts_by : Fun G.K "_law_parts_by" "_law_parts_by" s_law_parts_by a_law_parts_by fd_law_parts_by
  b_law_parts_by : Binds G.K fd_law_parts_by ["_law_shape", "_law_cells"] []
  kp_law_parts_by : PySem.W.keepIn G.K (.ref a_law_parts_by) = true
  g_law_parts_by : mg "_law_parts_by" = some (.ref a_law_parts_by)
  a_law_card_by : Addr
  fd_law_card_by : FuncData
  F_law_card_by : Fun G.K "_law_card_by" "_law_card_by" s_law_card_by a_law_card_by fd_law_card_by
  b_law_card_by : Binds G.K fd_law_card_by ["_law_shape", "_law_cells"] []
  kp_law_card_by : PySem.W.keepIn G.K (.ref a_law_card_by) = true
  g_law_card_by : mg "_law_card_by" = some (.ref a_law_card_by)
  a_law_letter : Addr
  fd_law_letter : FuncData
  F_law_letter : Fun G.K "_law_letter" "_law_letter" s_law_letter a_law_letter fd_law_letter
  b_law_letter : Binds G.K fd_law_letter ["_law_parts"] []
  kp_law_letter : PySem.W.keepIn G.K (.ref a_law_letter) = true
  g_law_letter : mg "_law_letter" = some (.ref a_law_letter)
  a_law_made : Addr
  fd_law_made : FuncData
  F_law_made : Fun G.K "_law_made" "_law_made" s_law_made a_law_made fd_law_made
  b_law_made : Binds G.K fd_law_made ["_law_card"] []
  kp_law_made : PySem.W.keepIn G.K (.ref a_law_made) = true
  g_law_made : mg "_law_made" = some (.ref a_law_made)
  a_law_leaf_by : Addr
  fd_law_leaf_by : FuncData
  F_law_leaf_by : Fun G.K "_law_leaf_by" "_law_leaf_by" s_law_leaf_by a_law_leaf_by fd_law_leaf_by
  b_law_leaf_by : Binds G.K fd_law_leaf_by ["_law_shape", "_law_cell"] []
  kp_law_leaf_by : PySem.W.keepIn G.K (.ref a_law_leaf_by) = true
  g_law_leaf_by : mg "_law_leaf_by" = some (.ref a_law_leaf_by)
  a_law_threads : Addr
  fd_law_threads : FuncData
  F_law_threads : Fun G.K "_law_threads" "_law_threads" s_law_threads a_law_threads fd_law_threads
  b_law_threads : Binds G.K fd_law_threads ["_law_tree"] []
  kp_law_threads : PySem.W.keepIn G.K (.ref a_law_threads) = true
  g_law_threads : mg "_law_threads" = some (.ref a_law_threads)
  a_law_tree_by : Addr
  fd_law_tree_by : FuncData
  F_law_tree_by : Fun G.K "_law_tree_by" "_law_tree_by" s_law_tree_by a_law_tree_by fd_law_tree_by
  b_law_tree_by : Binds G.K fd_law_tree_by ["_law_shape", "_law_cells"] []
  kp_law_tree_by : PySem.W.keepIn G.K (.ref a_law_tree_by) = true
  g_law_tree_by : mg "_law_tree_by" = some (.ref a_law_tree_by)
  a_law_runs : Addr
  fd_law_runs : FuncData
  F_law_runs : Fun G.K "_law_runs" "_law_runs" s_law_runs a_law_runs fd_law_runs
  b_law_runs : Binds G.K fd_law_runs ["_law_text"] []
  kp_law_runs : PySem.W.keepIn G.K (.ref a_law_runs) = true
  g_law_runs : mg "_law_runs" = some (.ref a_law_runs)
  a_law_holds : Addr
  fd_law_holds : FuncData
  F_law_holds : Fun G.K "_law_holds" "_law_holds" s_law_holds a_law_holds fd_law_holds
  b_law_holds : Binds G.K fd_law_holds ["_law_tree", "_law_card", "_law_others"] []
  kp_law_holds : PySem.W.keepIn G.K (.ref a_law_holds) = true
  g_law_holds : mg "_law_holds" = some (.ref a_law_holds)
  a_law_shown : Addr
  fd_law_shown : FuncData
  F_law_shown : Fun G.K "_law_shown" "_law_shown" s_law_shown a_law_shown fd_law_shown
  b_law_shown : Binds G.K fd_law_shown ["_law_card"] []
  kp_law_shown : PySem.W.keepIn G.K (.ref a_law_shown) = true
  g_law_shown : mg "_law_shown" = some (.ref a_law_shown)
  a_HasWord_holds : Addr
  fd_HasWord_holds : FuncData
  F_HasWord_holds : Fun G.K "holds" "HasWord.holds" s_HasWord_holds a_HasWord_holds fd_HasWord_holds
  b_HasWord_holds : Binds G.K fd_HasWord_holds ["self", "card", "others"] []
  kp_HasWord_holds : PySem.W.keepIn G.K (.ref a_HasWord_holds) = true
  m_HasWord_holds : Meth G.K (G.cl 2) "holds" a_HasWord_holds
  a_InTitle_holds : Addr
  fd_InTitle_holds : FuncData
  F_InTitle_holds : Fun G.K "holds" "InTitle.holds" s_InTitle_holds a_InTitle_holds fd_InTitle_holds
  b_InTitle_holds : Binds G.K fd_InTitle_holds ["self", "card", "others"] []
  kp_InTitle_holds : PySem.W.keepIn G.K (.ref a_InTitle_holds) = true
  m_InTitle_holds : Meth G.K (G.cl 3) "holds" a_InTitle_holds
  a_law_told : Addr
  fd_law_told : FuncData
  F_law_told : Fun G.K "_law_told" "_law_told" s_law_told a_law_told fd_law_told
  b_law_told : Binds G.K fd_law_told ["_law_condition", "_law_tree", "_law_cards", "_law_made_here"] []
  kp_law_told : PySem.W.keepIn G.K (.ref a_law_told) = true
  g_law_told : mg "_law_told" = some (.ref a_law_told)
  a_law : Addr
  fd_law : FuncData
  F_law : Fun G.K "law" "law" s_law a_law fd_law
  b_law : Binds G.K fd_law ["_law_script"] []
  kp_law : PySem.W.keepIn G.K (.ref a_law) = true
  g_law : mg "law" = some (.ref a_law)
  ko_Anything : MkO G.K (G.cl 1)
  ko_IsAnswer : MkO G.K (G.cl 8)
  g_Condition : mg "Condition" = some (.ref (G.cl 0))
  g_Anything : mg "Anything" = some (.ref (G.cl 1))
  cl_Anything : Cls G.K (G.cl 1)
  fz_Anything : G.fz (G.cl 1) = some 0
  g_HasWord : mg "HasWord" = some (.ref (G.cl 2))
  cl_HasWord : Cls G.K (G.cl 2)
  n_HasWord_word : NoAttr G.K (G.cl 2) "word"
  fz_HasWord : G.fz (G.cl 2) = some 1
  g_InTitle : mg "InTitle" = some (.ref (G.cl 3))
  cl_InTitle : Cls G.K (G.cl 3)
  n_InTitle_word : NoAttr G.K (G.cl 3) "word"
  fz_InTitle : G.fz (G.cl 3) = some 1
  g_FromSender : mg "FromSender" = some (.ref (G.cl 4))
  cl_FromSender : Cls G.K (G.cl 4)
  n_FromSender_word : NoAttr G.K (G.cl 4) "word"
  fz_FromSender : G.fz (G.cl 4) = some 1
  g_InFolder : mg "InFolder" = some (.ref (G.cl 5))
  cl_InFolder : Cls G.K (G.cl 5)
  n_InFolder_word : NoAttr G.K (G.cl 5) "word"
  fz_InFolder : G.fz (G.cl 5) = some 1
  g_IsMarked : mg "IsMarked" = some (.ref (G.cl 6))
  cl_IsMarked : Cls G.K (G.cl 6)
  n_IsMarked_word : NoAttr G.K (G.cl 6) "word"
  fz_IsMarked : G.fz (G.cl 6) = some 1
  g_OnDays : mg "OnDays" = some (.ref (G.cl 7))
  cl_OnDays : Cls G.K (G.cl 7)
  n_OnDays_low : NoAttr G.K (G.cl 7) "low"
  n_OnDays_high : NoAttr G.K (G.cl 7) "high"
  fz_OnDays : G.fz (G.cl 7) = some 2
  g_IsAnswer : mg "IsAnswer" = some (.ref (G.cl 8))
  cl_IsAnswer : Cls G.K (G.cl 8)
  fz_IsAnswer : G.fz (G.cl 8) = some 0
  g_NotSo : mg "NotSo" = some (.ref (G.cl 9))
  cl_NotSo : Cls G.K (G.cl 9)
  n_NotSo_inner : NoAttr G.K (G.cl 9) "inner"
  fz_NotSo : G.fz (G.cl 9) = some 1
  g_InThread : mg "InThread" = some (.ref (G.cl 10))
  cl_InThread : Cls G.K (G.cl 10)
  n_InThread_inner : NoAttr G.K (G.cl 10) "inner"
  fz_InThread : G.fz (G.cl 10) = some 1
  g_BothSo : mg "BothSo" = some (.ref (G.cl 11))
  cl_BothSo : Cls G.K (G.cl 11)
  n_BothSo_first : NoAttr G.K (G.cl 11) "first"
  n_BothSo_second : NoAttr G.K (G.cl 11) "second"
  fz_BothSo : G.fz (G.cl 11) = some 2
  g_EitherSo : mg "EitherSo" = some (.ref (G.cl 12))
  cl_EitherSo : Cls G.K (G.cl 12)
  n_EitherSo_first : NoAttr G.K (G.cl 12) "first"
  n_EitherSo_second : NoAttr G.K (G.cl 12) "second"
  fz_EitherSo : G.fz (G.cl 12) = some 2
  g_Card : mg "Card" = some (.ref (G.cl 13))
  cl_Card : Cls G.K (G.cl 13)
  n_Card_letter : NoAttr G.K (G.cl 13) "letter"
  n_Card_box : NoAttr G.K (G.cl 13) "box"
  n_Card_signs : NoAttr G.K (G.cl 13) "signs"
  fz_Card : G.fz (G.cl 13) = some 3
  g_MailError : mg "MailError" = some (.ref (G.cl 14))
  g_NoLetter : mg "NoLetter" = some (.ref (G.cl 15))
  x_NoLetter : PySem.W.excIn G.K (G.cl 15) [.type "ValueError", .type "Exception", .type "BaseException", .type "object"] "ValueError.__new__" = true
  kp_NoLetter : PySem.W.keepIn G.K (.ref (G.cl 15)) = true
  r_NoLetter : ∀ {X : Cx}, X.K = G.K → Raises X (.ref (G.cl 15))
  g_Letter : mg "Letter" = some (.ref (G.cl 16))
  cl_Letter : Cls G.K (G.cl 16)
  n_Letter_sender : NoAttr G.K (G.cl 16) "sender"
  n_Letter_title : NoAttr G.K (G.cl 16) "title"
  n_Letter_body : NoAttr G.K (G.cl 16) "body"
  n_Letter_day : NoAttr G.K (G.cl 16) "day"
  n_Letter_answers : NoAttr G.K (G.cl 16) "answers"
  fz_Letter : G.fz (G.cl 16) = some 5
  tc_Cond_Condition : ∀ {i : Nat}, isC_Cond i = true → InsC G.K (G.cl i) (G.cl 0)
  z_all : mg "all" = none
  z_bool : mg "bool" = none
  z_enumerate : mg "enumerate" = none
  z_int : mg "int" = none
  z_isinstance : mg "isinstance" = none
  z_len : mg "len" = none
  z_list : mg "list" = none
  z_max : mg "max" = none
  z_range : mg "range" = none
  z_set : mg "set" = none
  z_sorted : mg "sorted" = none
  z_str : mg "str" = none
  z_tuple : mg "tuple" = none
  t_FIGURES : Tok
  c_FIGURES : mg "FIGURES" = some (.str ("0123456789" : Str) t_FIGURES)
  t_MOST_BODY : Tok
  c_MOST_BODY : mg "MOST_BODY" = some (.int 400 t_MOST_BODY)
  t_MOST_DAY : Tok
  c_MOST_DAY : mg "MOST_DAY" = some (.int 9999 t_MOST_DAY)
  t_MOST_SIGNS : Tok
  c_MOST_SIGNS : mg "MOST_SIGNS" = some (.int 20 t_MOST_SIGNS)
  t_MOST_TITLE : Tok
  c_MOST_TITLE : mg "MOST_TITLE" = some (.int 60 t_MOST_TITLE)
  t_SMALL : Tok
  c_SMALL : mg "SMALL" = some (.str ("abcdefghijklmnopqrstuvwxyz" : Str) t_SMALL)
section
variable {P : Program} {w : World} {G : Gx} {mg : Str → Option Value} {base : Heap}
def sp_Anything_holds (G : Gx) : Sp := fun vs H Q E => ∃ (a_v_self : Addr) (v_self : Anything) (a_v_card : Addr) (v_card : Card) (a_v_others : Addr) (v_others : (List Card)) (F : Asn G), vs = [(.ref a_v_self), (.ref a_v_card), .ref a_v_others] ∧ Im.im G H (.ref a_v_self) v_self ∧ Im.im G H (.ref a_v_card) v_card ∧ Sep H ([lstA a_v_others (v_others : (List Card)), F] : List (Asn G)) ∧ R.wp (m_Anything_holds v_self v_card v_others) (fun r => ∀ H', Sep H' ([lstA a_v_others (v_others : (List Card)), F] : List (Asn G)) → Q (.bl (r)) H') (fun _ => False)
abbrev N_Anything_holds : List Str := ["self", "card", "others"]
theorem sc_Anything_holds : FnScope N_Anything_holds ["self", "card", "others"] (defScope s_Anything_holds) := ⟨rfl, rfl, rfl, by decide +kernel, rfl, by decide +kernel, by decide +kernel⟩
theorem ok_Anything_holds (T : Txt G mg) : FnOk P w G.K mg base CX0 1 T.a_Anything_holds T.fd_Anything_holds ["self", "card", "others"] (sp_Anything_holds G) := by
  have nd := sc_Anything_holds.nd
  refine Fun.ok T.F_Anything_holds sc_Anything_holds (fun vs H Q E h => ?_) (fun cdv A outer s H vs Q E hr h => ?_)
  · obtain ⟨a_v_self, v_self, a_v_card, v_card, a_v_others, v_others, F, rfl, _⟩ := h; rfl
  · obtain ⟨a_v_self, v_self, a_v_card, v_card, a_v_others, v_others, F, rfl, him_v_self, him_v_card, hS, hm⟩ := h
    have hS := hS.addIm him_v_self
    have hS := hS.addIm him_v_card
    refine ⟨_, (pss_one (ps_ret pe_bl)), ?_⟩
    unfold m_Anything_holds at hm
    refine c_ret ?_
    refine ev_to ev_c ?_
    exact hm _ (hS.sel [2, 3] (by decide) rfl)
def sp_Anything_tree (G : Gx) : Sp := fun vs H Q E => ∃ (a_v_self : Addr) (v_self : Anything) (F : Asn G), vs = [(.ref a_v_self)] ∧ Im.im G H (.ref a_v_self) v_self ∧ Sep H ([F] : List (Asn G)) ∧ R.wp (m_Anything_tree v_self) (fun r => ∀ (p : V) H', Sep H' ([imA p (r : Any), F] : List (Asn G)) → Q p H') (fun _ => False)
abbrev N_Anything_tree : List Str := ["self"]
theorem sc_Anything_tree : FnScope N_Anything_tree ["self"] (defScope s_Anything_tree) := ⟨rfl, rfl, rfl, by decide +kernel, rfl, by decide +kernel, by decide +kernel⟩
theorem ok_Anything_tree (T : Txt G mg) : FnOk P w G.K mg base CX0 1 T.a_Anything_tree T.fd_Anything_tree ["self"] (sp_Anything_tree G) := by
  have nd := sc_Anything_tree.nd
  refine Fun.ok T.F_Anything_tree sc_Anything_tree (fun vs H Q E h => ?_) (fun cdv A outer s H vs Q E hr h => ?_)
  · obtain ⟨a_v_self, v_self, F, rfl, _⟩ := h; rfl
  · obtain ⟨a_v_self, v_self, F, rfl, him_v_self, hS, hm⟩ := h
    have hS := hS.addIm him_v_self
    refine ⟨_, (pss_one (ps_ret (pe_tup (pa_cons pe_str pa_nil)))), ?_⟩
    unfold m_Anything_tree at hm
    refine c_ret ?_
    refine c_tup ?_
    refine ea_to (ea_cons ev_c ea_nil) ?_
    refine k_tupA (vs := [(.str (("any" : Str)))]) (xs := [(Any.str ("any" : Str))]) hS ⟨(any_str.mpr rfl), True.intro⟩ (by show 1 ≤ sizeLine; decide) fun p1 H hS => ?_
    exact hm _ _ (hS.sel [0, 2] (by decide) rfl)
def sp_OfWord___init___HasWord (G : Gx) : Sp := fun vs H Q E => ∃ (a_v_self d_v_self : Addr) (v_word : Str) (F : Asn G), vs = [.ref a_v_self, (.str (v_word))] ∧ Sep H ([cell a_v_self (.ins (G.cl 2) d_v_self []), F] : List (Asn G)) ∧ R.wp (m_OfWord___init___HasWord v_word) (fun r => ∀ H', Sep H' ([imA (.ref a_v_self) (r : HasWord), F] : List (Asn G)) → Q .non H') (fun _ => False)
abbrev N_OfWord___init___HasWord : List Str := ["self", "word"]
theorem sc_OfWord___init___HasWord : FnScope N_OfWord___init___HasWord ["self", "word"] (defScope s_OfWord___init__) := ⟨rfl, rfl, rfl, by decide +kernel, rfl, by decide +kernel, by decide +kernel⟩
theorem ok_OfWord___init___HasWord (T : Txt G mg) : FnOk P w G.K mg base CX0 1 T.a_OfWord___init__ T.fd_OfWord___init__ ["self", "word"] (sp_OfWord___init___HasWord G) := by
  have nd := sc_OfWord___init___HasWord.nd
  refine Fun.ok T.F_OfWord___init__ sc_OfWord___init___HasWord (fun vs H Q E h => ?_) (fun cdv A outer s H vs Q E hr h => ?_)
  · obtain ⟨a_v_self, d_v_self, v_word, F, rfl, _⟩ := h; rfl
  · obtain ⟨a_v_self, d_v_self, v_word, F, rfl, hS, hm⟩ := h
    refine ⟨_, (pss_one (ps_fld (pv 0) (pv 1) rfl)), ?_⟩
    unfold m_OfWord___init___HasWord at hm
    refine c_sfld ?_
    refine ev_to (ev_var rfl) ?_
    refine ev_to (ev_var rfl) ?_
    refine k_sfldP (fs' := [("word", (.str (v_word)))]) hS (i := 0) rfl T.cl_HasWord T.n_HasWord_word rfl (by show 0 < 1000; decide) (by show decide (G.fz (G.cl 2) = some 1) = true; rw [T.fz_HasWord]; rfl) rfl fun H hO hT hS => ?_
    have hS : Sep H ([F] : List (Asn G)) := hS
    have hS := hS.addIm (v := (.ref a_v_self)) (x := (⟨v_word⟩ : HasWord)) (mk_HasWord T.fz_HasWord hO)
    exact hm _ (hS.sel [0, 1] (by decide) rfl)
def sp_OfWord___init___InTitle (G : Gx) : Sp := fun vs H Q E => ∃ (a_v_self d_v_self : Addr) (v_word : Str) (F : Asn G), vs = [.ref a_v_self, (.str (v_word))] ∧ Sep H ([cell a_v_self (.ins (G.cl 3) d_v_self []), F] : List (Asn G)) ∧ R.wp (m_OfWord___init___InTitle v_word) (fun r => ∀ H', Sep H' ([imA (.ref a_v_self) (r : InTitle), F] : List (Asn G)) → Q .non H') (fun _ => False)
abbrev N_OfWord___init___InTitle : List Str := ["self", "word"]
theorem sc_OfWord___init___InTitle : FnScope N_OfWord___init___InTitle ["self", "word"] (defScope s_OfWord___init__) := ⟨rfl, rfl, rfl, by decide +kernel, rfl, by decide +kernel, by decide +kernel⟩
theorem ok_OfWord___init___InTitle (T : Txt G mg) : FnOk P w G.K mg base CX0 1 T.a_OfWord___init__ T.fd_OfWord___init__ ["self", "word"] (sp_OfWord___init___InTitle G) := by
  have nd := sc_OfWord___init___InTitle.nd
  refine Fun.ok T.F_OfWord___init__ sc_OfWord___init___InTitle (fun vs H Q E h => ?_) (fun cdv A outer s H vs Q E hr h => ?_)
  · obtain ⟨a_v_self, d_v_self, v_word, F, rfl, _⟩ := h; rfl
  · obtain ⟨a_v_self, d_v_self, v_word, F, rfl, hS, hm⟩ := h
    refine ⟨_, (pss_one (ps_fld (pv 0) (pv 1) rfl)), ?_⟩
    unfold m_OfWord___init___InTitle at hm
    refine c_sfld ?_
    refine ev_to (ev_var rfl) ?_
    refine ev_to (ev_var rfl) ?_
    refine k_sfldP (fs' := [("word", (.str (v_word)))]) hS (i := 0) rfl T.cl_InTitle T.n_InTitle_word rfl (by show 0 < 1000; decide) (by show decide (G.fz (G.cl 3) = some 1) = true; rw [T.fz_InTitle]; rfl) rfl fun H hO hT hS => ?_
    have hS : Sep H ([F] : List (Asn G)) := hS
    have hS := hS.addIm (v := (.ref a_v_self)) (x := (⟨v_word⟩ : InTitle)) (mk_InTitle T.fz_InTitle hO)
    exact hm _ (hS.sel [0, 1] (by decide) rfl)
def sp_OfWord___init___FromSender (G : Gx) : Sp := fun vs H Q E => ∃ (a_v_self d_v_self : Addr) (v_word : Str) (F : Asn G), vs = [.ref a_v_self, (.str (v_word))] ∧ Sep H ([cell a_v_self (.ins (G.cl 4) d_v_self []), F] : List (Asn G)) ∧ R.wp (m_OfWord___init___FromSender v_word) (fun r => ∀ H', Sep H' ([imA (.ref a_v_self) (r : FromSender), F] : List (Asn G)) → Q .non H') (fun _ => False)
abbrev N_OfWord___init___FromSender : List Str := ["self", "word"]
theorem sc_OfWord___init___FromSender : FnScope N_OfWord___init___FromSender ["self", "word"] (defScope s_OfWord___init__) := ⟨rfl, rfl, rfl, by decide +kernel, rfl, by decide +kernel, by decide +kernel⟩
theorem ok_OfWord___init___FromSender (T : Txt G mg) : FnOk P w G.K mg base CX0 1 T.a_OfWord___init__ T.fd_OfWord___init__ ["self", "word"] (sp_OfWord___init___FromSender G) := by
  have nd := sc_OfWord___init___FromSender.nd
  refine Fun.ok T.F_OfWord___init__ sc_OfWord___init___FromSender (fun vs H Q E h => ?_) (fun cdv A outer s H vs Q E hr h => ?_)
  · obtain ⟨a_v_self, d_v_self, v_word, F, rfl, _⟩ := h; rfl
  · obtain ⟨a_v_self, d_v_self, v_word, F, rfl, hS, hm⟩ := h
    refine ⟨_, (pss_one (ps_fld (pv 0) (pv 1) rfl)), ?_⟩
    unfold m_OfWord___init___FromSender at hm
    refine c_sfld ?_
    refine ev_to (ev_var rfl) ?_
    refine ev_to (ev_var rfl) ?_
    refine k_sfldP (fs' := [("word", (.str (v_word)))]) hS (i := 0) rfl T.cl_FromSender T.n_FromSender_word rfl (by show 0 < 1000; decide) (by show decide (G.fz (G.cl 4) = some 1) = true; rw [T.fz_FromSender]; rfl) rfl fun H hO hT hS => ?_
    have hS : Sep H ([F] : List (Asn G)) := hS
    have hS := hS.addIm (v := (.ref a_v_self)) (x := (⟨v_word⟩ : FromSender)) (mk_FromSender T.fz_FromSender hO)
    exact hm _ (hS.sel [0, 1] (by decide) rfl)
def sp_OfWord___init___InFolder (G : Gx) : Sp := fun vs H Q E => ∃ (a_v_self d_v_self : Addr) (v_word : Str) (F : Asn G), vs = [.ref a_v_self, (.str (v_word))] ∧ Sep H ([cell a_v_self (.ins (G.cl 5) d_v_self []), F] : List (Asn G)) ∧ R.wp (m_OfWord___init___InFolder v_word) (fun r => ∀ H', Sep H' ([imA (.ref a_v_self) (r : InFolder), F] : List (Asn G)) → Q .non H') (fun _ => False)
abbrev N_OfWord___init___InFolder : List Str := ["self", "word"]
theorem sc_OfWord___init___InFolder : FnScope N_OfWord___init___InFolder ["self", "word"] (defScope s_OfWord___init__) := ⟨rfl, rfl, rfl, by decide +kernel, rfl, by decide +kernel, by decide +kernel⟩
theorem ok_OfWord___init___InFolder (T : Txt G mg) : FnOk P w G.K mg base CX0 1 T.a_OfWord___init__ T.fd_OfWord___init__ ["self", "word"] (sp_OfWord___init___InFolder G) := by
  have nd := sc_OfWord___init___InFolder.nd
  refine Fun.ok T.F_OfWord___init__ sc_OfWord___init___InFolder (fun vs H Q E h => ?_) (fun cdv A outer s H vs Q E hr h => ?_)
  · obtain ⟨a_v_self, d_v_self, v_word, F, rfl, _⟩ := h; rfl
  · obtain ⟨a_v_self, d_v_self, v_word, F, rfl, hS, hm⟩ := h
    refine ⟨_, (pss_one (ps_fld (pv 0) (pv 1) rfl)), ?_⟩
    unfold m_OfWord___init___InFolder at hm
    refine c_sfld ?_
    refine ev_to (ev_var rfl) ?_
    refine ev_to (ev_var rfl) ?_
    refine k_sfldP (fs' := [("word", (.str (v_word)))]) hS (i := 0) rfl T.cl_InFolder T.n_InFolder_word rfl (by show 0 < 1000; decide) (by show decide (G.fz (G.cl 5) = some 1) = true; rw [T.fz_InFolder]; rfl) rfl fun H hO hT hS => ?_
    have hS : Sep H ([F] : List (Asn G)) := hS
    have hS := hS.addIm (v := (.ref a_v_self)) (x := (⟨v_word⟩ : InFolder)) (mk_InFolder T.fz_InFolder hO)
    exact hm _ (hS.sel [0, 1] (by decide) rfl)
def sp_OfWord___init___IsMarked (G : Gx) : Sp := fun vs H Q E => ∃ (a_v_self d_v_self : Addr) (v_word : Str) (F : Asn G), vs = [.ref a_v_self, (.str (v_word))] ∧ Sep H ([cell a_v_self (.ins (G.cl 6) d_v_self []), F] : List (Asn G)) ∧ R.wp (m_OfWord___init___IsMarked v_word) (fun r => ∀ H', Sep H' ([imA (.ref a_v_self) (r : IsMarked), F] : List (Asn G)) → Q .non H') (fun _ => False)
abbrev N_OfWord___init___IsMarked : List Str := ["self", "word"]
theorem sc_OfWord___init___IsMarked : FnScope N_OfWord___init___IsMarked ["self", "word"] (defScope s_OfWord___init__) := ⟨rfl, rfl, rfl, by decide +kernel, rfl, by decide +kernel, by decide +kernel⟩
theorem ok_OfWord___init___IsMarked (T : Txt G mg) : FnOk P w G.K mg base CX0 1 T.a_OfWord___init__ T.fd_OfWord___init__ ["self", "word"] (sp_OfWord___init___IsMarked G) := by
  have nd := sc_OfWord___init___IsMarked.nd
  refine Fun.ok T.F_OfWord___init__ sc_OfWord___init___IsMarked (fun vs H Q E h => ?_) (fun cdv A outer s H vs Q E hr h => ?_)
  · obtain ⟨a_v_self, d_v_self, v_word, F, rfl, _⟩ := h; rfl
  · obtain ⟨a_v_self, d_v_self, v_word, F, rfl, hS, hm⟩ := h
    refine ⟨_, (pss_one (ps_fld (pv 0) (pv 1) rfl)), ?_⟩
    unfold m_OfWord___init___IsMarked at hm
    refine c_sfld ?_
    refine ev_to (ev_var rfl) ?_
    refine ev_to (ev_var rfl) ?_
    refine k_sfldP (fs' := [("word", (.str (v_word)))]) hS (i := 0) rfl T.cl_IsMarked T.n_IsMarked_word rfl (by show 0 < 1000; decide) (by show decide (G.fz (G.cl 6) = some 1) = true; rw [T.fz_IsMarked]; rfl) rfl fun H hO hT hS => ?_
    have hS : Sep H ([F] : List (Asn G)) := hS
    have hS := hS.addIm (v := (.ref a_v_self)) (x := (⟨v_word⟩ : IsMarked)) (mk_IsMarked T.fz_IsMarked hO)
    exact hm _ (hS.sel [0, 1] (by decide) rfl)
def sp_OfWord_sign_HasWord (G : Gx) : Sp := fun vs H Q E => ∃ (a_v_self : Addr) (v_self : HasWord) (F : Asn G), vs = [(.ref a_v_self)] ∧ Im.im G H (.ref a_v_self) v_self ∧ Sep H ([F] : List (Asn G)) ∧ R.wp (m_OfWord_sign_HasWord v_self) (fun r => ∀ H', Sep H' ([F] : List (Asn G)) → Q (.str (r)) H') (fun _ => False)
abbrev N_OfWord_sign_HasWord : List Str := ["self"]
theorem sc_OfWord_sign_HasWord : FnScope N_OfWord_sign_HasWord ["self"] (defScope s_OfWord_sign) := ⟨rfl, rfl, rfl, by decide +kernel, rfl, by decide +kernel, by decide +kernel⟩
theorem ok_OfWord_sign_HasWord (T : Txt G mg) : FnOk P w G.K mg base CX0 1 T.a_OfWord_sign T.fd_OfWord_sign ["self"] (sp_OfWord_sign_HasWord G) := by
  have nd := sc_OfWord_sign_HasWord.nd
  refine Fun.ok T.F_OfWord_sign sc_OfWord_sign_HasWord (fun vs H Q E h => ?_) (fun cdv A outer s H vs Q E hr h => ?_)
  · obtain ⟨a_v_self, v_self, F, rfl, _⟩ := h; rfl
  · obtain ⟨a_v_self, v_self, F, rfl, him_v_self, hS, hm⟩ := h
    have hS := hS.addIm him_v_self
    refine ⟨_, (pss_one (ps_ret pe_str)), ?_⟩
    unfold m_OfWord_sign_HasWord at hm
    refine c_ret ?_
    refine ev_to ev_c ?_
    exact hm _ (hS.sel [1] (by decide) rfl)
def sp_OfWord_tree_HasWord (G : Gx) : Sp := fun vs H Q E => ∃ (a_v_self : Addr) (v_self : HasWord) (F : Asn G), vs = [(.ref a_v_self)] ∧ Im.im G H (.ref a_v_self) v_self ∧ Sep H ([F] : List (Asn G)) ∧ R.wp (m_OfWord_tree_HasWord v_self) (fun r => ∀ (p : V) H', Sep H' ([imA p (r : Any), F] : List (Asn G)) → Q p H') (fun _ => False)
abbrev N_OfWord_tree_HasWord : List Str := ["self"]
theorem sc_OfWord_tree_HasWord : FnScope N_OfWord_tree_HasWord ["self"] (defScope s_OfWord_tree) := ⟨rfl, rfl, rfl, by decide +kernel, rfl, by decide +kernel, by decide +kernel⟩
theorem ok_OfWord_tree_HasWord (T : Txt G mg) : FnOk P w G.K mg base CX0 2 T.a_OfWord_tree T.fd_OfWord_tree ["self"] (sp_OfWord_tree_HasWord G) := by
  have nd := sc_OfWord_tree_HasWord.nd
  refine Fun.ok T.F_OfWord_tree sc_OfWord_tree_HasWord (fun vs H Q E h => ?_) (fun cdv A outer s H vs Q E hr h => ?_)
  · obtain ⟨a_v_self, v_self, F, rfl, _⟩ := h; rfl
  · obtain ⟨a_v_self, v_self, F, rfl, him_v_self, hS, hm⟩ := h
    have hS := hS.addIm him_v_self
    refine ⟨_, (pss_one (ps_ret (pe_tup (pa_cons (pe_meth0 (pv 0) T.cl_HasWord T.m_HasWord_sign (ok_OfWord_sign_HasWord T) (hr.mono (by decide)) T.b_OfWord_sign .nil pass0) (pa_cons (pe_fld (pv 0) rfl) pa_nil))))), ?_⟩
    unfold m_OfWord_tree_HasWord at hm
    refine c_ret ?_
    refine c_tup ?_
    refine c_cons ?_
    refine c_meth ?_
    refine ev_to (ev_var rfl) ?_
    obtain ⟨d1, hO2⟩ := im_HasWord (hS.im (i := 0) rfl)
    refine ⟨_, _, _, rfl, hO2, rfl, ?_⟩
    refine ea_to ea_nil ?_
    refine ⟨a_v_self, (v_self : HasWord), star [imA (.ref a_v_self) (v_self : HasWord), F], rfl, (hS.im (i := 0) rfl), Sep.unstar (M := []) (hS.sel [0, 1] (by decide) rfl : Sep H (([] ++ [imA (.ref a_v_self) (v_self : HasWord), F] : List (Asn G)))), R.wp_mono (R.wp_bind hm) (fun r3 hm H hS => ?_) (fun _ z => z)⟩
    have hS : Sep H ([imA (.ref a_v_self) (v_self : HasWord), F] : List (Asn G)) := Sep.star (M := []) hS
    refine c_cons ?_
    obtain ⟨d4, hO5⟩ := im_HasWord (hS.im (i := 0) rfl)
    refine ev_to (ev_fld (ev_var rfl) hO5 T.cl_HasWord T.n_HasWord_word rfl) ?_
    refine c_nil ?_
    refine k_tupA (vs := [(.str (r3)), (.str (v_self.word))]) (xs := [(Any.str r3), (Any.str v_self.word)]) hS ⟨(any_str.mpr rfl), ⟨(any_str.mpr rfl), True.intro⟩⟩ (by show 2 ≤ sizeLine; decide) fun p6 H hS => ?_
    exact hm _ _ (hS.sel [0, 2] (by decide) rfl)
def sp_InTitle_sign (G : Gx) : Sp := fun vs H Q E => ∃ (a_v_self : Addr) (v_self : InTitle) (F : Asn G), vs = [(.ref a_v_self)] ∧ Im.im G H (.ref a_v_self) v_self ∧ Sep H ([F] : List (Asn G)) ∧ R.wp (m_InTitle_sign v_self) (fun r => ∀ H', Sep H' ([F] : List (Asn G)) → Q (.str (r)) H') (fun _ => False)
abbrev N_InTitle_sign : List Str := ["self"]
theorem sc_InTitle_sign : FnScope N_InTitle_sign ["self"] (defScope s_InTitle_sign) := ⟨rfl, rfl, rfl, by decide +kernel, rfl, by decide +kernel, by decide +kernel⟩
theorem ok_InTitle_sign (T : Txt G mg) : FnOk P w G.K mg base CX0 1 T.a_InTitle_sign T.fd_InTitle_sign ["self"] (sp_InTitle_sign G) := by
  have nd := sc_InTitle_sign.nd
  refine Fun.ok T.F_InTitle_sign sc_InTitle_sign (fun vs H Q E h => ?_) (fun cdv A outer s H vs Q E hr h => ?_)
  · obtain ⟨a_v_self, v_self, F, rfl, _⟩ := h; rfl
  · obtain ⟨a_v_self, v_self, F, rfl, him_v_self, hS, hm⟩ := h
    have hS := hS.addIm him_v_self
    refine ⟨_, (pss_one (ps_ret pe_str)), ?_⟩
    unfold m_InTitle_sign at hm
    refine c_ret ?_
    refine ev_to ev_c ?_
    exact hm _ (hS.sel [1] (by decide) rfl)
def sp_FromSender_sign (G : Gx) : Sp := fun vs H Q E => ∃ (a_v_self : Addr) (v_self : FromSender) (F : Asn G), vs = [(.ref a_v_self)] ∧ Im.im G H (.ref a_v_self) v_self ∧ Sep H ([F] : List (Asn G)) ∧ R.wp (m_FromSender_sign v_self) (fun r => ∀ H', Sep H' ([F] : List (Asn G)) → Q (.str (r)) H') (fun _ => False)
abbrev N_FromSender_sign : List Str := ["self"]
theorem sc_FromSender_sign : FnScope N_FromSender_sign ["self"] (defScope s_FromSender_sign) := ⟨rfl, rfl, rfl, by decide +kernel, rfl, by decide +kernel, by decide +kernel⟩
theorem ok_FromSender_sign (T : Txt G mg) : FnOk P w G.K mg base CX0 1 T.a_FromSender_sign T.fd_FromSender_sign ["self"] (sp_FromSender_sign G) := by
  have nd := sc_FromSender_sign.nd
  refine Fun.ok T.F_FromSender_sign sc_FromSender_sign (fun vs H Q E h => ?_) (fun cdv A outer s H vs Q E hr h => ?_)
  · obtain ⟨a_v_self, v_self, F, rfl, _⟩ := h; rfl
  · obtain ⟨a_v_self, v_self, F, rfl, him_v_self, hS, hm⟩ := h
    have hS := hS.addIm him_v_self
    refine ⟨_, (pss_one (ps_ret pe_str)), ?_⟩
    unfold m_FromSender_sign at hm
    refine c_ret ?_
    refine ev_to ev_c ?_
    exact hm _ (hS.sel [1] (by decide) rfl)
def sp_FromSender_holds (G : Gx) : Sp := fun vs H Q E => ∃ (a_v_self : Addr) (v_self : FromSender) (a_v_card : Addr) (v_card : Card) (a_v_others : Addr) (v_others : (List Card)) (F : Asn G), vs = [(.ref a_v_self), (.ref a_v_card), .ref a_v_others] ∧ Im.im G H (.ref a_v_self) v_self ∧ Im.im G H (.ref a_v_card) v_card ∧ Sep H ([lstA a_v_others (v_others : (List Card)), F] : List (Asn G)) ∧ R.wp (m_FromSender_holds v_self v_card v_others) (fun r => ∀ H', Sep H' ([lstA a_v_others (v_others : (List Card)), F] : List (Asn G)) → Q (.bl (r)) H') (fun _ => False)
abbrev N_FromSender_holds : List Str := ["self", "card", "others"]
theorem sc_FromSender_holds : FnScope N_FromSender_holds ["self", "card", "others"] (defScope s_FromSender_holds) := ⟨rfl, rfl, rfl, by decide +kernel, rfl, by decide +kernel, by decide +kernel⟩
theorem ok_FromSender_holds (T : Txt G mg) : FnOk P w G.K mg base CX0 1 T.a_FromSender_holds T.fd_FromSender_holds ["self", "card", "others"] (sp_FromSender_holds G) := by
  have nd := sc_FromSender_holds.nd
  refine Fun.ok T.F_FromSender_holds sc_FromSender_holds (fun vs H Q E h => ?_) (fun cdv A outer s H vs Q E hr h => ?_)
  · obtain ⟨a_v_self, v_self, a_v_card, v_card, a_v_others, v_others, F, rfl, _⟩ := h; rfl
  · obtain ⟨a_v_self, v_self, a_v_card, v_card, a_v_others, v_others, F, rfl, him_v_self, him_v_card, hS, hm⟩ := h
    have hS := hS.addIm him_v_self
    have hS := hS.addIm him_v_card
    refine ⟨_, (pss_one (ps_ret (pe_cmpR op_eq (pe_fld (pe_fld (pv 1) rfl) rfl) (pe_fld (pv 0) rfl) (nomark _)))), ?_⟩
    unfold m_FromSender_holds at hm
    refine c_ret ?_
    obtain ⟨d1, u3, u4, hO2, h5, h6⟩ := im_Card (hS.im (i := 0) rfl)
    obtain ⟨a7, rfl⟩ := isref h5
    obtain ⟨d8, hO9⟩ := im_Letter h5
    obtain ⟨d10, hO11⟩ := im_FromSender (hS.im (i := 1) rfl)
    refine ev_to (ev_eqS (ev_fld (ev_fld (ev_var rfl) hO2 T.cl_Card T.n_Card_letter rfl) hO9 T.cl_Letter T.n_Letter_sender rfl) (ev_fld (ev_var rfl) hO11 T.cl_FromSender T.n_FromSender_word rfl)) ?_
    exact hm _ (hS.sel [2, 3] (by decide) rfl)
def sp_InFolder_sign (G : Gx) : Sp := fun vs H Q E => ∃ (a_v_self : Addr) (v_self : InFolder) (F : Asn G), vs = [(.ref a_v_self)] ∧ Im.im G H (.ref a_v_self) v_self ∧ Sep H ([F] : List (Asn G)) ∧ R.wp (m_InFolder_sign v_self) (fun r => ∀ H', Sep H' ([F] : List (Asn G)) → Q (.str (r)) H') (fun _ => False)
abbrev N_InFolder_sign : List Str := ["self"]
theorem sc_InFolder_sign : FnScope N_InFolder_sign ["self"] (defScope s_InFolder_sign) := ⟨rfl, rfl, rfl, by decide +kernel, rfl, by decide +kernel, by decide +kernel⟩
theorem ok_InFolder_sign (T : Txt G mg) : FnOk P w G.K mg base CX0 1 T.a_InFolder_sign T.fd_InFolder_sign ["self"] (sp_InFolder_sign G) := by
  have nd := sc_InFolder_sign.nd
  refine Fun.ok T.F_InFolder_sign sc_InFolder_sign (fun vs H Q E h => ?_) (fun cdv A outer s H vs Q E hr h => ?_)
  · obtain ⟨a_v_self, v_self, F, rfl, _⟩ := h; rfl
  · obtain ⟨a_v_self, v_self, F, rfl, him_v_self, hS, hm⟩ := h
    have hS := hS.addIm him_v_self
    refine ⟨_, (pss_one (ps_ret pe_str)), ?_⟩
    unfold m_InFolder_sign at hm
    refine c_ret ?_
    refine ev_to ev_c ?_
    exact hm _ (hS.sel [1] (by decide) rfl)
def sp_InFolder_holds (G : Gx) : Sp := fun vs H Q E => ∃ (a_v_self : Addr) (v_self : InFolder) (a_v_card : Addr) (v_card : Card) (a_v_others : Addr) (v_others : (List Card)) (F : Asn G), vs = [(.ref a_v_self), (.ref a_v_card), .ref a_v_others] ∧ Im.im G H (.ref a_v_self) v_self ∧ Im.im G H (.ref a_v_card) v_card ∧ Sep H ([lstA a_v_others (v_others : (List Card)), F] : List (Asn G)) ∧ R.wp (m_InFolder_holds v_self v_card v_others) (fun r => ∀ H', Sep H' ([lstA a_v_others (v_others : (List Card)), F] : List (Asn G)) → Q (.bl (r)) H') (fun _ => False)
abbrev N_InFolder_holds : List Str := ["self", "card", "others"]
theorem sc_InFolder_holds : FnScope N_InFolder_holds ["self", "card", "others"] (defScope s_InFolder_holds) := ⟨rfl, rfl, rfl, by decide +kernel, rfl, by decide +kernel, by decide +kernel⟩
theorem ok_InFolder_holds (T : Txt G mg) : FnOk P w G.K mg base CX0 1 T.a_InFolder_holds T.fd_InFolder_holds ["self", "card", "others"] (sp_InFolder_holds G) := by
  have nd := sc_InFolder_holds.nd
  refine Fun.ok T.F_InFolder_holds sc_InFolder_holds (fun vs H Q E h => ?_) (fun cdv A outer s H vs Q E hr h => ?_)
  · obtain ⟨a_v_self, v_self, a_v_card, v_card, a_v_others, v_others, F, rfl, _⟩ := h; rfl
  · obtain ⟨a_v_self, v_self, a_v_card, v_card, a_v_others, v_others, F, rfl, him_v_self, him_v_card, hS, hm⟩ := h
    have hS := hS.addIm him_v_self
    have hS := hS.addIm him_v_card
    refine ⟨_, (pss_one (ps_ret (pe_cmpR op_eq (pe_fld (pv 1) rfl) (pe_fld (pv 0) rfl) (nomark _)))), ?_⟩
    unfold m_InFolder_holds at hm
    refine c_ret ?_
    obtain ⟨d1, u3, u4, hO2, h5, h6⟩ := im_Card (hS.im (i := 0) rfl)
    obtain ⟨d7, hO8⟩ := im_InFolder (hS.im (i := 1) rfl)
    refine ev_to (ev_eqS (ev_fld (ev_var rfl) hO2 T.cl_Card T.n_Card_box rfl) (ev_fld (ev_var rfl) hO8 T.cl_InFolder T.n_InFolder_word rfl)) ?_
    exact hm _ (hS.sel [2, 3] (by decide) rfl)
def sp_IsMarked_sign (G : Gx) : Sp := fun vs H Q E => ∃ (a_v_self : Addr) (v_self : IsMarked) (F : Asn G), vs = [(.ref a_v_self)] ∧ Im.im G H (.ref a_v_self) v_self ∧ Sep H ([F] : List (Asn G)) ∧ R.wp (m_IsMarked_sign v_self) (fun r => ∀ H', Sep H' ([F] : List (Asn G)) → Q (.str (r)) H') (fun _ => False)
abbrev N_IsMarked_sign : List Str := ["self"]
theorem sc_IsMarked_sign : FnScope N_IsMarked_sign ["self"] (defScope s_IsMarked_sign) := ⟨rfl, rfl, rfl, by decide +kernel, rfl, by decide +kernel, by decide +kernel⟩
theorem ok_IsMarked_sign (T : Txt G mg) : FnOk P w G.K mg base CX0 1 T.a_IsMarked_sign T.fd_IsMarked_sign ["self"] (sp_IsMarked_sign G) := by
  have nd := sc_IsMarked_sign.nd
  refine Fun.ok T.F_IsMarked_sign sc_IsMarked_sign (fun vs H Q E h => ?_) (fun cdv A outer s H vs Q E hr h => ?_)
  · obtain ⟨a_v_self, v_self, F, rfl, _⟩ := h; rfl
  · obtain ⟨a_v_self, v_self, F, rfl, him_v_self, hS, hm⟩ := h
    have hS := hS.addIm him_v_self
    refine ⟨_, (pss_one (ps_ret pe_str)), ?_⟩
    unfold m_IsMarked_sign at hm
    refine c_ret ?_
    refine ev_to ev_c ?_
    exact hm _ (hS.sel [1] (by decide) rfl)
def sp_IsMarked_holds (G : Gx) : Sp := fun vs H Q E => ∃ (a_v_self : Addr) (v_self : IsMarked) (a_v_card : Addr) (v_card : Card) (a_v_others : Addr) (v_others : (List Card)) (F : Asn G), vs = [(.ref a_v_self), (.ref a_v_card), .ref a_v_others] ∧ Im.im G H (.ref a_v_self) v_self ∧ Im.im G H (.ref a_v_card) v_card ∧ Sep H ([lstA a_v_others (v_others : (List Card)), F] : List (Asn G)) ∧ R.wp (m_IsMarked_holds v_self v_card v_others) (fun r => ∀ H', Sep H' ([lstA a_v_others (v_others : (List Card)), F] : List (Asn G)) → Q (.bl (r)) H') (fun _ => False)
abbrev N_IsMarked_holds : List Str := ["self", "card", "others"]
theorem sc_IsMarked_holds : FnScope N_IsMarked_holds ["self", "card", "others"] (defScope s_IsMarked_holds) := ⟨rfl, rfl, rfl, by decide +kernel, rfl, by decide +kernel, by decide +kernel⟩
theorem ok_IsMarked_holds (T : Txt G mg) : FnOk P w G.K mg base CX0 1 T.a_IsMarked_holds T.fd_IsMarked_holds ["self", "card", "others"] (sp_IsMarked_holds G) := by
  have nd := sc_IsMarked_holds.nd
  refine Fun.ok T.F_IsMarked_holds sc_IsMarked_holds (fun vs H Q E h => ?_) (fun cdv A outer s H vs Q E hr h => ?_)
  · obtain ⟨a_v_self, v_self, a_v_card, v_card, a_v_others, v_others, F, rfl, _⟩ := h; rfl
  · obtain ⟨a_v_self, v_self, a_v_card, v_card, a_v_others, v_others, F, rfl, him_v_self, him_v_card, hS, hm⟩ := h
    have hS := hS.addIm him_v_self
    have hS := hS.addIm him_v_card
    refine ⟨_, (pss_one (ps_ret (pe_cmpR (inSqK G.K) (pe_fld (pv 0) rfl) (pe_fld (pv 1) rfl) (by rfl)))), ?_⟩
    unfold m_IsMarked_holds at hm
    refine c_ret ?_
    obtain ⟨d1, hO2⟩ := im_IsMarked (hS.im (i := 1) rfl)
    obtain ⟨d3, u5, u6, hO4, h7, h8⟩ := im_Card (hS.im (i := 0) rfl)
    obtain ⟨a9, rfl⟩ := isref h8
    refine ev_to (ev_inPl h8 (ev_fld (ev_var rfl) hO2 T.cl_IsMarked T.n_IsMarked_word rfl) (ev_fld (ev_var rfl) hO4 T.cl_Card T.n_Card_signs rfl)) ?_
    exact hm _ (hS.sel [2, 3] (by decide) rfl)
def sp_OnDays___init__ (G : Gx) : Sp := fun vs H Q E => ∃ (a_v_self d_v_self : Addr) (v_low : Int) (v_high : Int) (F : Asn G), vs = [.ref a_v_self, (.int (v_low)), (.int (v_high))] ∧ Sep H ([cell a_v_self (.ins (G.cl 7) d_v_self []), F] : List (Asn G)) ∧ R.wp (m_OnDays___init__ v_low v_high) (fun r => ∀ H', Sep H' ([imA (.ref a_v_self) (r : OnDays), F] : List (Asn G)) → Q .non H') (fun _ => False)
abbrev N_OnDays___init__ : List Str := ["self", "low", "high"]
theorem sc_OnDays___init__ : FnScope N_OnDays___init__ ["self", "low", "high"] (defScope s_OnDays___init__) := ⟨rfl, rfl, rfl, by decide +kernel, rfl, by decide +kernel, by decide +kernel⟩
theorem ok_OnDays___init__ (T : Txt G mg) : FnOk P w G.K mg base CX0 1 T.a_OnDays___init__ T.fd_OnDays___init__ ["self", "low", "high"] (sp_OnDays___init__ G) := by
  have nd := sc_OnDays___init__.nd
  refine Fun.ok T.F_OnDays___init__ sc_OnDays___init__ (fun vs H Q E h => ?_) (fun cdv A outer s H vs Q E hr h => ?_)
  · obtain ⟨a_v_self, d_v_self, v_low, v_high, F, rfl, _⟩ := h; rfl
  · obtain ⟨a_v_self, d_v_self, v_low, v_high, F, rfl, hS, hm⟩ := h
    refine ⟨_, (pss_cons (ps_fld (pv 0) (pv 1) rfl)
      (pss_one (ps_fld (pv 0) (pv 2) rfl))), ?_⟩
    unfold m_OnDays___init__ at hm
    refine f_seq ?_
    refine c_sfld ?_
    refine ev_to (ev_var rfl) ?_
    refine ev_to (ev_var rfl) ?_
    refine k_sfld (fs' := [("low", (.int (v_low)))]) hS (i := 0) rfl T.cl_OnDays T.n_OnDays_low rfl (by show 0 < 1000; decide) (by show decide (G.fz (G.cl 7) = some 1) = false; rw [T.fz_OnDays]; rfl) rfl fun H hS => ?_
    have hS : Sep H ([cell a_v_self (.ins (G.cl 7) d_v_self [("low", (.int (v_low)))]), F] : List (Asn G)) := hS
    refine sq_nx ?_
    refine c_sfld ?_
    refine ev_to (ev_var rfl) ?_
    refine ev_to (ev_var rfl) ?_
    refine k_sfldP (fs' := [("low", (.int (v_low))), ("high", (.int (v_high)))]) hS (i := 0) rfl T.cl_OnDays T.n_OnDays_high rfl (by show 1 < 1000; decide) (by show decide (G.fz (G.cl 7) = some 2) = true; rw [T.fz_OnDays]; rfl) rfl fun H hO hT hS => ?_
    have hS : Sep H ([F] : List (Asn G)) := hS
    have hS := hS.addIm (v := (.ref a_v_self)) (x := (⟨v_low, v_high⟩ : OnDays)) (mk_OnDays T.fz_OnDays hO)
    exact hm _ (hS.sel [0, 1] (by decide) rfl)
def sp_OnDays_holds (G : Gx) : Sp := fun vs H Q E => ∃ (a_v_self : Addr) (v_self : OnDays) (a_v_card : Addr) (v_card : Card) (a_v_others : Addr) (v_others : (List Card)) (F : Asn G), vs = [(.ref a_v_self), (.ref a_v_card), .ref a_v_others] ∧ Im.im G H (.ref a_v_self) v_self ∧ Im.im G H (.ref a_v_card) v_card ∧ Sep H ([lstA a_v_others (v_others : (List Card)), F] : List (Asn G)) ∧ R.wp (m_OnDays_holds v_self v_card v_others) (fun r => ∀ H', Sep H' ([lstA a_v_others (v_others : (List Card)), F] : List (Asn G)) → Q (.bl (r)) H') (fun _ => False)
abbrev N_OnDays_holds : List Str := ["self", "card", "others"]
theorem sc_OnDays_holds : FnScope N_OnDays_holds ["self", "card", "others"] (defScope s_OnDays_holds) := ⟨rfl, rfl, rfl, by decide +kernel, rfl, by decide +kernel, by decide +kernel⟩
theorem ok_OnDays_holds (T : Txt G mg) : FnOk P w G.K mg base CX0 1 T.a_OnDays_holds T.fd_OnDays_holds ["self", "card", "others"] (sp_OnDays_holds G) := by
  have nd := sc_OnDays_holds.nd
  refine Fun.ok T.F_OnDays_holds sc_OnDays_holds (fun vs H Q E h => ?_) (fun cdv A outer s H vs Q E hr h => ?_)
  · obtain ⟨a_v_self, v_self, a_v_card, v_card, a_v_others, v_others, F, rfl, _⟩ := h; rfl
  · obtain ⟨a_v_self, v_self, a_v_card, v_card, a_v_others, v_others, F, rfl, him_v_self, him_v_card, hS, hm⟩ := h
    have hS := hS.addIm him_v_self
    have hS := hS.addIm him_v_card
    refine ⟨_, (pss_one (ps_ret (pe_chain op_le op_le (pe_fld (pv 0) rfl) (pe_fld (pe_fld (pv 1) rfl) rfl) (pe_fld (pv 0) rfl)))), ?_⟩
    unfold m_OnDays_holds at hm
    refine c_ret ?_
    obtain ⟨d1, hO2⟩ := im_OnDays (hS.im (i := 1) rfl)
    obtain ⟨d3, u5, u6, hO4, h7, h8⟩ := im_Card (hS.im (i := 0) rfl)
    obtain ⟨a9, rfl⟩ := isref h7
    obtain ⟨d10, hO11⟩ := im_Letter h7
    obtain ⟨d12, hO13⟩ := im_OnDays (hS.im (i := 1) rfl)
    refine ev_to (ev_chainB (a := decide (v_self.low ≤ v_card.letter.day)) (b := decide (v_card.letter.day ≤ v_self.high)) (ev_fld (ev_var rfl) hO2 T.cl_OnDays T.n_OnDays_low rfl) (ev_fld (ev_fld (ev_var rfl) hO4 T.cl_Card T.n_Card_letter rfl) hO11 T.cl_Letter T.n_Letter_day rfl) (fun _ => (ev_fld (ev_var rfl) hO13 T.cl_OnDays T.n_OnDays_high rfl)) (fun Q q => r_I0 Q q) (fun _ Q q => r_I0 Q q)) ?_
    exact hm _ (hS.sel [2, 3] (by decide) rfl)
def sp_OnDays_tree (G : Gx) : Sp := fun vs H Q E => ∃ (a_v_self : Addr) (v_self : OnDays) (F : Asn G), vs = [(.ref a_v_self)] ∧ Im.im G H (.ref a_v_self) v_self ∧ Sep H ([F] : List (Asn G)) ∧ R.wp (m_OnDays_tree v_self) (fun r => ∀ (p : V) H', Sep H' ([imA p (r : Any), F] : List (Asn G)) → Q p H') (fun _ => False)
abbrev N_OnDays_tree : List Str := ["self"]
theorem sc_OnDays_tree : FnScope N_OnDays_tree ["self"] (defScope s_OnDays_tree) := ⟨rfl, rfl, rfl, by decide +kernel, rfl, by decide +kernel, by decide +kernel⟩
theorem ok_OnDays_tree (T : Txt G mg) : FnOk P w G.K mg base CX0 1 T.a_OnDays_tree T.fd_OnDays_tree ["self"] (sp_OnDays_tree G) := by
  have nd := sc_OnDays_tree.nd
  refine Fun.ok T.F_OnDays_tree sc_OnDays_tree (fun vs H Q E h => ?_) (fun cdv A outer s H vs Q E hr h => ?_)
  · obtain ⟨a_v_self, v_self, F, rfl, _⟩ := h; rfl
  · obtain ⟨a_v_self, v_self, F, rfl, him_v_self, hS, hm⟩ := h
    have hS := hS.addIm him_v_self
    refine ⟨_, (pss_one (ps_ret (pe_tup (pa_cons pe_str (pa_cons (pe_fld (pv 0) rfl) (pa_cons (pe_fld (pv 0) rfl) pa_nil)))))), ?_⟩
    unfold m_OnDays_tree at hm
    refine c_ret ?_
    refine c_tup ?_
    obtain ⟨d1, hO2⟩ := im_OnDays (hS.im (i := 0) rfl)
    obtain ⟨d3, hO4⟩ := im_OnDays (hS.im (i := 0) rfl)
    refine ea_to (ea_cons ev_c (ea_cons (ev_fld (ev_var rfl) hO2 T.cl_OnDays T.n_OnDays_low rfl) (ea_cons (ev_fld (ev_var rfl) hO4 T.cl_OnDays T.n_OnDays_high rfl) ea_nil))) ?_
    refine k_tupA (vs := [(.str (("day" : Str))), (.int (v_self.low)), (.int (v_self.high))]) (xs := [(Any.str ("day" : Str)), (Any.int v_self.low), (Any.int v_self.high)]) hS ⟨(any_str.mpr rfl), ⟨(any_int.mpr rfl), ⟨(any_int.mpr rfl), True.intro⟩⟩⟩ (by show 3 ≤ sizeLine; decide) fun p5 H hS => ?_
    exact hm _ _ (hS.sel [0, 2] (by decide) rfl)
def sp_IsAnswer_holds (G : Gx) : Sp := fun vs H Q E => ∃ (a_v_self : Addr) (v_self : IsAnswer) (a_v_card : Addr) (v_card : Card) (a_v_others : Addr) (v_others : (List Card)) (F : Asn G), vs = [(.ref a_v_self), (.ref a_v_card), .ref a_v_others] ∧ Im.im G H (.ref a_v_self) v_self ∧ Im.im G H (.ref a_v_card) v_card ∧ Sep H ([lstA a_v_others (v_others : (List Card)), F] : List (Asn G)) ∧ R.wp (m_IsAnswer_holds v_self v_card v_others) (fun r => ∀ H', Sep H' ([lstA a_v_others (v_others : (List Card)), F] : List (Asn G)) → Q (.bl (r)) H') (fun _ => False)
abbrev N_IsAnswer_holds : List Str := ["self", "card", "others"]
theorem sc_IsAnswer_holds : FnScope N_IsAnswer_holds ["self", "card", "others"] (defScope s_IsAnswer_holds) := ⟨rfl, rfl, rfl, by decide +kernel, rfl, by decide +kernel, by decide +kernel⟩
theorem ok_IsAnswer_holds (T : Txt G mg) : FnOk P w G.K mg base CX0 1 T.a_IsAnswer_holds T.fd_IsAnswer_holds ["self", "card", "others"] (sp_IsAnswer_holds G) := by
  have nd := sc_IsAnswer_holds.nd
  refine Fun.ok T.F_IsAnswer_holds sc_IsAnswer_holds (fun vs H Q E h => ?_) (fun cdv A outer s H vs Q E hr h => ?_)
  · obtain ⟨a_v_self, v_self, a_v_card, v_card, a_v_others, v_others, F, rfl, _⟩ := h; rfl
  · obtain ⟨a_v_self, v_self, a_v_card, v_card, a_v_others, v_others, F, rfl, him_v_self, him_v_card, hS, hm⟩ := h
    have hS := hS.addIm him_v_self
    have hS := hS.addIm him_v_card
    refine ⟨_, (pss_one (ps_ret (pe_cmpR op_ne (pe_fld (pe_fld (pv 1) rfl) rfl) pe_str (nomark _)))), ?_⟩
    unfold m_IsAnswer_holds at hm
    refine c_ret ?_
    obtain ⟨d1, u3, u4, hO2, h5, h6⟩ := im_Card (hS.im (i := 0) rfl)
    obtain ⟨a7, rfl⟩ := isref h5
    obtain ⟨d8, hO9⟩ := im_Letter h5
    refine ev_to (ev_neS (ev_fld (ev_fld (ev_var rfl) hO2 T.cl_Card T.n_Card_letter rfl) hO9 T.cl_Letter T.n_Letter_answers rfl) ev_c) ?_
    exact hm _ (hS.sel [2, 3] (by decide) rfl)
def sp_IsAnswer_tree (G : Gx) : Sp := fun vs H Q E => ∃ (a_v_self : Addr) (v_self : IsAnswer) (F : Asn G), vs = [(.ref a_v_self)] ∧ Im.im G H (.ref a_v_self) v_self ∧ Sep H ([F] : List (Asn G)) ∧ R.wp (m_IsAnswer_tree v_self) (fun r => ∀ (p : V) H', Sep H' ([imA p (r : Any), F] : List (Asn G)) → Q p H') (fun _ => False)
abbrev N_IsAnswer_tree : List Str := ["self"]
theorem sc_IsAnswer_tree : FnScope N_IsAnswer_tree ["self"] (defScope s_IsAnswer_tree) := ⟨rfl, rfl, rfl, by decide +kernel, rfl, by decide +kernel, by decide +kernel⟩
theorem ok_IsAnswer_tree (T : Txt G mg) : FnOk P w G.K mg base CX0 1 T.a_IsAnswer_tree T.fd_IsAnswer_tree ["self"] (sp_IsAnswer_tree G) := by
  have nd := sc_IsAnswer_tree.nd
  refine Fun.ok T.F_IsAnswer_tree sc_IsAnswer_tree (fun vs H Q E h => ?_) (fun cdv A outer s H vs Q E hr h => ?_)
  · obtain ⟨a_v_self, v_self, F, rfl, _⟩ := h; rfl
  · obtain ⟨a_v_self, v_self, F, rfl, him_v_self, hS, hm⟩ := h
    have hS := hS.addIm him_v_self
    refine ⟨_, (pss_one (ps_ret (pe_tup (pa_cons pe_str pa_nil)))), ?_⟩
    unfold m_IsAnswer_tree at hm
    refine c_ret ?_
    refine c_tup ?_
    refine ea_to (ea_cons ev_c ea_nil) ?_
    refine k_tupA (vs := [(.str (("answers" : Str)))]) (xs := [(Any.str ("answers" : Str))]) hS ⟨(any_str.mpr rfl), True.intro⟩ (by show 1 ≤ sizeLine; decide) fun p1 H hS => ?_
    exact hm _ _ (hS.sel [0, 2] (by decide) rfl)
def sp_OfOne___init___NotSo (G : Gx) : Sp := fun vs H Q E => ∃ (a_v_self d_v_self : Addr) (a_v_inner : Addr) (v_inner : Cond) (F : Asn G), vs = [.ref a_v_self, (.ref a_v_inner)] ∧ Im.im G H (.ref a_v_inner) v_inner ∧ Sep H ([cell a_v_self (.ins (G.cl 9) d_v_self []), F] : List (Asn G)) ∧ R.wp (m_OfOne___init___NotSo v_inner) (fun r => ∀ H', Sep H' ([imA (.ref a_v_self) (r : NotSo), F] : List (Asn G)) → Q .non H') (fun _ => False)
abbrev N_OfOne___init___NotSo : List Str := ["self", "inner"]
theorem sc_OfOne___init___NotSo : FnScope N_OfOne___init___NotSo ["self", "inner"] (defScope s_OfOne___init__) := ⟨rfl, rfl, rfl, by decide +kernel, rfl, by decide +kernel, by decide +kernel⟩
theorem ok_OfOne___init___NotSo (T : Txt G mg) : FnOk P w G.K mg base CX0 1 T.a_OfOne___init__ T.fd_OfOne___init__ ["self", "inner"] (sp_OfOne___init___NotSo G) := by
  have nd := sc_OfOne___init___NotSo.nd
  refine Fun.ok T.F_OfOne___init__ sc_OfOne___init___NotSo (fun vs H Q E h => ?_) (fun cdv A outer s H vs Q E hr h => ?_)
  · obtain ⟨a_v_self, d_v_self, a_v_inner, v_inner, F, rfl, _⟩ := h; rfl
  · obtain ⟨a_v_self, d_v_self, a_v_inner, v_inner, F, rfl, him_v_inner, hS, hm⟩ := h
    have hS := hS.addIm him_v_inner
    refine ⟨_, (pss_one (ps_fld (pv 0) (pv 1) rfl)), ?_⟩
    unfold m_OfOne___init___NotSo at hm
    refine c_sfld ?_
    refine ev_to (ev_var rfl) ?_
    refine ev_to (ev_var rfl) ?_
    refine k_sfldP (fs' := [("inner", (.ref a_v_inner))]) hS (i := 1) rfl T.cl_NotSo T.n_NotSo_inner rfl (by show 0 < 1000; decide) (by show decide (G.fz (G.cl 9) = some 1) = true; rw [T.fz_NotSo]; rfl) rfl fun H hO hT hS => ?_
    have hS : Sep H ([imA (.ref a_v_inner) (v_inner : Cond), F] : List (Asn G)) := hS
    have hS := hS.addIm (v := (.ref a_v_self)) (x := (⟨v_inner⟩ : NotSo)) (mk_NotSo T.fz_NotSo hO (hS.im (i := 0) rfl))
    exact hm _ (hS.sel [0, 2] (by decide) rfl)
def sp_OfOne___init___InThread (G : Gx) : Sp := fun vs H Q E => ∃ (a_v_self d_v_self : Addr) (a_v_inner : Addr) (v_inner : Cond) (F : Asn G), vs = [.ref a_v_self, (.ref a_v_inner)] ∧ Im.im G H (.ref a_v_inner) v_inner ∧ Sep H ([cell a_v_self (.ins (G.cl 10) d_v_self []), F] : List (Asn G)) ∧ R.wp (m_OfOne___init___InThread v_inner) (fun r => ∀ H', Sep H' ([imA (.ref a_v_self) (r : InThread), F] : List (Asn G)) → Q .non H') (fun _ => False)
abbrev N_OfOne___init___InThread : List Str := ["self", "inner"]
theorem sc_OfOne___init___InThread : FnScope N_OfOne___init___InThread ["self", "inner"] (defScope s_OfOne___init__) := ⟨rfl, rfl, rfl, by decide +kernel, rfl, by decide +kernel, by decide +kernel⟩
theorem ok_OfOne___init___InThread (T : Txt G mg) : FnOk P w G.K mg base CX0 1 T.a_OfOne___init__ T.fd_OfOne___init__ ["self", "inner"] (sp_OfOne___init___InThread G) := by
  have nd := sc_OfOne___init___InThread.nd
  refine Fun.ok T.F_OfOne___init__ sc_OfOne___init___InThread (fun vs H Q E h => ?_) (fun cdv A outer s H vs Q E hr h => ?_)
  · obtain ⟨a_v_self, d_v_self, a_v_inner, v_inner, F, rfl, _⟩ := h; rfl
  · obtain ⟨a_v_self, d_v_self, a_v_inner, v_inner, F, rfl, him_v_inner, hS, hm⟩ := h
    have hS := hS.addIm him_v_inner
    refine ⟨_, (pss_one (ps_fld (pv 0) (pv 1) rfl)), ?_⟩
    unfold m_OfOne___init___InThread at hm
    refine c_sfld ?_
    refine ev_to (ev_var rfl) ?_
    refine ev_to (ev_var rfl) ?_
    refine k_sfldP (fs' := [("inner", (.ref a_v_inner))]) hS (i := 1) rfl T.cl_InThread T.n_InThread_inner rfl (by show 0 < 1000; decide) (by show decide (G.fz (G.cl 10) = some 1) = true; rw [T.fz_InThread]; rfl) rfl fun H hO hT hS => ?_
    have hS : Sep H ([imA (.ref a_v_inner) (v_inner : Cond), F] : List (Asn G)) := hS
    have hS := hS.addIm (v := (.ref a_v_self)) (x := (⟨v_inner⟩ : InThread)) (mk_InThread T.fz_InThread hO (hS.im (i := 0) rfl))
    exact hm _ (hS.sel [0, 2] (by decide) rfl)
def sp_OfOne_sign_NotSo (G : Gx) : Sp := fun vs H Q E => ∃ (a_v_self : Addr) (v_self : NotSo) (F : Asn G), vs = [(.ref a_v_self)] ∧ Im.im G H (.ref a_v_self) v_self ∧ Sep H ([F] : List (Asn G)) ∧ R.wp (m_OfOne_sign_NotSo v_self) (fun r => ∀ H', Sep H' ([F] : List (Asn G)) → Q (.str (r)) H') (fun _ => False)
abbrev N_OfOne_sign_NotSo : List Str := ["self"]
theorem sc_OfOne_sign_NotSo : FnScope N_OfOne_sign_NotSo ["self"] (defScope s_OfOne_sign) := ⟨rfl, rfl, rfl, by decide +kernel, rfl, by decide +kernel, by decide +kernel⟩
theorem ok_OfOne_sign_NotSo (T : Txt G mg) : FnOk P w G.K mg base CX0 1 T.a_OfOne_sign T.fd_OfOne_sign ["self"] (sp_OfOne_sign_NotSo G) := by
  have nd := sc_OfOne_sign_NotSo.nd
  refine Fun.ok T.F_OfOne_sign sc_OfOne_sign_NotSo (fun vs H Q E h => ?_) (fun cdv A outer s H vs Q E hr h => ?_)
  · obtain ⟨a_v_self, v_self, F, rfl, _⟩ := h; rfl
  · obtain ⟨a_v_self, v_self, F, rfl, him_v_self, hS, hm⟩ := h
    have hS := hS.addIm him_v_self
    refine ⟨_, (pss_one (ps_ret pe_str)), ?_⟩
    unfold m_OfOne_sign_NotSo at hm
    refine c_ret ?_
    refine ev_to ev_c ?_
    exact hm _ (hS.sel [1] (by decide) rfl)
def sp_OfOne_tree_NotSo (G : Gx) (m_Cond_tree : Cond → R Any) : Sp := fun vs H Q E => ∃ (a_v_self : Addr) (v_self : NotSo) (F : Asn G), vs = [(.ref a_v_self)] ∧ Im.im G H (.ref a_v_self) v_self ∧ Sep H ([F] : List (Asn G)) ∧ R.wp (m_OfOne_tree_NotSo m_Cond_tree v_self) (fun r => ∀ (p : V) H', Sep H' ([imA p (r : Any), F] : List (Asn G)) → Q p H') (fun _ => False)
abbrev N_OfOne_tree_NotSo : List Str := ["self"]
theorem sc_OfOne_tree_NotSo : FnScope N_OfOne_tree_NotSo ["self"] (defScope s_OfOne_tree) := ⟨rfl, rfl, rfl, by decide +kernel, rfl, by decide +kernel, by decide +kernel⟩
theorem ok_OfOne_tree_NotSo (T : Txt G mg) {lv : Nat} (hl : 1 ≤ lv) {m_Cond_tree : Cond → R Any} (R_Cond_tree : Dsp P w G.K mg base CX0 lv isC_Cond G.cl "tree" ["self"] (sp_Cond_tree G m_Cond_tree)) : FnOk P w G.K mg base CX0 (lv + 1) T.a_OfOne_tree T.fd_OfOne_tree ["self"] (sp_OfOne_tree_NotSo G m_Cond_tree) := by
  have nd := sc_OfOne_tree_NotSo.nd
  refine Fun.ok T.F_OfOne_tree sc_OfOne_tree_NotSo (fun vs H Q E h => ?_) (fun cdv A outer s H vs Q E hr h => ?_)
  · obtain ⟨a_v_self, v_self, F, rfl, _⟩ := h; rfl
  · obtain ⟨a_v_self, v_self, F, rfl, him_v_self, hS, hm⟩ := h
    have hS := hS.addIm him_v_self
    refine ⟨_, (pss_one (ps_ret (pe_tup (pa_cons (pe_meth0 (pv 0) T.cl_NotSo T.m_NotSo_sign (ok_OfOne_sign_NotSo T) (hr.mono (by omega)) T.b_OfOne_sign .nil pass0) (pa_cons (pe_methF0 (pe_fld (pv 0) rfl) R_Cond_tree (hr.mono (by omega)) pass0) pa_nil))))), ?_⟩
    unfold m_OfOne_tree_NotSo at hm
    refine c_ret ?_
    refine c_tup ?_
    refine c_cons ?_
    refine c_meth ?_
    refine ev_to (ev_var rfl) ?_
    obtain ⟨d1, _, hO2, _⟩ := im_NotSo (hS.im (i := 0) rfl)
    refine ⟨_, _, _, rfl, hO2, rfl, ?_⟩
    refine ea_to ea_nil ?_
    refine ⟨a_v_self, (v_self : NotSo), star [imA (.ref a_v_self) (v_self : NotSo), F], rfl, (hS.im (i := 0) rfl), Sep.unstar (M := []) (hS.sel [0, 1] (by decide) rfl : Sep H (([] ++ [imA (.ref a_v_self) (v_self : NotSo), F] : List (Asn G)))), R.wp_mono (R.wp_bind hm) (fun r3 hm H hS => ?_) (fun _ z => z)⟩
    have hS : Sep H ([imA (.ref a_v_self) (v_self : NotSo), F] : List (Asn G)) := Sep.star (M := []) hS
    refine c_cons ?_
    refine c_methF ?_
    obtain ⟨d4, u6, hO5, h7⟩ := im_NotSo (hS.im (i := 0) rfl)
    obtain ⟨a8, rfl⟩ := isref h7
    refine ev_to (ev_fld (ev_var rfl) hO5 T.cl_NotSo T.n_NotSo_inner rfl) ?_
    have hS := hS.addIm (v := (.ref a8)) (x := (v_self.inner : Cond)) h7
    obtain ⟨dx10, fs11, hO12, hl13⟩ := cls_Cond (hS.im (i := 0) rfl)
    refine ⟨_, _, _, _, rfl, fam_Cond _, hO12, hl13 "tree" (by decide), ?_⟩
    refine ea_to ea_nil ?_
    refine ⟨a8, (v_self.inner : Cond), star [imA (.ref a8) (v_self.inner : Cond), imA (.ref a_v_self) (v_self : NotSo), F], rfl, (hS.im (i := 0) rfl), rfl, Sep.unstar (M := []) (hS.sel [0, 1, 2] (by decide) rfl : Sep H (([] ++ [imA (.ref a8) (v_self.inner : Cond), imA (.ref a_v_self) (v_self : NotSo), F] : List (Asn G)))), R.wp_mono (R.wp_bind hm) (fun r14 hm p15 H hS => ?_) (fun _ z => z)⟩
    have hS : Sep H ([imA p15 (r14 : Any), imA (.ref a8) (v_self.inner : Cond), imA (.ref a_v_self) (v_self : NotSo), F] : List (Asn G)) := Sep.star (M := [imA p15 (r14 : Any)]) hS
    refine c_nil ?_
    refine k_tupA (vs := [(.str (r3)), p15]) (xs := [(Any.str r3), r14]) hS ⟨(any_str.mpr rfl), ⟨(hS.im (i := 0) rfl), True.intro⟩⟩ (by show 2 ≤ sizeLine; decide) fun p17 H hS => ?_
    exact hm _ _ (hS.sel [0, 4] (by decide) rfl)
def sp_NotSo_holds (G : Gx) (m_Cond_holds : Cond → Card → (List Card) → R Bool) : Sp := fun vs H Q E => ∃ (a_v_self : Addr) (v_self : NotSo) (a_v_card : Addr) (v_card : Card) (a_v_others : Addr) (v_others : (List Card)) (F : Asn G), vs = [(.ref a_v_self), (.ref a_v_card), .ref a_v_others] ∧ Im.im G H (.ref a_v_self) v_self ∧ Im.im G H (.ref a_v_card) v_card ∧ Sep H ([lstA a_v_others (v_others : (List Card)), F] : List (Asn G)) ∧ R.wp (m_NotSo_holds m_Cond_holds v_self v_card v_others) (fun r => ∀ H', Sep H' ([lstA a_v_others (v_others : (List Card)), F] : List (Asn G)) → Q (.bl (r)) H') (fun _ => False)
abbrev N_NotSo_holds : List Str := ["self", "card", "others"]
theorem sc_NotSo_holds : FnScope N_NotSo_holds ["self", "card", "others"] (defScope s_NotSo_holds) := ⟨rfl, rfl, rfl, by decide +kernel, rfl, by decide +kernel, by decide +kernel⟩
theorem ok_NotSo_holds (T : Txt G mg) {lv : Nat} (hl : 0 ≤ lv) {m_Cond_holds : Cond → Card → (List Card) → R Bool} (R_Cond_holds : Dsp P w G.K mg base CX0 lv isC_Cond G.cl "holds" ["self", "card", "others"] (sp_Cond_holds G m_Cond_holds)) : FnOk P w G.K mg base CX0 (lv + 1) T.a_NotSo_holds T.fd_NotSo_holds ["self", "card", "others"] (sp_NotSo_holds G m_Cond_holds) := by
  have nd := sc_NotSo_holds.nd
  refine Fun.ok T.F_NotSo_holds sc_NotSo_holds (fun vs H Q E h => ?_) (fun cdv A outer s H vs Q E hr h => ?_)
  · obtain ⟨a_v_self, v_self, a_v_card, v_card, a_v_others, v_others, F, rfl, _⟩ := h; rfl
  · obtain ⟨a_v_self, v_self, a_v_card, v_card, a_v_others, v_others, F, rfl, him_v_self, him_v_card, hS, hm⟩ := h
    have hS := hS.addIm him_v_self
    have hS := hS.addIm him_v_card
    refine ⟨_, (pss_one (ps_ret (pe_not (pe_methF (pe_fld (pv 0) rfl) R_Cond_holds (hr.mono (by omega)) pass0 (pa_cons (pv 1) (pa_cons (pe_fz (pv 2)) pa_nil)))))), ?_⟩
    unfold m_NotSo_holds at hm
    refine c_ret ?_
    refine f_notV ?_
    refine c_methF ?_
    obtain ⟨d1, u3, hO2, h4⟩ := im_NotSo (hS.im (i := 1) rfl)
    obtain ⟨a5, rfl⟩ := isref h4
    refine ev_to (ev_fld (ev_var rfl) hO2 T.cl_NotSo T.n_NotSo_inner rfl) ?_
    have hS := hS.addIm (v := (.ref a5)) (x := (v_self.inner : Cond)) h4
    obtain ⟨dx7, fs8, hO9, hl10⟩ := cls_Cond (hS.im (i := 0) rfl)
    refine ⟨_, _, _, _, rfl, fam_Cond _, hO9, hl10 "holds" (by decide), ?_⟩
    refine ea_to (ea_cons (ev_var rfl) (ea_cons (ev_fz (ev_var rfl)) ea_nil)) ?_
    refine ⟨a5, (v_self.inner : Cond), a_v_card, (v_card : Card), a_v_others, (v_others : (List Card)), star [imA (.ref a5) (v_self.inner : Cond), imA (.ref a_v_card) (v_card : Card), imA (.ref a_v_self) (v_self : NotSo), F], rfl, (hS.im (i := 0) rfl), (hS.im (i := 1) rfl), rfl, Sep.unstar (M := [lstA a_v_others (v_others : (List Card))]) (hS.sel [3, 0, 1, 2, 4] (by decide) rfl : Sep H (([lstA a_v_others (v_others : (List Card))] ++ [imA (.ref a5) (v_self.inner : Cond), imA (.ref a_v_card) (v_card : Card), imA (.ref a_v_self) (v_self : NotSo), F] : List (Asn G)))), R.wp_mono (R.wp_bind hm) (fun r11 hm H hS => ?_) (fun _ z => z)⟩
    have hS : Sep H ([lstA a_v_others (v_others : (List Card)), imA (.ref a5) (v_self.inner : Cond), imA (.ref a_v_card) (v_card : Card), imA (.ref a_v_self) (v_self : NotSo), F] : List (Asn G)) := Sep.star (M := [lstA a_v_others (v_others : (List Card))]) hS
    refine f_nV ?_
    exact hm _ (hS.sel [0, 4] (by decide) rfl)
def sp_InThread_sign (G : Gx) : Sp := fun vs H Q E => ∃ (a_v_self : Addr) (v_self : InThread) (F : Asn G), vs = [(.ref a_v_self)] ∧ Im.im G H (.ref a_v_self) v_self ∧ Sep H ([F] : List (Asn G)) ∧ R.wp (m_InThread_sign v_self) (fun r => ∀ H', Sep H' ([F] : List (Asn G)) → Q (.str (r)) H') (fun _ => False)
abbrev N_InThread_sign : List Str := ["self"]
theorem sc_InThread_sign : FnScope N_InThread_sign ["self"] (defScope s_InThread_sign) := ⟨rfl, rfl, rfl, by decide +kernel, rfl, by decide +kernel, by decide +kernel⟩
theorem ok_InThread_sign (T : Txt G mg) : FnOk P w G.K mg base CX0 1 T.a_InThread_sign T.fd_InThread_sign ["self"] (sp_InThread_sign G) := by
  have nd := sc_InThread_sign.nd
  refine Fun.ok T.F_InThread_sign sc_InThread_sign (fun vs H Q E h => ?_) (fun cdv A outer s H vs Q E hr h => ?_)
  · obtain ⟨a_v_self, v_self, F, rfl, _⟩ := h; rfl
  · obtain ⟨a_v_self, v_self, F, rfl, him_v_self, hS, hm⟩ := h
    have hS := hS.addIm him_v_self
    refine ⟨_, (pss_one (ps_ret pe_str)), ?_⟩
    unfold m_InThread_sign at hm
    refine c_ret ?_
    refine ev_to ev_c ?_
    exact hm _ (hS.sel [1] (by decide) rfl)
def sp_InThread_holds (G : Gx) (m_Cond_holds : Cond → Card → (List Card) → R Bool) : Sp := fun vs H Q E => ∃ (a_v_self : Addr) (v_self : InThread) (a_v_card : Addr) (v_card : Card) (a_v_others : Addr) (v_others : (List Card)) (F : Asn G), vs = [(.ref a_v_self), (.ref a_v_card), .ref a_v_others] ∧ Im.im G H (.ref a_v_self) v_self ∧ Im.im G H (.ref a_v_card) v_card ∧ Sep H ([lstA a_v_others (v_others : (List Card)), F] : List (Asn G)) ∧ R.wp (m_InThread_holds m_Cond_holds v_self v_card v_others) (fun r => ∀ H', Sep H' ([lstA a_v_others (v_others : (List Card)), F] : List (Asn G)) → Q (.bl (r)) H') (fun _ => False)
abbrev N_InThread_holds : List Str := ["self", "card", "others", "place", "other"]
theorem sc_InThread_holds : FnScope N_InThread_holds ["self", "card", "others"] (defScope s_InThread_holds) := ⟨rfl, rfl, rfl, by decide +kernel, rfl, by decide +kernel, by decide +kernel⟩
theorem ok_InThread_holds (T : Txt G mg) {lv : Nat} (hl : 0 ≤ lv) {m_Cond_holds : Cond → Card → (List Card) → R Bool} (R_Cond_holds : Dsp P w G.K mg base CX0 lv isC_Cond G.cl "holds" ["self", "card", "others"] (sp_Cond_holds G m_Cond_holds)) : FnOk P w G.K mg base CX0 (lv + 1) T.a_InThread_holds T.fd_InThread_holds ["self", "card", "others"] (sp_InThread_holds G m_Cond_holds) := by
  have nd := sc_InThread_holds.nd
  refine Fun.ok T.F_InThread_holds sc_InThread_holds (fun vs H Q E h => ?_) (fun cdv A outer s H vs Q E hr h => ?_)
  · obtain ⟨a_v_self, v_self, a_v_card, v_card, a_v_others, v_others, F, rfl, _⟩ := h; rfl
  · obtain ⟨a_v_self, v_self, a_v_card, v_card, a_v_others, v_others, F, rfl, him_v_self, him_v_card, hS, hm⟩ := h
    have hS := hS.addIm him_v_self
    have hS := hS.addIm him_v_card
    refine ⟨_, (pss_cons (ps_for PassesOwn.never rfl (pi_enumK G.K (by rfl) T.z_enumerate (pa_cons (pe_fz (pv 2)) pa_nil)) (pg_tupK (n := 2) G.K rfl rfl (pgs_cons (pg_name (i := 3) nd rfl (Or.inl rfl)) (pgs_cons (pg_name (i := 4) nd rfl (Or.inl rfl)) pgs_nil))) (pss_one (ps_if (pt_val (pe_methF (pe_fld (pv 0) rfl) R_Cond_holds (hr.mono (by omega)) pass0 (pa_cons (pv 4) (pa_cons (pe_fz (pe_op op_catR (pe_fz (pe_op op_catR (pe_fz (pe_lst (pa_cons (pv 1) pa_nil))) (pe_fz (pe_slice (sl_listK G.K) (pe_fz (pv 2)) po_none (po_some (pv 3)))))) (pe_fz (pe_slice (sl_listK G.K) (pe_fz (pv 2)) (po_some (pe_op op_add (pv 3) pe_int)) po_none)))) pa_nil)))) (pss_one (ps_ret pe_bl)) pss_nil)))
      (pss_one (ps_ret pe_bl))), ?_⟩
    unfold m_InThread_holds at hm
    refine f_seq ?_
    refine c_for ?_
    refine c_enum ?_
    refine ea_to (ea_cons (ev_fz (ev_var rfl)) ea_nil) ?_
    refine k_enum (hS.sq (i := 2) rfl) ?_
    refine k_forF (τ := Unit) (fun (s1 : Unit) (σ : L2.St) (H : Hp) => ∃ (w4 w5 : Option V), σ = [some (.ref a_v_self), some (.ref a_v_card), some (.ref a_v_others), w4, w5] ∧ Sep H ([imA (.ref a_v_card) (v_card : Card), imA (.ref a_v_self) (v_self : InThread), lstA a_v_others (v_others : (List Card)), F] : List (Asn G))) (im := (Im.im G)) (s := ()) (fun _ => wk_enum (fun _ _ ⟨_, _, _, h⟩ => h.sq (i := 2) rfl) (fun _ _ _ ⟨y0_, y1_, y2_, h⟩ s => ⟨y0_, y1_, y2_, h.more s⟩)) ⟨_, _, rfl, hS.sel [0, 1, 2, 3] (by decide) rfl⟩ hm (fun s1 x2 v3 σ H q N B hI hx hm nx bk ho6 => ?_) (fun s1 σ H hm hI => ?_)
    ·
      obtain ⟨w4, w5, rfl, hS⟩ := hI
      obtain ⟨a7, rfl⟩ := isref hx
      have hS := hS.addIm (v := (.ref a7)) (x := (x2 : (Int × Card))) hx
      obtain ⟨u9, u10, hT13, h11, h12⟩ := im2 (hS.im (i := 0) rfl)
      obtain rfl : u9 = (.int (x2.1)) := h11
      obtain ⟨a14, rfl⟩ := isref h12
      have hS := hS.addIm (v := (.ref a14)) (x := (x2.2 : Card)) h12
      refine k_gT hT13 rfl ?_
      refine k_gC (σ' := [some (.ref a_v_self), some (.ref a_v_card), some (.ref a_v_others), some (.int (x2.1)), w5]) rfl ?_
      refine k_gC (σ' := [some (.ref a_v_self), some (.ref a_v_card), some (.ref a_v_others), some (.int (x2.1)), some (.ref a14)]) rfl ?_
      refine k_gE ?_
      refine f_if ?_
      refine f_B ?_
      refine c_methF ?_
      obtain ⟨d16, u18, hO17, h19⟩ := im_InThread (hS.im (i := 3) rfl)
      obtain ⟨a20, rfl⟩ := isref h19
      refine ev_to (ev_fld (ev_var rfl) hO17 T.cl_InThread T.n_InThread_inner rfl) ?_
      have hS := hS.addIm (v := (.ref a20)) (x := (v_self.inner : Cond)) h19
      obtain ⟨dx22, fs23, hO24, hl25⟩ := cls_Cond (hS.im (i := 0) rfl)
      refine ⟨_, _, _, _, rfl, fam_Cond _, hO24, hl25 "holds" (by decide), ?_⟩
      refine c_cons ?_
      refine ev_to (ev_var rfl) ?_
      refine c_cons ?_
      refine c_fz ?_
      refine c_op ?_
      refine c_fz ?_
      refine c_op ?_
      refine c_fz ?_
      refine c_lst ?_
      refine ea_to (ea_cons (ev_var rfl) ea_nil) ?_
      refine k_lst (α := Card) (vs := [(.ref a_v_card)]) (xs := [v_card]) hS ⟨(hS.im (i := 3) rfl), True.intro⟩ (by show 1 ≤ sizeLine; decide) fun p26 H hS => ?_
      refine fz_no ?_
      refine c_fz ?_
      refine c_sl ?_
      refine ev_to (ev_fz (ev_var rfl)) ?_
      refine eo_to eo_no ?_
      refine eo_to (eo_some (ev_var rfl)) ?_
      refine k_slG hS (hS.sq (i := 6) rfl) fun p27 H hS => ?_
      refine fz_no ?_
      obtain ⟨h28, hm⟩ := R.wp_need hm
      refine k_catG hS (hS.rdL (i := 1) rfl) (hS.rdL (i := 0) rfl) h28 fun p29 H hS => ?_
      refine fz_no ?_
      refine c_fz ?_
      refine c_sl ?_
      refine ev_to (ev_fz (ev_var rfl)) ?_
      refine eo_to (eo_some (ev_add (ev_var rfl) ev_c)) ?_
      refine eo_to eo_no ?_
      refine k_slG hS (hS.sq (i := 8) rfl) fun p30 H hS => ?_
      refine fz_no ?_
      obtain ⟨h31, hm⟩ := R.wp_need hm
      refine k_catG hS (hS.rdL (i := 1) rfl) (hS.rdL (i := 0) rfl) h31 fun p32 H hS => ?_
      refine fz_no ?_
      refine c_nil ?_
      refine ⟨a20, (v_self.inner : Cond), a14, (x2.2 : Card), p32, ((([v_card]) ++ (cutL v_others none (some (x2.1)))) ++ (cutL v_others (some (x2.1 + 1)) none) : (List Card)), star [lstA p30 (cutL v_others (some (x2.1 + 1)) none : (List Card)), lstA p29 (([v_card]) ++ (cutL v_others none (some (x2.1))) : (List Card)), lstA p27 (cutL v_others none (some (x2.1)) : (List Card)), lstA p26 ([v_card] : (List Card)), imA (.ref a20) (v_self.inner : Cond), imA (.ref a14) (x2.2 : Card), imA (.ref a7) (x2 : (Int × Card)), imA (.ref a_v_card) (v_card : Card), imA (.ref a_v_self) (v_self : InThread), lstA a_v_others (v_others : (List Card)), F], rfl, (hS.im (i := 5) rfl), (hS.im (i := 6) rfl), rfl, Sep.unstar (M := [lstA p32 ((([v_card]) ++ (cutL v_others none (some (x2.1)))) ++ (cutL v_others (some (x2.1 + 1)) none) : (List Card))]) (hS.sel [0, 1, 2, 3, 4, 5, 6, 7, 8, 9, 10, 11] (by decide) rfl : Sep H (([lstA p32 ((([v_card]) ++ (cutL v_others none (some (x2.1)))) ++ (cutL v_others (some (x2.1 + 1)) none) : (List Card))] ++ [lstA p30 (cutL v_others (some (x2.1 + 1)) none : (List Card)), lstA p29 (([v_card]) ++ (cutL v_others none (some (x2.1))) : (List Card)), lstA p27 (cutL v_others none (some (x2.1)) : (List Card)), lstA p26 ([v_card] : (List Card)), imA (.ref a20) (v_self.inner : Cond), imA (.ref a14) (x2.2 : Card), imA (.ref a7) (x2 : (Int × Card)), imA (.ref a_v_card) (v_card : Card), imA (.ref a_v_self) (v_self : InThread), lstA a_v_others (v_others : (List Card)), F] : List (Asn G)))), R.wp_mono (R.wp_bind hm) (fun r33 hm H hS => ?_) (fun _ z => z)⟩
      have hS : Sep H ([lstA p32 ((([v_card]) ++ (cutL v_others none (some (x2.1)))) ++ (cutL v_others (some (x2.1 + 1)) none) : (List Card)), lstA p30 (cutL v_others (some (x2.1 + 1)) none : (List Card)), lstA p29 (([v_card]) ++ (cutL v_others none (some (x2.1))) : (List Card)), lstA p27 (cutL v_others none (some (x2.1)) : (List Card)), lstA p26 ([v_card] : (List Card)), imA (.ref a20) (v_self.inner : Cond), imA (.ref a14) (x2.2 : Card), imA (.ref a7) (x2 : (Int × Card)), imA (.ref a_v_card) (v_card : Card), imA (.ref a_v_self) (v_self : InThread), lstA a_v_others (v_others : (List Card)), F] : List (Asn G)) := Sep.star (M := [lstA p32 ((([v_card]) ++ (cutL v_others none (some (x2.1)))) ++ (cutL v_others (some (x2.1 + 1)) none) : (List Card))]) hS
      refine f_bl ?_
      refine ifK_2 (fun hb34 => ?_) (fun hb34 => ?_)
      · have hm := R.wp_ifY hm hb34
        refine c_ret ?_
        refine ev_to ev_c ?_
        exact (ho6 _ hm) _ (hS.sel [10, 11] (by decide) rfl)
      · have hm := R.wp_ifN hm (by first | (rw [hb34]; decide) | simpa using hb34)
        refine st_nx ?_
        exact nx _ _ _ hm ⟨_, _, rfl, hS.sel [8, 9, 10, 11] (by decide) rfl⟩
    · obtain ⟨w4, w5, rfl, hS⟩ := hI
      refine sq_nx ?_
      refine c_ret ?_
      refine ev_to ev_c ?_
      exact hm _ (hS.sel [2, 3] (by decide) rfl)
def sp_OfTwo___init___BothSo (G : Gx) : Sp := fun vs H Q E => ∃ (a_v_self d_v_self : Addr) (a_v_first : Addr) (v_first : Cond) (a_v_second : Addr) (v_second : Cond) (F : Asn G), vs = [.ref a_v_self, (.ref a_v_first), (.ref a_v_second)] ∧ Im.im G H (.ref a_v_first) v_first ∧ Im.im G H (.ref a_v_second) v_second ∧ Sep H ([cell a_v_self (.ins (G.cl 11) d_v_self []), F] : List (Asn G)) ∧ R.wp (m_OfTwo___init___BothSo v_first v_second) (fun r => ∀ H', Sep H' ([imA (.ref a_v_self) (r : BothSo), F] : List (Asn G)) → Q .non H') (fun _ => False)
abbrev N_OfTwo___init___BothSo : List Str := ["self", "first", "second"]
theorem sc_OfTwo___init___BothSo : FnScope N_OfTwo___init___BothSo ["self", "first", "second"] (defScope s_OfTwo___init__) := ⟨rfl, rfl, rfl, by decide +kernel, rfl, by decide +kernel, by decide +kernel⟩
theorem ok_OfTwo___init___BothSo (T : Txt G mg) : FnOk P w G.K mg base CX0 1 T.a_OfTwo___init__ T.fd_OfTwo___init__ ["self", "first", "second"] (sp_OfTwo___init___BothSo G) := by
  have nd := sc_OfTwo___init___BothSo.nd
  refine Fun.ok T.F_OfTwo___init__ sc_OfTwo___init___BothSo (fun vs H Q E h => ?_) (fun cdv A outer s H vs Q E hr h => ?_)
  · obtain ⟨a_v_self, d_v_self, a_v_first, v_first, a_v_second, v_second, F, rfl, _⟩ := h; rfl
  · obtain ⟨a_v_self, d_v_self, a_v_first, v_first, a_v_second, v_second, F, rfl, him_v_first, him_v_second, hS, hm⟩ := h
    have hS := hS.addIm him_v_first
    have hS := hS.addIm him_v_second
    refine ⟨_, (pss_cons (ps_fld (pv 0) (pv 1) rfl)
      (pss_one (ps_fld (pv 0) (pv 2) rfl))), ?_⟩
    unfold m_OfTwo___init___BothSo at hm
    refine f_seq ?_
    refine c_sfld ?_
    refine ev_to (ev_var rfl) ?_
    refine ev_to (ev_var rfl) ?_
    refine k_sfld (fs' := [("first", (.ref a_v_first))]) hS (i := 2) rfl T.cl_BothSo T.n_BothSo_first rfl (by show 0 < 1000; decide) (by show decide (G.fz (G.cl 11) = some 1) = false; rw [T.fz_BothSo]; rfl) rfl fun H hS => ?_
    have hS : Sep H ([imA (.ref a_v_second) (v_second : Cond), imA (.ref a_v_first) (v_first : Cond), cell a_v_self (.ins (G.cl 11) d_v_self [("first", (.ref a_v_first))]), F] : List (Asn G)) := hS
    refine sq_nx ?_
    refine c_sfld ?_
    refine ev_to (ev_var rfl) ?_
    refine ev_to (ev_var rfl) ?_
    refine k_sfldP (fs' := [("first", (.ref a_v_first)), ("second", (.ref a_v_second))]) hS (i := 2) rfl T.cl_BothSo T.n_BothSo_second rfl (by show 1 < 1000; decide) (by show decide (G.fz (G.cl 11) = some 2) = true; rw [T.fz_BothSo]; rfl) rfl fun H hO hT hS => ?_
    have hS : Sep H ([imA (.ref a_v_second) (v_second : Cond), imA (.ref a_v_first) (v_first : Cond), F] : List (Asn G)) := hS
    have hS := hS.addIm (v := (.ref a_v_self)) (x := (⟨v_first, v_second⟩ : BothSo)) (mk_BothSo T.fz_BothSo hO (hS.im (i := 1) rfl) (hS.im (i := 0) rfl))
    exact hm _ (hS.sel [0, 3] (by decide) rfl)
def sp_OfTwo___init___EitherSo (G : Gx) : Sp := fun vs H Q E => ∃ (a_v_self d_v_self : Addr) (a_v_first : Addr) (v_first : Cond) (a_v_second : Addr) (v_second : Cond) (F : Asn G), vs = [.ref a_v_self, (.ref a_v_first), (.ref a_v_second)] ∧ Im.im G H (.ref a_v_first) v_first ∧ Im.im G H (.ref a_v_second) v_second ∧ Sep H ([cell a_v_self (.ins (G.cl 12) d_v_self []), F] : List (Asn G)) ∧ R.wp (m_OfTwo___init___EitherSo v_first v_second) (fun r => ∀ H', Sep H' ([imA (.ref a_v_self) (r : EitherSo), F] : List (Asn G)) → Q .non H') (fun _ => False)
abbrev N_OfTwo___init___EitherSo : List Str := ["self", "first", "second"]
theorem sc_OfTwo___init___EitherSo : FnScope N_OfTwo___init___EitherSo ["self", "first", "second"] (defScope s_OfTwo___init__) := ⟨rfl, rfl, rfl, by decide +kernel, rfl, by decide +kernel, by decide +kernel⟩
theorem ok_OfTwo___init___EitherSo (T : Txt G mg) : FnOk P w G.K mg base CX0 1 T.a_OfTwo___init__ T.fd_OfTwo___init__ ["self", "first", "second"] (sp_OfTwo___init___EitherSo G) := by
  have nd := sc_OfTwo___init___EitherSo.nd
  refine Fun.ok T.F_OfTwo___init__ sc_OfTwo___init___EitherSo (fun vs H Q E h => ?_) (fun cdv A outer s H vs Q E hr h => ?_)
  · obtain ⟨a_v_self, d_v_self, a_v_first, v_first, a_v_second, v_second, F, rfl, _⟩ := h; rfl
  · obtain ⟨a_v_self, d_v_self, a_v_first, v_first, a_v_second, v_second, F, rfl, him_v_first, him_v_second, hS, hm⟩ := h
    have hS := hS.addIm him_v_first
    have hS := hS.addIm him_v_second
    refine ⟨_, (pss_cons (ps_fld (pv 0) (pv 1) rfl)
      (pss_one (ps_fld (pv 0) (pv 2) rfl))), ?_⟩
    unfold m_OfTwo___init___EitherSo at hm
    refine f_seq ?_
    refine c_sfld ?_
    refine ev_to (ev_var rfl) ?_
    refine ev_to (ev_var rfl) ?_
    refine k_sfld (fs' := [("first", (.ref a_v_first))]) hS (i := 2) rfl T.cl_EitherSo T.n_EitherSo_first rfl (by show 0 < 1000; decide) (by show decide (G.fz (G.cl 12) = some 1) = false; rw [T.fz_EitherSo]; rfl) rfl fun H hS => ?_
    have hS : Sep H ([imA (.ref a_v_second) (v_second : Cond), imA (.ref a_v_first) (v_first : Cond), cell a_v_self (.ins (G.cl 12) d_v_self [("first", (.ref a_v_first))]), F] : List (Asn G)) := hS
    refine sq_nx ?_
    refine c_sfld ?_
    refine ev_to (ev_var rfl) ?_
    refine ev_to (ev_var rfl) ?_
    refine k_sfldP (fs' := [("first", (.ref a_v_first)), ("second", (.ref a_v_second))]) hS (i := 2) rfl T.cl_EitherSo T.n_EitherSo_second rfl (by show 1 < 1000; decide) (by show decide (G.fz (G.cl 12) = some 2) = true; rw [T.fz_EitherSo]; rfl) rfl fun H hO hT hS => ?_
    have hS : Sep H ([imA (.ref a_v_second) (v_second : Cond), imA (.ref a_v_first) (v_first : Cond), F] : List (Asn G)) := hS
    have hS := hS.addIm (v := (.ref a_v_self)) (x := (⟨v_first, v_second⟩ : EitherSo)) (mk_EitherSo T.fz_EitherSo hO (hS.im (i := 1) rfl) (hS.im (i := 0) rfl))
    exact hm _ (hS.sel [0, 3] (by decide) rfl)
def sp_OfTwo_sign_BothSo (G : Gx) : Sp := fun vs H Q E => ∃ (a_v_self : Addr) (v_self : BothSo) (F : Asn G), vs = [(.ref a_v_self)] ∧ Im.im G H (.ref a_v_self) v_self ∧ Sep H ([F] : List (Asn G)) ∧ R.wp (m_OfTwo_sign_BothSo v_self) (fun r => ∀ (p : Addr) H', Sep H' ([imA (.ref p) (r : (Str × Str)), F] : List (Asn G)) → Q (.ref p) H') (fun _ => False)
abbrev N_OfTwo_sign_BothSo : List Str := ["self"]
theorem sc_OfTwo_sign_BothSo : FnScope N_OfTwo_sign_BothSo ["self"] (defScope s_OfTwo_sign) := ⟨rfl, rfl, rfl, by decide +kernel, rfl, by decide +kernel, by decide +kernel⟩
theorem ok_OfTwo_sign_BothSo (T : Txt G mg) : FnOk P w G.K mg base CX0 1 T.a_OfTwo_sign T.fd_OfTwo_sign ["self"] (sp_OfTwo_sign_BothSo G) := by
  have nd := sc_OfTwo_sign_BothSo.nd
  refine Fun.ok T.F_OfTwo_sign sc_OfTwo_sign_BothSo (fun vs H Q E h => ?_) (fun cdv A outer s H vs Q E hr h => ?_)
  · obtain ⟨a_v_self, v_self, F, rfl, _⟩ := h; rfl
  · obtain ⟨a_v_self, v_self, F, rfl, him_v_self, hS, hm⟩ := h
    have hS := hS.addIm him_v_self
    refine ⟨_, (pss_one (ps_ret (pe_tup (pa_cons pe_str (pa_cons pe_str pa_nil))))), ?_⟩
    unfold m_OfTwo_sign_BothSo at hm
    refine c_ret ?_
    refine c_tup ?_
    refine ea_to (ea_cons ev_c (ea_cons ev_c ea_nil)) ?_
    refine k_tupP (x := ((("and" : Str), ("both" : Str)) : (Str × Str))) hS (fun H' p h s => mk2 rfl rfl h s) (by show 2 ≤ sizeLine; decide) fun p1 H hS => ?_
    exact hm _ _ (hS.sel [0, 2] (by decide) rfl)
def sp_OfTwo_tree_BothSo (G : Gx) (m_Cond_tree : Cond → R Any) : Sp := fun vs H Q E => ∃ (a_v_self : Addr) (v_self : BothSo) (F : Asn G), vs = [(.ref a_v_self)] ∧ Im.im G H (.ref a_v_self) v_self ∧ Sep H ([F] : List (Asn G)) ∧ R.wp (m_OfTwo_tree_BothSo m_Cond_tree v_self) (fun r => ∀ (p : V) H', Sep H' ([imA p (r : Any), F] : List (Asn G)) → Q p H') (fun _ => False)
abbrev N_OfTwo_tree_BothSo : List Str := ["self"]
theorem sc_OfTwo_tree_BothSo : FnScope N_OfTwo_tree_BothSo ["self"] (defScope s_OfTwo_tree) := ⟨rfl, rfl, rfl, by decide +kernel, rfl, by decide +kernel, by decide +kernel⟩
theorem ok_OfTwo_tree_BothSo (T : Txt G mg) {lv : Nat} (hl : 1 ≤ lv) {m_Cond_tree : Cond → R Any} (R_Cond_tree : Dsp P w G.K mg base CX0 lv isC_Cond G.cl "tree" ["self"] (sp_Cond_tree G m_Cond_tree)) : FnOk P w G.K mg base CX0 (lv + 1) T.a_OfTwo_tree T.fd_OfTwo_tree ["self"] (sp_OfTwo_tree_BothSo G m_Cond_tree) := by
  have nd := sc_OfTwo_tree_BothSo.nd
  refine Fun.ok T.F_OfTwo_tree sc_OfTwo_tree_BothSo (fun vs H Q E h => ?_) (fun cdv A outer s H vs Q E hr h => ?_)
  · obtain ⟨a_v_self, v_self, F, rfl, _⟩ := h; rfl
  · obtain ⟨a_v_self, v_self, F, rfl, him_v_self, hS, hm⟩ := h
    have hS := hS.addIm him_v_self
    refine ⟨_, (pss_one (ps_ret (pe_tup (pa_cons (pe_ix (ix_tupK G.K) (pe_meth0 (pv 0) T.cl_BothSo T.m_BothSo_sign (ok_OfTwo_sign_BothSo T) (hr.mono (by omega)) T.b_OfTwo_sign .nil pass0) pe_int (fun _ _ => rfl)) (pa_cons (pe_methF0 (pe_fld (pv 0) rfl) R_Cond_tree (hr.mono (by omega)) pass0) (pa_cons (pe_methF0 (pe_fld (pv 0) rfl) R_Cond_tree (hr.mono (by omega)) pass0) pa_nil)))))), ?_⟩
    unfold m_OfTwo_tree_BothSo at hm
    refine c_ret ?_
    refine c_tup ?_
    refine c_cons ?_
    refine c_op ?_
    refine c_meth ?_
    refine ev_to (ev_var rfl) ?_
    obtain ⟨d1, _, _, hO2, _, _⟩ := im_BothSo (hS.im (i := 0) rfl)
    refine ⟨_, _, _, rfl, hO2, rfl, ?_⟩
    refine ea_to ea_nil ?_
    refine ⟨a_v_self, (v_self : BothSo), star [imA (.ref a_v_self) (v_self : BothSo), F], rfl, (hS.im (i := 0) rfl), Sep.unstar (M := []) (hS.sel [0, 1] (by decide) rfl : Sep H (([] ++ [imA (.ref a_v_self) (v_self : BothSo), F] : List (Asn G)))), R.wp_mono (R.wp_bind hm) (fun r3 hm p4 H hS => ?_) (fun _ z => z)⟩
    have hS : Sep H ([imA (.ref p4) (r3 : (Str × Str)), imA (.ref a_v_self) (v_self : BothSo), F] : List (Asn G)) := Sep.star (M := [imA (.ref p4) (r3 : (Str × Str))]) hS
    refine ev_to ev_c ?_
    obtain ⟨u6, u7, hT10, h8, h9⟩ := im2 (hS.im (i := 0) rfl)
    obtain rfl : u6 = (.str (r3.1)) := h8
    obtain rfl : u7 = (.str (r3.2)) := h9
    refine r_ixT hT10 rfl ?_
    refine c_cons ?_
    refine c_methF ?_
    obtain ⟨d11, u13, u14, hO12, h15, h16⟩ := im_BothSo (hS.im (i := 1) rfl)
    obtain ⟨a17, rfl⟩ := isref h15
    refine ev_to (ev_fld (ev_var rfl) hO12 T.cl_BothSo T.n_BothSo_first rfl) ?_
    have hS := hS.addIm (v := (.ref a17)) (x := (v_self.first : Cond)) h15
    obtain ⟨dx19, fs20, hO21, hl22⟩ := cls_Cond (hS.im (i := 0) rfl)
    refine ⟨_, _, _, _, rfl, fam_Cond _, hO21, hl22 "tree" (by decide), ?_⟩
    refine ea_to ea_nil ?_
    refine ⟨a17, (v_self.first : Cond), star [imA (.ref a17) (v_self.first : Cond), imA (.ref p4) (r3 : (Str × Str)), imA (.ref a_v_self) (v_self : BothSo), F], rfl, (hS.im (i := 0) rfl), rfl, Sep.unstar (M := []) (hS.sel [0, 1, 2, 3] (by decide) rfl : Sep H (([] ++ [imA (.ref a17) (v_self.first : Cond), imA (.ref p4) (r3 : (Str × Str)), imA (.ref a_v_self) (v_self : BothSo), F] : List (Asn G)))), R.wp_mono (R.wp_bind hm) (fun r23 hm p24 H hS => ?_) (fun _ z => z)⟩
    have hS : Sep H ([imA p24 (r23 : Any), imA (.ref a17) (v_self.first : Cond), imA (.ref p4) (r3 : (Str × Str)), imA (.ref a_v_self) (v_self : BothSo), F] : List (Asn G)) := Sep.star (M := [imA p24 (r23 : Any)]) hS
    refine c_cons ?_
    refine c_methF ?_
    obtain ⟨d26, u28, u29, hO27, h30, h31⟩ := im_BothSo (hS.im (i := 3) rfl)
    obtain ⟨a32, rfl⟩ := isref h31
    refine ev_to (ev_fld (ev_var rfl) hO27 T.cl_BothSo T.n_BothSo_second rfl) ?_
    have hS := hS.addIm (v := (.ref a32)) (x := (v_self.second : Cond)) h31
    obtain ⟨dx34, fs35, hO36, hl37⟩ := cls_Cond (hS.im (i := 0) rfl)
    refine ⟨_, _, _, _, rfl, fam_Cond _, hO36, hl37 "tree" (by decide), ?_⟩
    refine ea_to ea_nil ?_
    refine ⟨a32, (v_self.second : Cond), star [imA (.ref a32) (v_self.second : Cond), imA p24 (r23 : Any), imA (.ref a17) (v_self.first : Cond), imA (.ref p4) (r3 : (Str × Str)), imA (.ref a_v_self) (v_self : BothSo), F], rfl, (hS.im (i := 0) rfl), rfl, Sep.unstar (M := []) (hS.sel [0, 1, 2, 3, 4, 5] (by decide) rfl : Sep H (([] ++ [imA (.ref a32) (v_self.second : Cond), imA p24 (r23 : Any), imA (.ref a17) (v_self.first : Cond), imA (.ref p4) (r3 : (Str × Str)), imA (.ref a_v_self) (v_self : BothSo), F] : List (Asn G)))), R.wp_mono (R.wp_bind hm) (fun r38 hm p39 H hS => ?_) (fun _ z => z)⟩
    have hS : Sep H ([imA p39 (r38 : Any), imA (.ref a32) (v_self.second : Cond), imA p24 (r23 : Any), imA (.ref a17) (v_self.first : Cond), imA (.ref p4) (r3 : (Str × Str)), imA (.ref a_v_self) (v_self : BothSo), F] : List (Asn G)) := Sep.star (M := [imA p39 (r38 : Any)]) hS
    refine c_nil ?_
    refine k_tupA (vs := [(.str (r3.2)), p24, p39]) (xs := [(Any.str r3.2), r23, r38]) hS ⟨(any_str.mpr rfl), ⟨(hS.im (i := 2) rfl), ⟨(hS.im (i := 0) rfl), True.intro⟩⟩⟩ (by show 3 ≤ sizeLine; decide) fun p41 H hS => ?_
    exact hm _ _ (hS.sel [0, 7] (by decide) rfl)
def sp_BothSo_holds (G : Gx) (m_Cond_holds : Cond → Card → (List Card) → R Bool) : Sp := fun vs H Q E => ∃ (a_v_self : Addr) (v_self : BothSo) (a_v_card : Addr) (v_card : Card) (a_v_others : Addr) (v_others : (List Card)) (F : Asn G), vs = [(.ref a_v_self), (.ref a_v_card), .ref a_v_others] ∧ Im.im G H (.ref a_v_self) v_self ∧ Im.im G H (.ref a_v_card) v_card ∧ Sep H ([lstA a_v_others (v_others : (List Card)), F] : List (Asn G)) ∧ R.wp (m_BothSo_holds m_Cond_holds v_self v_card v_others) (fun r => ∀ H', Sep H' ([lstA a_v_others (v_others : (List Card)), F] : List (Asn G)) → Q (.bl (r)) H') (fun _ => False)
abbrev N_BothSo_holds : List Str := ["self", "card", "others"]
theorem sc_BothSo_holds : FnScope N_BothSo_holds ["self", "card", "others"] (defScope s_BothSo_holds) := ⟨rfl, rfl, rfl, by decide +kernel, rfl, by decide +kernel, by decide +kernel⟩
theorem ok_BothSo_holds (T : Txt G mg) {lv : Nat} (hl : 0 ≤ lv) {m_Cond_holds : Cond → Card → (List Card) → R Bool} (R_Cond_holds : Dsp P w G.K mg base CX0 lv isC_Cond G.cl "holds" ["self", "card", "others"] (sp_Cond_holds G m_Cond_holds)) : FnOk P w G.K mg base CX0 (lv + 1) T.a_BothSo_holds T.fd_BothSo_holds ["self", "card", "others"] (sp_BothSo_holds G m_Cond_holds) := by
  have nd := sc_BothSo_holds.nd
  refine Fun.ok T.F_BothSo_holds sc_BothSo_holds (fun vs H Q E h => ?_) (fun cdv A outer s H vs Q E hr h => ?_)
  · obtain ⟨a_v_self, v_self, a_v_card, v_card, a_v_others, v_others, F, rfl, _⟩ := h; rfl
  · obtain ⟨a_v_self, v_self, a_v_card, v_card, a_v_others, v_others, F, rfl, him_v_self, him_v_card, hS, hm⟩ := h
    have hS := hS.addIm him_v_self
    have hS := hS.addIm him_v_card
    refine ⟨_, (pss_one (ps_ret (pe_and (pe_methF (pe_fld (pv 0) rfl) R_Cond_holds (hr.mono (by omega)) pass0 (pa_cons (pv 1) (pa_cons (pe_fz (pv 2)) pa_nil))) (pe_one (pe_methF (pe_fld (pv 0) rfl) R_Cond_holds (hr.mono (by omega)) pass0 (pa_cons (pv 1) (pa_cons (pe_fz (pv 2)) pa_nil))))))), ?_⟩
    unfold m_BothSo_holds at hm
    refine c_ret ?_
    refine f_andV ?_
    refine c_methF ?_
    obtain ⟨d1, u3, u4, hO2, h5, h6⟩ := im_BothSo (hS.im (i := 1) rfl)
    obtain ⟨a7, rfl⟩ := isref h5
    refine ev_to (ev_fld (ev_var rfl) hO2 T.cl_BothSo T.n_BothSo_first rfl) ?_
    have hS := hS.addIm (v := (.ref a7)) (x := (v_self.first : Cond)) h5
    obtain ⟨dx9, fs10, hO11, hl12⟩ := cls_Cond (hS.im (i := 0) rfl)
    refine ⟨_, _, _, _, rfl, fam_Cond _, hO11, hl12 "holds" (by decide), ?_⟩
    refine ea_to (ea_cons (ev_var rfl) (ea_cons (ev_fz (ev_var rfl)) ea_nil)) ?_
    refine ⟨a7, (v_self.first : Cond), a_v_card, (v_card : Card), a_v_others, (v_others : (List Card)), star [imA (.ref a7) (v_self.first : Cond), imA (.ref a_v_card) (v_card : Card), imA (.ref a_v_self) (v_self : BothSo), F], rfl, (hS.im (i := 0) rfl), (hS.im (i := 1) rfl), rfl, Sep.unstar (M := [lstA a_v_others (v_others : (List Card))]) (hS.sel [3, 0, 1, 2, 4] (by decide) rfl : Sep H (([lstA a_v_others (v_others : (List Card))] ++ [imA (.ref a7) (v_self.first : Cond), imA (.ref a_v_card) (v_card : Card), imA (.ref a_v_self) (v_self : BothSo), F] : List (Asn G)))), R.wp_mono (R.wp_bind hm) (fun r13 hm H hS => ?_) (fun _ z => z)⟩
    have hS : Sep H ([lstA a_v_others (v_others : (List Card)), imA (.ref a7) (v_self.first : Cond), imA (.ref a_v_card) (v_card : Card), imA (.ref a_v_self) (v_self : BothSo), F] : List (Asn G)) := Sep.star (M := [lstA a_v_others (v_others : (List Card))]) hS
    refine andVK_J hm hS (fun hb q hm nx => ?_) (fun b14 H hm hS => ?_)
    ·
      refine c_methF ?_
      obtain ⟨d15, u17, u18, hO16, h19, h20⟩ := im_BothSo (hS.im (i := 3) rfl)
      obtain ⟨a21, rfl⟩ := isref h20
      refine ev_to (ev_fld (ev_var rfl) hO16 T.cl_BothSo T.n_BothSo_second rfl) ?_
      have hS := hS.addIm (v := (.ref a21)) (x := (v_self.second : Cond)) h20
      obtain ⟨dx23, fs24, hO25, hl26⟩ := cls_Cond (hS.im (i := 0) rfl)
      refine ⟨_, _, _, _, rfl, fam_Cond _, hO25, hl26 "holds" (by decide), ?_⟩
      refine ea_to (ea_cons (ev_var rfl) (ea_cons (ev_fz (ev_var rfl)) ea_nil)) ?_
      refine ⟨a21, (v_self.second : Cond), a_v_card, (v_card : Card), a_v_others, (v_others : (List Card)), star [imA (.ref a21) (v_self.second : Cond), imA (.ref a7) (v_self.first : Cond), imA (.ref a_v_card) (v_card : Card), imA (.ref a_v_self) (v_self : BothSo), F], rfl, (hS.im (i := 0) rfl), (hS.im (i := 3) rfl), rfl, Sep.unstar (M := [lstA a_v_others (v_others : (List Card))]) (hS.sel [1, 0, 2, 3, 4, 5] (by decide) rfl : Sep H (([lstA a_v_others (v_others : (List Card))] ++ [imA (.ref a21) (v_self.second : Cond), imA (.ref a7) (v_self.first : Cond), imA (.ref a_v_card) (v_card : Card), imA (.ref a_v_self) (v_self : BothSo), F] : List (Asn G)))), R.wp_mono (R.wp_bind hm) (fun r27 hm H hS => ?_) (fun _ z => z)⟩
      have hS : Sep H ([lstA a_v_others (v_others : (List Card)), imA (.ref a21) (v_self.second : Cond), imA (.ref a7) (v_self.first : Cond), imA (.ref a_v_card) (v_card : Card), imA (.ref a_v_self) (v_self : BothSo), F] : List (Asn G)) := Sep.star (M := [lstA a_v_others (v_others : (List Card))]) hS
      exact nx _ _ hm (hS.sel [0, 2, 3, 4, 5] (by decide) rfl)
    ·
      exact hm _ (hS.sel [0, 4] (by decide) rfl)
def sp_EitherSo_sign (G : Gx) : Sp := fun vs H Q E => ∃ (a_v_self : Addr) (v_self : EitherSo) (F : Asn G), vs = [(.ref a_v_self)] ∧ Im.im G H (.ref a_v_self) v_self ∧ Sep H ([F] : List (Asn G)) ∧ R.wp (m_EitherSo_sign v_self) (fun r => ∀ (p : Addr) H', Sep H' ([imA (.ref p) (r : (Str × Str)), F] : List (Asn G)) → Q (.ref p) H') (fun _ => False)
abbrev N_EitherSo_sign : List Str := ["self"]
theorem sc_EitherSo_sign : FnScope N_EitherSo_sign ["self"] (defScope s_EitherSo_sign) := ⟨rfl, rfl, rfl, by decide +kernel, rfl, by decide +kernel, by decide +kernel⟩
theorem ok_EitherSo_sign (T : Txt G mg) : FnOk P w G.K mg base CX0 1 T.a_EitherSo_sign T.fd_EitherSo_sign ["self"] (sp_EitherSo_sign G) := by
  have nd := sc_EitherSo_sign.nd
  refine Fun.ok T.F_EitherSo_sign sc_EitherSo_sign (fun vs H Q E h => ?_) (fun cdv A outer s H vs Q E hr h => ?_)
  · obtain ⟨a_v_self, v_self, F, rfl, _⟩ := h; rfl
  · obtain ⟨a_v_self, v_self, F, rfl, him_v_self, hS, hm⟩ := h
    have hS := hS.addIm him_v_self
    refine ⟨_, (pss_one (ps_ret (pe_tup (pa_cons pe_str (pa_cons pe_str pa_nil))))), ?_⟩
    unfold m_EitherSo_sign at hm
    refine c_ret ?_
    refine c_tup ?_
    refine ea_to (ea_cons ev_c (ea_cons ev_c ea_nil)) ?_
    refine k_tupP (x := ((("or" : Str), ("either" : Str)) : (Str × Str))) hS (fun H' p h s => mk2 rfl rfl h s) (by show 2 ≤ sizeLine; decide) fun p1 H hS => ?_
    exact hm _ _ (hS.sel [0, 2] (by decide) rfl)
def sp_EitherSo_holds (G : Gx) (m_Cond_holds : Cond → Card → (List Card) → R Bool) : Sp := fun vs H Q E => ∃ (a_v_self : Addr) (v_self : EitherSo) (a_v_card : Addr) (v_card : Card) (a_v_others : Addr) (v_others : (List Card)) (F : Asn G), vs = [(.ref a_v_self), (.ref a_v_card), .ref a_v_others] ∧ Im.im G H (.ref a_v_self) v_self ∧ Im.im G H (.ref a_v_card) v_card ∧ Sep H ([lstA a_v_others (v_others : (List Card)), F] : List (Asn G)) ∧ R.wp (m_EitherSo_holds m_Cond_holds v_self v_card v_others) (fun r => ∀ H', Sep H' ([lstA a_v_others (v_others : (List Card)), F] : List (Asn G)) → Q (.bl (r)) H') (fun _ => False)
abbrev N_EitherSo_holds : List Str := ["self", "card", "others"]
theorem sc_EitherSo_holds : FnScope N_EitherSo_holds ["self", "card", "others"] (defScope s_EitherSo_holds) := ⟨rfl, rfl, rfl, by decide +kernel, rfl, by decide +kernel, by decide +kernel⟩
theorem ok_EitherSo_holds (T : Txt G mg) {lv : Nat} (hl : 0 ≤ lv) {m_Cond_holds : Cond → Card → (List Card) → R Bool} (R_Cond_holds : Dsp P w G.K mg base CX0 lv isC_Cond G.cl "holds" ["self", "card", "others"] (sp_Cond_holds G m_Cond_holds)) : FnOk P w G.K mg base CX0 (lv + 1) T.a_EitherSo_holds T.fd_EitherSo_holds ["self", "card", "others"] (sp_EitherSo_holds G m_Cond_holds) := by
  have nd := sc_EitherSo_holds.nd
  refine Fun.ok T.F_EitherSo_holds sc_EitherSo_holds (fun vs H Q E h => ?_) (fun cdv A outer s H vs Q E hr h => ?_)
  · obtain ⟨a_v_self, v_self, a_v_card, v_card, a_v_others, v_others, F, rfl, _⟩ := h; rfl
  · obtain ⟨a_v_self, v_self, a_v_card, v_card, a_v_others, v_others, F, rfl, him_v_self, him_v_card, hS, hm⟩ := h
    have hS := hS.addIm him_v_self
    have hS := hS.addIm him_v_card
    refine ⟨_, (pss_one (ps_ret (pe_or (pe_methF (pe_fld (pv 0) rfl) R_Cond_holds (hr.mono (by omega)) pass0 (pa_cons (pv 1) (pa_cons (pe_fz (pv 2)) pa_nil))) (pe_one (pe_methF (pe_fld (pv 0) rfl) R_Cond_holds (hr.mono (by omega)) pass0 (pa_cons (pv 1) (pa_cons (pe_fz (pv 2)) pa_nil))))))), ?_⟩
    unfold m_EitherSo_holds at hm
    refine c_ret ?_
    refine f_orV ?_
    refine c_methF ?_
    obtain ⟨d1, u3, u4, hO2, h5, h6⟩ := im_EitherSo (hS.im (i := 1) rfl)
    obtain ⟨a7, rfl⟩ := isref h5
    refine ev_to (ev_fld (ev_var rfl) hO2 T.cl_EitherSo T.n_EitherSo_first rfl) ?_
    have hS := hS.addIm (v := (.ref a7)) (x := (v_self.first : Cond)) h5
    obtain ⟨dx9, fs10, hO11, hl12⟩ := cls_Cond (hS.im (i := 0) rfl)
    refine ⟨_, _, _, _, rfl, fam_Cond _, hO11, hl12 "holds" (by decide), ?_⟩
    refine ea_to (ea_cons (ev_var rfl) (ea_cons (ev_fz (ev_var rfl)) ea_nil)) ?_
    refine ⟨a7, (v_self.first : Cond), a_v_card, (v_card : Card), a_v_others, (v_others : (List Card)), star [imA (.ref a7) (v_self.first : Cond), imA (.ref a_v_card) (v_card : Card), imA (.ref a_v_self) (v_self : EitherSo), F], rfl, (hS.im (i := 0) rfl), (hS.im (i := 1) rfl), rfl, Sep.unstar (M := [lstA a_v_others (v_others : (List Card))]) (hS.sel [3, 0, 1, 2, 4] (by decide) rfl : Sep H (([lstA a_v_others (v_others : (List Card))] ++ [imA (.ref a7) (v_self.first : Cond), imA (.ref a_v_card) (v_card : Card), imA (.ref a_v_self) (v_self : EitherSo), F] : List (Asn G)))), R.wp_mono (R.wp_bind hm) (fun r13 hm H hS => ?_) (fun _ z => z)⟩
    have hS : Sep H ([lstA a_v_others (v_others : (List Card)), imA (.ref a7) (v_self.first : Cond), imA (.ref a_v_card) (v_card : Card), imA (.ref a_v_self) (v_self : EitherSo), F] : List (Asn G)) := Sep.star (M := [lstA a_v_others (v_others : (List Card))]) hS
    refine orVK_J hm hS (fun hb q hm nx => ?_) (fun b14 H hm hS => ?_)
    ·
      refine c_methF ?_
      obtain ⟨d15, u17, u18, hO16, h19, h20⟩ := im_EitherSo (hS.im (i := 3) rfl)
      obtain ⟨a21, rfl⟩ := isref h20
      refine ev_to (ev_fld (ev_var rfl) hO16 T.cl_EitherSo T.n_EitherSo_second rfl) ?_
      have hS := hS.addIm (v := (.ref a21)) (x := (v_self.second : Cond)) h20
      obtain ⟨dx23, fs24, hO25, hl26⟩ := cls_Cond (hS.im (i := 0) rfl)
      refine ⟨_, _, _, _, rfl, fam_Cond _, hO25, hl26 "holds" (by decide), ?_⟩
      refine ea_to (ea_cons (ev_var rfl) (ea_cons (ev_fz (ev_var rfl)) ea_nil)) ?_
      refine ⟨a21, (v_self.second : Cond), a_v_card, (v_card : Card), a_v_others, (v_others : (List Card)), star [imA (.ref a21) (v_self.second : Cond), imA (.ref a7) (v_self.first : Cond), imA (.ref a_v_card) (v_card : Card), imA (.ref a_v_self) (v_self : EitherSo), F], rfl, (hS.im (i := 0) rfl), (hS.im (i := 3) rfl), rfl, Sep.unstar (M := [lstA a_v_others (v_others : (List Card))]) (hS.sel [1, 0, 2, 3, 4, 5] (by decide) rfl : Sep H (([lstA a_v_others (v_others : (List Card))] ++ [imA (.ref a21) (v_self.second : Cond), imA (.ref a7) (v_self.first : Cond), imA (.ref a_v_card) (v_card : Card), imA (.ref a_v_self) (v_self : EitherSo), F] : List (Asn G)))), R.wp_mono (R.wp_bind hm) (fun r27 hm H hS => ?_) (fun _ z => z)⟩
      have hS : Sep H ([lstA a_v_others (v_others : (List Card)), imA (.ref a21) (v_self.second : Cond), imA (.ref a7) (v_self.first : Cond), imA (.ref a_v_card) (v_card : Card), imA (.ref a_v_self) (v_self : EitherSo), F] : List (Asn G)) := Sep.star (M := [lstA a_v_others (v_others : (List Card))]) hS
      exact nx _ _ hm (hS.sel [0, 2, 3, 4, 5] (by decide) rfl)
    ·
      exact hm _ (hS.sel [0, 4] (by decide) rfl)
def sp_of_word (G : Gx) : Sp := fun vs H Q E => ∃ (v_sign : Str) (v_word : Str) (F : Asn G), vs = [(.str (v_sign)), (.str (v_word))] ∧ Sep H ([F] : List (Asn G)) ∧ R.wp (m_of_word v_sign v_word) (fun r => ∀ (p : Addr) H', Sep H' ([imA (.ref p) (r : Cond), F] : List (Asn G)) → Q (.ref p) H') (fun _ => False)
abbrev N_of_word : List Str := ["sign", "word"]
theorem sc_of_word : FnScope N_of_word ["sign", "word"] (defScope s_of_word) := ⟨rfl, rfl, rfl, by decide +kernel, rfl, by decide +kernel, by decide +kernel⟩
theorem ok_of_word (T : Txt G mg) : FnOk P w G.K mg base CX0 3 T.a_of_word T.fd_of_word ["sign", "word"] (sp_of_word G) := by
  have nd := sc_of_word.nd
  refine Fun.ok T.F_of_word sc_of_word (fun vs H Q E h => ?_) (fun cdv A outer s H vs Q E hr h => ?_)
  · obtain ⟨v_sign, v_word, F, rfl, _⟩ := h; rfl
  · obtain ⟨v_sign, v_word, F, rfl, hS, hm⟩ := h
    refine ⟨_, (pss_cons (ps_if (pt_cmpR op_eq (pv 0) pe_str (nomark _)) (pss_one (ps_ret (pe_make T.k_HasWord (ok_OfWord___init___HasWord T) (hr.mono (by decide)) rfl T.g_HasWord T.b_OfWord___init__ .nil pass0 (pa_cons (pv 1) pa_nil)))) pss_nil)
      (pss_cons (ps_if (pt_cmpR op_eq (pv 0) pe_str (nomark _)) (pss_one (ps_ret (pe_make T.k_InTitle (ok_OfWord___init___InTitle T) (hr.mono (by decide)) rfl T.g_InTitle T.b_OfWord___init__ .nil pass0 (pa_cons (pv 1) pa_nil)))) pss_nil)
      (pss_cons (ps_if (pt_cmpR op_eq (pv 0) pe_str (nomark _)) (pss_one (ps_ret (pe_make T.k_FromSender (ok_OfWord___init___FromSender T) (hr.mono (by decide)) rfl T.g_FromSender T.b_OfWord___init__ .nil pass0 (pa_cons (pv 1) pa_nil)))) pss_nil)
      (pss_cons (ps_if (pt_cmpR op_eq (pv 0) pe_str (nomark _)) (pss_one (ps_ret (pe_make T.k_InFolder (ok_OfWord___init___InFolder T) (hr.mono (by decide)) rfl T.g_InFolder T.b_OfWord___init__ .nil pass0 (pa_cons (pv 1) pa_nil)))) pss_nil)
      (pss_cons (ps_if (pt_cmpR op_eq (pv 0) pe_str (nomark _)) (pss_one (ps_ret (pe_make T.k_IsMarked (ok_OfWord___init___IsMarked T) (hr.mono (by decide)) rfl T.g_IsMarked T.b_OfWord___init__ .nil pass0 (pa_cons (pv 1) pa_nil)))) pss_nil)
      (pss_one (ps_ret pe_non))))))), ?_⟩
    unfold m_of_word at hm
    refine f_seq ?_
    refine f_if ?_
    refine et_to (et_test (ev_eqS (ev_var rfl) ev_c)) ?_
    refine ifK_2 (fun hb1 => ?_) (fun hb1 => ?_)
    · have hm := R.wp_ifY hm hb1
      refine c_ret ?_
      refine c_make ?_
      refine ea_to (ea_cons (ev_var rfl) ea_nil) ?_
      intro p2 d3 np nd ne
      have hS := hS.newI (C := G.cl 2) np nd ne (by rw [T.fz_HasWord]; decide)
      refine ⟨p2, d3, v_word, star [F], rfl, Sep.unstar (M := [cell p2 (.ins (G.cl 2) d3 [])]) (hS.sel [0, 1] (by decide) rfl : Sep _ (([cell p2 (.ins (G.cl 2) d3 [])] ++ [F] : List (Asn G)))), R.wp_mono (R.wp_bind hm) (fun r4 hm H hS => ⟨rfl, ?_⟩) (fun _ z => z)⟩
      have hS : Sep H ([imA (.ref p2) (r4 : HasWord), F] : List (Asn G)) := Sep.star (M := [imA (.ref p2) (r4 : HasWord)]) hS
      have hS := hS.addIm (v := (.ref p2)) (x := ((Cond.HasWord r4.word) : Cond)) (to_HasWord (hS.im (i := 0) rfl))
      exact hm _ _ (hS.sel [0, 2] (by decide) rfl)
    · have hm := R.wp_ifN hm (by first | (rw [hb1]; decide) | simpa using hb1)
      refine st_nx ?_
      refine sq_nx ?_
      refine f_seq ?_
      refine f_if ?_
      refine et_to (et_test (ev_eqS (ev_var rfl) ev_c)) ?_
      refine ifK_2 (fun hb7 => ?_) (fun hb7 => ?_)
      · have hm := R.wp_ifY hm hb7
        refine c_ret ?_
        refine c_make ?_
        refine ea_to (ea_cons (ev_var rfl) ea_nil) ?_
        intro p8 d9 np nd ne
        have hS := hS.newI (C := G.cl 3) np nd ne (by rw [T.fz_InTitle]; decide)
        refine ⟨p8, d9, v_word, star [F], rfl, Sep.unstar (M := [cell p8 (.ins (G.cl 3) d9 [])]) (hS.sel [0, 1] (by decide) rfl : Sep _ (([cell p8 (.ins (G.cl 3) d9 [])] ++ [F] : List (Asn G)))), R.wp_mono (R.wp_bind hm) (fun r10 hm H hS => ⟨rfl, ?_⟩) (fun _ z => z)⟩
        have hS : Sep H ([imA (.ref p8) (r10 : InTitle), F] : List (Asn G)) := Sep.star (M := [imA (.ref p8) (r10 : InTitle)]) hS
        have hS := hS.addIm (v := (.ref p8)) (x := ((Cond.InTitle r10.word) : Cond)) (to_InTitle (hS.im (i := 0) rfl))
        exact hm _ _ (hS.sel [0, 2] (by decide) rfl)
      · have hm := R.wp_ifN hm (by first | (rw [hb7]; decide) | simpa using hb7)
        refine st_nx ?_
        refine sq_nx ?_
        refine f_seq ?_
        refine f_if ?_
        refine et_to (et_test (ev_eqS (ev_var rfl) ev_c)) ?_
        refine ifK_2 (fun hb13 => ?_) (fun hb13 => ?_)
        · have hm := R.wp_ifY hm hb13
          refine c_ret ?_
          refine c_make ?_
          refine ea_to (ea_cons (ev_var rfl) ea_nil) ?_
          intro p14 d15 np nd ne
          have hS := hS.newI (C := G.cl 4) np nd ne (by rw [T.fz_FromSender]; decide)
          refine ⟨p14, d15, v_word, star [F], rfl, Sep.unstar (M := [cell p14 (.ins (G.cl 4) d15 [])]) (hS.sel [0, 1] (by decide) rfl : Sep _ (([cell p14 (.ins (G.cl 4) d15 [])] ++ [F] : List (Asn G)))), R.wp_mono (R.wp_bind hm) (fun r16 hm H hS => ⟨rfl, ?_⟩) (fun _ z => z)⟩
          have hS : Sep H ([imA (.ref p14) (r16 : FromSender), F] : List (Asn G)) := Sep.star (M := [imA (.ref p14) (r16 : FromSender)]) hS
          have hS := hS.addIm (v := (.ref p14)) (x := ((Cond.FromSender r16.word) : Cond)) (to_FromSender (hS.im (i := 0) rfl))
          exact hm _ _ (hS.sel [0, 2] (by decide) rfl)
        · have hm := R.wp_ifN hm (by first | (rw [hb13]; decide) | simpa using hb13)
          refine st_nx ?_
          refine sq_nx ?_
          refine f_seq ?_
          refine f_if ?_
          refine et_to (et_test (ev_eqS (ev_var rfl) ev_c)) ?_
          refine ifK_2 (fun hb19 => ?_) (fun hb19 => ?_)
          · have hm := R.wp_ifY hm hb19
            refine c_ret ?_
            refine c_make ?_
            refine ea_to (ea_cons (ev_var rfl) ea_nil) ?_
            intro p20 d21 np nd ne
            have hS := hS.newI (C := G.cl 5) np nd ne (by rw [T.fz_InFolder]; decide)
            refine ⟨p20, d21, v_word, star [F], rfl, Sep.unstar (M := [cell p20 (.ins (G.cl 5) d21 [])]) (hS.sel [0, 1] (by decide) rfl : Sep _ (([cell p20 (.ins (G.cl 5) d21 [])] ++ [F] : List (Asn G)))), R.wp_mono (R.wp_bind hm) (fun r22 hm H hS => ⟨rfl, ?_⟩) (fun _ z => z)⟩
            have hS : Sep H ([imA (.ref p20) (r22 : InFolder), F] : List (Asn G)) := Sep.star (M := [imA (.ref p20) (r22 : InFolder)]) hS
            have hS := hS.addIm (v := (.ref p20)) (x := ((Cond.InFolder r22.word) : Cond)) (to_InFolder (hS.im (i := 0) rfl))
            exact hm _ _ (hS.sel [0, 2] (by decide) rfl)
          · have hm := R.wp_ifN hm (by first | (rw [hb19]; decide) | simpa using hb19)
            refine st_nx ?_
            refine sq_nx ?_
            refine f_seq ?_
            refine f_if ?_
            refine et_to (et_test (ev_eqS (ev_var rfl) ev_c)) ?_
            refine ifK_2 (fun hb25 => ?_) (fun hb25 => ?_)
            · have hm := R.wp_ifY hm hb25
              refine c_ret ?_
              refine c_make ?_
              refine ea_to (ea_cons (ev_var rfl) ea_nil) ?_
              intro p26 d27 np nd ne
              have hS := hS.newI (C := G.cl 6) np nd ne (by rw [T.fz_IsMarked]; decide)
              refine ⟨p26, d27, v_word, star [F], rfl, Sep.unstar (M := [cell p26 (.ins (G.cl 6) d27 [])]) (hS.sel [0, 1] (by decide) rfl : Sep _ (([cell p26 (.ins (G.cl 6) d27 [])] ++ [F] : List (Asn G)))), R.wp_mono (R.wp_bind hm) (fun r28 hm H hS => ⟨rfl, ?_⟩) (fun _ z => z)⟩
              have hS : Sep H ([imA (.ref p26) (r28 : IsMarked), F] : List (Asn G)) := Sep.star (M := [imA (.ref p26) (r28 : IsMarked)]) hS
              have hS := hS.addIm (v := (.ref p26)) (x := ((Cond.IsMarked r28.word) : Cond)) (to_IsMarked (hS.im (i := 0) rfl))
              exact hm _ _ (hS.sel [0, 2] (by decide) rfl)
            · have hm := R.wp_ifN hm (by first | (rw [hb25]; decide) | simpa using hb25)
              refine st_nx ?_
              refine sq_nx ?_
              exact hm.elim
def sp_condition_of (G : Gx) (m_condition_of : Any → R Cond) : Sp := fun vs H Q E => ∃ (a_v_tree : V) (v_tree : Any) (F : Asn G), vs = [a_v_tree] ∧ Im.im G H a_v_tree v_tree ∧ Sep H ([F] : List (Asn G)) ∧ R.wp (m_condition_of v_tree) (fun r => ∀ (p : Addr) H', Sep H' ([imA (.ref p) (r : Cond), F] : List (Asn G)) → Q (.ref p) H') (fun _ => False)
abbrev N_condition_of : List Str := ["tree"]
theorem sc_condition_of : FnScope N_condition_of ["tree"] (defScope s_condition_of) := ⟨rfl, rfl, rfl, by decide +kernel, rfl, by decide +kernel, by decide +kernel⟩
theorem ok_condition_of_b (T : Txt G mg) {lv : Nat} (hl : 3 ≤ lv) {m_condition_of : Any → R Cond} (R_condition_of : FnOk P w G.K mg base CX0 lv T.a_condition_of T.fd_condition_of ["tree"] (sp_condition_of G m_condition_of)) : FnOk P w G.K mg base CX0 (lv + 1) T.a_condition_of T.fd_condition_of ["tree"] (sp_condition_of G (m_condition_of_b m_condition_of)) := by
  have nd := sc_condition_of.nd
  refine Fun.ok T.F_condition_of sc_condition_of (fun vs H Q E h => ?_) (fun cdv A outer s H vs Q E hr h => ?_)
  · obtain ⟨a_v_tree, v_tree, F, rfl, _⟩ := h; rfl
  · obtain ⟨a_v_tree, v_tree, F, rfl, him_v_tree, hS, hm⟩ := h
    have hS := hS.addIm him_v_tree
    refine ⟨_, (pss_cons (ps_if (pt_cmpR (eqDK G.K hr.units) (pe_ix (ix_tupK G.K) (pv 0) pe_int (fun _ _ => rfl)) pe_str (nomark _)) (pss_one (ps_ret (pe_makeO T.ko_Anything rfl T.g_Anything))) pss_nil)
      (pss_cons (ps_if (pt_cmpR (eqDK G.K hr.units) (pe_ix (ix_tupK G.K) (pv 0) pe_int (fun _ _ => rfl)) pe_str (nomark _)) (pss_one (ps_ret (pe_makeO T.ko_IsAnswer rfl T.g_IsAnswer))) pss_nil)
      (pss_cons (ps_if (pt_cmpR (eqDK G.K hr.units) (pe_ix (ix_tupK G.K) (pv 0) pe_int (fun _ _ => rfl)) pe_str (nomark _)) (pss_one (ps_ret (pe_make T.k_OnDays (ok_OnDays___init__ T) (hr.mono (by omega)) rfl T.g_OnDays T.b_OnDays___init__ .nil pass0 (pa_cons (pe_ix (ix_tupK G.K) (pv 0) pe_int (fun _ _ => rfl)) (pa_cons (pe_ix (ix_tupK G.K) (pv 0) pe_int (fun _ _ => rfl)) pa_nil))))) pss_nil)
      (pss_cons (ps_if (pt_cmpR (eqDK G.K hr.units) (pe_ix (ix_tupK G.K) (pv 0) pe_int (fun _ _ => rfl)) pe_str (nomark _)) (pss_one (ps_ret (pe_make T.k_NotSo (ok_OfOne___init___NotSo T) (hr.mono (by omega)) rfl T.g_NotSo T.b_OfOne___init__ .nil pass0 (pa_cons (pe_call R_condition_of (hr.mono (by omega)) rfl T.g_condition_of T.kp_condition_of T.b_condition_of .nil pass0 (pa_cons (pe_ix (ix_tupK G.K) (pv 0) pe_int (fun _ _ => rfl)) pa_nil)) pa_nil)))) pss_nil)
      (pss_cons (ps_if (pt_cmpR (eqDK G.K hr.units) (pe_ix (ix_tupK G.K) (pv 0) pe_int (fun _ _ => rfl)) pe_str (nomark _)) (pss_one (ps_ret (pe_make T.k_InThread (ok_OfOne___init___InThread T) (hr.mono (by omega)) rfl T.g_InThread T.b_OfOne___init__ .nil pass0 (pa_cons (pe_call R_condition_of (hr.mono (by omega)) rfl T.g_condition_of T.kp_condition_of T.b_condition_of .nil pass0 (pa_cons (pe_ix (ix_tupK G.K) (pv 0) pe_int (fun _ _ => rfl)) pa_nil)) pa_nil)))) pss_nil)
      (pss_cons (ps_if (pt_cmpR (eqDK G.K hr.units) (pe_ix (ix_tupK G.K) (pv 0) pe_int (fun _ _ => rfl)) pe_str (nomark _)) (pss_one (ps_ret (pe_make T.k_BothSo (ok_OfTwo___init___BothSo T) (hr.mono (by omega)) rfl T.g_BothSo T.b_OfTwo___init__ .nil pass0 (pa_cons (pe_call R_condition_of (hr.mono (by omega)) rfl T.g_condition_of T.kp_condition_of T.b_condition_of .nil pass0 (pa_cons (pe_ix (ix_tupK G.K) (pv 0) pe_int (fun _ _ => rfl)) pa_nil)) (pa_cons (pe_call R_condition_of (hr.mono (by omega)) rfl T.g_condition_of T.kp_condition_of T.b_condition_of .nil pass0 (pa_cons (pe_ix (ix_tupK G.K) (pv 0) pe_int (fun _ _ => rfl)) pa_nil)) pa_nil))))) pss_nil)
      (pss_cons (ps_if (pt_cmpR (eqDK G.K hr.units) (pe_ix (ix_tupK G.K) (pv 0) pe_int (fun _ _ => rfl)) pe_str (nomark _)) (pss_one (ps_ret (pe_make T.k_EitherSo (ok_OfTwo___init___EitherSo T) (hr.mono (by omega)) rfl T.g_EitherSo T.b_OfTwo___init__ .nil pass0 (pa_cons (pe_call R_condition_of (hr.mono (by omega)) rfl T.g_condition_of T.kp_condition_of T.b_condition_of .nil pass0 (pa_cons (pe_ix (ix_tupK G.K) (pv 0) pe_int (fun _ _ => rfl)) pa_nil)) (pa_cons (pe_call R_condition_of (hr.mono (by omega)) rfl T.g_condition_of T.kp_condition_of T.b_condition_of .nil pass0 (pa_cons (pe_ix (ix_tupK G.K) (pv 0) pe_int (fun _ _ => rfl)) pa_nil)) pa_nil))))) pss_nil)
      (pss_one (ps_ret (pe_call (ok_of_word T) (hr.mono (by omega)) rfl T.g_of_word T.kp_of_word T.b_of_word .nil pass0 (pa_cons (pe_ix (ix_tupK G.K) (pv 0) pe_int (fun _ _ => rfl)) (pa_cons (pe_ix (ix_tupK G.K) (pv 0) pe_int (fun _ _ => rfl)) pa_nil)))))))))))), ?_⟩
    unfold m_condition_of_b at hm
    refine f_seq ?_
    refine f_if ?_
    obtain ⟨xs1, h2, hm⟩ := Ml.wp_asTup hm
    obtain ⟨x3, hx3, hm⟩ := wp_idx hm
    obtain ⟨a4, vs5, he6, hg7, hM8⟩ := any_tupE (hS.im (i := 0) rfl) h2
    obtain ⟨u9, hu10, hi11⟩ := atI_im hM8 hx3
    obtain ⟨b12, hb12, hm⟩ := wp_eqA hm
    refine et_to (et_test (ev_eqA (ev_ixT (ev_is (ev_var rfl) he6) ev_c hg7 hu10) ev_c hi11 (any_str.mpr rfl) hb12)) ?_
    refine ifK_2 (fun hb13 => ?_) (fun hb13 => ?_)
    · have hm := R.wp_ifY hm hb13
      refine c_ret ?_
      refine c_makeO ?_
      intro p14 d15 np nd ne
      have hS := hS.newI0 (C := G.cl 1) np nd ne T.fz_Anything
      have hS := hS.1.addIm (v := .ref p14) (x := (⟨⟩ : Anything)) ⟨_, _, rfl, T.fz_Anything, hS.2⟩
      have hS : Sep _ ([imA (.ref p14) ((⟨⟩ : Anything) : Anything), imA a_v_tree (v_tree : Any), F] : List (Asn G)) := hS
      have hS := hS.addIm (v := (.ref p14)) (x := ((Cond.Anything) : Cond)) (to_Anything (hS.im (i := 0) rfl))
      exact hm _ _ (hS.sel [0, 3] (by decide) rfl)
    · have hm := R.wp_ifN hm (by first | (rw [hb13]; decide) | simpa using hb13)
      refine st_nx ?_
      refine sq_nx ?_
      refine f_seq ?_
      refine f_if ?_
      obtain ⟨xs18, h19, hm⟩ := Ml.wp_asTup hm
      obtain ⟨x20, hx20, hm⟩ := wp_idx hm
      obtain ⟨a21, vs22, he23, hg24, hM25⟩ := any_tupE (hS.im (i := 0) rfl) h19
      obtain ⟨u26, hu27, hi28⟩ := atI_im hM25 hx20
      obtain ⟨b29, hb29, hm⟩ := wp_eqA hm
      refine et_to (et_test (ev_eqA (ev_ixT (ev_is (ev_var rfl) he23) ev_c hg24 hu27) ev_c hi28 (any_str.mpr rfl) hb29)) ?_
      refine ifK_2 (fun hb30 => ?_) (fun hb30 => ?_)
      · have hm := R.wp_ifY hm hb30
        refine c_ret ?_
        refine c_makeO ?_
        intro p31 d32 np nd ne
        have hS := hS.newI0 (C := G.cl 8) np nd ne T.fz_IsAnswer
        have hS := hS.1.addIm (v := .ref p31) (x := (⟨⟩ : IsAnswer)) ⟨_, _, rfl, T.fz_IsAnswer, hS.2⟩
        have hS : Sep _ ([imA (.ref p31) ((⟨⟩ : IsAnswer) : IsAnswer), imA a_v_tree (v_tree : Any), F] : List (Asn G)) := hS
        have hS := hS.addIm (v := (.ref p31)) (x := ((Cond.IsAnswer) : Cond)) (to_IsAnswer (hS.im (i := 0) rfl))
        exact hm _ _ (hS.sel [0, 3] (by decide) rfl)
      · have hm := R.wp_ifN hm (by first | (rw [hb30]; decide) | simpa using hb30)
        refine st_nx ?_
        refine sq_nx ?_
        refine f_seq ?_
        refine f_if ?_
        obtain ⟨xs35, h36, hm⟩ := Ml.wp_asTup hm
        obtain ⟨x37, hx37, hm⟩ := wp_idx hm
        obtain ⟨a38, vs39, he40, hg41, hM42⟩ := any_tupE (hS.im (i := 0) rfl) h36
        obtain ⟨u43, hu44, hi45⟩ := atI_im hM42 hx37
        obtain ⟨b46, hb46, hm⟩ := wp_eqA hm
        refine et_to (et_test (ev_eqA (ev_ixT (ev_is (ev_var rfl) he40) ev_c hg41 hu44) ev_c hi45 (any_str.mpr rfl) hb46)) ?_
        refine ifK_2 (fun hb47 => ?_) (fun hb47 => ?_)
        · have hm := R.wp_ifY hm hb47
          refine c_ret ?_
          refine c_make ?_
          obtain ⟨xs48, h49, hm⟩ := Ml.wp_asTup hm
          obtain ⟨x50, hx50, hm⟩ := wp_idx hm
          obtain ⟨a51, vs52, he53, hg54, hM55⟩ := any_tupE (hS.im (i := 0) rfl) h49
          obtain ⟨u56, hu57, hi58⟩ := atI_im hM55 hx50
          obtain ⟨xs59, h60, hm⟩ := Ml.wp_asTup hm
          obtain ⟨x61, hx61, hm⟩ := wp_idx hm
          obtain ⟨a62, vs63, he64, hg65, hM66⟩ := any_tupE (hS.im (i := 0) rfl) h60
          obtain ⟨u67, hu68, hi69⟩ := atI_im hM66 hx61
          refine ea_to (ea_cons (ev_ixT (ev_is (ev_var rfl) he53) ev_c hg54 hu57) (ea_cons (ev_ixT (ev_is (ev_var rfl) he64) ev_c hg65 hu68) ea_nil)) ?_
          have hS := hS.addIm (v := u56) (x := (x50 : Any)) hi58
          have hS := hS.addIm (v := u67) (x := (x61 : Any)) hi69
          intro p72 d73 np nd ne
          have hS := hS.newI (C := G.cl 7) np nd ne (by rw [T.fz_OnDays]; decide)
          obtain ⟨s74, hs75, hm⟩ := Ml.wp_asInt hm
          have hv76 := v_int (hS.im (i := 2) rfl) hs75
          subst hv76
          obtain ⟨s77, hs78, hm⟩ := Ml.wp_asInt hm
          have hv79 := v_int (hS.im (i := 1) rfl) hs78
          subst hv79
          refine ⟨p72, d73, s74, s77, star [imA (.int (s77)) (x61 : Any), imA (.int (s74)) (x50 : Any), imA a_v_tree (v_tree : Any), F], rfl, Sep.unstar (M := [cell p72 (.ins (G.cl 7) d73 [])]) (hS.sel [0, 1, 2, 3, 4] (by decide) rfl : Sep _ (([cell p72 (.ins (G.cl 7) d73 [])] ++ [imA (.int (s77)) (x61 : Any), imA (.int (s74)) (x50 : Any), imA a_v_tree (v_tree : Any), F] : List (Asn G)))), R.wp_mono (R.wp_bind hm) (fun r80 hm H hS => ⟨rfl, ?_⟩) (fun _ z => z)⟩
          have hS : Sep H ([imA (.ref p72) (r80 : OnDays), imA (.int (s77)) (x61 : Any), imA (.int (s74)) (x50 : Any), imA a_v_tree (v_tree : Any), F] : List (Asn G)) := Sep.star (M := [imA (.ref p72) (r80 : OnDays)]) hS
          have hS := hS.addIm (v := (.ref p72)) (x := ((Cond.OnDays r80.low r80.high) : Cond)) (to_OnDays (hS.im (i := 0) rfl))
          exact hm _ _ (hS.sel [0, 5] (by decide) rfl)
        · have hm := R.wp_ifN hm (by first | (rw [hb47]; decide) | simpa using hb47)
          refine st_nx ?_
          refine sq_nx ?_
          refine f_seq ?_
          refine f_if ?_
          obtain ⟨xs83, h84, hm⟩ := Ml.wp_asTup hm
          obtain ⟨x85, hx85, hm⟩ := wp_idx hm
          obtain ⟨a86, vs87, he88, hg89, hM90⟩ := any_tupE (hS.im (i := 0) rfl) h84
          obtain ⟨u91, hu92, hi93⟩ := atI_im hM90 hx85
          obtain ⟨b94, hb94, hm⟩ := wp_eqA hm
          refine et_to (et_test (ev_eqA (ev_ixT (ev_is (ev_var rfl) he88) ev_c hg89 hu92) ev_c hi93 (any_str.mpr rfl) hb94)) ?_
          refine ifK_2 (fun hb95 => ?_) (fun hb95 => ?_)
          · have hm := R.wp_ifY hm hb95
            refine c_ret ?_
            refine c_make ?_
            refine c_cons ?_
            refine c_call ?_
            obtain ⟨xs96, h97, hm⟩ := Ml.wp_asTup hm
            obtain ⟨x98, hx98, hm⟩ := wp_idx hm
            obtain ⟨a99, vs100, he101, hg102, hM103⟩ := any_tupE (hS.im (i := 0) rfl) h97
            obtain ⟨u104, hu105, hi106⟩ := atI_im hM103 hx98
            refine ea_to (ea_cons (ev_ixT (ev_is (ev_var rfl) he101) ev_c hg102 hu105) ea_nil) ?_
            have hS := hS.addIm (v := u104) (x := (x98 : Any)) hi106
            refine ⟨u104, (x98 : Any), star [imA u104 (x98 : Any), imA a_v_tree (v_tree : Any), F], rfl, (hS.im (i := 0) rfl), Sep.unstar (M := []) (hS.sel [0, 1, 2] (by decide) rfl : Sep H (([] ++ [imA u104 (x98 : Any), imA a_v_tree (v_tree : Any), F] : List (Asn G)))), R.wp_mono (R.wp_bind hm) (fun r108 hm p109 H hS => ?_) (fun _ z => z)⟩
            have hS : Sep H ([imA (.ref p109) (r108 : Cond), imA u104 (x98 : Any), imA a_v_tree (v_tree : Any), F] : List (Asn G)) := Sep.star (M := [imA (.ref p109) (r108 : Cond)]) hS
            refine c_nil ?_
            intro p111 d112 np nd ne
            have hS := hS.newI (C := G.cl 9) np nd ne (by rw [T.fz_NotSo]; decide)
            refine ⟨p111, d112, p109, (r108 : Cond), star [imA (.ref p109) (r108 : Cond), imA u104 (x98 : Any), imA a_v_tree (v_tree : Any), F], rfl, (hS.im (i := 1) rfl), Sep.unstar (M := [cell p111 (.ins (G.cl 9) d112 [])]) (hS.sel [0, 1, 2, 3, 4] (by decide) rfl : Sep _ (([cell p111 (.ins (G.cl 9) d112 [])] ++ [imA (.ref p109) (r108 : Cond), imA u104 (x98 : Any), imA a_v_tree (v_tree : Any), F] : List (Asn G)))), R.wp_mono (R.wp_bind hm) (fun r113 hm H hS => ⟨rfl, ?_⟩) (fun _ z => z)⟩
            have hS : Sep H ([imA (.ref p111) (r113 : NotSo), imA (.ref p109) (r108 : Cond), imA u104 (x98 : Any), imA a_v_tree (v_tree : Any), F] : List (Asn G)) := Sep.star (M := [imA (.ref p111) (r113 : NotSo)]) hS
            have hS := hS.addIm (v := (.ref p111)) (x := ((Cond.NotSo r113.inner) : Cond)) (to_NotSo (hS.im (i := 0) rfl))
            exact hm _ _ (hS.sel [0, 5] (by decide) rfl)
          · have hm := R.wp_ifN hm (by first | (rw [hb95]; decide) | simpa using hb95)
            refine st_nx ?_
            refine sq_nx ?_
            refine f_seq ?_
            refine f_if ?_
            obtain ⟨xs116, h117, hm⟩ := Ml.wp_asTup hm
            obtain ⟨x118, hx118, hm⟩ := wp_idx hm
            obtain ⟨a119, vs120, he121, hg122, hM123⟩ := any_tupE (hS.im (i := 0) rfl) h117
            obtain ⟨u124, hu125, hi126⟩ := atI_im hM123 hx118
            obtain ⟨b127, hb127, hm⟩ := wp_eqA hm
            refine et_to (et_test (ev_eqA (ev_ixT (ev_is (ev_var rfl) he121) ev_c hg122 hu125) ev_c hi126 (any_str.mpr rfl) hb127)) ?_
            refine ifK_2 (fun hb128 => ?_) (fun hb128 => ?_)
            · have hm := R.wp_ifY hm hb128
              refine c_ret ?_
              refine c_make ?_
              refine c_cons ?_
              refine c_call ?_
              obtain ⟨xs129, h130, hm⟩ := Ml.wp_asTup hm
              obtain ⟨x131, hx131, hm⟩ := wp_idx hm
              obtain ⟨a132, vs133, he134, hg135, hM136⟩ := any_tupE (hS.im (i := 0) rfl) h130
              obtain ⟨u137, hu138, hi139⟩ := atI_im hM136 hx131
              refine ea_to (ea_cons (ev_ixT (ev_is (ev_var rfl) he134) ev_c hg135 hu138) ea_nil) ?_
              have hS := hS.addIm (v := u137) (x := (x131 : Any)) hi139
              refine ⟨u137, (x131 : Any), star [imA u137 (x131 : Any), imA a_v_tree (v_tree : Any), F], rfl, (hS.im (i := 0) rfl), Sep.unstar (M := []) (hS.sel [0, 1, 2] (by decide) rfl : Sep H (([] ++ [imA u137 (x131 : Any), imA a_v_tree (v_tree : Any), F] : List (Asn G)))), R.wp_mono (R.wp_bind hm) (fun r141 hm p142 H hS => ?_) (fun _ z => z)⟩
              have hS : Sep H ([imA (.ref p142) (r141 : Cond), imA u137 (x131 : Any), imA a_v_tree (v_tree : Any), F] : List (Asn G)) := Sep.star (M := [imA (.ref p142) (r141 : Cond)]) hS
              refine c_nil ?_
              intro p144 d145 np nd ne
              have hS := hS.newI (C := G.cl 10) np nd ne (by rw [T.fz_InThread]; decide)
              refine ⟨p144, d145, p142, (r141 : Cond), star [imA (.ref p142) (r141 : Cond), imA u137 (x131 : Any), imA a_v_tree (v_tree : Any), F], rfl, (hS.im (i := 1) rfl), Sep.unstar (M := [cell p144 (.ins (G.cl 10) d145 [])]) (hS.sel [0, 1, 2, 3, 4] (by decide) rfl : Sep _ (([cell p144 (.ins (G.cl 10) d145 [])] ++ [imA (.ref p142) (r141 : Cond), imA u137 (x131 : Any), imA a_v_tree (v_tree : Any), F] : List (Asn G)))), R.wp_mono (R.wp_bind hm) (fun r146 hm H hS => ⟨rfl, ?_⟩) (fun _ z => z)⟩
              have hS : Sep H ([imA (.ref p144) (r146 : InThread), imA (.ref p142) (r141 : Cond), imA u137 (x131 : Any), imA a_v_tree (v_tree : Any), F] : List (Asn G)) := Sep.star (M := [imA (.ref p144) (r146 : InThread)]) hS
              have hS := hS.addIm (v := (.ref p144)) (x := ((Cond.InThread r146.inner) : Cond)) (to_InThread (hS.im (i := 0) rfl))
              exact hm _ _ (hS.sel [0, 5] (by decide) rfl)
            · have hm := R.wp_ifN hm (by first | (rw [hb128]; decide) | simpa using hb128)
              refine st_nx ?_
              refine sq_nx ?_
              refine f_seq ?_
              refine f_if ?_
              obtain ⟨xs149, h150, hm⟩ := Ml.wp_asTup hm
              obtain ⟨x151, hx151, hm⟩ := wp_idx hm
              obtain ⟨a152, vs153, he154, hg155, hM156⟩ := any_tupE (hS.im (i := 0) rfl) h150
              obtain ⟨u157, hu158, hi159⟩ := atI_im hM156 hx151
              obtain ⟨b160, hb160, hm⟩ := wp_eqA hm
              refine et_to (et_test (ev_eqA (ev_ixT (ev_is (ev_var rfl) he154) ev_c hg155 hu158) ev_c hi159 (any_str.mpr rfl) hb160)) ?_
              refine ifK_2 (fun hb161 => ?_) (fun hb161 => ?_)
              · have hm := R.wp_ifY hm hb161
                refine c_ret ?_
                refine c_make ?_
                refine c_cons ?_
                refine c_call ?_
                obtain ⟨xs162, h163, hm⟩ := Ml.wp_asTup hm
                obtain ⟨x164, hx164, hm⟩ := wp_idx hm
                obtain ⟨a165, vs166, he167, hg168, hM169⟩ := any_tupE (hS.im (i := 0) rfl) h163
                obtain ⟨u170, hu171, hi172⟩ := atI_im hM169 hx164
                refine ea_to (ea_cons (ev_ixT (ev_is (ev_var rfl) he167) ev_c hg168 hu171) ea_nil) ?_
                have hS := hS.addIm (v := u170) (x := (x164 : Any)) hi172
                refine ⟨u170, (x164 : Any), star [imA u170 (x164 : Any), imA a_v_tree (v_tree : Any), F], rfl, (hS.im (i := 0) rfl), Sep.unstar (M := []) (hS.sel [0, 1, 2] (by decide) rfl : Sep H (([] ++ [imA u170 (x164 : Any), imA a_v_tree (v_tree : Any), F] : List (Asn G)))), R.wp_mono (R.wp_bind hm) (fun r174 hm p175 H hS => ?_) (fun _ z => z)⟩
                have hS : Sep H ([imA (.ref p175) (r174 : Cond), imA u170 (x164 : Any), imA a_v_tree (v_tree : Any), F] : List (Asn G)) := Sep.star (M := [imA (.ref p175) (r174 : Cond)]) hS
                refine c_cons ?_
                refine c_call ?_
                obtain ⟨xs177, h178, hm⟩ := Ml.wp_asTup hm
                obtain ⟨x179, hx179, hm⟩ := wp_idx hm
                obtain ⟨a180, vs181, he182, hg183, hM184⟩ := any_tupE (hS.im (i := 2) rfl) h178
                obtain ⟨u185, hu186, hi187⟩ := atI_im hM184 hx179
                refine ea_to (ea_cons (ev_ixT (ev_is (ev_var rfl) he182) ev_c hg183 hu186) ea_nil) ?_
                have hS := hS.addIm (v := u185) (x := (x179 : Any)) hi187
                refine ⟨u185, (x179 : Any), star [imA u185 (x179 : Any), imA (.ref p175) (r174 : Cond), imA u170 (x164 : Any), imA a_v_tree (v_tree : Any), F], rfl, (hS.im (i := 0) rfl), Sep.unstar (M := []) (hS.sel [0, 1, 2, 3, 4] (by decide) rfl : Sep H (([] ++ [imA u185 (x179 : Any), imA (.ref p175) (r174 : Cond), imA u170 (x164 : Any), imA a_v_tree (v_tree : Any), F] : List (Asn G)))), R.wp_mono (R.wp_bind hm) (fun r189 hm p190 H hS => ?_) (fun _ z => z)⟩
                have hS : Sep H ([imA (.ref p190) (r189 : Cond), imA u185 (x179 : Any), imA (.ref p175) (r174 : Cond), imA u170 (x164 : Any), imA a_v_tree (v_tree : Any), F] : List (Asn G)) := Sep.star (M := [imA (.ref p190) (r189 : Cond)]) hS
                refine c_nil ?_
                intro p192 d193 np nd ne
                have hS := hS.newI (C := G.cl 11) np nd ne (by rw [T.fz_BothSo]; decide)
                refine ⟨p192, d193, p175, (r174 : Cond), p190, (r189 : Cond), star [imA (.ref p190) (r189 : Cond), imA u185 (x179 : Any), imA (.ref p175) (r174 : Cond), imA u170 (x164 : Any), imA a_v_tree (v_tree : Any), F], rfl, (hS.im (i := 3) rfl), (hS.im (i := 1) rfl), Sep.unstar (M := [cell p192 (.ins (G.cl 11) d193 [])]) (hS.sel [0, 1, 2, 3, 4, 5, 6] (by decide) rfl : Sep _ (([cell p192 (.ins (G.cl 11) d193 [])] ++ [imA (.ref p190) (r189 : Cond), imA u185 (x179 : Any), imA (.ref p175) (r174 : Cond), imA u170 (x164 : Any), imA a_v_tree (v_tree : Any), F] : List (Asn G)))), R.wp_mono (R.wp_bind hm) (fun r194 hm H hS => ⟨rfl, ?_⟩) (fun _ z => z)⟩
                have hS : Sep H ([imA (.ref p192) (r194 : BothSo), imA (.ref p190) (r189 : Cond), imA u185 (x179 : Any), imA (.ref p175) (r174 : Cond), imA u170 (x164 : Any), imA a_v_tree (v_tree : Any), F] : List (Asn G)) := Sep.star (M := [imA (.ref p192) (r194 : BothSo)]) hS
                have hS := hS.addIm (v := (.ref p192)) (x := ((Cond.BothSo r194.first r194.second) : Cond)) (to_BothSo (hS.im (i := 0) rfl))
                exact hm _ _ (hS.sel [0, 7] (by decide) rfl)
              · have hm := R.wp_ifN hm (by first | (rw [hb161]; decide) | simpa using hb161)
                refine st_nx ?_
                refine sq_nx ?_
                refine f_seq ?_
                refine f_if ?_
                obtain ⟨xs197, h198, hm⟩ := Ml.wp_asTup hm
                obtain ⟨x199, hx199, hm⟩ := wp_idx hm
                obtain ⟨a200, vs201, he202, hg203, hM204⟩ := any_tupE (hS.im (i := 0) rfl) h198
                obtain ⟨u205, hu206, hi207⟩ := atI_im hM204 hx199
                obtain ⟨b208, hb208, hm⟩ := wp_eqA hm
                refine et_to (et_test (ev_eqA (ev_ixT (ev_is (ev_var rfl) he202) ev_c hg203 hu206) ev_c hi207 (any_str.mpr rfl) hb208)) ?_
                refine ifK_2 (fun hb209 => ?_) (fun hb209 => ?_)
                · have hm := R.wp_ifY hm hb209
                  refine c_ret ?_
                  refine c_make ?_
                  refine c_cons ?_
                  refine c_call ?_
                  obtain ⟨xs210, h211, hm⟩ := Ml.wp_asTup hm
                  obtain ⟨x212, hx212, hm⟩ := wp_idx hm
                  obtain ⟨a213, vs214, he215, hg216, hM217⟩ := any_tupE (hS.im (i := 0) rfl) h211
                  obtain ⟨u218, hu219, hi220⟩ := atI_im hM217 hx212
                  refine ea_to (ea_cons (ev_ixT (ev_is (ev_var rfl) he215) ev_c hg216 hu219) ea_nil) ?_
                  have hS := hS.addIm (v := u218) (x := (x212 : Any)) hi220
                  refine ⟨u218, (x212 : Any), star [imA u218 (x212 : Any), imA a_v_tree (v_tree : Any), F], rfl, (hS.im (i := 0) rfl), Sep.unstar (M := []) (hS.sel [0, 1, 2] (by decide) rfl : Sep H (([] ++ [imA u218 (x212 : Any), imA a_v_tree (v_tree : Any), F] : List (Asn G)))), R.wp_mono (R.wp_bind hm) (fun r222 hm p223 H hS => ?_) (fun _ z => z)⟩
                  have hS : Sep H ([imA (.ref p223) (r222 : Cond), imA u218 (x212 : Any), imA a_v_tree (v_tree : Any), F] : List (Asn G)) := Sep.star (M := [imA (.ref p223) (r222 : Cond)]) hS
                  refine c_cons ?_
                  refine c_call ?_
                  obtain ⟨xs225, h226, hm⟩ := Ml.wp_asTup hm
                  obtain ⟨x227, hx227, hm⟩ := wp_idx hm
                  obtain ⟨a228, vs229, he230, hg231, hM232⟩ := any_tupE (hS.im (i := 2) rfl) h226
                  obtain ⟨u233, hu234, hi235⟩ := atI_im hM232 hx227
                  refine ea_to (ea_cons (ev_ixT (ev_is (ev_var rfl) he230) ev_c hg231 hu234) ea_nil) ?_
                  have hS := hS.addIm (v := u233) (x := (x227 : Any)) hi235
                  refine ⟨u233, (x227 : Any), star [imA u233 (x227 : Any), imA (.ref p223) (r222 : Cond), imA u218 (x212 : Any), imA a_v_tree (v_tree : Any), F], rfl, (hS.im (i := 0) rfl), Sep.unstar (M := []) (hS.sel [0, 1, 2, 3, 4] (by decide) rfl : Sep H (([] ++ [imA u233 (x227 : Any), imA (.ref p223) (r222 : Cond), imA u218 (x212 : Any), imA a_v_tree (v_tree : Any), F] : List (Asn G)))), R.wp_mono (R.wp_bind hm) (fun r237 hm p238 H hS => ?_) (fun _ z => z)⟩
                  have hS : Sep H ([imA (.ref p238) (r237 : Cond), imA u233 (x227 : Any), imA (.ref p223) (r222 : Cond), imA u218 (x212 : Any), imA a_v_tree (v_tree : Any), F] : List (Asn G)) := Sep.star (M := [imA (.ref p238) (r237 : Cond)]) hS
                  refine c_nil ?_
                  intro p240 d241 np nd ne
                  have hS := hS.newI (C := G.cl 12) np nd ne (by rw [T.fz_EitherSo]; decide)
                  refine ⟨p240, d241, p223, (r222 : Cond), p238, (r237 : Cond), star [imA (.ref p238) (r237 : Cond), imA u233 (x227 : Any), imA (.ref p223) (r222 : Cond), imA u218 (x212 : Any), imA a_v_tree (v_tree : Any), F], rfl, (hS.im (i := 3) rfl), (hS.im (i := 1) rfl), Sep.unstar (M := [cell p240 (.ins (G.cl 12) d241 [])]) (hS.sel [0, 1, 2, 3, 4, 5, 6] (by decide) rfl : Sep _ (([cell p240 (.ins (G.cl 12) d241 [])] ++ [imA (.ref p238) (r237 : Cond), imA u233 (x227 : Any), imA (.ref p223) (r222 : Cond), imA u218 (x212 : Any), imA a_v_tree (v_tree : Any), F] : List (Asn G)))), R.wp_mono (R.wp_bind hm) (fun r242 hm H hS => ⟨rfl, ?_⟩) (fun _ z => z)⟩
                  have hS : Sep H ([imA (.ref p240) (r242 : EitherSo), imA (.ref p238) (r237 : Cond), imA u233 (x227 : Any), imA (.ref p223) (r222 : Cond), imA u218 (x212 : Any), imA a_v_tree (v_tree : Any), F] : List (Asn G)) := Sep.star (M := [imA (.ref p240) (r242 : EitherSo)]) hS
                  have hS := hS.addIm (v := (.ref p240)) (x := ((Cond.EitherSo r242.first r242.second) : Cond)) (to_EitherSo (hS.im (i := 0) rfl))
                  exact hm _ _ (hS.sel [0, 7] (by decide) rfl)
                · have hm := R.wp_ifN hm (by first | (rw [hb209]; decide) | simpa using hb209)
                  refine st_nx ?_
                  refine sq_nx ?_
                  refine c_ret ?_
                  refine c_call ?_
                  obtain ⟨xs245, h246, hm⟩ := Ml.wp_asTup hm
                  obtain ⟨x247, hx247, hm⟩ := wp_idx hm
                  obtain ⟨a248, vs249, he250, hg251, hM252⟩ := any_tupE (hS.im (i := 0) rfl) h246
                  obtain ⟨u253, hu254, hi255⟩ := atI_im hM252 hx247
                  obtain ⟨xs256, h257, hm⟩ := Ml.wp_asTup hm
                  obtain ⟨x258, hx258, hm⟩ := wp_idx hm
                  obtain ⟨a259, vs260, he261, hg262, hM263⟩ := any_tupE (hS.im (i := 0) rfl) h257
                  obtain ⟨u264, hu265, hi266⟩ := atI_im hM263 hx258
                  refine ea_to (ea_cons (ev_ixT (ev_is (ev_var rfl) he250) ev_c hg251 hu254) (ea_cons (ev_ixT (ev_is (ev_var rfl) he261) ev_c hg262 hu265) ea_nil)) ?_
                  have hS := hS.addIm (v := u253) (x := (x247 : Any)) hi255
                  have hS := hS.addIm (v := u264) (x := (x258 : Any)) hi266
                  obtain ⟨s269, hs270, hm⟩ := Ml.wp_asStr hm
                  have hv271 := v_str (hS.im (i := 1) rfl) hs270
                  subst hv271
                  obtain ⟨s272, hs273, hm⟩ := Ml.wp_asStr hm
                  have hv274 := v_str (hS.im (i := 0) rfl) hs273
                  subst hv274
                  refine ⟨s269, s272, star [imA (.str (s272)) (x258 : Any), imA (.str (s269)) (x247 : Any), imA a_v_tree (v_tree : Any), F], rfl, Sep.unstar (M := []) (hS.sel [0, 1, 2, 3] (by decide) rfl : Sep H (([] ++ [imA (.str (s272)) (x258 : Any), imA (.str (s269)) (x247 : Any), imA a_v_tree (v_tree : Any), F] : List (Asn G)))), R.wp_mono (R.wp_bind hm) (fun r275 hm p276 H hS => ?_) (fun _ z => z)⟩
                  have hS : Sep H ([imA (.ref p276) (r275 : Cond), imA (.str (s272)) (x258 : Any), imA (.str (s269)) (x247 : Any), imA a_v_tree (v_tree : Any), F] : List (Asn G)) := Sep.star (M := [imA (.ref p276) (r275 : Cond)]) hS
                  exact hm _ _ (hS.sel [0, 4] (by decide) rfl)
theorem ok_condition_of (T : Txt G mg) : ∀ n : Nat, FnOk P w G.K mg base CX0 (4 + n) T.a_condition_of T.fd_condition_of ["tree"] (sp_condition_of G (m_condition_of n))
  | 0 => fnOk_no fun vs H Q E h => by obtain ⟨a_v_tree, v_tree, F, _, him_v_tree, _, hm⟩ := h; exact hm
  | n + 1 => ok_condition_of_b T (Nat.le_add_right_of_le (by decide)) (ok_condition_of T n)
def sp_Card___init__ (G : Gx) : Sp := fun vs H Q E => ∃ (a_v_self d_v_self : Addr) (a_v_letter : Addr) (v_letter : Letter) (v_folder : Str) (a_v_marks : V) (v_marks : Any) (F : Asn G), vs = [.ref a_v_self, (.ref a_v_letter), (.str (v_folder)), a_v_marks] ∧ Im.im G H (.ref a_v_letter) v_letter ∧ Im.im G H a_v_marks v_marks ∧ Sep H ([cell a_v_self (.ins (G.cl 13) d_v_self []), F] : List (Asn G)) ∧ R.wp (m_Card___init__ v_letter v_folder v_marks) (fun r => ∀ H', Sep H' ([imA (.ref a_v_self) (r : Card), F] : List (Asn G)) → Q .non H') (fun _ => False)
abbrev N_Card___init__ : List Str := ["self", "letter", "folder", "marks"]
theorem sc_Card___init__ : FnScope N_Card___init__ ["self", "letter", "folder", "marks"] (defScope s_Card___init__) := ⟨rfl, rfl, rfl, by decide +kernel, rfl, by decide +kernel, by decide +kernel⟩
theorem ok_Card___init__ (T : Txt G mg) : FnOk P w G.K mg base CX0 1 T.a_Card___init__ T.fd_Card___init__ ["self", "letter", "folder", "marks"] (sp_Card___init__ G) := by
  have nd := sc_Card___init__.nd
  refine FunD.ok0 T.F_Card___init__ sc_Card___init__ (fun vs H Q E h => ?_) (fun cdv A outer s H vs Q E hr h => ?_)
  · obtain ⟨a_v_self, d_v_self, a_v_letter, v_letter, v_folder, a_v_marks, v_marks, F, rfl, _⟩ := h; rfl
  · obtain ⟨a_v_self, d_v_self, a_v_letter, v_letter, v_folder, a_v_marks, v_marks, F, rfl, him_v_letter, him_v_marks, hS, hm⟩ := h
    have hS := hS.addIm him_v_letter
    have hS := hS.addIm him_v_marks
    refine ⟨_, (pss_cons (ps_if (pt_cmp (pc_isN (pv 3))) (pss_one (ps_set (i := 3) nd rfl (Or.inl rfl) (pe_fz (pe_lst pa_nil)))) pss_nil)
      (pss_cons (ps_fld (pv 0) (pv 1) rfl)
      (pss_cons (ps_fld (pv 0) (pv 2) rfl)
      (pss_one (ps_fld (pv 0) (pe_fz (pe_sortSetK G.K rfl (by rfl) T.z_sorted (by rfl) T.z_set (pv 3))) rfl))))), ?_⟩
    unfold m_Card___init__ at hm
    refine f_seq ?_
    refine f_if ?_
    refine et_to (et_B (ev_isN (ev_var rfl) (hS.im (i := 0) rfl))) ?_
    refine ifK_J (τ := Any) (fun (s1 : Any) (σ : L2.St) (H : Hp) => ∃ (a2 : V), σ = [some (.ref a_v_self), some (.ref a_v_letter), some (.str (v_folder)), some a2] ∧ Sep H ([imA a2 (s1 : Any), imA a_v_marks (v_marks : Any), imA (.ref a_v_letter) (v_letter : Letter), cell a_v_self (.ins (G.cl 13) d_v_self []), F] : List (Asn G))) hm (fun hb q hm nx => ?_) (fun hb q hm nx => ?_) (fun s1 σ H hm hI => ?_)
    ·
      refine c_asg ?_
      refine c_fz ?_
      refine c_lst ?_
      refine ea_to ea_nil ?_
      refine k_lst (α := Str) (vs := []) (xs := ([] : (List Str))) hS True.intro (by show 0 ≤ sizeLine; decide) fun p4 H hS => ?_
      refine fz_yes (xs := (([] : (List Str)) : (List Str))) hS (i := 0) rfl fun H hS => ?_
      have hS : Sep H ([imA (.ref p4) (([] : (List Str)) : (List Str)), imA a_v_marks (v_marks : Any), imA (.ref a_v_letter) (v_letter : Letter), cell a_v_self (.ins (G.cl 13) d_v_self []), F] : List (Asn G)) := hS
      have hS := hS.addIm (v := (.ref p4)) (x := ((Any.lst (([] : (List Str)).map Any.str)) : Any)) (any_lstS (hS.im (i := 0) rfl))
      refine c_set (σ' := [some (.ref a_v_self), some (.ref a_v_letter), some (.str (v_folder)), some (.ref p4)]) rfl ?_
      exact nx _ _ _ hm ⟨_, rfl, hS.sel [0, 2, 3, 4, 5] (by decide) rfl⟩
    ·
      refine st_nx ?_
      have hS := hS.addIm (hS.im (i := 0) rfl)
      exact nx _ _ _ hm ⟨_, rfl, hS.sel [1, 0, 2, 3, 4] (by decide) rfl⟩
    · obtain ⟨a2, rfl, hS⟩ := hI
      refine sq_nx ?_
      refine f_seq ?_
      refine c_sfld ?_
      refine ev_to (ev_var rfl) ?_
      refine ev_to (ev_var rfl) ?_
      refine k_sfld (fs' := [("letter", (.ref a_v_letter))]) hS (i := 3) rfl T.cl_Card T.n_Card_letter rfl (by show 0 < 1000; decide) (by show decide (G.fz (G.cl 13) = some 1) = false; rw [T.fz_Card]; rfl) rfl fun H hS => ?_
      have hS : Sep H ([imA a2 (s1 : Any), imA a_v_marks (v_marks : Any), imA (.ref a_v_letter) (v_letter : Letter), cell a_v_self (.ins (G.cl 13) d_v_self [("letter", (.ref a_v_letter))]), F] : List (Asn G)) := hS
      refine sq_nx ?_
      refine f_seq ?_
      refine c_sfld ?_
      refine ev_to (ev_var rfl) ?_
      refine ev_to (ev_var rfl) ?_
      refine k_sfld (fs' := [("letter", (.ref a_v_letter)), ("box", (.str (v_folder)))]) hS (i := 3) rfl T.cl_Card T.n_Card_box rfl (by show 1 < 1000; decide) (by show decide (G.fz (G.cl 13) = some 2) = false; rw [T.fz_Card]; rfl) rfl fun H hS => ?_
      have hS : Sep H ([imA a2 (s1 : Any), imA a_v_marks (v_marks : Any), imA (.ref a_v_letter) (v_letter : Letter), cell a_v_self (.ins (G.cl 13) d_v_self [("letter", (.ref a_v_letter)), ("box", (.str (v_folder)))]), F] : List (Asn G)) := hS
      refine sq_nx ?_
      refine c_sfld ?_
      refine c_fz ?_
      refine c_sortSet ?_
      refine ev_to (ev_var rfl) ?_
      obtain ⟨ss9, hss9, hm⟩ := wp_asStrs hm
      obtain ⟨h10, hm⟩ := R.wp_need hm
      refine k_sortSetA hS (hS.im (i := 0) rfl) hss9 h10 fun p8 H hS => ?_
      refine fz_yes (xs := (ssetT ss9 : (List Str))) hS (i := 0) rfl fun H hS => ?_
      have hS : Sep H ([imA (.ref p8) (ssetT ss9 : (List Str)), imA a2 (s1 : Any), imA a_v_marks (v_marks : Any), imA (.ref a_v_letter) (v_letter : Letter), cell a_v_self (.ins (G.cl 13) d_v_self [("letter", (.ref a_v_letter)), ("box", (.str (v_folder)))]), F] : List (Asn G)) := hS
      refine ev_to (ev_var rfl) ?_
      refine k_sfldP (fs' := [("letter", (.ref a_v_letter)), ("box", (.str (v_folder))), ("signs", (.ref p8))]) hS (i := 4) rfl T.cl_Card T.n_Card_signs rfl (by show 2 < 1000; decide) (by show decide (G.fz (G.cl 13) = some 3) = true; rw [T.fz_Card]; rfl) rfl fun H hO hT hS => ?_
      have hS : Sep H ([imA (.ref p8) (ssetT ss9 : (List Str)), imA a2 (s1 : Any), imA a_v_marks (v_marks : Any), imA (.ref a_v_letter) (v_letter : Letter), F] : List (Asn G)) := hS
      have hS := hS.addIm (v := (.ref a_v_self)) (x := (⟨v_letter, v_folder, ssetT ss9⟩ : Card)) (mk_Card T.fz_Card hO (hS.im (i := 3) rfl) (hS.im (i := 0) rfl))
      exact hm _ (hS.sel [0, 5] (by decide) rfl)
def sp_is_sign (G : Gx) : Sp := fun vs H Q E => ∃ (v_sign : Nat) (F : Asn G), vs = [(.str (sg (v_sign)))] ∧ Sep H ([F] : List (Asn G)) ∧ R.wp (m_is_sign v_sign) (fun r => ∀ H', Sep H' ([F] : List (Asn G)) → Q (.bl (r)) H') (fun _ => False)
abbrev N_is_sign : List Str := ["sign"]
theorem sc_is_sign : FnScope N_is_sign ["sign"] (defScope s_is_sign) := ⟨rfl, rfl, rfl, by decide +kernel, rfl, by decide +kernel, by decide +kernel⟩
theorem ok_is_sign (T : Txt G mg) : FnOk P w G.K mg base CX0 1 T.a_is_sign T.fd_is_sign ["sign"] (sp_is_sign G) := by
  have nd := sc_is_sign.nd
  refine Fun.ok T.F_is_sign sc_is_sign (fun vs H Q E h => ?_) (fun cdv A outer s H vs Q E hr h => ?_)
  · obtain ⟨v_sign, F, rfl, _⟩ := h; rfl
  · obtain ⟨v_sign, F, rfl, hS, hm⟩ := h
    refine ⟨_, (pss_one (ps_ret (pe_or (pe_cmpR op_inSg (pv 0) (pe_glob (v := .str ("abcdefghijklmnopqrstuvwxyz" : Str)) rfl T.c_SMALL ⟨_, rfl⟩) (by rfl)) (pe_one (pe_cmpR op_inSg (pv 0) (pe_glob (v := .str ("0123456789" : Str)) rfl T.c_FIGURES ⟨_, rfl⟩) (by rfl)))))), ?_⟩
    unfold m_is_sign at hm
    refine c_ret ?_
    refine ev_to (ev_orV (ev_inSg (c := v_sign) (ev_var rfl) ev_c) fun _ => (ev_inSg (c := v_sign) (ev_var rfl) ev_c)) ?_
    exact hm _ (hS.sel [0] (by decide) rfl)
def sp_is_word (G : Gx) : Sp := fun vs H Q E => ∃ (a_v_thing : V) (v_thing : Any) (F : Asn G), vs = [a_v_thing] ∧ Im.im G H a_v_thing v_thing ∧ Sep H ([F] : List (Asn G)) ∧ R.wp (m_is_word v_thing) (fun r => ∀ H', Sep H' ([F] : List (Asn G)) → Q (.bl (r)) H') (fun _ => False)
abbrev N_is_word : List Str := ["thing", "sign"]
theorem sc_is_word : FnScope N_is_word ["thing"] (defScope s_is_word) := ⟨rfl, rfl, rfl, by decide +kernel, rfl, by decide +kernel, by decide +kernel⟩
theorem ok_is_word (T : Txt G mg) : FnOk P w G.K mg base CX0 2 T.a_is_word T.fd_is_word ["thing"] (sp_is_word G) := by
  have nd := sc_is_word.nd
  refine Fun.ok T.F_is_word sc_is_word (fun vs H Q E h => ?_) (fun cdv A outer s H vs Q E hr h => ?_)
  · obtain ⟨a_v_thing, v_thing, F, rfl, _⟩ := h; rfl
  · obtain ⟨a_v_thing, v_thing, F, rfl, him_v_thing, hS, hm⟩ := h
    have hS := hS.addIm him_v_thing
    refine ⟨_, (pss_cons (ps_if (PW.pt (pw_or (pt_not (pt_val (pe_callB (isiK G.K) (by rfl) T.z_isinstance (by decide +kernel) (pa_cons (pv 0) (pa_cons (pe_bltn (v := .ty "str") (by rfl) T.z_str (by decide +kernel) rfl) pa_nil))))) (pw_or1 (pt_not (pt_chain op_le op_le pe_int (pe_callB (lenAnyK G.K) (by rfl) T.z_len PySem.boot_len (pa_cons (pv 0) pa_nil)) (pe_glob (v := .int 20) rfl T.c_MOST_SIGNS ⟨_, rfl⟩)))))) (pss_one (ps_ret pe_bl)) pss_nil)
      (pss_one (ps_ret (pe_callB (allK G.K rfl) (by rfl) T.z_all (by decide +kernel) (pa_cons (pe_fz (pe_lc (own := [("sign", 1)]) (g := gName 1) rfl nd (pi_str (pv 0)) (blkOk_by (own := [("sign", 1)]) (N := N_is_word) (sc := defScope s_is_word) (by decide +kernel)) (fun _ _ _ _ _ => pg_name (i := 1) nd rfl (Or.inl rfl)) (fun _ _ _ _ _ => pts_nil) (fun _ _ _ _ _ => (pe_call (ok_is_sign T) (hr.mono (by decide)) rfl T.g_is_sign T.kp_is_sign T.b_is_sign .nil pass0 (pa_cons (pv 1) pa_nil))))) pa_nil))))), ?_⟩
    unfold m_is_word at hm
    refine f_seq ?_
    refine f_if ?_
    refine f_or ?_
    refine et_to (et_not (et_B (ev_isAny (ev_var rfl) ev_c (hS.im (i := 0) rfl) (by decide)))) ?_
    refine orK_J hm hS (fun hb q hm nx => ?_) (fun b1 H hm hS => ?_)
    ·
      obtain ⟨n2, hn2, hm⟩ := wp_lenA hm
      refine et_to (et_not (et_test (ev_chainB (a := decide (1 ≤ n2)) (b := decide (n2 ≤ 20)) ev_c (ev_lenA (ev_var rfl) (hS.im (i := 0) rfl) hn2) (fun _ => ev_c) (fun Q q => r_I0 Q q) (fun _ Q q => r_I0 Q q)))) ?_
      exact nx _ _ hm (hS.sel [0, 1] (by decide) rfl)
    ·
      refine ifK_2 (fun hb3 => ?_) (fun hb3 => ?_)
      · have hm := R.wp_ifY hm hb3
        refine c_ret ?_
        refine ev_to ev_c ?_
        exact hm _ (hS.sel [1] (by decide) rfl)
      · have hm := R.wp_ifN hm (by first | (rw [hb3]; decide) | simpa using hb3)
        refine st_nx ?_
        refine sq_nx ?_
        refine c_ret ?_
        refine c_cb ?_
        refine c_cons ?_
        refine c_fz ?_
        refine c_lc ?_
        refine c_is ?_
        obtain ⟨s4, hs5, hm⟩ := Ml.wp_asStr hm
        have hv6 := v_str (hS.im (i := 0) rfl) hs5
        subst hv6
        refine ev_to (ev_var rfl) ?_
        refine k_is ?_
        obtain ⟨h7, hm⟩ := R.wp_need hm
        refine lc_sep (β := Bool) (fun (_ : Unit) => ([imA (.str (s4)) (v_thing : Any), F] : List (Asn G))) (s := ()) (im := (fun _ v (c : Nat) => v = .str (sg c))) hS (fun _ _ _ => wk_str) h7 hm (fun p8 _ ys11 x9 v10 H q Nx hS hx hm kS kN => ?_) (fun p8 t H hm hS => ?_)
        ·
          cases hx
          refine c_gLc (σ' := [some (.str (s4)), some (.str (sg (x9)))]) rfl rfl ?_
          refine c_yes ?_
          refine c_call ?_
          refine ea_to (ea_cons (ev_var rfl) ea_nil) ?_
          refine ⟨x9, star [lstA p8 (ys11 : List Bool), imA (.str (s4)) (v_thing : Any), F], rfl, Sep.unstar (M := []) (hS.sel [0, 1, 2] (by decide) rfl : Sep H (([] ++ [lstA p8 (ys11 : List Bool), imA (.str (s4)) (v_thing : Any), F] : List (Asn G)))), R.wp_mono (R.wp_bind hm) (fun r12 hm H hS => ?_) (fun _ z => z)⟩
          have hS : Sep H ([lstA p8 (ys11 : List Bool), imA (.str (s4)) (v_thing : Any), F] : List (Asn G)) := Sep.star (M := []) hS
          exact kS () _ _ _ hm rfl (hS.sel [0, 1, 2] (by decide) rfl)
        · revert hm hS; generalize t = t13; intro hm hS
          refine fz_no ?_
          refine c_nil ?_
          refine ⟨_, _, rfl, (hS.sqF (i := 0) rfl), ?_⟩
          exact hm _ (hS.sel [2] (by decide) rfl)
def sp_words_of (G : Gx) : Sp := fun vs H Q E => ∃ (v_text : Str) (F : Asn G), vs = [(.str (v_text))] ∧ Sep H ([F] : List (Asn G)) ∧ R.wp (m_words_of v_text) (fun r => ∀ p H', Sep H' ([lstA p (r : (List Str)), F] : List (Asn G)) → Q (.ref p) H') (fun _ => False)
abbrev N_words_of : List Str := ["text", "found", "run", "sign"]
theorem sc_words_of : FnScope N_words_of ["text"] (defScope s_words_of) := ⟨rfl, rfl, rfl, by decide +kernel, rfl, by decide +kernel, by decide +kernel⟩
theorem ok_words_of (T : Txt G mg) : FnOk P w G.K mg base CX0 2 T.a_words_of T.fd_words_of ["text"] (sp_words_of G) := by
  have nd := sc_words_of.nd
  refine Fun.ok T.F_words_of sc_words_of (fun vs H Q E h => ?_) (fun cdv A outer s H vs Q E hr h => ?_)
  · obtain ⟨v_text, F, rfl, _⟩ := h; rfl
  · obtain ⟨v_text, F, rfl, hS, hm⟩ := h
    refine ⟨_, (pss_cons (ps_set (i := 1) nd rfl (Or.inl rfl) (pe_fz (pe_lst pa_nil)))
      (pss_cons (ps_set (i := 2) nd rfl (Or.inl rfl) pe_str)
      (pss_cons (ps_for PassesOwn.never rfl (pi_str (pe_op op_catS (pe_m0 PySem.F.slot_str_lower PySem.F.type_str_lower mt_lower (pv 0)) pe_str)) (pg_name (i := 3) nd rfl (Or.inl rfl)) (pss_one (ps_if (pt_val (pe_call (ok_is_sign T) (hr.mono (by decide)) rfl T.g_is_sign T.kp_is_sign T.b_is_sign .nil pass0 (pa_cons (pv 3) pa_nil))) (pss_one (ps_aug (i := 2) nd rfl (Or.inl rfl) (pv 3) ip_catS)) (pss_one (ps_if (pt_cmpR op_ne (pv 2) pe_str (nomark _)) (pss_cons (ps_expr (pe_bmK G.K PySem.F.plainAttrs_list PySem.F.slot_list_append PySem.F.type_list_append mt_append (pe_fz (pv 1)) (pa_cons (pv 2) pa_nil)))
      (pss_one (ps_set (i := 2) nd rfl (Or.inl rfl) pe_str))) pss_nil)))))
      (pss_one (ps_ret (pe_fz (pv 1))))))), ?_⟩
    unfold m_words_of at hm
    refine f_seq ?_
    refine c_asg ?_
    refine c_fz ?_
    refine c_lst ?_
    refine ea_to ea_nil ?_
    refine k_lst (α := Str) (vs := []) (xs := ([] : (List Str))) hS True.intro (by show 0 ≤ sizeLine; decide) fun p1 H hS => ?_
    refine fz_no ?_
    refine c_set (σ' := [some (.str (v_text)), some (.ref p1), none, none]) rfl ?_
    refine sq_nx ?_
    refine f_seq ?_
    refine c_asg ?_
    refine ev_to ev_c ?_
    refine c_set (σ' := [some (.str (v_text)), some (.ref p1), some (.str (("" : Str))), none]) rfl ?_
    refine sq_nx ?_
    refine f_seq ?_
    refine c_for ?_
    refine c_is ?_
    obtain ⟨h2, hm⟩ := R.wp_need hm
    obtain ⟨h3, hm⟩ := R.wp_need hm
    refine ev_to (ev_catS (ev_m0 (ev_var rfl) fun _ q => ⟨_, rfl, rfl, h2, q⟩) ev_c h3) ?_
    refine k_is ?_
    refine k_for (τ := (List Str) × Str) (fun (s4 : (List Str) × Str) (σ : L2.St) (H : Hp) => ∃ (w7 : Option V), σ = [some (.str (v_text)), some (.ref p1), some (.str (s4.2)), w7] ∧ Sep H ([lstA p1 (s4.1 : (List Str)), F] : List (Asn G))) (im := (fun _ v (c : Nat) => v = .str (sg c))) (s := (([] : (List Str)), ("" : Str))) (fun _ => wk_str) ⟨_, rfl, hS.sel [0, 1] (by decide) rfl⟩ hm (fun s4 x5 v6 σ H q N hI hx hm nx => ?_) (fun s4 σ H hm hI => ?_)
    ·
      obtain ⟨w7, rfl, hS⟩ := hI
      cases hx
      refine c_gN (σ' := [some (.str (v_text)), some (.ref p1), some (.str (s4.2)), some (.str (sg (x5)))]) rfl ?_
      refine f_if ?_
      refine f_B ?_
      refine c_call ?_
      refine ea_to (ea_cons (ev_var rfl) ea_nil) ?_
      refine ⟨x5, star [lstA p1 (s4.1 : (List Str)), F], rfl, Sep.unstar (M := []) (hS.sel [0, 1] (by decide) rfl : Sep H (([] ++ [lstA p1 (s4.1 : (List Str)), F] : List (Asn G)))), R.wp_mono (R.wp_bind hm) (fun r8 hm H hS => ?_) (fun _ z => z)⟩
      have hS : Sep H ([lstA p1 (s4.1 : (List Str)), F] : List (Asn G)) := Sep.star (M := []) hS
      refine f_bl ?_
      refine ifK_J (τ := (List Str) × Str) (fun (s9 : (List Str) × Str) (σ : L2.St) (H : Hp) => σ = [some (.str (v_text)), some (.ref p1), some (.str (s9.2)), some (.str (sg (x5)))] ∧ Sep H ([lstA p1 (s9.1 : (List Str)), F] : List (Asn G))) hm (fun hb q hm nx => ?_) (fun hb q hm nx => ?_) (fun s9 σ H hm hI => ?_)
      ·
        refine c_aug rfl ?_
        refine ev_to (ev_var rfl) ?_
        obtain ⟨h10, hm⟩ := R.wp_need hm
        refine ⟨_, _, rfl, rfl, h10, ?_⟩
        obtain ⟨y11, hy11, hm⟩ := wp_let hm
        refine n_is (w := (.str (y11))) (by rw [hy11]) ?_
        refine c_set (σ' := [some (.str (v_text)), some (.ref p1), some (.str (y11)), some (.str (sg (x5)))]) rfl ?_
        exact nx _ _ _ hm ⟨rfl, hS.sel [0, 1] (by decide) rfl⟩
      ·
        refine f_if ?_
        refine et_to (et_test (ev_neS (ev_var rfl) ev_c)) ?_
        refine ifK_J (τ := (List Str) × Str) (fun (s12 : (List Str) × Str) (σ : L2.St) (H : Hp) => σ = [some (.str (v_text)), some (.ref p1), some (.str (s12.2)), some (.str (sg (x5)))] ∧ Sep H ([lstA p1 (s12.1 : (List Str)), F] : List (Asn G))) hm (fun hb q hm nx => ?_) (fun hb q hm nx => ?_) (fun s12 σ H hm hI => ?_)
        ·
          refine f_seq ?_
          refine c_drop ?_
          refine c_bm ?_
          refine ev_to (ev_fz (ev_var rfl)) ⟨tyL hS (i := 0) rfl, ?_⟩
          refine ea_to (ea_cons (ev_var rfl) ea_nil) ?_
          obtain ⟨h13, hm⟩ := R.wp_need hm
          refine k_append (x := s4.2) hS (i := 0) rfl rfl h13 rfl fun H hS => ?_
          refine sq_nx ?_
          refine c_asg ?_
          refine ev_to ev_c ?_
          refine c_set (σ' := [some (.str (v_text)), some (.ref p1), some (.str (("" : Str))), some (.str (sg (x5)))]) rfl ?_
          exact nx _ _ _ hm ⟨rfl, hS.sel [0, 1] (by decide) rfl⟩
        ·
          refine st_nx ?_
          exact nx _ _ _ hm ⟨rfl, hS.sel [0, 1] (by decide) rfl⟩
        · obtain ⟨rfl, hS⟩ := hI
          exact nx _ _ _ hm ⟨rfl, hS.sel [0, 1] (by decide) rfl⟩
      · obtain ⟨rfl, hS⟩ := hI
        exact nx _ _ _ hm ⟨_, rfl, hS.sel [0, 1] (by decide) rfl⟩
    · obtain ⟨w7, rfl, hS⟩ := hI
      refine sq_nx ?_
      refine c_ret ?_
      refine ev_to (ev_fz (ev_var rfl)) ?_
      exact hm _ _ (hS.sel [0, 1] (by decide) rfl)
def sp_each_once (G : Gx) : Sp := fun vs H Q E => ∃ (a_v_row : Addr) (v_row : (List Str)) (F : Asn G), vs = [.ref a_v_row] ∧ Sep H ([lstA a_v_row (v_row : (List Str)), F] : List (Asn G)) ∧ R.wp (m_each_once v_row) (fun r => ∀ p H', Sep H' ([lstA p (r : (List Str)), lstA a_v_row (v_row : (List Str)), F] : List (Asn G)) → Q (.ref p) H') (fun _ => False)
abbrev N_each_once : List Str := ["row", "found", "one"]
theorem sc_each_once : FnScope N_each_once ["row"] (defScope s_each_once) := ⟨rfl, rfl, rfl, by decide +kernel, rfl, by decide +kernel, by decide +kernel⟩
theorem ok_each_once (T : Txt G mg) : FnOk P w G.K mg base CX0 1 T.a_each_once T.fd_each_once ["row"] (sp_each_once G) := by
  have nd := sc_each_once.nd
  refine Fun.ok T.F_each_once sc_each_once (fun vs H Q E h => ?_) (fun cdv A outer s H vs Q E hr h => ?_)
  · obtain ⟨a_v_row, v_row, F, rfl, _⟩ := h; rfl
  · obtain ⟨a_v_row, v_row, F, rfl, hS, hm⟩ := h
    refine ⟨_, (pss_cons (ps_set (i := 1) nd rfl (Or.inl rfl) pe_dnewK)
      (pss_cons (ps_for PassesOwn.never rfl (pi_listK G.K (pe_fz (pv 0))) (pg_name (i := 2) nd rfl (Or.inl rfl)) (pss_one (ps_expr (pe_dsetd (pv 1) (pv 2) pe_bl m2))))
      (pss_one (ps_ret (pe_fz (pe_callTy (call_lstD rfl) (by rfl) T.z_list (by decide +kernel) (pa_cons (pv 1) pa_nil))))))), ?_⟩
    unfold m_each_once at hm
    refine f_seq ?_
    refine c_asg ?_
    refine k_dnew (κ := Str) (β := Bool) hS fun p1 H hS => ?_
    refine c_set (σ' := [some (.ref a_v_row), some (.ref p1), none]) rfl ?_
    refine sq_nx ?_
    refine f_seq ?_
    refine c_for ?_
    refine c_il ?_
    refine ev_to (ev_fz (ev_var rfl)) ?_
    refine k_il hS (i := 1) rfl ?_
    refine k_for (τ := (List (Str × Bool))) (fun (s2 : (List (Str × Bool))) (σ : L2.St) (H : Hp) => ∃ (w5 : Option V), σ = [some (.ref a_v_row), some (.ref p1), w5] ∧ Sep H ([dictA p1 (s2 : (List (Str × Bool))), lstA a_v_row (v_row : (List Str)), F] : List (Asn G))) (im := (Im.im G)) (s := (([] : (List (Str × Bool))))) (fun _ => wk_list fun _ _ ⟨_, _, h⟩ => h.sq (i := 1) rfl) ⟨_, rfl, hS.sel [0, 1, 2] (by decide) rfl⟩ hm (fun s2 x3 v4 σ H q N hI hx hm nx => ?_) (fun s2 σ H hm hI => ?_)
    ·
      obtain ⟨w5, rfl, hS⟩ := hI
      cases hx
      refine c_gN (σ' := [some (.ref a_v_row), some (.ref p1), some (.str (x3))]) rfl ?_
      refine c_drop ?_
      obtain ⟨h6, hm⟩ := R.wp_need hm
      refine k_dsetd (k := x3) (y := true) hS (i := 0) rfl (ev_var rfl) (ev_var rfl) ev_c rfl h6 rfl fun v7 H hS => ?_
      exact nx _ _ _ hm ⟨_, rfl, hS.sel [0, 1, 2] (by decide) rfl⟩
    · obtain ⟨w5, rfl, hS⟩ := hI
      refine sq_nx ?_
      refine c_ret ?_
      refine c_fz ?_
      refine c_cb ?_
      refine ea_to (ea_cons (ev_var rfl) ea_nil) ?_
      refine k_listD (fun _ => rfl) hS (i := 0) rfl fun p8 H hS => ?_
      refine fz_no ?_
      exact hm _ _ (hS.sel [0, 2, 3] (by decide) rfl)
def sp_is_text (G : Gx) : Sp := fun vs H Q E => ∃ (a_v_thing : V) (v_thing : Any) (v_most : Int) (F : Asn G), vs = [a_v_thing, (.int (v_most))] ∧ Im.im G H a_v_thing v_thing ∧ Sep H ([F] : List (Asn G)) ∧ R.wp (m_is_text v_thing v_most) (fun r => ∀ H', Sep H' ([F] : List (Asn G)) → Q (.bl (r)) H') (fun _ => False)
abbrev N_is_text : List Str := ["thing", "most"]
theorem sc_is_text : FnScope N_is_text ["thing", "most"] (defScope s_is_text) := ⟨rfl, rfl, rfl, by decide +kernel, rfl, by decide +kernel, by decide +kernel⟩
theorem ok_is_text (T : Txt G mg) : FnOk P w G.K mg base CX0 1 T.a_is_text T.fd_is_text ["thing", "most"] (sp_is_text G) := by
  have nd := sc_is_text.nd
  refine Fun.ok T.F_is_text sc_is_text (fun vs H Q E h => ?_) (fun cdv A outer s H vs Q E hr h => ?_)
  · obtain ⟨a_v_thing, v_thing, v_most, F, rfl, _⟩ := h; rfl
  · obtain ⟨a_v_thing, v_thing, v_most, F, rfl, him_v_thing, hS, hm⟩ := h
    have hS := hS.addIm him_v_thing
    refine ⟨_, (pss_one (ps_ret (pe_and (pe_callB (isiK G.K) (by rfl) T.z_isinstance (by decide +kernel) (pa_cons (pv 0) (pa_cons (pe_bltn (v := .ty "str") (by rfl) T.z_str (by decide +kernel) rfl) pa_nil))) (pe_one (pe_cmpR op_le (pe_callB (lenAnyK G.K) (by rfl) T.z_len PySem.boot_len (pa_cons (pv 0) pa_nil)) (pv 1) (nomark _)))))), ?_⟩
    unfold m_is_text at hm
    refine c_ret ?_
    refine f_andV ?_
    refine ev_to (ev_isAny (ev_var rfl) ev_c (hS.im (i := 0) rfl) (by decide)) ?_
    refine andVK_J hm hS (fun hb q hm nx => ?_) (fun b1 H hm hS => ?_)
    ·
      obtain ⟨n2, hn2, hm⟩ := wp_lenA hm
      refine ev_to (ev_i0 (ev_lenA (ev_var rfl) (hS.im (i := 0) rfl) hn2) (ev_var rfl)) ?_
      exact nx _ _ hm (hS.sel [0, 1] (by decide) rfl)
    ·
      exact hm _ (hS.sel [1] (by decide) rfl)
def sp_is_day (G : Gx) : Sp := fun vs H Q E => ∃ (a_v_thing : V) (v_thing : Any) (F : Asn G), vs = [a_v_thing] ∧ Im.im G H a_v_thing v_thing ∧ Sep H ([F] : List (Asn G)) ∧ R.wp (m_is_day v_thing) (fun r => ∀ H', Sep H' ([F] : List (Asn G)) → Q (.bl (r)) H') (fun _ => False)
abbrev N_is_day : List Str := ["thing"]
theorem sc_is_day : FnScope N_is_day ["thing"] (defScope s_is_day) := ⟨rfl, rfl, rfl, by decide +kernel, rfl, by decide +kernel, by decide +kernel⟩
theorem ok_is_day (T : Txt G mg) : FnOk P w G.K mg base CX0 1 T.a_is_day T.fd_is_day ["thing"] (sp_is_day G) := by
  have nd := sc_is_day.nd
  refine Fun.ok T.F_is_day sc_is_day (fun vs H Q E h => ?_) (fun cdv A outer s H vs Q E hr h => ?_)
  · obtain ⟨a_v_thing, v_thing, F, rfl, _⟩ := h; rfl
  · obtain ⟨a_v_thing, v_thing, F, rfl, him_v_thing, hS, hm⟩ := h
    have hS := hS.addIm him_v_thing
    refine ⟨_, (pss_one (ps_ret (pe_and (pe_callB (isiK G.K) (by rfl) T.z_isinstance (by decide +kernel) (pa_cons (pv 0) (pa_cons (pe_bltn (v := .ty "int") (by rfl) T.z_int (by decide +kernel) rfl) pa_nil))) (pe_and (pe_not (pe_callB (isiK G.K) (by rfl) T.z_isinstance (by decide +kernel) (pa_cons (pv 0) (pa_cons (pe_bltn (v := .ty "bool") (by rfl) T.z_bool (by decide +kernel) rfl) pa_nil)))) (pe_one (pe_chain op_le op_le pe_int (pv 0) (pe_glob (v := .int 9999) rfl T.c_MOST_DAY ⟨_, rfl⟩))))))), ?_⟩
    unfold m_is_day at hm
    refine c_ret ?_
    refine f_andV ?_
    refine ev_to (ev_isAny (ev_var rfl) ev_c (hS.im (i := 0) rfl) (by decide)) ?_
    refine andVK_J hm hS (fun hb q hm nx => ?_) (fun b1 H hm hS => ?_)
    ·
      refine f_andV ?_
      refine ev_to (ev_notV (ev_isAny (ev_var rfl) ev_c (hS.im (i := 0) rfl) (by decide))) ?_
      refine andVK_J hm hS (fun hb q hm nx => ?_) (fun b2 H hm hS => ?_)
      ·
        obtain ⟨s3, hs4, hm⟩ := Ml.wp_asInt hm
        have hv5 := v_int (hS.im (i := 0) rfl) hs4
        subst hv5
        refine ev_to (ev_chainB (a := decide (0 ≤ s3)) (b := decide (s3 ≤ 9999)) ev_c (ev_var rfl) (fun _ => ev_c) (fun Q q => r_I0 Q q) (fun _ Q q => r_I0 Q q)) ?_
        -- changed: im_v_thing
        exact nx _ _ hm (hS.sel [0, 1] (by decide) rfl)
      ·
        exact nx _ _ hm (hS.sel [0, 1] (by decide) rfl)
    ·
      exact hm _ (hS.sel [1] (by decide) rfl)
def sp_Letter___init__ (G : Gx) : Sp := fun vs H Q E => ∃ (a_v_self d_v_self : Addr) (a_v_sender : V) (v_sender : Any) (a_v_title : V) (v_title : Any) (a_v_body : V) (v_body : Any) (a_v_day : V) (v_day : Any) (a_v_answers : V) (v_answers : Any) (F : Asn G), vs = [.ref a_v_self, a_v_sender, a_v_title, a_v_body, a_v_day, a_v_answers] ∧ Im.im G H a_v_sender v_sender ∧ Im.im G H a_v_title v_title ∧ Im.im G H a_v_body v_body ∧ Im.im G H a_v_day v_day ∧ Im.im G H a_v_answers v_answers ∧ Sep H ([cell a_v_self (.ins (G.cl 16) d_v_self []), F] : List (Asn G)) ∧ R.wp (m_Letter___init__ v_sender v_title v_body v_day v_answers) (fun r => ∀ H', Sep H' ([imA (.ref a_v_self) (r : Letter), F] : List (Asn G)) → Q .non H') (fun x => ∀ H', Sep H' ([F] : List (Asn G)) → Eok G x E H')
abbrev N_Letter___init__ : List Str := ["self", "sender", "title", "body", "day", "answers"]
theorem sc_Letter___init__ : FnScope N_Letter___init__ ["self", "sender", "title", "body", "day", "answers"] (defScope s_Letter___init__) := ⟨rfl, rfl, rfl, by decide +kernel, rfl, by decide +kernel, by decide +kernel⟩
theorem ok_Letter___init__ (T : Txt G mg) : FnOk P w G.K mg base (L2.CX P w) 3 T.a_Letter___init__ T.fd_Letter___init__ ["self", "sender", "title", "body", "day", "answers"] (sp_Letter___init__ G) := by
  have nd := sc_Letter___init__.nd
  refine FunD.ok T.F_Letter___init__ sc_Letter___init__ (fun vs H Q E h => ?_) (fun cdv A outer s H vs Q E hr h => ?_)
  · obtain ⟨a_v_self, d_v_self, a_v_sender, v_sender, a_v_title, v_title, a_v_body, v_body, a_v_day, v_day, a_v_answers, v_answers, F, rfl, _⟩ := h; rfl
  · obtain ⟨a_v_self, d_v_self, a_v_sender, v_sender, a_v_title, v_title, a_v_body, v_body, a_v_day, v_day, a_v_answers, v_answers, F, rfl, him_v_sender, him_v_title, him_v_body, him_v_day, him_v_answers, hS, hm⟩ := h
    have hS := hS.addIm him_v_sender
    have hS := hS.addIm him_v_title
    have hS := hS.addIm him_v_body
    have hS := hS.addIm him_v_day
    have hS := hS.addIm him_v_answers
    refine ⟨_, (pss_cons (ps_if (PW.pt (pw_or (pt_not (pt_val (pe_call (ok_is_word T) (hr.mono (by decide)) rfl T.g_is_word T.kp_is_word T.b_is_word .nil pass0 (pa_cons (pv 1) pa_nil)))) (pw_or (pt_not (pt_val (pe_call (ok_is_text T) (hr.mono (by decide)) rfl T.g_is_text T.kp_is_text T.b_is_text .nil pass0 (pa_cons (pv 2) (pa_cons (pe_glob (v := .int 60) rfl T.c_MOST_TITLE ⟨_, rfl⟩) pa_nil))))) (pw_or1 (pt_cmpR op_inSg pe_str (pv 2) (by rfl)))))) (pss_one (ps_raise rfl (takes_of rfl rfl rfl rfl) (pmk_own PySem.F.excBase_ValueError T.x_NoLetter T.g_NoLetter T.kp_NoLetter (T.r_NoLetter rfl) rfl))) pss_nil)
      (pss_cons (ps_if (PW.pt (pw_or (pt_not (pt_val (pe_call (ok_is_text T) (hr.mono (by decide)) rfl T.g_is_text T.kp_is_text T.b_is_text .nil pass0 (pa_cons (pv 3) (pa_cons (pe_glob (v := .int 400) rfl T.c_MOST_BODY ⟨_, rfl⟩) pa_nil))))) (pw_or1 (pt_not (pt_val (pe_call (ok_is_day T) (hr.mono (by decide)) rfl T.g_is_day T.kp_is_day T.b_is_day .nil pass0 (pa_cons (pv 4) pa_nil))))))) (pss_one (ps_raise rfl (takes_of rfl rfl rfl rfl) (pmk_own PySem.F.excBase_ValueError T.x_NoLetter T.g_NoLetter T.kp_NoLetter (T.r_NoLetter rfl) rfl))) pss_nil)
      (pss_cons (ps_if (PW.pt (pw_and (pt_cmpR (neDK G.K hr.units) (pv 5) pe_str (nomark _)) (pw_and1 (pt_not (pt_val (pe_call (ok_is_word T) (hr.mono (by decide)) rfl T.g_is_word T.kp_is_word T.b_is_word .nil pass0 (pa_cons (pv 5) pa_nil))))))) (pss_one (ps_raise rfl (takes_of rfl rfl rfl rfl) (pmk_own PySem.F.excBase_ValueError T.x_NoLetter T.g_NoLetter T.kp_NoLetter (T.r_NoLetter rfl) rfl))) pss_nil)
      (pss_cons (ps_fld (pv 0) (pv 1) rfl)
      (pss_cons (ps_fld (pv 0) (pv 2) rfl)
      (pss_cons (ps_fld (pv 0) (pv 3) rfl)
      (pss_cons (ps_fld (pv 0) (pv 4) rfl)
      (pss_one (ps_fld (pv 0) (pv 5) rfl))))))))), ?_⟩
    unfold m_Letter___init__ at hm
    refine f_seq ?_
    refine f_if ?_
    refine f_or ?_
    refine f_not ?_
    refine f_B ?_
    refine c_call ?_
    refine ea_to (ea_cons (ev_var rfl) ea_nil) ?_
    refine ⟨a_v_sender, (v_sender : Any), star [imA a_v_answers (v_answers : Any), imA a_v_day (v_day : Any), imA a_v_body (v_body : Any), imA a_v_title (v_title : Any), imA a_v_sender (v_sender : Any), cell a_v_self (.ins (G.cl 16) d_v_self []), F], rfl, (hS.im (i := 4) rfl), Sep.unstar (M := []) (hS.sel [0, 1, 2, 3, 4, 5, 6] (by decide) rfl : Sep H (([] ++ [imA a_v_answers (v_answers : Any), imA a_v_day (v_day : Any), imA a_v_body (v_body : Any), imA a_v_title (v_title : Any), imA a_v_sender (v_sender : Any), cell a_v_self (.ins (G.cl 16) d_v_self []), F] : List (Asn G)))), R.wp_mono (R.wp_noexc hm) (fun r1 hm H hS => ?_) (fun _ z => z)⟩
    have hS : Sep H ([imA a_v_answers (v_answers : Any), imA a_v_day (v_day : Any), imA a_v_body (v_body : Any), imA a_v_title (v_title : Any), imA a_v_sender (v_sender : Any), cell a_v_self (.ins (G.cl 16) d_v_self []), F] : List (Asn G)) := Sep.star (M := []) hS
    refine f_bl ?_
    refine f_nK ?_
    refine orK_J hm hS (fun hb q hm nx => ?_) (fun b2 H hm hS => ?_)
    ·
      refine f_or ?_
      refine f_not ?_
      refine f_B ?_
      refine c_call ?_
      refine ea_to (ea_cons (ev_var rfl) (ea_cons ev_c ea_nil)) ?_
      refine ⟨a_v_title, (v_title : Any), 60, star [imA a_v_answers (v_answers : Any), imA a_v_day (v_day : Any), imA a_v_body (v_body : Any), imA a_v_title (v_title : Any), imA a_v_sender (v_sender : Any), cell a_v_self (.ins (G.cl 16) d_v_self []), F], rfl, (hS.im (i := 3) rfl), Sep.unstar (M := []) (hS.sel [0, 1, 2, 3, 4, 5, 6] (by decide) rfl : Sep H (([] ++ [imA a_v_answers (v_answers : Any), imA a_v_day (v_day : Any), imA a_v_body (v_body : Any), imA a_v_title (v_title : Any), imA a_v_sender (v_sender : Any), cell a_v_self (.ins (G.cl 16) d_v_self []), F] : List (Asn G)))), R.wp_mono (R.wp_noexc hm) (fun r3 hm H hS => ?_) (fun _ z => z)⟩
      have hS : Sep H ([imA a_v_answers (v_answers : Any), imA a_v_day (v_day : Any), imA a_v_body (v_body : Any), imA a_v_title (v_title : Any), imA a_v_sender (v_sender : Any), cell a_v_self (.ins (G.cl 16) d_v_self []), F] : List (Asn G)) := Sep.star (M := []) hS
      refine f_bl ?_
      refine f_nK ?_
      refine orK_J hm hS (fun hb q hm nx => ?_) (fun b4 H hm hS => ?_)
      ·
        obtain ⟨s5, hs6, hm⟩ := Ml.wp_asStr hm
        have hv7 := v_str (hS.im (i := 3) rfl) hs6
        subst hv7
        refine et_to (et_test (ev_inSg (c := 10) ev_c (ev_var rfl))) ?_
        -- changed: im_v_title
        exact nx _ _ hm (hS.sel [0, 1, 2, 3, 4, 5, 6] (by decide) rfl)
      ·
        exact nx _ _ hm (hS.sel [0, 1, 2, 3, 4, 5, 6] (by decide) rfl)
    ·
      refine ifK_2 (fun hb8 => ?_) (fun hb8 => ?_)
      · have hm := R.wp_ifY hm hb8
        exact hm _ (hS.sel [6] (by decide) rfl)
      · have hm := R.wp_ifN hm (by first | (rw [hb8]; decide) | simpa using hb8)
        refine st_nx ?_
        refine sq_nx ?_
        refine f_seq ?_
        refine f_if ?_
        refine f_or ?_
        refine f_not ?_
        refine f_B ?_
        refine c_call ?_
        refine ea_to (ea_cons (ev_var rfl) (ea_cons ev_c ea_nil)) ?_
        refine ⟨a_v_body, (v_body : Any), 400, star [imA a_v_answers (v_answers : Any), imA a_v_day (v_day : Any), imA a_v_body (v_body : Any), imA a_v_title (v_title : Any), imA a_v_sender (v_sender : Any), cell a_v_self (.ins (G.cl 16) d_v_self []), F], rfl, (hS.im (i := 2) rfl), Sep.unstar (M := []) (hS.sel [0, 1, 2, 3, 4, 5, 6] (by decide) rfl : Sep H (([] ++ [imA a_v_answers (v_answers : Any), imA a_v_day (v_day : Any), imA a_v_body (v_body : Any), imA a_v_title (v_title : Any), imA a_v_sender (v_sender : Any), cell a_v_self (.ins (G.cl 16) d_v_self []), F] : List (Asn G)))), R.wp_mono (R.wp_noexc hm) (fun r9 hm H hS => ?_) (fun _ z => z)⟩
        have hS : Sep H ([imA a_v_answers (v_answers : Any), imA a_v_day (v_day : Any), imA a_v_body (v_body : Any), imA a_v_title (v_title : Any), imA a_v_sender (v_sender : Any), cell a_v_self (.ins (G.cl 16) d_v_self []), F] : List (Asn G)) := Sep.star (M := []) hS
        refine f_bl ?_
        refine f_nK ?_
        refine orK_J hm hS (fun hb q hm nx => ?_) (fun b10 H hm hS => ?_)
        ·
          refine f_not ?_
          refine f_B ?_
          refine c_call ?_
          refine ea_to (ea_cons (ev_var rfl) ea_nil) ?_
          refine ⟨a_v_day, (v_day : Any), star [imA a_v_answers (v_answers : Any), imA a_v_day (v_day : Any), imA a_v_body (v_body : Any), imA a_v_title (v_title : Any), imA a_v_sender (v_sender : Any), cell a_v_self (.ins (G.cl 16) d_v_self []), F], rfl, (hS.im (i := 1) rfl), Sep.unstar (M := []) (hS.sel [0, 1, 2, 3, 4, 5, 6] (by decide) rfl : Sep H (([] ++ [imA a_v_answers (v_answers : Any), imA a_v_day (v_day : Any), imA a_v_body (v_body : Any), imA a_v_title (v_title : Any), imA a_v_sender (v_sender : Any), cell a_v_self (.ins (G.cl 16) d_v_self []), F] : List (Asn G)))), R.wp_mono (R.wp_noexc hm) (fun r11 hm H hS => ?_) (fun _ z => z)⟩
          have hS : Sep H ([imA a_v_answers (v_answers : Any), imA a_v_day (v_day : Any), imA a_v_body (v_body : Any), imA a_v_title (v_title : Any), imA a_v_sender (v_sender : Any), cell a_v_self (.ins (G.cl 16) d_v_self []), F] : List (Asn G)) := Sep.star (M := []) hS
          refine f_bl ?_
          refine f_nK ?_
          exact nx _ _ hm (hS.sel [0, 1, 2, 3, 4, 5, 6] (by decide) rfl)
        ·
          refine ifK_2 (fun hb12 => ?_) (fun hb12 => ?_)
          · have hm := R.wp_ifY hm hb12
            exact hm _ (hS.sel [6] (by decide) rfl)
          · have hm := R.wp_ifN hm (by first | (rw [hb12]; decide) | simpa using hb12)
            refine st_nx ?_
            refine sq_nx ?_
            refine f_seq ?_
            refine f_if ?_
            refine f_and ?_
            obtain ⟨b13, hb13, hm⟩ := wp_eqA hm
            refine et_to (et_test (ev_neA (ev_var rfl) ev_c (hS.im (i := 0) rfl) (any_str.mpr rfl) hb13)) ?_
            refine andK_J hm hS (fun hb q hm nx => ?_) (fun b14 H hm hS => ?_)
            ·
              refine f_not ?_
              refine f_B ?_
              refine c_call ?_
              refine ea_to (ea_cons (ev_var rfl) ea_nil) ?_
              refine ⟨a_v_answers, (v_answers : Any), star [imA a_v_answers (v_answers : Any), imA a_v_day (v_day : Any), imA a_v_body (v_body : Any), imA a_v_title (v_title : Any), imA a_v_sender (v_sender : Any), cell a_v_self (.ins (G.cl 16) d_v_self []), F], rfl, (hS.im (i := 0) rfl), Sep.unstar (M := []) (hS.sel [0, 1, 2, 3, 4, 5, 6] (by decide) rfl : Sep H (([] ++ [imA a_v_answers (v_answers : Any), imA a_v_day (v_day : Any), imA a_v_body (v_body : Any), imA a_v_title (v_title : Any), imA a_v_sender (v_sender : Any), cell a_v_self (.ins (G.cl 16) d_v_self []), F] : List (Asn G)))), R.wp_mono (R.wp_noexc hm) (fun r15 hm H hS => ?_) (fun _ z => z)⟩
              have hS : Sep H ([imA a_v_answers (v_answers : Any), imA a_v_day (v_day : Any), imA a_v_body (v_body : Any), imA a_v_title (v_title : Any), imA a_v_sender (v_sender : Any), cell a_v_self (.ins (G.cl 16) d_v_self []), F] : List (Asn G)) := Sep.star (M := []) hS
              refine f_bl ?_
              refine f_nK ?_
              exact nx _ _ hm (hS.sel [0, 1, 2, 3, 4, 5, 6] (by decide) rfl)
            ·
              refine ifK_2 (fun hb16 => ?_) (fun hb16 => ?_)
              · have hm := R.wp_ifY hm hb16
                exact hm _ (hS.sel [6] (by decide) rfl)
              · have hm := R.wp_ifN hm (by first | (rw [hb16]; decide) | simpa using hb16)
                refine st_nx ?_
                refine sq_nx ?_
                refine f_seq ?_
                refine c_sfld ?_
                refine ev_to (ev_var rfl) ?_
                obtain ⟨s17, hs18, hm⟩ := Ml.wp_asStr hm
                have hv19 := v_str (hS.im (i := 4) rfl) hs18
                subst hv19
                refine ev_to (ev_var rfl) ?_
                refine k_sfld (fs' := [("sender", (.str (s17)))]) hS (i := 5) rfl T.cl_Letter T.n_Letter_sender rfl (by show 0 < 1000; decide) (by show decide (G.fz (G.cl 16) = some 1) = false; rw [T.fz_Letter]; rfl) rfl fun H hS => ?_
                have hS : Sep H ([imA a_v_answers (v_answers : Any), imA a_v_day (v_day : Any), imA a_v_body (v_body : Any), imA a_v_title (v_title : Any), imA (.str (s17)) (v_sender : Any), cell a_v_self (.ins (G.cl 16) d_v_self [("sender", (.str (s17)))]), F] : List (Asn G)) := hS
                refine sq_nx ?_
                refine f_seq ?_
                refine c_sfld ?_
                refine ev_to (ev_var rfl) ?_
                obtain ⟨s20, hs21, hm⟩ := Ml.wp_asStr hm
                have hv22 := v_str (hS.im (i := 3) rfl) hs21
                subst hv22
                refine ev_to (ev_var rfl) ?_
                refine k_sfld (fs' := [("sender", (.str (s17))), ("title", (.str (s20)))]) hS (i := 5) rfl T.cl_Letter T.n_Letter_title rfl (by show 1 < 1000; decide) (by show decide (G.fz (G.cl 16) = some 2) = false; rw [T.fz_Letter]; rfl) rfl fun H hS => ?_
                have hS : Sep H ([imA a_v_answers (v_answers : Any), imA a_v_day (v_day : Any), imA a_v_body (v_body : Any), imA (.str (s20)) (v_title : Any), imA (.str (s17)) (v_sender : Any), cell a_v_self (.ins (G.cl 16) d_v_self [("sender", (.str (s17))), ("title", (.str (s20)))]), F] : List (Asn G)) := hS
                refine sq_nx ?_
                refine f_seq ?_
                refine c_sfld ?_
                refine ev_to (ev_var rfl) ?_
                obtain ⟨s23, hs24, hm⟩ := Ml.wp_asStr hm
                have hv25 := v_str (hS.im (i := 2) rfl) hs24
                subst hv25
                refine ev_to (ev_var rfl) ?_
                refine k_sfld (fs' := [("sender", (.str (s17))), ("title", (.str (s20))), ("body", (.str (s23)))]) hS (i := 5) rfl T.cl_Letter T.n_Letter_body rfl (by show 2 < 1000; decide) (by show decide (G.fz (G.cl 16) = some 3) = false; rw [T.fz_Letter]; rfl) rfl fun H hS => ?_
                have hS : Sep H ([imA a_v_answers (v_answers : Any), imA a_v_day (v_day : Any), imA (.str (s23)) (v_body : Any), imA (.str (s20)) (v_title : Any), imA (.str (s17)) (v_sender : Any), cell a_v_self (.ins (G.cl 16) d_v_self [("sender", (.str (s17))), ("title", (.str (s20))), ("body", (.str (s23)))]), F] : List (Asn G)) := hS
                refine sq_nx ?_
                refine f_seq ?_
                refine c_sfld ?_
                refine ev_to (ev_var rfl) ?_
                obtain ⟨s26, hs27, hm⟩ := Ml.wp_asInt hm
                have hv28 := v_int (hS.im (i := 1) rfl) hs27
                subst hv28
                refine ev_to (ev_var rfl) ?_
                refine k_sfld (fs' := [("sender", (.str (s17))), ("title", (.str (s20))), ("body", (.str (s23))), ("day", (.int (s26)))]) hS (i := 5) rfl T.cl_Letter T.n_Letter_day rfl (by show 3 < 1000; decide) (by show decide (G.fz (G.cl 16) = some 4) = false; rw [T.fz_Letter]; rfl) rfl fun H hS => ?_
                have hS : Sep H ([imA a_v_answers (v_answers : Any), imA (.int (s26)) (v_day : Any), imA (.str (s23)) (v_body : Any), imA (.str (s20)) (v_title : Any), imA (.str (s17)) (v_sender : Any), cell a_v_self (.ins (G.cl 16) d_v_self [("sender", (.str (s17))), ("title", (.str (s20))), ("body", (.str (s23))), ("day", (.int (s26)))]), F] : List (Asn G)) := hS
                refine sq_nx ?_
                refine c_sfld ?_
                refine ev_to (ev_var rfl) ?_
                obtain ⟨s29, hs30, hm⟩ := Ml.wp_asStr hm
                have hv31 := v_str (hS.im (i := 0) rfl) hs30
                subst hv31
                refine ev_to (ev_var rfl) ?_
                refine k_sfldP (fs' := [("sender", (.str (s17))), ("title", (.str (s20))), ("body", (.str (s23))), ("day", (.int (s26))), ("answers", (.str (s29)))]) hS (i := 5) rfl T.cl_Letter T.n_Letter_answers rfl (by show 4 < 1000; decide) (by show decide (G.fz (G.cl 16) = some 5) = true; rw [T.fz_Letter]; rfl) rfl fun H hO hT hS => ?_
                have hS : Sep H ([imA (.str (s29)) (v_answers : Any), imA (.int (s26)) (v_day : Any), imA (.str (s23)) (v_body : Any), imA (.str (s20)) (v_title : Any), imA (.str (s17)) (v_sender : Any), F] : List (Asn G)) := hS
                have hS := hS.addIm (v := (.ref a_v_self)) (x := (⟨s17, s20, s23, s26, s29⟩ : Letter)) (mk_Letter T.fz_Letter hO)
                exact hm _ (hS.sel [0, 6] (by decide) rfl)
def sp_Letter_parts (G : Gx) : Sp := fun vs H Q E => ∃ (a_v_self : Addr) (v_self : Letter) (F : Asn G), vs = [(.ref a_v_self)] ∧ Im.im G H (.ref a_v_self) v_self ∧ Sep H ([F] : List (Asn G)) ∧ R.wp (m_Letter_parts v_self) (fun r => ∀ (p : Addr) H', Sep H' ([imA (.ref p) (r : (T5 Str Str Str Int Str)), F] : List (Asn G)) → Q (.ref p) H') (fun _ => False)
abbrev N_Letter_parts : List Str := ["self"]
theorem sc_Letter_parts : FnScope N_Letter_parts ["self"] (defScope s_Letter_parts) := ⟨rfl, rfl, rfl, by decide +kernel, rfl, by decide +kernel, by decide +kernel⟩
theorem ok_Letter_parts (T : Txt G mg) : FnOk P w G.K mg base CX0 1 T.a_Letter_parts T.fd_Letter_parts ["self"] (sp_Letter_parts G) := by
  have nd := sc_Letter_parts.nd
  refine Fun.ok T.F_Letter_parts sc_Letter_parts (fun vs H Q E h => ?_) (fun cdv A outer s H vs Q E hr h => ?_)
  · obtain ⟨a_v_self, v_self, F, rfl, _⟩ := h; rfl
  · obtain ⟨a_v_self, v_self, F, rfl, him_v_self, hS, hm⟩ := h
    have hS := hS.addIm him_v_self
    refine ⟨_, (pss_one (ps_ret (pe_tup (pa_cons (pe_fld (pv 0) rfl) (pa_cons (pe_fld (pv 0) rfl) (pa_cons (pe_fld (pv 0) rfl) (pa_cons (pe_fld (pv 0) rfl) (pa_cons (pe_fld (pv 0) rfl) pa_nil)))))))), ?_⟩
    unfold m_Letter_parts at hm
    refine c_ret ?_
    refine c_tup ?_
    obtain ⟨d1, hO2⟩ := im_Letter (hS.im (i := 0) rfl)
    obtain ⟨d3, hO4⟩ := im_Letter (hS.im (i := 0) rfl)
    obtain ⟨d5, hO6⟩ := im_Letter (hS.im (i := 0) rfl)
    obtain ⟨d7, hO8⟩ := im_Letter (hS.im (i := 0) rfl)
    obtain ⟨d9, hO10⟩ := im_Letter (hS.im (i := 0) rfl)
    refine ea_to (ea_cons (ev_fld (ev_var rfl) hO2 T.cl_Letter T.n_Letter_sender rfl) (ea_cons (ev_fld (ev_var rfl) hO4 T.cl_Letter T.n_Letter_title rfl) (ea_cons (ev_fld (ev_var rfl) hO6 T.cl_Letter T.n_Letter_body rfl) (ea_cons (ev_fld (ev_var rfl) hO8 T.cl_Letter T.n_Letter_day rfl) (ea_cons (ev_fld (ev_var rfl) hO10 T.cl_Letter T.n_Letter_answers rfl) ea_nil))))) ?_
    refine k_tupP (x := ((⟨v_self.sender, v_self.title, v_self.body, v_self.day, v_self.answers⟩ : T5 _ _ _ _ _) : (T5 Str Str Str Int Str))) hS (fun H' p h s => mk5 rfl rfl rfl rfl rfl h s) (by show 5 ≤ sizeLine; decide) fun p11 H hS => ?_
    exact hm _ _ (hS.sel [0, 2] (by decide) rfl)
def sp_Letter_title_words (G : Gx) : Sp := fun vs H Q E => ∃ (a_v_self : Addr) (v_self : Letter) (F : Asn G), vs = [(.ref a_v_self)] ∧ Im.im G H (.ref a_v_self) v_self ∧ Sep H ([F] : List (Asn G)) ∧ R.wp (m_Letter_title_words v_self) (fun r => ∀ p H', Sep H' ([lstA p (r : (List Str)), F] : List (Asn G)) → Q (.ref p) H') (fun _ => False)
abbrev N_Letter_title_words : List Str := ["self"]
theorem sc_Letter_title_words : FnScope N_Letter_title_words ["self"] (defScope s_Letter_title_words) := ⟨rfl, rfl, rfl, by decide +kernel, rfl, by decide +kernel, by decide +kernel⟩
theorem ok_Letter_title_words (T : Txt G mg) : FnOk P w G.K mg base CX0 3 T.a_Letter_title_words T.fd_Letter_title_words ["self"] (sp_Letter_title_words G) := by
  have nd := sc_Letter_title_words.nd
  refine Fun.ok T.F_Letter_title_words sc_Letter_title_words (fun vs H Q E h => ?_) (fun cdv A outer s H vs Q E hr h => ?_)
  · obtain ⟨a_v_self, v_self, F, rfl, _⟩ := h; rfl
  · obtain ⟨a_v_self, v_self, F, rfl, him_v_self, hS, hm⟩ := h
    have hS := hS.addIm him_v_self
    refine ⟨_, (pss_one (ps_ret (pe_fz (pe_call (ok_each_once T) (hr.mono (by decide)) rfl T.g_each_once T.kp_each_once T.b_each_once .nil pass0 (pa_cons (pe_fz (pe_call (ok_words_of T) (hr.mono (by decide)) rfl T.g_words_of T.kp_words_of T.b_words_of .nil pass0 (pa_cons (pe_fld (pv 0) rfl) pa_nil))) pa_nil))))), ?_⟩
    unfold m_Letter_title_words at hm
    refine c_ret ?_
    refine c_fz ?_
    refine c_call ?_
    refine c_cons ?_
    refine c_fz ?_
    refine c_call ?_
    obtain ⟨d1, hO2⟩ := im_Letter (hS.im (i := 0) rfl)
    refine ea_to (ea_cons (ev_fld (ev_var rfl) hO2 T.cl_Letter T.n_Letter_title rfl) ea_nil) ?_
    refine ⟨v_self.title, star [imA (.ref a_v_self) (v_self : Letter), F], rfl, Sep.unstar (M := []) (hS.sel [0, 1] (by decide) rfl : Sep H (([] ++ [imA (.ref a_v_self) (v_self : Letter), F] : List (Asn G)))), R.wp_mono (R.wp_bind hm) (fun r3 hm p4 H hS => ?_) (fun _ z => z)⟩
    have hS : Sep H ([lstA p4 (r3 : (List Str)), imA (.ref a_v_self) (v_self : Letter), F] : List (Asn G)) := Sep.star (M := [lstA p4 (r3 : (List Str))]) hS
    refine fz_no ?_
    refine c_nil ?_
    refine ⟨p4, (r3 : (List Str)), star [imA (.ref a_v_self) (v_self : Letter), F], rfl, Sep.unstar (M := [lstA p4 (r3 : (List Str))]) (hS.sel [0, 1, 2] (by decide) rfl : Sep H (([lstA p4 (r3 : (List Str))] ++ [imA (.ref a_v_self) (v_self : Letter), F] : List (Asn G)))), R.wp_mono (R.wp_bind hm) (fun r5 hm p6 H hS => ?_) (fun _ z => z)⟩
    have hS : Sep H ([lstA p6 (r5 : (List Str)), lstA p4 (r3 : (List Str)), imA (.ref a_v_self) (v_self : Letter), F] : List (Asn G)) := Sep.star (M := [lstA p6 (r5 : (List Str)), lstA p4 (r3 : (List Str))]) hS
    refine fz_no ?_
    exact hm _ _ (hS.sel [0, 3] (by decide) rfl)
def sp_Letter_words (G : Gx) : Sp := fun vs H Q E => ∃ (a_v_self : Addr) (v_self : Letter) (F : Asn G), vs = [(.ref a_v_self)] ∧ Im.im G H (.ref a_v_self) v_self ∧ Sep H ([F] : List (Asn G)) ∧ R.wp (m_Letter_words v_self) (fun r => ∀ p H', Sep H' ([lstA p (r : (List Str)), F] : List (Asn G)) → Q (.ref p) H') (fun _ => False)
abbrev N_Letter_words : List Str := ["self"]
theorem sc_Letter_words : FnScope N_Letter_words ["self"] (defScope s_Letter_words) := ⟨rfl, rfl, rfl, by decide +kernel, rfl, by decide +kernel, by decide +kernel⟩
theorem ok_Letter_words (T : Txt G mg) : FnOk P w G.K mg base CX0 3 T.a_Letter_words T.fd_Letter_words ["self"] (sp_Letter_words G) := by
  have nd := sc_Letter_words.nd
  refine Fun.ok T.F_Letter_words sc_Letter_words (fun vs H Q E h => ?_) (fun cdv A outer s H vs Q E hr h => ?_)
  · obtain ⟨a_v_self, v_self, F, rfl, _⟩ := h; rfl
  · obtain ⟨a_v_self, v_self, F, rfl, him_v_self, hS, hm⟩ := h
    have hS := hS.addIm him_v_self
    refine ⟨_, (pss_one (ps_ret (pe_fz (pe_call (ok_each_once T) (hr.mono (by decide)) rfl T.g_each_once T.kp_each_once T.b_each_once .nil pass0 (pa_cons (pe_fz (pe_op op_catR (pe_fz (pe_call (ok_words_of T) (hr.mono (by decide)) rfl T.g_words_of T.kp_words_of T.b_words_of .nil pass0 (pa_cons (pe_fld (pv 0) rfl) pa_nil))) (pe_fz (pe_call (ok_words_of T) (hr.mono (by decide)) rfl T.g_words_of T.kp_words_of T.b_words_of .nil pass0 (pa_cons (pe_fld (pv 0) rfl) pa_nil))))) pa_nil))))), ?_⟩
    unfold m_Letter_words at hm
    refine c_ret ?_
    refine c_fz ?_
    refine c_call ?_
    refine c_cons ?_
    refine c_fz ?_
    refine c_op ?_
    refine c_fz ?_
    refine c_call ?_
    obtain ⟨d1, hO2⟩ := im_Letter (hS.im (i := 0) rfl)
    refine ea_to (ea_cons (ev_fld (ev_var rfl) hO2 T.cl_Letter T.n_Letter_title rfl) ea_nil) ?_
    refine ⟨v_self.title, star [imA (.ref a_v_self) (v_self : Letter), F], rfl, Sep.unstar (M := []) (hS.sel [0, 1] (by decide) rfl : Sep H (([] ++ [imA (.ref a_v_self) (v_self : Letter), F] : List (Asn G)))), R.wp_mono (R.wp_bind hm) (fun r3 hm p4 H hS => ?_) (fun _ z => z)⟩
    have hS : Sep H ([lstA p4 (r3 : (List Str)), imA (.ref a_v_self) (v_self : Letter), F] : List (Asn G)) := Sep.star (M := [lstA p4 (r3 : (List Str))]) hS
    refine fz_no ?_
    refine c_fz ?_
    refine c_call ?_
    obtain ⟨d5, hO6⟩ := im_Letter (hS.im (i := 1) rfl)
    refine ea_to (ea_cons (ev_fld (ev_var rfl) hO6 T.cl_Letter T.n_Letter_body rfl) ea_nil) ?_
    refine ⟨v_self.body, star [lstA p4 (r3 : (List Str)), imA (.ref a_v_self) (v_self : Letter), F], rfl, Sep.unstar (M := []) (hS.sel [0, 1, 2] (by decide) rfl : Sep H (([] ++ [lstA p4 (r3 : (List Str)), imA (.ref a_v_self) (v_self : Letter), F] : List (Asn G)))), R.wp_mono (R.wp_bind hm) (fun r7 hm p8 H hS => ?_) (fun _ z => z)⟩
    have hS : Sep H ([lstA p8 (r7 : (List Str)), lstA p4 (r3 : (List Str)), imA (.ref a_v_self) (v_self : Letter), F] : List (Asn G)) := Sep.star (M := [lstA p8 (r7 : (List Str))]) hS
    refine fz_no ?_
    obtain ⟨h9, hm⟩ := R.wp_need hm
    refine k_catG hS (hS.rdL (i := 1) rfl) (hS.rdL (i := 0) rfl) h9 fun p10 H hS => ?_
    refine fz_no ?_
    refine c_nil ?_
    refine ⟨p10, (r3 ++ r7 : (List Str)), star [lstA p8 (r7 : (List Str)), lstA p4 (r3 : (List Str)), imA (.ref a_v_self) (v_self : Letter), F], rfl, Sep.unstar (M := [lstA p10 (r3 ++ r7 : (List Str))]) (hS.sel [0, 1, 2, 3, 4] (by decide) rfl : Sep H (([lstA p10 (r3 ++ r7 : (List Str))] ++ [lstA p8 (r7 : (List Str)), lstA p4 (r3 : (List Str)), imA (.ref a_v_self) (v_self : Letter), F] : List (Asn G)))), R.wp_mono (R.wp_bind hm) (fun r11 hm p12 H hS => ?_) (fun _ z => z)⟩
    have hS : Sep H ([lstA p12 (r11 : (List Str)), lstA p10 (r3 ++ r7 : (List Str)), lstA p8 (r7 : (List Str)), lstA p4 (r3 : (List Str)), imA (.ref a_v_self) (v_self : Letter), F] : List (Asn G)) := Sep.star (M := [lstA p12 (r11 : (List Str)), lstA p10 (r3 ++ r7 : (List Str))]) hS
    refine fz_no ?_
    exact hm _ _ (hS.sel [0, 5] (by decide) rfl)
def sp_law_cell_at (G : Gx) : Sp := fun vs H Q E => ∃ (a_v_law_script : V) (v_law_script : Script) (v_law_k : Int) (F : Asn G), vs = [a_v_law_script, (.int (v_law_k))] ∧ Im.im G H a_v_law_script v_law_script ∧ Sep H ([F] : List (Asn G)) ∧ R.wp (m_law_cell_at v_law_script v_law_k) (fun r => ∀ H', Sep H' ([F] : List (Asn G)) → Q (.int (r)) H') (fun _ => False)
abbrev N_law_cell_at : List Str := ["_law_script", "_law_k"]
theorem sc_law_cell_at : FnScope N_law_cell_at ["_law_script", "_law_k"] (defScope s_law_cell_at) := ⟨rfl, rfl, rfl, by decide +kernel, rfl, by decide +kernel, by decide +kernel⟩
theorem ok_law_cell_at (T : Txt G mg) : FnOk P w G.K mg base CX0 1 T.a_law_cell_at T.fd_law_cell_at ["_law_script", "_law_k"] (sp_law_cell_at G) := by
  have nd := sc_law_cell_at.nd
  refine Fun.ok T.F_law_cell_at sc_law_cell_at (fun vs H Q E h => ?_) (fun cdv A outer s H vs Q E hr h => ?_)
  · obtain ⟨a_v_law_script, v_law_script, v_law_k, F, rfl, _⟩ := h; rfl
  · obtain ⟨a_v_law_script, v_law_script, v_law_k, F, rfl, him_v_law_script, hS, hm⟩ := h
    obtain ⟨ad_v_law_script, rfl, _⟩ := im_script him_v_law_script
    have hS := hS.addIm him_v_law_script
    refine ⟨_, (pss_cons (ps_if (pt_cmpR op_lt (pv 1) (pe_callB (lenSqK G.K) (by rfl) T.z_len PySem.boot_len (pa_cons (pv 0) pa_nil)) (nomark _)) (pss_one (ps_ret (pe_ix (ix_listK G.K) (pv 0) (pv 1) (fun _ _ => rfl)))) pss_nil)
      (pss_one (ps_ret pe_int))), ?_⟩
    unfold m_law_cell_at at hm
    refine f_seq ?_
    refine f_if ?_
    refine et_to (et_test (ev_i0 (ev_var rfl) (ev_lenLm (ev_var rfl) (sq_script (hS.im (i := 0) rfl))))) ?_
    refine ifK_2 (fun hb1 => ?_) (fun hb1 => ?_)
    · have hm := R.wp_ifY hm hb1
      refine c_ret ?_
      obtain ⟨x2, hx2, hm⟩ := wp_idx hm
      refine ev_to (ev_ixSq (ev_var rfl) (ev_var rfl) (sq_script (hS.im (i := 0) rfl)) (atI_map hx2)) ?_
      exact hm _ (hS.sel [1] (by decide) rfl)
    · have hm := R.wp_ifN hm (by first | (rw [hb1]; decide) | simpa using hb1)
      refine st_nx ?_
      refine sq_nx ?_
      refine c_ret ?_
      refine ev_to ev_c ?_
      exact hm _ (hS.sel [1] (by decide) rfl)
def sp_law_mixed (G : Gx) : Sp := fun vs H Q E => ∃ (a_v_law_script : V) (v_law_script : Script) (v_law_start : Int) (v_law_many : Int) (F : Asn G), vs = [a_v_law_script, (.int (v_law_start)), (.int (v_law_many))] ∧ Im.im G H a_v_law_script v_law_script ∧ Sep H ([F] : List (Asn G)) ∧ R.wp (m_law_mixed v_law_script v_law_start v_law_many) (fun r => ∀ p H', Sep H' ([lstA p (r : (List Int)), F] : List (Asn G)) → Q (.ref p) H') (fun _ => False)
abbrev N_law_mixed : List Str := ["_law_script", "_law_start", "_law_many", "_law_found", "_law_more", "_law_k"]
theorem sc_law_mixed : FnScope N_law_mixed ["_law_script", "_law_start", "_law_many"] (defScope s_law_mixed) := ⟨rfl, rfl, rfl, by decide +kernel, rfl, by decide +kernel, by decide +kernel⟩
theorem ok_law_mixed (T : Txt G mg) : FnOk P w G.K mg base CX0 2 T.a_law_mixed T.fd_law_mixed ["_law_script", "_law_start", "_law_many"] (sp_law_mixed G) := by
  have nd := sc_law_mixed.nd
  refine Fun.ok T.F_law_mixed sc_law_mixed (fun vs H Q E h => ?_) (fun cdv A outer s H vs Q E hr h => ?_)
  · obtain ⟨a_v_law_script, v_law_script, v_law_start, v_law_many, F, rfl, _⟩ := h; rfl
  · obtain ⟨a_v_law_script, v_law_script, v_law_start, v_law_many, F, rfl, him_v_law_script, hS, hm⟩ := h
    obtain ⟨ad_v_law_script, rfl, _⟩ := im_script him_v_law_script
    have hS := hS.addIm him_v_law_script
    refine ⟨_, (pss_cons (ps_set (i := 3) nd rfl (Or.inl rfl) (pe_fz (pe_lst pa_nil)))
      (pss_cons (ps_set (i := 4) nd rfl (Or.inl rfl) pe_int)
      (pss_cons (ps_for PassesOwn.never rfl (pi_range1 rfl T.z_range (pa_cons (pv 2) pa_nil)) (pg_name (i := 5) nd rfl (Or.inl rfl)) (pss_cons (ps_set (i := 4) nd rfl (Or.inl rfl) (pe_op op_mod (pe_op op_add (pe_op op_add (pe_op op_add (pe_op op_mul (pv 4) pe_int) (pe_call (ok_law_cell_at T) (hr.mono (by decide)) rfl T.g_law_cell_at T.kp_law_cell_at T.b_law_cell_at .nil pass0 (pa_cons (pv 0) (pa_cons (pe_op op_add (pv 1) (pv 5)) pa_nil)))) (pe_op op_mul pe_int (pv 5))) pe_int) pe_int))
      (pss_one (ps_expr (pe_bmK G.K PySem.F.plainAttrs_list PySem.F.slot_list_append PySem.F.type_list_append mt_append (pe_fz (pv 3)) (pa_cons (pe_op op_mod (pe_op op_mul (pv 4) (pv 4)) pe_int) pa_nil))))))
      (pss_one (ps_ret (pe_fz (pv 3))))))), ?_⟩
    unfold m_law_mixed at hm
    refine f_seq ?_
    refine c_asg ?_
    refine c_fz ?_
    refine c_lst ?_
    refine ea_to ea_nil ?_
    refine k_lst (α := Int) (vs := []) (xs := ([] : (List Int))) hS True.intro (by show 0 ≤ sizeLine; decide) fun p1 H hS => ?_
    refine fz_no ?_
    refine c_set (σ' := [some (.ref ad_v_law_script), some (.int (v_law_start)), some (.int (v_law_many)), some (.ref p1), none, none]) rfl ?_
    refine sq_nx ?_
    refine f_seq ?_
    refine c_asg ?_
    refine ev_to ev_c ?_
    refine c_set (σ' := [some (.ref ad_v_law_script), some (.int (v_law_start)), some (.int (v_law_many)), some (.ref p1), some (.int (7)), none]) rfl ?_
    refine sq_nx ?_
    refine f_seq ?_
    refine c_for ?_
    refine c_rng1 ?_
    refine ea_to (ea_cons (ev_var rfl) ea_nil) ?_
    obtain ⟨h2, hm⟩ := R.wp_need hm
    refine k_rng1 h2.1 h2.2 ?_
    refine k_for (τ := (List Int) × Int) (fun (s3 : (List Int) × Int) (σ : L2.St) (H : Hp) => ∃ (w6 : Option V), σ = [some (.ref ad_v_law_script), some (.int (v_law_start)), some (.int (v_law_many)), some (.ref p1), some (.int (s3.2)), w6] ∧ Sep H ([lstA p1 (s3.1 : (List Int)), imA (.ref ad_v_law_script) v_law_script, F] : List (Asn G))) (im := (fun _ v (x : Int) => v = .int x)) (s := (([] : (List Int)), 7)) (fun _ => wk_range) ⟨_, rfl, hS.sel [0, 1, 2] (by decide) rfl⟩ hm (fun s3 x4 v5 σ H q N hI hx hm nx => ?_) (fun s3 σ H hm hI => ?_)
    ·
      obtain ⟨w6, rfl, hS⟩ := hI
      cases hx
      refine c_gN (σ' := [some (.ref ad_v_law_script), some (.int (v_law_start)), some (.int (v_law_many)), some (.ref p1), some (.int (s3.2)), some (.int (x4))]) rfl ?_
      refine f_seq ?_
      refine c_asg ?_
      refine c_op ?_
      refine c_op ?_
      refine c_op ?_
      refine c_op ?_
      refine ev_to (ev_mul (ev_var rfl) ev_c (.inr (by constructor <;> decide))) ?_
      refine c_call ?_
      refine ea_to (ea_cons (ev_var rfl) (ea_cons (ev_add (ev_var rfl) (ev_var rfl)) ea_nil)) ?_
      refine ⟨_, v_law_script, (v_law_start + x4), star [lstA p1 (s3.1 : (List Int)), imA (.ref ad_v_law_script) v_law_script, F], rfl, (hS.im (i := 1) rfl), Sep.unstar (M := []) (hS.sel [0, 1, 2] (by decide) rfl : Sep H (([] ++ [lstA p1 (s3.1 : (List Int)), imA (.ref ad_v_law_script) v_law_script, F] : List (Asn G)))), R.wp_mono (R.wp_bind hm) (fun r7 hm H hS => ?_) (fun _ z => z)⟩
      have hS : Sep H ([lstA p1 (s3.1 : (List Int)), imA (.ref ad_v_law_script) v_law_script, F] : List (Asn G)) := Sep.star (M := []) hS
      refine r_I0 _ ?_
      refine ev_to (ev_mul ev_c (ev_var rfl) (.inl (by constructor <;> decide))) ?_
      refine r_I0 _ ?_
      refine ev_to ev_c ?_
      refine r_I0 _ ?_
      refine ev_to ev_c ?_
      refine r_mod (by decide) ?_
      obtain ⟨y8, hy8, hm⟩ := wp_let hm
      refine n_is (w := (.int (y8))) (by rw [hy8]) ?_
      refine c_set (σ' := [some (.ref ad_v_law_script), some (.int (v_law_start)), some (.int (v_law_many)), some (.ref p1), some (.int (y8)), some (.int (x4))]) rfl ?_
      refine sq_nx ?_
      refine c_drop ?_
      refine c_bm ?_
      refine ev_to (ev_fz (ev_var rfl)) ⟨tyL hS (i := 0) rfl, ?_⟩
      obtain ⟨h9, hm⟩ := R.wp_need hm
      refine ea_to (ea_cons (ev_mod (ev_mul (ev_var rfl) (ev_var rfl) h9) ev_c (by decide)) ea_nil) ?_
      obtain ⟨h10, hm⟩ := R.wp_need hm
      refine k_append (x := (y8 * y8) % 2147483629) hS (i := 0) rfl rfl h10 rfl fun H hS => ?_
      exact nx _ _ _ hm ⟨_, rfl, hS.sel [0, 1, 2] (by decide) rfl⟩
    · obtain ⟨w6, rfl, hS⟩ := hI
      refine sq_nx ?_
      refine c_ret ?_
      refine ev_to (ev_fz (ev_var rfl)) ?_
      exact hm _ _ (hS.sel [0, 2] (by decide) rfl)
def sp_law_word_by (G : Gx) : Sp := fun vs H Q E => ∃ (v_law_shape : Int) (v_law_k : Int) (F : Asn G), vs = [(.int (v_law_shape)), (.int (v_law_k))] ∧ Sep H ([F] : List (Asn G)) ∧ R.wp (m_law_word_by v_law_shape v_law_k) (fun r => ∀ H', Sep H' ([F] : List (Asn G)) → Q (.str (r)) H') (fun _ => False)
abbrev N_law_word_by : List Str := ["_law_shape", "_law_k", "_law_own", "_law_place", "_law_word", "_law_turn"]
theorem sc_law_word_by : FnScope N_law_word_by ["_law_shape", "_law_k"] (defScope s_law_word_by) := ⟨rfl, rfl, rfl, by decide +kernel, rfl, by decide +kernel, by decide +kernel⟩
theorem ok_law_word_by (T : Txt G mg) : FnOk P w G.K mg base CX0 1 T.a_law_word_by T.fd_law_word_by ["_law_shape", "_law_k"] (sp_law_word_by G) := by
  have nd := sc_law_word_by.nd
  refine Fun.ok T.F_law_word_by sc_law_word_by (fun vs H Q E h => ?_) (fun cdv A outer s H vs Q E hr h => ?_)
  · obtain ⟨v_law_shape, v_law_k, F, rfl, _⟩ := h; rfl
  · obtain ⟨v_law_shape, v_law_k, F, rfl, hS, hm⟩ := h
    refine ⟨_, (pss_cons (ps_if (pt_cmpR op_eq (pe_op op_mod (pv 0) pe_int) pe_int (nomark _)) (pss_cons (ps_set (i := 2) nd rfl (Or.inl rfl) (pe_fz (pe_lst (pa_cons pe_str (pa_cons pe_str (pa_cons pe_str (pa_cons pe_str (pa_cons pe_str (pa_cons pe_str (pa_cons pe_str (pa_cons pe_str (pa_cons pe_str (pa_cons pe_str (pa_cons pe_str (pa_cons pe_str pa_nil)))))))))))))))
      (pss_cons (ps_set (i := 2) nd rfl (Or.inl rfl) (pe_fz (pe_op op_catR (pe_fz (pv 2)) (pe_fz (pe_lst (pa_cons pe_str (pa_cons pe_str (pa_cons pe_str (pa_cons pe_str (pa_cons pe_str (pa_cons pe_str (pa_cons pe_str (pa_cons pe_str (pa_cons pe_str pa_nil))))))))))))))
      (pss_one (ps_ret (pe_ix (ix_listK G.K) (pe_fz (pv 2)) (pe_op op_mod (pe_op op_add (pe_op op_fdiv (pv 0) pe_int) (pe_op op_mul pe_int (pv 1))) pe_int) (fun _ _ => rfl)))))) pss_nil)
      (pss_cons (ps_set (i := 3) nd rfl (Or.inl rfl) (pe_op op_mod (pe_op op_fdiv (pv 0) pe_int) pe_int))
      (pss_cons (ps_set (i := 4) nd rfl (Or.inl rfl) pe_str)
      (pss_cons (ps_for PassesOwn.never rfl (pi_range1 rfl T.z_range (pa_cons (pe_op op_add (pe_op op_add (pv 3) pe_int) (pe_op op_mod (pe_op op_fdiv (pv 0) pe_int) (pe_op op_sub pe_int (pv 3)))) pa_nil)) (pg_name (i := 5) nd rfl (Or.inl rfl)) (pss_one (ps_if (pt_cmpR op_eq (pv 5) (pv 3) (nomark _)) (pss_one (ps_set (i := 4) nd rfl (Or.inl rfl) (pe_op op_catS (pv 4) (pe_ix ix_str pe_str (pv 1) (fun _ _ => rfl))))) (pss_one (ps_set (i := 4) nd rfl (Or.inl rfl) (pe_op op_catS (pv 4) (pe_ix ix_str pe_str (pe_op op_mod (pe_op op_add (pe_op op_fdiv (pv 0) pe_int) (pe_op op_mul pe_int (pv 5))) pe_int) (fun _ _ => rfl))))))))
      (pss_one (ps_ret (pv 4))))))), ?_⟩
    unfold m_law_word_by at hm
    refine f_seq ?_
    refine f_if ?_
    refine et_to (et_test (ev_eqI (ev_mod (ev_var rfl) ev_c (by decide)) ev_c)) ?_
    refine ifK_2 (fun hb1 => ?_) (fun hb1 => ?_)
    · have hm := R.wp_ifY hm hb1
      refine f_seq ?_
      refine c_asg ?_
      refine c_fz ?_
      refine c_lst ?_
      refine ea_to (ea_cons ev_c (ea_cons ev_c (ea_cons ev_c (ea_cons ev_c (ea_cons ev_c (ea_cons ev_c (ea_cons ev_c (ea_cons ev_c (ea_cons ev_c (ea_cons ev_c (ea_cons ev_c (ea_cons ev_c ea_nil)))))))))))) ?_
      refine k_lst (α := Str) (vs := [(.str (("and" : Str))), (.str (("or" : Str))), (.str (("not" : Str))), (.str (("then" : Str))), (.str (("if" : Str))), (.str (("thread" : Str))), (.str (("to" : Str))), (.str (("any" : Str))), (.str (("day" : Str))), (.str (("stop" : Str))), (.str (("place" : Str))), (.str (("answers" : Str)))]) (xs := [("and" : Str), ("or" : Str), ("not" : Str), ("then" : Str), ("if" : Str), ("thread" : Str), ("to" : Str), ("any" : Str), ("day" : Str), ("stop" : Str), ("place" : Str), ("answers" : Str)]) hS ⟨rfl, ⟨rfl, ⟨rfl, ⟨rfl, ⟨rfl, ⟨rfl, ⟨rfl, ⟨rfl, ⟨rfl, ⟨rfl, ⟨rfl, ⟨rfl, True.intro⟩⟩⟩⟩⟩⟩⟩⟩⟩⟩⟩⟩ (by show 12 ≤ sizeLine; decide) fun p2 H hS => ?_
      refine fz_no ?_
      obtain ⟨y3, hy3, hm⟩ := wp_let hm
      have hS : Sep H ([lstA p2 (y3 : (List Str)), F] : List (Asn G)) := by rw [← hy3]; exact hS
      refine c_set (σ' := [some (.int (v_law_shape)), some (.int (v_law_k)), some (.ref p2), none, none, none]) rfl ?_
      refine sq_nx ?_
      refine f_seq ?_
      refine c_asg ?_
      refine c_fz ?_
      refine c_op ?_
      refine ev_to (ev_fz (ev_var rfl)) ?_
      refine c_fz ?_
      refine c_lst ?_
      refine ea_to (ea_cons ev_c (ea_cons ev_c (ea_cons ev_c (ea_cons ev_c (ea_cons ev_c (ea_cons ev_c (ea_cons ev_c (ea_cons ev_c (ea_cons ev_c ea_nil))))))))) ?_
      refine k_lst (α := Str) (vs := [(.str (("before" : Str))), (.str (("after" : Str))), (.str (("word" : Str))), (.str (("title" : Str))), (.str (("from" : Str))), (.str (("in" : Str))), (.str (("marked" : Str))), (.str (("mark" : Str))), (.str (("unmark" : Str)))]) (xs := [("before" : Str), ("after" : Str), ("word" : Str), ("title" : Str), ("from" : Str), ("in" : Str), ("marked" : Str), ("mark" : Str), ("unmark" : Str)]) hS ⟨rfl, ⟨rfl, ⟨rfl, ⟨rfl, ⟨rfl, ⟨rfl, ⟨rfl, ⟨rfl, ⟨rfl, True.intro⟩⟩⟩⟩⟩⟩⟩⟩⟩ (by show 9 ≤ sizeLine; decide) fun p4 H hS => ?_
      refine fz_no ?_
      obtain ⟨h5, hm⟩ := R.wp_need hm
      refine k_catG hS (hS.rdL (i := 1) rfl) (hS.rdL (i := 0) rfl) h5 fun p6 H hS => ?_
      refine fz_no ?_
      obtain ⟨y7, hy7, hm⟩ := wp_let hm
      have hS : Sep H ([lstA p6 (y7 : (List Str)), lstA p4 ([("before" : Str), ("after" : Str), ("word" : Str), ("title" : Str), ("from" : Str), ("in" : Str), ("marked" : Str), ("mark" : Str), ("unmark" : Str)] : (List Str)), lstA p2 (y3 : (List Str)), F] : List (Asn G)) := by rw [← hy7]; exact hS
      refine c_set (σ' := [some (.int (v_law_shape)), some (.int (v_law_k)), some (.ref p6), none, none, none]) rfl ?_
      refine sq_nx ?_
      refine c_ret ?_
      obtain ⟨x8, hx8, hm⟩ := wp_idx hm
      refine ev_to (ev_ixSq (ev_fz (ev_var rfl)) (ev_mod (ev_add (ev_fdiv (ev_var rfl) ev_c ⟨by decide, by decide⟩) (ev_mul ev_c (ev_var rfl) (.inl (by constructor <;> decide)))) ev_c (by decide)) (hS.sqF (i := 0) rfl) (atI_map hx8)) ?_
      exact hm _ (hS.sel [3] (by decide) rfl)
    · have hm := R.wp_ifN hm (by first | (rw [hb1]; decide) | simpa using hb1)
      refine st_nx ?_
      refine sq_nx ?_
      refine f_seq ?_
      refine c_asg ?_
      refine ev_to (ev_mod (ev_fdiv (ev_var rfl) ev_c ⟨by decide, by decide⟩) ev_c (by decide)) ?_
      obtain ⟨y9, hy9, hm⟩ := wp_let hm
      refine n_is (w := (.int (y9))) (by rw [hy9]) ?_
      refine c_set (σ' := [some (.int (v_law_shape)), some (.int (v_law_k)), none, some (.int (y9)), none, none]) rfl ?_
      refine sq_nx ?_
      refine f_seq ?_
      refine c_asg ?_
      refine ev_to ev_c ?_
      refine c_set (σ' := [some (.int (v_law_shape)), some (.int (v_law_k)), none, some (.int (y9)), some (.str (("" : Str))), none]) rfl ?_
      refine sq_nx ?_
      refine f_seq ?_
      refine c_for ?_
      refine c_rng1 ?_
      obtain ⟨h10, hm⟩ := R.wp_need hm
      refine ea_to (ea_cons (ev_add (ev_add (ev_var rfl) ev_c) (ev_mod (ev_fdiv (ev_var rfl) ev_c ⟨by decide, by decide⟩) (ev_sub ev_c (ev_var rfl)) h10)) ea_nil) ?_
      obtain ⟨h11, hm⟩ := R.wp_need hm
      refine k_rng1 h11.1 h11.2 ?_
      refine k_for (τ := Str) (fun (s12 : Str) (σ : L2.St) (H : Hp) => ∃ (w15 : Option V), σ = [some (.int (v_law_shape)), some (.int (v_law_k)), none, some (.int (y9)), some (.str (s12)), w15] ∧ Sep H ([F] : List (Asn G))) (im := (fun _ v (x : Int) => v = .int x)) (s := (("" : Str))) (fun _ => wk_range) ⟨_, rfl, hS.sel [0] (by decide) rfl⟩ hm (fun s12 x13 v14 σ H q N hI hx hm nx => ?_) (fun s12 σ H hm hI => ?_)
      ·
        obtain ⟨w15, rfl, hS⟩ := hI
        cases hx
        refine c_gN (σ' := [some (.int (v_law_shape)), some (.int (v_law_k)), none, some (.int (y9)), some (.str (s12)), some (.int (x13))]) rfl ?_
        refine f_if ?_
        refine et_to (et_test (ev_eqI (ev_var rfl) (ev_var rfl))) ?_
        refine ifK_J (τ := Str) (fun (s16 : Str) (σ : L2.St) (H : Hp) => σ = [some (.int (v_law_shape)), some (.int (v_law_k)), none, some (.int (y9)), some (.str (s16)), some (.int (x13))] ∧ Sep H ([F] : List (Asn G))) hm (fun hb q hm nx => ?_) (fun hb q hm nx => ?_) (fun s16 σ H hm hI => ?_)
        ·
          refine c_asg ?_
          obtain ⟨c17, hc17, hm⟩ := wp_idx hm
          obtain ⟨h18, hm⟩ := R.wp_need hm
          refine ev_to (ev_catS (ev_var rfl) (ev_ixS ev_c (ev_var rfl) (by decide +kernel) hc17) h18) ?_
          obtain ⟨y19, hy19, hm⟩ := wp_let hm
          refine n_is (w := (.str (y19))) (by rw [hy19]) ?_
          refine c_set (σ' := [some (.int (v_law_shape)), some (.int (v_law_k)), none, some (.int (y9)), some (.str (y19)), some (.int (x13))]) rfl ?_
          exact nx _ _ _ hm ⟨rfl, hS.sel [0] (by decide) rfl⟩
        ·
          refine c_asg ?_
          obtain ⟨c20, hc20, hm⟩ := wp_idx hm
          obtain ⟨h21, hm⟩ := R.wp_need hm
          refine ev_to (ev_catS (ev_var rfl) (ev_ixS ev_c (ev_mod (ev_add (ev_fdiv (ev_var rfl) ev_c ⟨by decide, by decide⟩) (ev_mul ev_c (ev_var rfl) (.inl (by constructor <;> decide)))) ev_c (by decide)) (by decide +kernel) hc20) h21) ?_
          obtain ⟨y22, hy22, hm⟩ := wp_let hm
          refine n_is (w := (.str (y22))) (by rw [hy22]) ?_
          refine c_set (σ' := [some (.int (v_law_shape)), some (.int (v_law_k)), none, some (.int (y9)), some (.str (y22)), some (.int (x13))]) rfl ?_
          exact nx _ _ _ hm ⟨rfl, hS.sel [0] (by decide) rfl⟩
        · obtain ⟨rfl, hS⟩ := hI
          exact nx _ _ _ hm ⟨_, rfl, hS.sel [0] (by decide) rfl⟩
      · obtain ⟨w15, rfl, hS⟩ := hI
        refine sq_nx ?_
        refine c_ret ?_
        refine ev_to (ev_var rfl) ?_
        exact hm _ (hS.sel [0] (by decide) rfl)
def sp_law_text_by (G : Gx) : Sp := fun vs H Q E => ∃ (v_law_shape : Int) (a_v_law_cells : Addr) (v_law_cells : (List Int)) (F : Asn G), vs = [(.int (v_law_shape)), .ref a_v_law_cells] ∧ Sep H ([lstA a_v_law_cells (v_law_cells : (List Int)), F] : List (Asn G)) ∧ R.wp (m_law_text_by v_law_shape v_law_cells) (fun r => ∀ H', Sep H' ([lstA a_v_law_cells (v_law_cells : (List Int)), F] : List (Asn G)) → Q (.str (r)) H') (fun _ => False)
abbrev N_law_text_by : List Str := ["_law_shape", "_law_cells", "_law_text", "_law_cell", "_law_word"]
theorem sc_law_text_by : FnScope N_law_text_by ["_law_shape", "_law_cells"] (defScope s_law_text_by) := ⟨rfl, rfl, rfl, by decide +kernel, rfl, by decide +kernel, by decide +kernel⟩
theorem ok_law_text_by (T : Txt G mg) : FnOk P w G.K mg base CX0 2 T.a_law_text_by T.fd_law_text_by ["_law_shape", "_law_cells"] (sp_law_text_by G) := by
  have nd := sc_law_text_by.nd
  refine Fun.ok T.F_law_text_by sc_law_text_by (fun vs H Q E h => ?_) (fun cdv A outer s H vs Q E hr h => ?_)
  · obtain ⟨v_law_shape, a_v_law_cells, v_law_cells, F, rfl, _⟩ := h; rfl
  · obtain ⟨v_law_shape, a_v_law_cells, v_law_cells, F, rfl, hS, hm⟩ := h
    refine ⟨_, (pss_cons (ps_set (i := 2) nd rfl (Or.inl rfl) pe_str)
      (pss_cons (ps_for PassesOwn.never rfl (pi_listK G.K (pe_fz (pv 1))) (pg_name (i := 3) nd rfl (Or.inl rfl)) (pss_cons (ps_set (i := 4) nd rfl (Or.inl rfl) (pe_call (ok_law_word_by T) (hr.mono (by decide)) rfl T.g_law_word_by T.kp_law_word_by T.b_law_word_by .nil pass0 (pa_cons (pv 0) (pa_cons (pe_op op_mod (pv 3) pe_int) pa_nil))))
      (pss_cons (ps_if (pt_cmpR op_eq (pe_op op_mod (pe_op op_fdiv (pv 3) pe_int) pe_int) pe_int (nomark _)) (pss_one (ps_set (i := 4) nd rfl (Or.inl rfl) (pe_m0 PySem.F.slot_str_upper PySem.F.type_str_upper mt_upper (pv 4)))) pss_nil)
      (pss_cons (ps_set (i := 2) nd rfl (Or.inl rfl) (pe_op op_catS (pe_op op_catS (pv 2) (pe_ix (ix_listK G.K) (pe_fz (pe_lst (pa_cons pe_str (pa_cons pe_str (pa_cons pe_str (pa_cons pe_str pa_nil)))))) (pe_op op_mod (pe_op op_fdiv (pv 3) pe_int) pe_int) (fun _ _ => rfl))) (pv 4)))
      (pss_one (ps_set (i := 2) nd rfl (Or.inl rfl) (pe_op op_catS (pv 2) (pe_ix (ix_listK G.K) (pe_fz (pe_lst (pa_cons pe_str (pa_cons pe_str (pa_cons pe_str (pa_cons pe_str pa_nil)))))) (pe_op op_mod (pe_op op_fdiv (pv 3) pe_int) pe_int) (fun _ _ => rfl)))))))))
      (pss_one (ps_ret (pv 2))))), ?_⟩
    unfold m_law_text_by at hm
    refine f_seq ?_
    refine c_asg ?_
    refine ev_to ev_c ?_
    refine c_set (σ' := [some (.int (v_law_shape)), some (.ref a_v_law_cells), some (.str (("" : Str))), none, none]) rfl ?_
    refine sq_nx ?_
    refine f_seq ?_
    refine c_for ?_
    refine c_il ?_
    refine ev_to (ev_fz (ev_var rfl)) ?_
    refine k_il hS (i := 0) rfl ?_
    refine k_for (τ := Str) (fun (s1 : Str) (σ : L2.St) (H : Hp) => ∃ (w4 w5 : Option V), σ = [some (.int (v_law_shape)), some (.ref a_v_law_cells), some (.str (s1)), w4, w5] ∧ Sep H ([lstA a_v_law_cells (v_law_cells : (List Int)), F] : List (Asn G))) (im := (Im.im G)) (s := (("" : Str))) (fun _ => wk_list fun _ _ ⟨_, _, _, h⟩ => h.sq (i := 0) rfl) ⟨_, _, rfl, hS.sel [0, 1] (by decide) rfl⟩ hm (fun s1 x2 v3 σ H q N hI hx hm nx => ?_) (fun s1 σ H hm hI => ?_)
    ·
      obtain ⟨w4, w5, rfl, hS⟩ := hI
      cases hx
      refine c_gN (σ' := [some (.int (v_law_shape)), some (.ref a_v_law_cells), some (.str (s1)), some (.int (x2)), w5]) rfl ?_
      refine f_seq ?_
      refine c_asg ?_
      refine c_call ?_
      refine ea_to (ea_cons (ev_var rfl) (ea_cons (ev_mod (ev_var rfl) ev_c (by decide)) ea_nil)) ?_
      refine ⟨v_law_shape, (x2 % 5), star [lstA a_v_law_cells (v_law_cells : (List Int)), F], rfl, Sep.unstar (M := []) (hS.sel [0, 1] (by decide) rfl : Sep H (([] ++ [lstA a_v_law_cells (v_law_cells : (List Int)), F] : List (Asn G)))), R.wp_mono (R.wp_bind hm) (fun r6 hm H hS => ?_) (fun _ z => z)⟩
      have hS : Sep H ([lstA a_v_law_cells (v_law_cells : (List Int)), F] : List (Asn G)) := Sep.star (M := []) hS
      refine c_set (σ' := [some (.int (v_law_shape)), some (.ref a_v_law_cells), some (.str (s1)), some (.int (x2)), some (.str (r6))]) rfl ?_
      refine sq_nx ?_
      refine f_seq ?_
      refine f_if ?_
      refine et_to (et_test (ev_eqI (ev_mod (ev_fdiv (ev_var rfl) ev_c ⟨by decide, by decide⟩) ev_c (by decide)) ev_c)) ?_
      refine ifK_J (τ := Str) (fun (s7 : Str) (σ : L2.St) (H : Hp) => σ = [some (.int (v_law_shape)), some (.ref a_v_law_cells), some (.str (s1)), some (.int (x2)), some (.str (s7))] ∧ Sep H ([lstA a_v_law_cells (v_law_cells : (List Int)), F] : List (Asn G))) hm (fun hb q hm nx => ?_) (fun hb q hm nx => ?_) (fun s7 σ H hm hI => ?_)
      ·
        refine c_asg ?_
        obtain ⟨h8, hm⟩ := R.wp_need hm
        refine ev_to (ev_m0 (ev_var rfl) fun _ q => ⟨_, rfl, rfl, h8, q⟩) ?_
        obtain ⟨y9, hy9, hm⟩ := wp_let hm
        refine n_is (w := (.str (y9))) (by rw [hy9]) ?_
        refine c_set (σ' := [some (.int (v_law_shape)), some (.ref a_v_law_cells), some (.str (s1)), some (.int (x2)), some (.str (y9))]) rfl ?_
        exact nx _ _ _ hm ⟨rfl, hS.sel [0, 1] (by decide) rfl⟩
      ·
        refine st_nx ?_
        exact nx _ _ _ hm ⟨rfl, hS.sel [0, 1] (by decide) rfl⟩
      · obtain ⟨rfl, hS⟩ := hI
        refine sq_nx ?_
        refine f_seq ?_
        refine c_asg ?_
        refine c_op ?_
        refine c_op ?_
        refine ev_to (ev_var rfl) ?_
        refine c_op ?_
        refine c_fz ?_
        refine c_lst ?_
        refine ea_to (ea_cons ev_c (ea_cons ev_c (ea_cons ev_c (ea_cons ev_c ea_nil)))) ?_
        refine k_lst (α := Str) (vs := [(.str (("" : Str))), (.str ((" " : Str))), (.str (("!" : Str))), (.str (("(" : Str)))]) (xs := [("" : Str), (" " : Str), ("!" : Str), ("(" : Str)]) hS ⟨rfl, ⟨rfl, ⟨rfl, ⟨rfl, True.intro⟩⟩⟩⟩ (by show 4 ≤ sizeLine; decide) fun p10 H hS => ?_
        refine fz_no ?_
        refine ev_to (ev_mod (ev_fdiv (ev_var rfl) ev_c ⟨by decide, by decide⟩) ev_c (by decide)) ?_
        obtain ⟨x11, hx11, hm⟩ := wp_idx hm
        refine r_ixSq (hS.sqF (i := 0) rfl) (atI_map hx11) _ ?_
        obtain ⟨h12, hm⟩ := R.wp_need hm
        refine r_catS h12 _ ?_
        refine ev_to (ev_var rfl) ?_
        obtain ⟨h13, hm⟩ := R.wp_need hm
        refine r_catS h13 _ ?_
        obtain ⟨y14, hy14, hm⟩ := wp_let hm
        refine n_is (w := (.str (y14))) (by rw [hy14]) ?_
        refine c_set (σ' := [some (.int (v_law_shape)), some (.ref a_v_law_cells), some (.str (y14)), some (.int (x2)), some (.str (s7))]) rfl ?_
        refine sq_nx ?_
        refine c_asg ?_
        refine c_op ?_
        refine ev_to (ev_var rfl) ?_
        refine c_op ?_
        refine c_fz ?_
        refine c_lst ?_
        refine ea_to (ea_cons ev_c (ea_cons ev_c (ea_cons ev_c (ea_cons ev_c ea_nil)))) ?_
        refine k_lst (α := Str) (vs := [(.str ((" " : Str))), (.str ((", " : Str))), (.str (("-" : Str))), (.str ((": " : Str)))]) (xs := [(" " : Str), (", " : Str), ("-" : Str), (": " : Str)]) hS ⟨rfl, ⟨rfl, ⟨rfl, ⟨rfl, True.intro⟩⟩⟩⟩ (by show 4 ≤ sizeLine; decide) fun p15 H hS => ?_
        refine fz_no ?_
        refine ev_to (ev_mod (ev_fdiv (ev_var rfl) ev_c ⟨by decide, by decide⟩) ev_c (by decide)) ?_
        obtain ⟨x16, hx16, hm⟩ := wp_idx hm
        refine r_ixSq (hS.sqF (i := 0) rfl) (atI_map hx16) _ ?_
        obtain ⟨h17, hm⟩ := R.wp_need hm
        refine r_catS h17 _ ?_
        obtain ⟨y18, hy18, hm⟩ := wp_let hm
        refine n_is (w := (.str (y18))) (by rw [hy18]) ?_
        refine c_set (σ' := [some (.int (v_law_shape)), some (.ref a_v_law_cells), some (.str (y18)), some (.int (x2)), some (.str (s7))]) rfl ?_
        exact nx _ _ _ hm ⟨_, _, rfl, hS.sel [2, 3] (by decide) rfl⟩
    · obtain ⟨w4, w5, rfl, hS⟩ := hI
      refine sq_nx ?_
      refine c_ret ?_
      refine ev_to (ev_var rfl) ?_
      exact hm _ (hS.sel [0, 1] (by decide) rfl)
def sp_law_parts_by (G : Gx) : Sp := fun vs H Q E => ∃ (v_law_shape : Int) (a_v_law_cells : Addr) (v_law_cells : (List Int)) (F : Asn G), vs = [(.int (v_law_shape)), .ref a_v_law_cells] ∧ Sep H ([lstA a_v_law_cells (v_law_cells : (List Int)), F] : List (Asn G)) ∧ R.wp (m_law_parts_by v_law_shape v_law_cells) (fun r => ∀ (p : Addr) H', Sep H' ([imA (.ref p) (r : (T5 Str Str Str Int Str)), lstA a_v_law_cells (v_law_cells : (List Int)), F] : List (Asn G)) → Q (.ref p) H') (fun _ => False)
abbrev N_law_parts_by : List Str := ["_law_shape", "_law_cells", "_law_title", "_law_body", "_law_day", "_law_answers"]
theorem sc_law_parts_by : FnScope N_law_parts_by ["_law_shape", "_law_cells"] (defScope s_law_parts_by) := ⟨rfl, rfl, rfl, by decide +kernel, rfl, by decide +kernel, by decide +kernel⟩
theorem ok_law_parts_by (T : Txt G mg) : FnOk P w G.K mg base CX0 3 T.a_law_parts_by T.fd_law_parts_by ["_law_shape", "_law_cells"] (sp_law_parts_by G) := by
  have nd := sc_law_parts_by.nd
  refine Fun.ok T.F_law_parts_by sc_law_parts_by (fun vs H Q E h => ?_) (fun cdv A outer s H vs Q E hr h => ?_)
  · obtain ⟨v_law_shape, a_v_law_cells, v_law_cells, F, rfl, _⟩ := h; rfl
  · obtain ⟨v_law_shape, a_v_law_cells, v_law_cells, F, rfl, hS, hm⟩ := h
    refine ⟨_, (pss_cons (ps_set (i := 2) nd rfl (Or.inl rfl) (pe_call (ok_law_text_by T) (hr.mono (by decide)) rfl T.g_law_text_by T.kp_law_text_by T.b_law_text_by .nil pass0 (pa_cons (pv 0) (pa_cons (pe_fz (pe_slice (sl_listK G.K) (pe_fz (pv 1)) (po_some pe_int) (po_some (pe_op op_add pe_int (pe_op op_mod (pe_ix (ix_listK G.K) (pe_fz (pv 1)) pe_int (fun _ _ => rfl)) pe_int))))) pa_nil))))
      (pss_cons (ps_if (pt_cmpR op_eq (pe_op op_mod (pe_op op_fdiv (pe_ix (ix_listK G.K) (pe_fz (pv 1)) pe_int (fun _ _ => rfl)) pe_int) pe_int) pe_int (nomark _)) (pss_one (ps_set (i := 2) nd rfl (Or.inl rfl) (pe_bmK G.K PySem.F.plainAttrs_str PySem.F.slot_str_rstrip PySem.F.type_str_rstrip mt_rstripChars (pv 2) (pa_cons pe_str pa_nil)))) pss_nil)
      (pss_cons (ps_set (i := 3) nd rfl (Or.inl rfl) (pe_call (ok_law_text_by T) (hr.mono (by decide)) rfl T.g_law_text_by T.kp_law_text_by T.b_law_text_by .nil pass0 (pa_cons (pv 0) (pa_cons (pe_fz (pe_slice (sl_listK G.K) (pe_fz (pv 1)) (po_some pe_int) (po_some (pe_op op_add pe_int (pe_op op_mod (pe_op op_fdiv (pe_ix (ix_listK G.K) (pe_fz (pv 1)) pe_int (fun _ _ => rfl)) pe_int) pe_int))))) pa_nil))))
      (pss_cons (ps_set (i := 4) nd rfl (Or.inl rfl) (pe_ix (ix_listK G.K) (pe_fz (pe_lst (pa_cons pe_int (pa_cons pe_int (pa_cons (pe_op op_mod (pe_op op_fdiv (pe_ix (ix_listK G.K) (pe_fz (pv 1)) pe_int (fun _ _ => rfl)) pe_int) pe_int) (pa_cons (pe_op op_mod (pe_op op_fdiv (pe_ix (ix_listK G.K) (pe_fz (pv 1)) pe_int (fun _ _ => rfl)) pe_int) pe_int) pa_nil)))))) (pe_op op_mod (pe_ix (ix_listK G.K) (pe_fz (pv 1)) pe_int (fun _ _ => rfl)) pe_int) (fun _ _ => rfl)))
      (pss_cons (ps_set (i := 5) nd rfl (Or.inl rfl) (pe_ix (ix_listK G.K) (pe_fz (pe_lst (pa_cons pe_str (pa_cons (pe_call (ok_law_word_by T) (hr.mono (by decide)) rfl T.g_law_word_by T.kp_law_word_by T.b_law_word_by .nil pass0 (pa_cons (pv 0) (pa_cons (pe_op op_mod (pe_op op_fdiv (pe_ix (ix_listK G.K) (pe_fz (pv 1)) pe_int (fun _ _ => rfl)) pe_int) pe_int) pa_nil))) pa_nil)))) (pe_op op_mod (pe_op op_fdiv (pe_ix (ix_listK G.K) (pe_fz (pv 1)) pe_int (fun _ _ => rfl)) pe_int) pe_int) (fun _ _ => rfl)))
      (pss_one (ps_ret (pe_tup (pa_cons (pe_call (ok_law_word_by T) (hr.mono (by decide)) rfl T.g_law_word_by T.kp_law_word_by T.b_law_word_by .nil pass0 (pa_cons (pv 0) (pa_cons (pe_op op_mod (pe_op op_fdiv (pe_ix (ix_listK G.K) (pe_fz (pv 1)) pe_int (fun _ _ => rfl)) pe_int) pe_int) pa_nil))) (pa_cons (pv 2) (pa_cons (pv 3) (pa_cons (pv 4) (pa_cons (pv 5) pa_nil))))))))))))), ?_⟩
    unfold m_law_parts_by at hm
    refine f_seq ?_
    refine c_asg ?_
    refine c_call ?_
    refine c_cons ?_
    refine ev_to (ev_var rfl) ?_
    refine c_cons ?_
    refine c_fz ?_
    refine c_sl ?_
    refine ev_to (ev_fz (ev_var rfl)) ?_
    obtain ⟨x1, hx1, hm⟩ := wp_idx hm
    refine eo_to (eo_some ev_c) ?_
    refine eo_to (eo_some (ev_add ev_c (ev_mod (ev_ixSq (ev_fz (ev_var rfl)) ev_c (hS.sqF (i := 0) rfl) (atI_map hx1)) ev_c (by decide)))) ?_
    refine k_slG hS (hS.sq (i := 0) rfl) fun p2 H hS => ?_
    refine fz_no ?_
    refine c_nil ?_
    refine ⟨v_law_shape, p2, (cutL v_law_cells (some (1)) (some (1 + (x1 % 3))) : (List Int)), star [lstA a_v_law_cells (v_law_cells : (List Int)), F], rfl, Sep.unstar (M := [lstA p2 (cutL v_law_cells (some (1)) (some (1 + (x1 % 3))) : (List Int))]) (hS.sel [0, 1, 2] (by decide) rfl : Sep H (([lstA p2 (cutL v_law_cells (some (1)) (some (1 + (x1 % 3))) : (List Int))] ++ [lstA a_v_law_cells (v_law_cells : (List Int)), F] : List (Asn G)))), R.wp_mono (R.wp_bind hm) (fun r3 hm H hS => ?_) (fun _ z => z)⟩
    have hS : Sep H ([lstA p2 (cutL v_law_cells (some (1)) (some (1 + (x1 % 3))) : (List Int)), lstA a_v_law_cells (v_law_cells : (List Int)), F] : List (Asn G)) := Sep.star (M := [lstA p2 (cutL v_law_cells (some (1)) (some (1 + (x1 % 3))) : (List Int))]) hS
    refine c_set (σ' := [some (.int (v_law_shape)), some (.ref a_v_law_cells), some (.str (r3)), none, none, none]) rfl ?_
    refine sq_nx ?_
    refine f_seq ?_
    refine f_if ?_
    obtain ⟨x4, hx4, hm⟩ := wp_idx hm
    refine et_to (et_test (ev_eqI (ev_mod (ev_fdiv (ev_ixSq (ev_fz (ev_var rfl)) ev_c (hS.sqF (i := 1) rfl) (atI_map hx4)) ev_c ⟨by decide, by decide⟩) ev_c (by decide)) ev_c)) ?_
    refine ifK_J (τ := Str) (fun (s5 : Str) (σ : L2.St) (H : Hp) => σ = [some (.int (v_law_shape)), some (.ref a_v_law_cells), some (.str (s5)), none, none, none] ∧ Sep H ([lstA p2 (cutL v_law_cells (some (1)) (some (1 + (x1 % 3))) : (List Int)), lstA a_v_law_cells (v_law_cells : (List Int)), F] : List (Asn G))) hm (fun hb q hm nx => ?_) (fun hb q hm nx => ?_) (fun s5 σ H hm hI => ?_)
    ·
      refine c_asg ?_
      refine c_bm ?_
      refine ev_to (ev_var rfl) ?_
      refine ⟨tyStr, ?_⟩
      refine ea_to (ea_cons ev_c ea_nil) ?_
      obtain ⟨h6, hm⟩ := R.wp_need hm
      refine ⟨_, _, rfl, rfl, h6, ?_⟩
      obtain ⟨y7, hy7, hm⟩ := wp_let hm
      refine n_is (w := (.str (y7))) (by rw [hy7]) ?_
      refine c_set (σ' := [some (.int (v_law_shape)), some (.ref a_v_law_cells), some (.str (y7)), none, none, none]) rfl ?_
      exact nx _ _ _ hm ⟨rfl, hS.sel [0, 1, 2] (by decide) rfl⟩
    ·
      refine st_nx ?_
      exact nx _ _ _ hm ⟨rfl, hS.sel [0, 1, 2] (by decide) rfl⟩
    · obtain ⟨rfl, hS⟩ := hI
      refine sq_nx ?_
      refine f_seq ?_
      refine c_asg ?_
      refine c_call ?_
      refine c_cons ?_
      refine ev_to (ev_var rfl) ?_
      refine c_cons ?_
      refine c_fz ?_
      refine c_sl ?_
      refine ev_to (ev_fz (ev_var rfl)) ?_
      obtain ⟨x8, hx8, hm⟩ := wp_idx hm
      refine eo_to (eo_some ev_c) ?_
      refine eo_to (eo_some (ev_add ev_c (ev_mod (ev_fdiv (ev_ixSq (ev_fz (ev_var rfl)) ev_c (hS.sqF (i := 1) rfl) (atI_map hx8)) ev_c ⟨by decide, by decide⟩) ev_c (by decide)))) ?_
      refine k_slG hS (hS.sq (i := 1) rfl) fun p9 H hS => ?_
      refine fz_no ?_
      refine c_nil ?_
      refine ⟨v_law_shape, p9, (cutL v_law_cells (some (3)) (some (3 + ((x8 / 3) % 6))) : (List Int)), star [lstA p2 (cutL v_law_cells (some (1)) (some (1 + (x1 % 3))) : (List Int)), lstA a_v_law_cells (v_law_cells : (List Int)), F], rfl, Sep.unstar (M := [lstA p9 (cutL v_law_cells (some (3)) (some (3 + ((x8 / 3) % 6))) : (List Int))]) (hS.sel [0, 1, 2, 3] (by decide) rfl : Sep H (([lstA p9 (cutL v_law_cells (some (3)) (some (3 + ((x8 / 3) % 6))) : (List Int))] ++ [lstA p2 (cutL v_law_cells (some (1)) (some (1 + (x1 % 3))) : (List Int)), lstA a_v_law_cells (v_law_cells : (List Int)), F] : List (Asn G)))), R.wp_mono (R.wp_bind hm) (fun r10 hm H hS => ?_) (fun _ z => z)⟩
      have hS : Sep H ([lstA p9 (cutL v_law_cells (some (3)) (some (3 + ((x8 / 3) % 6))) : (List Int)), lstA p2 (cutL v_law_cells (some (1)) (some (1 + (x1 % 3))) : (List Int)), lstA a_v_law_cells (v_law_cells : (List Int)), F] : List (Asn G)) := Sep.star (M := [lstA p9 (cutL v_law_cells (some (3)) (some (3 + ((x8 / 3) % 6))) : (List Int))]) hS
      refine c_set (σ' := [some (.int (v_law_shape)), some (.ref a_v_law_cells), some (.str (s5)), some (.str (r10)), none, none]) rfl ?_
      refine sq_nx ?_
      refine f_seq ?_
      refine c_asg ?_
      refine c_op ?_
      refine c_fz ?_
      refine c_lst ?_
      obtain ⟨x11, hx11, hm⟩ := wp_idx hm
      obtain ⟨x12, hx12, hm⟩ := wp_idx hm
      refine ea_to (ea_cons ev_c (ea_cons ev_c (ea_cons (ev_mod (ev_fdiv (ev_ixSq (ev_fz (ev_var rfl)) ev_c (hS.sqF (i := 2) rfl) (atI_map hx11)) ev_c ⟨by decide, by decide⟩) ev_c (by decide)) (ea_cons (ev_mod (ev_fdiv (ev_ixSq (ev_fz (ev_var rfl)) ev_c (hS.sqF (i := 2) rfl) (atI_map hx12)) ev_c ⟨by decide, by decide⟩) ev_c (by decide)) ea_nil)))) ?_
      refine k_lst (α := Int) (vs := [(.int (0)), (.int (9999)), (.int ((x11 / 18) % 10000)), (.int ((x12 / 18) % 9))]) (xs := [0, 9999, (x11 / 18) % 10000, (x12 / 18) % 9]) hS ⟨rfl, ⟨rfl, ⟨rfl, ⟨rfl, True.intro⟩⟩⟩⟩ (by show 4 ≤ sizeLine; decide) fun p13 H hS => ?_
      refine fz_no ?_
      obtain ⟨x14, hx14, hm⟩ := wp_idx hm
      refine ev_to (ev_mod (ev_ixSq (ev_fz (ev_var rfl)) ev_c (hS.sqF (i := 3) rfl) (atI_map hx14)) ev_c (by decide)) ?_
      obtain ⟨x15, hx15, hm⟩ := wp_idx hm
      refine r_ixSq (hS.sqF (i := 0) rfl) (atI_map hx15) _ ?_
      refine c_set (σ' := [some (.int (v_law_shape)), some (.ref a_v_law_cells), some (.str (s5)), some (.str (r10)), some (.int (x15)), none]) rfl ?_
      refine sq_nx ?_
      refine f_seq ?_
      refine c_asg ?_
      refine c_op ?_
      refine c_fz ?_
      refine c_lst ?_
      refine c_cons ?_
      refine ev_to ev_c ?_
      refine c_cons ?_
      refine c_call ?_
      obtain ⟨x16, hx16, hm⟩ := wp_idx hm
      refine ea_to (ea_cons (ev_var rfl) (ea_cons (ev_mod (ev_fdiv (ev_ixSq (ev_fz (ev_var rfl)) ev_c (hS.sqF (i := 3) rfl) (atI_map hx16)) ev_c ⟨by decide, by decide⟩) ev_c (by decide)) ea_nil)) ?_
      refine ⟨v_law_shape, ((x16 / 4) % 5), star [lstA p13 ([0, 9999, (x11 / 18) % 10000, (x12 / 18) % 9] : (List Int)), lstA p9 (cutL v_law_cells (some (3)) (some (3 + ((x8 / 3) % 6))) : (List Int)), lstA p2 (cutL v_law_cells (some (1)) (some (1 + (x1 % 3))) : (List Int)), lstA a_v_law_cells (v_law_cells : (List Int)), F], rfl, Sep.unstar (M := []) (hS.sel [0, 1, 2, 3, 4] (by decide) rfl : Sep H (([] ++ [lstA p13 ([0, 9999, (x11 / 18) % 10000, (x12 / 18) % 9] : (List Int)), lstA p9 (cutL v_law_cells (some (3)) (some (3 + ((x8 / 3) % 6))) : (List Int)), lstA p2 (cutL v_law_cells (some (1)) (some (1 + (x1 % 3))) : (List Int)), lstA a_v_law_cells (v_law_cells : (List Int)), F] : List (Asn G)))), R.wp_mono (R.wp_bind hm) (fun r17 hm H hS => ?_) (fun _ z => z)⟩
      have hS : Sep H ([lstA p13 ([0, 9999, (x11 / 18) % 10000, (x12 / 18) % 9] : (List Int)), lstA p9 (cutL v_law_cells (some (3)) (some (3 + ((x8 / 3) % 6))) : (List Int)), lstA p2 (cutL v_law_cells (some (1)) (some (1 + (x1 % 3))) : (List Int)), lstA a_v_law_cells (v_law_cells : (List Int)), F] : List (Asn G)) := Sep.star (M := []) hS
      refine c_nil ?_
      refine k_lst (α := Str) (vs := [(.str (("" : Str))), (.str (r17))]) (xs := [("" : Str), r17]) hS ⟨rfl, ⟨rfl, True.intro⟩⟩ (by show 2 ≤ sizeLine; decide) fun p18 H hS => ?_
      refine fz_no ?_
      obtain ⟨x19, hx19, hm⟩ := wp_idx hm
      refine ev_to (ev_mod (ev_fdiv (ev_ixSq (ev_fz (ev_var rfl)) ev_c (hS.sqF (i := 4) rfl) (atI_map hx19)) ev_c ⟨by decide, by decide⟩) ev_c (by decide)) ?_
      obtain ⟨x20, hx20, hm⟩ := wp_idx hm
      refine r_ixSq (hS.sqF (i := 0) rfl) (atI_map hx20) _ ?_
      refine c_set (σ' := [some (.int (v_law_shape)), some (.ref a_v_law_cells), some (.str (s5)), some (.str (r10)), some (.int (x15)), some (.str (x20))]) rfl ?_
      refine sq_nx ?_
      refine c_ret ?_
      refine c_tup ?_
      refine c_cons ?_
      refine c_call ?_
      obtain ⟨x21, hx21, hm⟩ := wp_idx hm
      refine ea_to (ea_cons (ev_var rfl) (ea_cons (ev_mod (ev_fdiv (ev_ixSq (ev_fz (ev_var rfl)) ev_c (hS.sqF (i := 4) rfl) (atI_map hx21)) ev_c ⟨by decide, by decide⟩) ev_c (by decide)) ea_nil)) ?_
      refine ⟨v_law_shape, ((x21 / 40) % 5), star [lstA p18 ([("" : Str), r17] : (List Str)), lstA p13 ([0, 9999, (x11 / 18) % 10000, (x12 / 18) % 9] : (List Int)), lstA p9 (cutL v_law_cells (some (3)) (some (3 + ((x8 / 3) % 6))) : (List Int)), lstA p2 (cutL v_law_cells (some (1)) (some (1 + (x1 % 3))) : (List Int)), lstA a_v_law_cells (v_law_cells : (List Int)), F], rfl, Sep.unstar (M := []) (hS.sel [0, 1, 2, 3, 4, 5] (by decide) rfl : Sep H (([] ++ [lstA p18 ([("" : Str), r17] : (List Str)), lstA p13 ([0, 9999, (x11 / 18) % 10000, (x12 / 18) % 9] : (List Int)), lstA p9 (cutL v_law_cells (some (3)) (some (3 + ((x8 / 3) % 6))) : (List Int)), lstA p2 (cutL v_law_cells (some (1)) (some (1 + (x1 % 3))) : (List Int)), lstA a_v_law_cells (v_law_cells : (List Int)), F] : List (Asn G)))), R.wp_mono (R.wp_bind hm) (fun r22 hm H hS => ?_) (fun _ z => z)⟩
      have hS : Sep H ([lstA p18 ([("" : Str), r17] : (List Str)), lstA p13 ([0, 9999, (x11 / 18) % 10000, (x12 / 18) % 9] : (List Int)), lstA p9 (cutL v_law_cells (some (3)) (some (3 + ((x8 / 3) % 6))) : (List Int)), lstA p2 (cutL v_law_cells (some (1)) (some (1 + (x1 % 3))) : (List Int)), lstA a_v_law_cells (v_law_cells : (List Int)), F] : List (Asn G)) := Sep.star (M := []) hS
      refine c_cons ?_
      refine ev_to (ev_var rfl) ?_
      refine c_cons ?_
      refine ev_to (ev_var rfl) ?_
      refine c_cons ?_
      refine ev_to (ev_var rfl) ?_
      refine c_cons ?_
      refine ev_to (ev_var rfl) ?_
      refine c_nil ?_
      refine k_tupP (x := ((⟨r22, s5, r10, x15, x20⟩ : T5 _ _ _ _ _) : (T5 Str Str Str Int Str))) hS (fun H' p h s => mk5 rfl rfl rfl rfl rfl h s) (by show 5 ≤ sizeLine; decide) fun p23 H hS => ?_
      exact hm _ _ (hS.sel [0, 5, 6] (by decide) rfl)
def sp_law_card_by (G : Gx) : Sp := fun vs H Q E => ∃ (v_law_shape : Int) (a_v_law_cells : Addr) (v_law_cells : (List Int)) (F : Asn G), vs = [(.int (v_law_shape)), .ref a_v_law_cells] ∧ Sep H ([lstA a_v_law_cells (v_law_cells : (List Int)), F] : List (Asn G)) ∧ R.wp (m_law_card_by v_law_shape v_law_cells) (fun r => ∀ (p : Addr) H', Sep H' ([imA (.ref p) (r : (T3 (T5 Str Str Str Int Str) Str (List Str))), lstA a_v_law_cells (v_law_cells : (List Int)), F] : List (Asn G)) → Q (.ref p) H') (fun _ => False)
abbrev N_law_card_by : List Str := ["_law_shape", "_law_cells", "_law_folder", "_law_marks", "_law_k", "_law_word"]
theorem sc_law_card_by : FnScope N_law_card_by ["_law_shape", "_law_cells"] (defScope s_law_card_by) := ⟨rfl, rfl, rfl, by decide +kernel, rfl, by decide +kernel, by decide +kernel⟩
theorem ok_law_card_by (T : Txt G mg) : FnOk P w G.K mg base CX0 4 T.a_law_card_by T.fd_law_card_by ["_law_shape", "_law_cells"] (sp_law_card_by G) := by
  have nd := sc_law_card_by.nd
  refine Fun.ok T.F_law_card_by sc_law_card_by (fun vs H Q E h => ?_) (fun cdv A outer s H vs Q E hr h => ?_)
  · obtain ⟨v_law_shape, a_v_law_cells, v_law_cells, F, rfl, _⟩ := h; rfl
  · obtain ⟨v_law_shape, a_v_law_cells, v_law_cells, F, rfl, hS, hm⟩ := h
    refine ⟨_, (pss_cons (ps_set (i := 2) nd rfl (Or.inl rfl) (pe_call (ok_law_word_by T) (hr.mono (by decide)) rfl T.g_law_word_by T.kp_law_word_by T.b_law_word_by .nil pass0 (pa_cons (pv 0) (pa_cons (pe_op op_mod (pe_ix (ix_listK G.K) (pe_fz (pv 1)) pe_int (fun _ _ => rfl)) pe_int) pa_nil))))
      (pss_cons (ps_set (i := 3) nd rfl (Or.inl rfl) (pe_fz (pe_lst pa_nil)))
      (pss_cons (ps_for PassesOwn.never rfl (pi_range1 rfl T.z_range (pa_cons (pe_op op_mod (pe_op op_fdiv (pe_ix (ix_listK G.K) (pe_fz (pv 1)) pe_int (fun _ _ => rfl)) pe_int) pe_int) pa_nil)) (pg_name (i := 4) nd rfl (Or.inl rfl)) (pss_cons (ps_set (i := 5) nd rfl (Or.inl rfl) (pe_call (ok_law_word_by T) (hr.mono (by decide)) rfl T.g_law_word_by T.kp_law_word_by T.b_law_word_by .nil pass0 (pa_cons (pv 0) (pa_cons (pe_op op_mod (pe_op op_fdiv (pe_ix (ix_listK G.K) (pe_fz (pv 1)) pe_int (fun _ _ => rfl)) (pe_op op_add pe_int (pe_op op_mul pe_int (pv 4)))) pe_int) pa_nil))))
      (pss_one (ps_if (pt_cmpR (niSqK G.K) (pv 5) (pe_fz (pv 3)) (by rfl)) (pss_one (ps_expr (pe_bmK G.K PySem.F.plainAttrs_list PySem.F.slot_list_append PySem.F.type_list_append mt_append (pe_fz (pv 3)) (pa_cons (pv 5) pa_nil)))) pss_nil))))
      (pss_one (ps_ret (pe_tup (pa_cons (pe_call (ok_law_parts_by T) (hr.mono (by decide)) rfl T.g_law_parts_by T.kp_law_parts_by T.b_law_parts_by .nil pass0 (pa_cons (pv 0) (pa_cons (pe_fz (pv 1)) pa_nil))) (pa_cons (pv 2) (pa_cons (pe_fz (pe_callB (sortedSK G.K) (by rfl) T.z_sorted (by decide +kernel) (pa_cons (pe_fz (pv 3)) pa_nil))) pa_nil))))))))), ?_⟩
    unfold m_law_card_by at hm
    refine f_seq ?_
    refine c_asg ?_
    refine c_call ?_
    obtain ⟨x1, hx1, hm⟩ := wp_idx hm
    refine ea_to (ea_cons (ev_var rfl) (ea_cons (ev_mod (ev_ixSq (ev_fz (ev_var rfl)) ev_c (hS.sqF (i := 0) rfl) (atI_map hx1)) ev_c (by decide)) ea_nil)) ?_
    refine ⟨v_law_shape, (x1 % 5), star [lstA a_v_law_cells (v_law_cells : (List Int)), F], rfl, Sep.unstar (M := []) (hS.sel [0, 1] (by decide) rfl : Sep H (([] ++ [lstA a_v_law_cells (v_law_cells : (List Int)), F] : List (Asn G)))), R.wp_mono (R.wp_bind hm) (fun r2 hm H hS => ?_) (fun _ z => z)⟩
    have hS : Sep H ([lstA a_v_law_cells (v_law_cells : (List Int)), F] : List (Asn G)) := Sep.star (M := []) hS
    refine c_set (σ' := [some (.int (v_law_shape)), some (.ref a_v_law_cells), some (.str (r2)), none, none, none]) rfl ?_
    refine sq_nx ?_
    refine f_seq ?_
    refine c_asg ?_
    refine c_fz ?_
    refine c_lst ?_
    refine ea_to ea_nil ?_
    refine k_lst (α := Str) (vs := []) (xs := ([] : (List Str))) hS True.intro (by show 0 ≤ sizeLine; decide) fun p3 H hS => ?_
    refine fz_no ?_
    refine c_set (σ' := [some (.int (v_law_shape)), some (.ref a_v_law_cells), some (.str (r2)), some (.ref p3), none, none]) rfl ?_
    refine sq_nx ?_
    refine f_seq ?_
    refine c_for ?_
    refine c_rng1 ?_
    obtain ⟨x4, hx4, hm⟩ := wp_idx hm
    refine ea_to (ea_cons (ev_mod (ev_fdiv (ev_ixSq (ev_fz (ev_var rfl)) ev_c (hS.sqF (i := 1) rfl) (atI_map hx4)) ev_c ⟨by decide, by decide⟩) ev_c (by decide)) ea_nil) ?_
    obtain ⟨h5, hm⟩ := R.wp_need hm
    refine k_rng1 h5.1 h5.2 ?_
    refine k_for (τ := (List Str)) (fun (s6 : (List Str)) (σ : L2.St) (H : Hp) => ∃ (w9 w10 : Option V), σ = [some (.int (v_law_shape)), some (.ref a_v_law_cells), some (.str (r2)), some (.ref p3), w9, w10] ∧ Sep H ([lstA p3 (s6 : (List Str)), lstA a_v_law_cells (v_law_cells : (List Int)), F] : List (Asn G))) (im := (fun _ v (x : Int) => v = .int x)) (s := (([] : (List Str)))) (fun _ => wk_range) ⟨_, _, rfl, hS.sel [0, 1, 2] (by decide) rfl⟩ hm (fun s6 x7 v8 σ H q N hI hx hm nx => ?_) (fun s6 σ H hm hI => ?_)
    ·
      obtain ⟨w9, w10, rfl, hS⟩ := hI
      cases hx
      refine c_gN (σ' := [some (.int (v_law_shape)), some (.ref a_v_law_cells), some (.str (r2)), some (.ref p3), some (.int (x7)), w10]) rfl ?_
      refine f_seq ?_
      refine c_asg ?_
      refine c_call ?_
      obtain ⟨x11, hx11, hm⟩ := wp_idx hm
      obtain ⟨h12, hm⟩ := R.wp_need hm
      refine ea_to (ea_cons (ev_var rfl) (ea_cons (ev_mod (ev_fdiv (ev_ixSq (ev_fz (ev_var rfl)) ev_c (hS.sqF (i := 1) rfl) (atI_map hx11)) (ev_add ev_c (ev_mul ev_c (ev_var rfl) (.inl (by constructor <;> decide)))) h12) ev_c (by decide)) ea_nil)) ?_
      refine ⟨v_law_shape, ((x11 / (20 + (5 * x7))) % 5), star [lstA p3 (s6 : (List Str)), lstA a_v_law_cells (v_law_cells : (List Int)), F], rfl, Sep.unstar (M := []) (hS.sel [0, 1, 2] (by decide) rfl : Sep H (([] ++ [lstA p3 (s6 : (List Str)), lstA a_v_law_cells (v_law_cells : (List Int)), F] : List (Asn G)))), R.wp_mono (R.wp_bind hm) (fun r13 hm H hS => ?_) (fun _ z => z)⟩
      have hS : Sep H ([lstA p3 (s6 : (List Str)), lstA a_v_law_cells (v_law_cells : (List Int)), F] : List (Asn G)) := Sep.star (M := []) hS
      refine c_set (σ' := [some (.int (v_law_shape)), some (.ref a_v_law_cells), some (.str (r2)), some (.ref p3), some (.int (x7)), some (.str (r13))]) rfl ?_
      refine sq_nx ?_
      refine f_if ?_
      refine et_to (et_test (ev_niL hS (i := 0) rfl (ev_var rfl) (ev_fz (ev_var rfl)))) ?_
      refine ifK_J (τ := (List Str)) (fun (s14 : (List Str)) (σ : L2.St) (H : Hp) => σ = [some (.int (v_law_shape)), some (.ref a_v_law_cells), some (.str (r2)), some (.ref p3), some (.int (x7)), some (.str (r13))] ∧ Sep H ([lstA p3 (s14 : (List Str)), lstA a_v_law_cells (v_law_cells : (List Int)), F] : List (Asn G))) hm (fun hb q hm nx => ?_) (fun hb q hm nx => ?_) (fun s14 σ H hm hI => ?_)
      ·
        refine c_drop ?_
        refine c_bm ?_
        refine ev_to (ev_fz (ev_var rfl)) ⟨tyL hS (i := 0) rfl, ?_⟩
        refine ea_to (ea_cons (ev_var rfl) ea_nil) ?_
        obtain ⟨h15, hm⟩ := R.wp_need hm
        refine k_append (x := r13) hS (i := 0) rfl rfl h15 rfl fun H hS => ?_
        exact nx _ _ _ hm ⟨rfl, hS.sel [0, 1, 2] (by decide) rfl⟩
      ·
        refine st_nx ?_
        exact nx _ _ _ hm ⟨rfl, hS.sel [0, 1, 2] (by decide) rfl⟩
      · obtain ⟨rfl, hS⟩ := hI
        exact nx _ _ _ hm ⟨_, _, rfl, hS.sel [0, 1, 2] (by decide) rfl⟩
    · obtain ⟨w9, w10, rfl, hS⟩ := hI
      refine sq_nx ?_
      refine c_ret ?_
      refine c_tup ?_
      refine c_cons ?_
      refine c_call ?_
      refine ea_to (ea_cons (ev_var rfl) (ea_cons (ev_fz (ev_var rfl)) ea_nil)) ?_
      refine ⟨v_law_shape, a_v_law_cells, (v_law_cells : (List Int)), star [lstA p3 (s6 : (List Str)), F], rfl, Sep.unstar (M := [lstA a_v_law_cells (v_law_cells : (List Int))]) (hS.sel [1, 0, 2] (by decide) rfl : Sep H (([lstA a_v_law_cells (v_law_cells : (List Int))] ++ [lstA p3 (s6 : (List Str)), F] : List (Asn G)))), R.wp_mono (R.wp_bind hm) (fun r16 hm p17 H hS => ?_) (fun _ z => z)⟩
      have hS : Sep H ([imA (.ref p17) (r16 : (T5 Str Str Str Int Str)), lstA a_v_law_cells (v_law_cells : (List Int)), lstA p3 (s6 : (List Str)), F] : List (Asn G)) := Sep.star (M := [imA (.ref p17) (r16 : (T5 Str Str Str Int Str)), lstA a_v_law_cells (v_law_cells : (List Int))]) hS
      refine c_cons ?_
      refine ev_to (ev_var rfl) ?_
      refine c_cons ?_
      refine c_fz ?_
      refine c_cb ?_
      refine ea_to (ea_cons (ev_fz (ev_var rfl)) ea_nil) ?_
      obtain ⟨h20, hm⟩ := R.wp_need hm
      refine k_sorted hS (hS.sqF (i := 2) rfl) h20 fun p19 H hS => ?_
      refine fz_yes (xs := (sortT s6 : (List Str))) hS (i := 0) rfl fun H hS => ?_
      have hS : Sep H ([imA (.ref p19) (sortT s6 : (List Str)), imA (.ref p17) (r16 : (T5 Str Str Str Int Str)), lstA a_v_law_cells (v_law_cells : (List Int)), lstA p3 (s6 : (List Str)), F] : List (Asn G)) := hS
      refine c_nil ?_
      refine k_tupP (x := ((⟨r16, r2, sortT s6⟩ : T3 _ _ _) : (T3 (T5 Str Str Str Int Str) Str (List Str)))) hS (fun H' p h s => mk3 (hS.im (i := 1) rfl) rfl (hS.im (i := 0) rfl) h s) (by show 3 ≤ sizeLine; decide) fun p22 H hS => ?_
      exact hm _ _ (hS.sel [0, 3, 5] (by decide) rfl)
def sp_law_letter (G : Gx) : Sp := fun vs H Q E => ∃ (a_v_law_parts : Addr) (v_law_parts : (T5 Str Str Str Int Str)) (F : Asn G), vs = [(.ref a_v_law_parts)] ∧ Im.im G H (.ref a_v_law_parts) v_law_parts ∧ Sep H ([F] : List (Asn G)) ∧ R.wp (m_law_letter v_law_parts) (fun r => ∀ (p : Addr) H', Sep H' ([imA (.ref p) (r : Letter), F] : List (Asn G)) → Q (.ref p) H') (fun _ => False)
abbrev N_law_letter : List Str := ["_law_parts"]
theorem sc_law_letter : FnScope N_law_letter ["_law_parts"] (defScope s_law_letter) := ⟨rfl, rfl, rfl, by decide +kernel, rfl, by decide +kernel, by decide +kernel⟩
theorem ok_law_letter (T : Txt G mg) : FnOk P w G.K mg base CX0 5 T.a_law_letter T.fd_law_letter ["_law_parts"] (sp_law_letter G) := by
  have nd := sc_law_letter.nd
  refine Fun.ok T.F_law_letter sc_law_letter (fun vs H Q E h => ?_) (fun cdv A outer s H vs Q E hr h => ?_)
  · obtain ⟨a_v_law_parts, v_law_parts, F, rfl, _⟩ := h; rfl
  · obtain ⟨a_v_law_parts, v_law_parts, F, rfl, him_v_law_parts, hS, hm⟩ := h
    have hS := hS.addIm him_v_law_parts
    refine ⟨_, (pss_one (ps_ret (pe_make T.k_Letter (ok_Letter___init__ T) (hr.mono (by decide)) rfl T.g_Letter T.b_Letter___init__ .nil passL (pa_cons (pe_ix (ix_tupK G.K) (pv 0) pe_int (fun _ _ => rfl)) (pa_cons (pe_ix (ix_tupK G.K) (pv 0) pe_int (fun _ _ => rfl)) (pa_cons (pe_ix (ix_tupK G.K) (pv 0) pe_int (fun _ _ => rfl)) (pa_cons (pe_ix (ix_tupK G.K) (pv 0) pe_int (fun _ _ => rfl)) (pa_cons (pe_ix (ix_tupK G.K) (pv 0) pe_int (fun _ _ => rfl)) pa_nil)))))))), ?_⟩
    unfold m_law_letter at hm
    refine c_ret ?_
    refine c_make ?_
    obtain ⟨u1, u2, u3, u4, u5, hT11, h6, h7, h8, h9, h10⟩ := im5 (hS.im (i := 0) rfl)
    obtain rfl : u1 = (.str (v_law_parts.a)) := h6
    obtain rfl : u2 = (.str (v_law_parts.b)) := h7
    obtain rfl : u3 = (.str (v_law_parts.c)) := h8
    obtain rfl : u4 = (.int (v_law_parts.d)) := h9
    obtain rfl : u5 = (.str (v_law_parts.e)) := h10
    obtain ⟨u12, u13, u14, u15, u16, hT22, h17, h18, h19, h20, h21⟩ := im5 (hS.im (i := 0) rfl)
    obtain rfl : u12 = (.str (v_law_parts.a)) := h17
    obtain rfl : u13 = (.str (v_law_parts.b)) := h18
    obtain rfl : u14 = (.str (v_law_parts.c)) := h19
    obtain rfl : u15 = (.int (v_law_parts.d)) := h20
    obtain rfl : u16 = (.str (v_law_parts.e)) := h21
    obtain ⟨u23, u24, u25, u26, u27, hT33, h28, h29, h30, h31, h32⟩ := im5 (hS.im (i := 0) rfl)
    obtain rfl : u23 = (.str (v_law_parts.a)) := h28
    obtain rfl : u24 = (.str (v_law_parts.b)) := h29
    obtain rfl : u25 = (.str (v_law_parts.c)) := h30
    obtain rfl : u26 = (.int (v_law_parts.d)) := h31
    obtain rfl : u27 = (.str (v_law_parts.e)) := h32
    obtain ⟨u34, u35, u36, u37, u38, hT44, h39, h40, h41, h42, h43⟩ := im5 (hS.im (i := 0) rfl)
    obtain rfl : u34 = (.str (v_law_parts.a)) := h39
    obtain rfl : u35 = (.str (v_law_parts.b)) := h40
    obtain rfl : u36 = (.str (v_law_parts.c)) := h41
    obtain rfl : u37 = (.int (v_law_parts.d)) := h42
    obtain rfl : u38 = (.str (v_law_parts.e)) := h43
    obtain ⟨u45, u46, u47, u48, u49, hT55, h50, h51, h52, h53, h54⟩ := im5 (hS.im (i := 0) rfl)
    obtain rfl : u45 = (.str (v_law_parts.a)) := h50
    obtain rfl : u46 = (.str (v_law_parts.b)) := h51
    obtain rfl : u47 = (.str (v_law_parts.c)) := h52
    obtain rfl : u48 = (.int (v_law_parts.d)) := h53
    obtain rfl : u49 = (.str (v_law_parts.e)) := h54
    refine ea_to (ea_cons (ev_ixT (ev_var rfl) ev_c hT11 rfl) (ea_cons (ev_ixT (ev_var rfl) ev_c hT22 rfl) (ea_cons (ev_ixT (ev_var rfl) ev_c hT33 rfl) (ea_cons (ev_ixT (ev_var rfl) ev_c hT44 rfl) (ea_cons (ev_ixT (ev_var rfl) ev_c hT55 rfl) ea_nil))))) ?_
    intro p56 d57 np nd ne
    have hS := hS.addIm (v := (.str (v_law_parts.a))) (x := ((Any.str v_law_parts.a) : Any)) (any_str.mpr rfl)
    have hS := hS.addIm (v := (.str (v_law_parts.b))) (x := ((Any.str v_law_parts.b) : Any)) (any_str.mpr rfl)
    have hS := hS.addIm (v := (.str (v_law_parts.c))) (x := ((Any.str v_law_parts.c) : Any)) (any_str.mpr rfl)
    have hS := hS.addIm (v := (.int (v_law_parts.d))) (x := ((Any.int v_law_parts.d) : Any)) (any_int.mpr rfl)
    have hS := hS.addIm (v := (.str (v_law_parts.e))) (x := ((Any.str v_law_parts.e) : Any)) (any_str.mpr rfl)
    have hS := hS.newI (C := G.cl 16) np nd ne (by rw [T.fz_Letter]; decide)
    refine ⟨p56, d57, (.str (v_law_parts.a)), ((Any.str v_law_parts.a) : Any), (.str (v_law_parts.b)), ((Any.str v_law_parts.b) : Any), (.str (v_law_parts.c)), ((Any.str v_law_parts.c) : Any), (.int (v_law_parts.d)), ((Any.int v_law_parts.d) : Any), (.str (v_law_parts.e)), ((Any.str v_law_parts.e) : Any), star [imA (.int (v_law_parts.d)) ((Any.int v_law_parts.d) : Any), imA (.str (v_law_parts.c)) ((Any.str v_law_parts.c) : Any), imA (.str (v_law_parts.b)) ((Any.str v_law_parts.b) : Any), imA (.str (v_law_parts.a)) ((Any.str v_law_parts.a) : Any), imA (.ref a_v_law_parts) (v_law_parts : (T5 Str Str Str Int Str)), F], rfl, (hS.im (i := 5) rfl), (hS.im (i := 4) rfl), (hS.im (i := 3) rfl), (hS.im (i := 2) rfl), (hS.im (i := 1) rfl), Sep.unstar (M := [cell p56 (.ins (G.cl 16) d57 [])]) (hS.sel [0, 2, 3, 4, 5, 6, 7] (by decide) rfl : Sep _ (([cell p56 (.ins (G.cl 16) d57 [])] ++ [imA (.int (v_law_parts.d)) ((Any.int v_law_parts.d) : Any), imA (.str (v_law_parts.c)) ((Any.str v_law_parts.c) : Any), imA (.str (v_law_parts.b)) ((Any.str v_law_parts.b) : Any), imA (.str (v_law_parts.a)) ((Any.str v_law_parts.a) : Any), imA (.ref a_v_law_parts) (v_law_parts : (T5 Str Str Str Int Str)), F] : List (Asn G)))), R.wp_mono (R.wp_bind hm) (fun r63 hm H hS => ⟨rfl, ?_⟩) (fun _ z => z.elim)⟩
    have hS : Sep H ([imA (.ref p56) (r63 : Letter), imA (.int (v_law_parts.d)) ((Any.int v_law_parts.d) : Any), imA (.str (v_law_parts.c)) ((Any.str v_law_parts.c) : Any), imA (.str (v_law_parts.b)) ((Any.str v_law_parts.b) : Any), imA (.str (v_law_parts.a)) ((Any.str v_law_parts.a) : Any), imA (.ref a_v_law_parts) (v_law_parts : (T5 Str Str Str Int Str)), F] : List (Asn G)) := Sep.star (M := [imA (.ref p56) (r63 : Letter)]) hS
    exact hm _ _ (hS.sel [0, 6] (by decide) rfl)
def sp_law_made (G : Gx) : Sp := fun vs H Q E => ∃ (a_v_law_card : Addr) (v_law_card : (T3 (T5 Str Str Str Int Str) Str (List Str))) (F : Asn G), vs = [(.ref a_v_law_card)] ∧ Im.im G H (.ref a_v_law_card) v_law_card ∧ Sep H ([F] : List (Asn G)) ∧ R.wp (m_law_made v_law_card) (fun r => ∀ (p : Addr) H', Sep H' ([imA (.ref p) (r : Card), F] : List (Asn G)) → Q (.ref p) H') (fun _ => False)
abbrev N_law_made : List Str := ["_law_card"]
theorem sc_law_made : FnScope N_law_made ["_law_card"] (defScope s_law_made) := ⟨rfl, rfl, rfl, by decide +kernel, rfl, by decide +kernel, by decide +kernel⟩
theorem ok_law_made (T : Txt G mg) : FnOk P w G.K mg base CX0 6 T.a_law_made T.fd_law_made ["_law_card"] (sp_law_made G) := by
  have nd := sc_law_made.nd
  refine Fun.ok T.F_law_made sc_law_made (fun vs H Q E h => ?_) (fun cdv A outer s H vs Q E hr h => ?_)
  · obtain ⟨a_v_law_card, v_law_card, F, rfl, _⟩ := h; rfl
  · obtain ⟨a_v_law_card, v_law_card, F, rfl, him_v_law_card, hS, hm⟩ := h
    have hS := hS.addIm him_v_law_card
    refine ⟨_, (pss_one (ps_ret (pe_make T.k_Card (ok_Card___init__ T) (hr.mono (by decide)) rfl T.g_Card T.b_Card___init__ .nil pass0 (pa_cons (pe_call (ok_law_letter T) (hr.mono (by decide)) rfl T.g_law_letter T.kp_law_letter T.b_law_letter .nil pass0 (pa_cons (pe_ix (ix_tupK G.K) (pv 0) pe_int (fun _ _ => rfl)) pa_nil)) (pa_cons (pe_ix (ix_tupK G.K) (pv 0) pe_int (fun _ _ => rfl)) (pa_cons (pe_ix (ix_tupK G.K) (pv 0) pe_int (fun _ _ => rfl)) pa_nil)))))), ?_⟩
    unfold m_law_made at hm
    refine c_ret ?_
    refine c_make ?_
    refine c_cons ?_
    refine c_call ?_
    obtain ⟨u1, u2, u3, hT7, h4, h5, h6⟩ := im3 (hS.im (i := 0) rfl)
    obtain ⟨a8, rfl⟩ := isref h4
    obtain rfl : u2 = (.str (v_law_card.b)) := h5
    obtain ⟨a9, rfl⟩ := isref h6
    refine ea_to (ea_cons (ev_ixT (ev_var rfl) ev_c hT7 rfl) ea_nil) ?_
    have hS := hS.addIm (v := (.ref a8)) (x := (v_law_card.a : (T5 Str Str Str Int Str))) h4
    refine ⟨a8, (v_law_card.a : (T5 Str Str Str Int Str)), star [imA (.ref a8) (v_law_card.a : (T5 Str Str Str Int Str)), imA (.ref a_v_law_card) (v_law_card : (T3 (T5 Str Str Str Int Str) Str (List Str))), F], rfl, (hS.im (i := 0) rfl), Sep.unstar (M := []) (hS.sel [0, 1, 2] (by decide) rfl : Sep H (([] ++ [imA (.ref a8) (v_law_card.a : (T5 Str Str Str Int Str)), imA (.ref a_v_law_card) (v_law_card : (T3 (T5 Str Str Str Int Str) Str (List Str))), F] : List (Asn G)))), R.wp_mono (R.wp_bind hm) (fun r11 hm p12 H hS => ?_) (fun _ z => z)⟩
    have hS : Sep H ([imA (.ref p12) (r11 : Letter), imA (.ref a8) (v_law_card.a : (T5 Str Str Str Int Str)), imA (.ref a_v_law_card) (v_law_card : (T3 (T5 Str Str Str Int Str) Str (List Str))), F] : List (Asn G)) := Sep.star (M := [imA (.ref p12) (r11 : Letter)]) hS
    refine c_cons ?_
    obtain ⟨u14, u15, u16, hT20, h17, h18, h19⟩ := im3 (hS.im (i := 2) rfl)
    obtain ⟨a21, rfl⟩ := isref h17
    obtain rfl : u15 = (.str (v_law_card.b)) := h18
    obtain ⟨a22, rfl⟩ := isref h19
    refine ev_to (ev_ixT (ev_var rfl) ev_c hT20 rfl) ?_
    refine c_cons ?_
    obtain ⟨u23, u24, u25, hT29, h26, h27, h28⟩ := im3 (hS.im (i := 2) rfl)
    obtain ⟨a30, rfl⟩ := isref h26
    obtain rfl : u24 = (.str (v_law_card.b)) := h27
    obtain ⟨a31, rfl⟩ := isref h28
    refine ev_to (ev_ixT (ev_var rfl) ev_c hT29 rfl) ?_
    have hS := hS.addIm (v := (.ref a31)) (x := (v_law_card.c : (List Str))) h28
    refine c_nil ?_
    intro p33 d34 np nd ne
    have hS := hS.addIm (v := (.ref a31)) (x := ((Any.lst (v_law_card.c.map Any.str)) : Any)) (any_lstS (hS.im (i := 0) rfl))
    have hS := hS.newI (C := G.cl 13) np nd ne (by rw [T.fz_Card]; decide)
    refine ⟨p33, d34, p12, (r11 : Letter), v_law_card.b, (.ref a31), ((Any.lst (v_law_card.c.map Any.str)) : Any), star [imA (.ref a31) (v_law_card.c : (List Str)), imA (.ref p12) (r11 : Letter), imA (.ref a8) (v_law_card.a : (T5 Str Str Str Int Str)), imA (.ref a_v_law_card) (v_law_card : (T3 (T5 Str Str Str Int Str) Str (List Str))), F], rfl, (hS.im (i := 3) rfl), (hS.im (i := 1) rfl), Sep.unstar (M := [cell p33 (.ins (G.cl 13) d34 [])]) (hS.sel [0, 2, 3, 4, 5, 6] (by decide) rfl : Sep _ (([cell p33 (.ins (G.cl 13) d34 [])] ++ [imA (.ref a31) (v_law_card.c : (List Str)), imA (.ref p12) (r11 : Letter), imA (.ref a8) (v_law_card.a : (T5 Str Str Str Int Str)), imA (.ref a_v_law_card) (v_law_card : (T3 (T5 Str Str Str Int Str) Str (List Str))), F] : List (Asn G)))), R.wp_mono (R.wp_bind hm) (fun r36 hm H hS => ⟨rfl, ?_⟩) (fun _ z => z)⟩
    have hS : Sep H ([imA (.ref p33) (r36 : Card), imA (.ref a31) (v_law_card.c : (List Str)), imA (.ref p12) (r11 : Letter), imA (.ref a8) (v_law_card.a : (T5 Str Str Str Int Str)), imA (.ref a_v_law_card) (v_law_card : (T3 (T5 Str Str Str Int Str) Str (List Str))), F] : List (Asn G)) := Sep.star (M := [imA (.ref p33) (r36 : Card)]) hS
    exact hm _ _ (hS.sel [0, 5] (by decide) rfl)
def sp_law_leaf_by (G : Gx) : Sp := fun vs H Q E => ∃ (v_law_shape : Int) (v_law_cell : Int) (F : Asn G), vs = [(.int (v_law_shape)), (.int (v_law_cell))] ∧ Sep H ([F] : List (Asn G)) ∧ R.wp (m_law_leaf_by v_law_shape v_law_cell) (fun r => ∀ (p : V) H', Sep H' ([imA p (r : Any), F] : List (Asn G)) → Q p H') (fun _ => False)
abbrev N_law_leaf_by : List Str := ["_law_shape", "_law_cell", "_law_word", "_law_kind", "_law_low"]
theorem sc_law_leaf_by : FnScope N_law_leaf_by ["_law_shape", "_law_cell"] (defScope s_law_leaf_by) := ⟨rfl, rfl, rfl, by decide +kernel, rfl, by decide +kernel, by decide +kernel⟩
theorem ok_law_leaf_by (T : Txt G mg) : FnOk P w G.K mg base CX0 2 T.a_law_leaf_by T.fd_law_leaf_by ["_law_shape", "_law_cell"] (sp_law_leaf_by G) := by
  have nd := sc_law_leaf_by.nd
  refine Fun.ok T.F_law_leaf_by sc_law_leaf_by (fun vs H Q E h => ?_) (fun cdv A outer s H vs Q E hr h => ?_)
  · obtain ⟨v_law_shape, v_law_cell, F, rfl, _⟩ := h; rfl
  · obtain ⟨v_law_shape, v_law_cell, F, rfl, hS, hm⟩ := h
    refine ⟨_, (pss_cons (ps_set (i := 2) nd rfl (Or.inl rfl) (pe_call (ok_law_word_by T) (hr.mono (by decide)) rfl T.g_law_word_by T.kp_law_word_by T.b_law_word_by .nil pass0 (pa_cons (pv 0) (pa_cons (pe_op op_mod (pe_op op_fdiv (pv 1) pe_int) pe_int) pa_nil))))
      (pss_cons (ps_set (i := 3) nd rfl (Or.inl rfl) (pe_op op_mod (pv 1) pe_int))
      (pss_cons (ps_if (pt_cmpR op_eq (pv 3) pe_int (nomark _)) (pss_one (ps_ret (pe_tup (pa_cons pe_str pa_nil)))) pss_nil)
      (pss_cons (ps_if (pt_cmpR op_eq (pv 3) pe_int (nomark _)) (pss_one (ps_ret (pe_tup (pa_cons pe_str pa_nil)))) pss_nil)
      (pss_cons (ps_if (pt_cmpR op_lt (pv 3) pe_int (nomark _)) (pss_cons (ps_set (i := 4) nd rfl (Or.inl rfl) (pe_ix (ix_listK G.K) (pe_fz (pe_lst (pa_cons pe_int (pa_cons (pe_op op_mod (pe_op op_fdiv (pv 1) pe_int) pe_int) (pa_cons (pe_op op_mod (pe_op op_fdiv (pv 1) pe_int) pe_int) pa_nil))))) (pe_op op_mod (pe_op op_fdiv (pv 1) pe_int) pe_int) (fun _ _ => rfl)))
      (pss_one (ps_ret (pe_tup (pa_cons pe_str (pa_cons (pv 4) (pa_cons (pe_ix (ix_listK G.K) (pe_fz (pe_lst (pa_cons (pv 4) (pa_cons pe_int (pa_cons (pe_op op_mod (pe_op op_fdiv (pv 1) pe_int) pe_int) (pa_cons (pe_op op_mod (pe_op op_fdiv (pv 1) pe_int) pe_int) pa_nil)))))) (pe_op op_mod (pe_op op_fdiv (pv 1) pe_int) pe_int) (fun _ _ => rfl)) pa_nil))))))) pss_nil)
      (pss_one (ps_ret (pe_tup (pa_cons (pe_ix (ix_listK G.K) (pe_fz (pe_lst (pa_cons pe_str (pa_cons pe_str (pa_cons pe_str (pa_cons pe_str (pa_cons pe_str (pa_cons pe_str (pa_cons pe_str pa_nil))))))))) (pe_op op_sub (pv 3) pe_int) (fun _ _ => rfl)) (pa_cons (pv 2) pa_nil)))))))))), ?_⟩
    unfold m_law_leaf_by at hm
    refine f_seq ?_
    refine c_asg ?_
    refine c_call ?_
    refine ea_to (ea_cons (ev_var rfl) (ea_cons (ev_mod (ev_fdiv (ev_var rfl) ev_c ⟨by decide, by decide⟩) ev_c (by decide)) ea_nil)) ?_
    refine ⟨v_law_shape, ((v_law_cell / 11) % 5), star [F], rfl, Sep.unstar (M := []) (hS.sel [0] (by decide) rfl : Sep H (([] ++ [F] : List (Asn G)))), R.wp_mono (R.wp_bind hm) (fun r1 hm H hS => ?_) (fun _ z => z)⟩
    have hS : Sep H ([F] : List (Asn G)) := Sep.star (M := []) hS
    refine c_set (σ' := [some (.int (v_law_shape)), some (.int (v_law_cell)), some (.str (r1)), none, none]) rfl ?_
    refine sq_nx ?_
    refine f_seq ?_
    refine c_asg ?_
    refine ev_to (ev_mod (ev_var rfl) ev_c (by decide)) ?_
    obtain ⟨y2, hy2, hm⟩ := wp_let hm
    refine n_is (w := (.int (y2))) (by rw [hy2]) ?_
    refine c_set (σ' := [some (.int (v_law_shape)), some (.int (v_law_cell)), some (.str (r1)), some (.int (y2)), none]) rfl ?_
    refine sq_nx ?_
    refine f_seq ?_
    refine f_if ?_
    refine et_to (et_test (ev_eqI (ev_var rfl) ev_c)) ?_
    refine ifK_2 (fun hb3 => ?_) (fun hb3 => ?_)
    · have hm := R.wp_ifY hm hb3
      refine c_ret ?_
      refine c_tup ?_
      refine ea_to (ea_cons ev_c ea_nil) ?_
      refine k_tupA (vs := [(.str (("any" : Str)))]) (xs := [(Any.str ("any" : Str))]) hS ⟨(any_str.mpr rfl), True.intro⟩ (by show 1 ≤ sizeLine; decide) fun p4 H hS => ?_
      exact hm _ _ (hS.sel [0, 1] (by decide) rfl)
    · have hm := R.wp_ifN hm (by first | (rw [hb3]; decide) | simpa using hb3)
      refine st_nx ?_
      refine sq_nx ?_
      refine f_seq ?_
      refine f_if ?_
      refine et_to (et_test (ev_eqI (ev_var rfl) ev_c)) ?_
      refine ifK_2 (fun hb6 => ?_) (fun hb6 => ?_)
      · have hm := R.wp_ifY hm hb6
        refine c_ret ?_
        refine c_tup ?_
        refine ea_to (ea_cons ev_c ea_nil) ?_
        refine k_tupA (vs := [(.str (("answers" : Str)))]) (xs := [(Any.str ("answers" : Str))]) hS ⟨(any_str.mpr rfl), True.intro⟩ (by show 1 ≤ sizeLine; decide) fun p7 H hS => ?_
        exact hm _ _ (hS.sel [0, 1] (by decide) rfl)
      · have hm := R.wp_ifN hm (by first | (rw [hb6]; decide) | simpa using hb6)
        refine st_nx ?_
        refine sq_nx ?_
        refine f_seq ?_
        refine f_if ?_
        refine et_to (et_test (ev_i0 (ev_var rfl) ev_c)) ?_
        refine ifK_2 (fun hb9 => ?_) (fun hb9 => ?_)
        · have hm := R.wp_ifY hm hb9
          refine f_seq ?_
          refine c_asg ?_
          refine c_op ?_
          refine c_fz ?_
          refine c_lst ?_
          refine ea_to (ea_cons ev_c (ea_cons (ev_mod (ev_fdiv (ev_var rfl) ev_c ⟨by decide, by decide⟩) ev_c (by decide)) (ea_cons (ev_mod (ev_fdiv (ev_var rfl) ev_c ⟨by decide, by decide⟩) ev_c (by decide)) ea_nil))) ?_
          refine k_lst (α := Int) (vs := [(.int (0)), (.int ((v_law_cell / 55) % 10000)), (.int ((v_law_cell / 55) % 9))]) (xs := [0, (v_law_cell / 55) % 10000, (v_law_cell / 55) % 9]) hS ⟨rfl, ⟨rfl, ⟨rfl, True.intro⟩⟩⟩ (by show 3 ≤ sizeLine; decide) fun p10 H hS => ?_
          refine fz_no ?_
          refine ev_to (ev_mod (ev_fdiv (ev_var rfl) ev_c ⟨by decide, by decide⟩) ev_c (by decide)) ?_
          obtain ⟨x11, hx11, hm⟩ := wp_idx hm
          refine r_ixSq (hS.sqF (i := 0) rfl) (atI_map hx11) _ ?_
          refine c_set (σ' := [some (.int (v_law_shape)), some (.int (v_law_cell)), some (.str (r1)), some (.int (y2)), some (.int (x11))]) rfl ?_
          refine sq_nx ?_
          refine c_ret ?_
          refine c_tup ?_
          refine c_cons ?_
          refine ev_to ev_c ?_
          refine c_cons ?_
          refine ev_to (ev_var rfl) ?_
          refine c_cons ?_
          refine c_op ?_
          refine c_fz ?_
          refine c_lst ?_
          refine ea_to (ea_cons (ev_var rfl) (ea_cons ev_c (ea_cons (ev_mod (ev_fdiv (ev_var rfl) ev_c ⟨by decide, by decide⟩) ev_c (by decide)) (ea_cons (ev_mod (ev_fdiv (ev_var rfl) ev_c ⟨by decide, by decide⟩) ev_c (by decide)) ea_nil)))) ?_
          refine k_lst (α := Int) (vs := [(.int (x11)), (.int (9999)), (.int ((v_law_cell / 77) % 10000)), (.int ((v_law_cell / 77) % 9))]) (xs := [x11, 9999, (v_law_cell / 77) % 10000, (v_law_cell / 77) % 9]) hS ⟨rfl, ⟨rfl, ⟨rfl, ⟨rfl, True.intro⟩⟩⟩⟩ (by show 4 ≤ sizeLine; decide) fun p12 H hS => ?_
          refine fz_no ?_
          refine ev_to (ev_mod (ev_fdiv (ev_var rfl) ev_c ⟨by decide, by decide⟩) ev_c (by decide)) ?_
          obtain ⟨x13, hx13, hm⟩ := wp_idx hm
          refine r_ixSq (hS.sqF (i := 0) rfl) (atI_map hx13) _ ?_
          refine c_nil ?_
          refine k_tupA (vs := [(.str (("day" : Str))), (.int (x11)), (.int (x13))]) (xs := [(Any.str ("day" : Str)), (Any.int x11), (Any.int x13)]) hS ⟨(any_str.mpr rfl), ⟨(any_int.mpr rfl), ⟨(any_int.mpr rfl), True.intro⟩⟩⟩ (by show 3 ≤ sizeLine; decide) fun p14 H hS => ?_
          exact hm _ _ (hS.sel [0, 3] (by decide) rfl)
        · have hm := R.wp_ifN hm (by first | (rw [hb9]; decide) | simpa using hb9)
          refine st_nx ?_
          refine sq_nx ?_
          refine c_ret ?_
          refine c_tup ?_
          refine c_cons ?_
          refine c_op ?_
          refine c_fz ?_
          refine c_lst ?_
          refine ea_to (ea_cons ev_c (ea_cons ev_c (ea_cons ev_c (ea_cons ev_c (ea_cons ev_c (ea_cons ev_c (ea_cons ev_c ea_nil))))))) ?_
          refine k_lst (α := Str) (vs := [(.str (("word" : Str))), (.str (("title" : Str))), (.str (("from" : Str))), (.str (("in" : Str))), (.str (("marked" : Str))), (.str (("word" : Str))), (.str (("marked" : Str)))]) (xs := [("word" : Str), ("title" : Str), ("from" : Str), ("in" : Str), ("marked" : Str), ("word" : Str), ("marked" : Str)]) hS ⟨rfl, ⟨rfl, ⟨rfl, ⟨rfl, ⟨rfl, ⟨rfl, ⟨rfl, True.intro⟩⟩⟩⟩⟩⟩⟩ (by show 7 ≤ sizeLine; decide) fun p16 H hS => ?_
          refine fz_no ?_
          refine ev_to (ev_sub (ev_var rfl) ev_c) ?_
          obtain ⟨x17, hx17, hm⟩ := wp_idx hm
          refine r_ixSq (hS.sqF (i := 0) rfl) (atI_map hx17) _ ?_
          refine c_cons ?_
          refine ev_to (ev_var rfl) ?_
          refine c_nil ?_
          refine k_tupA (vs := [(.str (x17)), (.str (r1))]) (xs := [(Any.str x17), (Any.str r1)]) hS ⟨(any_str.mpr rfl), ⟨(any_str.mpr rfl), True.intro⟩⟩ (by show 2 ≤ sizeLine; decide) fun p18 H hS => ?_
          exact hm _ _ (hS.sel [0, 2] (by decide) rfl)
def sp_law_threads (G : Gx) (m_law_threads : Any → R Int) : Sp := fun vs H Q E => ∃ (a_v_law_tree : V) (v_law_tree : Any) (F : Asn G), vs = [a_v_law_tree] ∧ Im.im G H a_v_law_tree v_law_tree ∧ Sep H ([F] : List (Asn G)) ∧ R.wp (m_law_threads v_law_tree) (fun r => ∀ H', Sep H' ([F] : List (Asn G)) → Q (.int (r)) H') (fun _ => False)
abbrev N_law_threads : List Str := ["_law_tree", "_law_most", "_law_part"]
theorem sc_law_threads : FnScope N_law_threads ["_law_tree"] (defScope s_law_threads) := ⟨rfl, rfl, rfl, by decide +kernel, rfl, by decide +kernel, by decide +kernel⟩
theorem ok_law_threads_b (T : Txt G mg) {lv : Nat} (hl : 0 ≤ lv) {m_law_threads : Any → R Int} (R_law_threads : FnOk P w G.K mg base CX0 lv T.a_law_threads T.fd_law_threads ["_law_tree"] (sp_law_threads G m_law_threads)) : FnOk P w G.K mg base CX0 (lv + 1) T.a_law_threads T.fd_law_threads ["_law_tree"] (sp_law_threads G (m_law_threads_b m_law_threads)) := by
  have nd := sc_law_threads.nd
  refine Fun.ok T.F_law_threads sc_law_threads (fun vs H Q E h => ?_) (fun cdv A outer s H vs Q E hr h => ?_)
  · obtain ⟨a_v_law_tree, v_law_tree, F, rfl, _⟩ := h; rfl
  · obtain ⟨a_v_law_tree, v_law_tree, F, rfl, him_v_law_tree, hS, hm⟩ := h
    have hS := hS.addIm him_v_law_tree
    refine ⟨_, (pss_cons (ps_set (i := 1) nd rfl (Or.inl rfl) pe_int)
      (pss_cons (ps_for PassesOwn.never rfl (pi_tupK G.K (pe_slice (sl_tupK G.K) (pv 0) (po_some pe_int) po_none)) (pg_name (i := 2) nd rfl (Or.inl rfl)) (pss_one (ps_if (pt_val (pe_callB (isiK G.K) (by rfl) T.z_isinstance (by decide +kernel) (pa_cons (pv 2) (pa_cons (pe_bltn (v := .ty "tuple") (by rfl) T.z_tuple (by decide +kernel) rfl) pa_nil)))) (pss_one (ps_set (i := 1) nd rfl (Or.inl rfl) (pe_callB (call_max2 rfl) (by rfl) T.z_max (by decide +kernel) (pa_cons (pv 1) (pa_cons (pe_call R_law_threads (hr.mono (by omega)) rfl T.g_law_threads T.kp_law_threads T.b_law_threads .nil pass0 (pa_cons (pv 2) pa_nil)) pa_nil))))) pss_nil)))
      (pss_one (ps_ret (pe_op op_add (pv 1) (pe_callTy call_int1 (by rfl) T.z_int (by decide +kernel) (pa_cons (pe_cmpR (eqDK G.K hr.units) (pe_ix (ix_tupK G.K) (pv 0) pe_int (fun _ _ => rfl)) pe_str (nomark _)) pa_nil))))))), ?_⟩
    unfold m_law_threads_b at hm
    refine f_seq ?_
    refine c_asg ?_
    refine ev_to ev_c ?_
    refine c_set (σ' := [some a_v_law_tree, some (.int (0)), none]) rfl ?_
    refine sq_nx ?_
    refine f_seq ?_
    refine c_for ?_
    refine c_it ?_
    refine c_sl ?_
    refine ev_to (ev_var rfl) ?_
    obtain ⟨xs1, h2, hm⟩ := Ml.wp_asTup hm
    obtain ⟨h3, hm⟩ := R.wp_need hm
    refine eo_to (eo_some ev_c) ?_
    refine eo_to eo_no ?_
    refine k_slA (xs := xs1) hS (tupE (hS.im (i := 0) rfl) h2) h3 fun p4 H hS => ?_
    obtain ⟨a6, he7⟩ := any_addr (xs := (cutL xs1 (some (1)) none)) (hS.im (i := 0) rfl)
    subst he7
    refine k_itA (xs := (cutL xs1 (some (1)) none)) (hS.im (i := 0) rfl) ?_
    refine k_for (τ := Int) (fun (s8 : Int) (σ : L2.St) (H : Hp) => ∃ (w11 : Option V), σ = [some a_v_law_tree, some (.int (s8)), w11] ∧ Sep H ([imA (.ref a6) ((Any.tup (cutL xs1 (some (1)) none)) : Any), imA a_v_law_tree (v_law_tree : Any), F] : List (Asn G))) (im := (Im.im G)) (s := (0)) (fun _ => wk_tupA fun _ _ ⟨_, _, h⟩ => h.im (i := 0) rfl) ⟨_, rfl, hS.sel [0, 1, 2] (by decide) rfl⟩ hm (fun s8 x9 v10 σ H q N hI hx hm nx => ?_) (fun s8 σ H hm hI => ?_)
    ·
      obtain ⟨w11, rfl, hS⟩ := hI
      have hS := hS.addIm (v := v10) (x := (x9 : Any)) hx
      refine c_gN (σ' := [some a_v_law_tree, some (.int (s8)), some v10]) rfl ?_
      refine f_if ?_
      refine et_to (et_B (ev_isAny (ev_var rfl) ev_c (hS.im (i := 0) rfl) (by decide))) ?_
      refine ifK_J (τ := Int) (fun (s13 : Int) (σ : L2.St) (H : Hp) => σ = [some a_v_law_tree, some (.int (s13)), some v10] ∧ Sep H ([imA v10 (x9 : Any), imA (.ref a6) ((Any.tup (cutL xs1 (some (1)) none)) : Any), imA a_v_law_tree (v_law_tree : Any), F] : List (Asn G))) hm (fun hb q hm nx => ?_) (fun hb q hm nx => ?_) (fun s13 σ H hm hI => ?_)
      ·
        refine c_asg ?_
        refine c_cb ?_
        refine c_cons ?_
        refine ev_to (ev_var rfl) ?_
        refine c_cons ?_
        refine c_call ?_
        refine ea_to (ea_cons (ev_var rfl) ea_nil) ?_
        refine ⟨v10, (x9 : Any), star [imA v10 (x9 : Any), imA (.ref a6) ((Any.tup (cutL xs1 (some (1)) none)) : Any), imA a_v_law_tree (v_law_tree : Any), F], rfl, (hS.im (i := 0) rfl), Sep.unstar (M := []) (hS.sel [0, 1, 2, 3] (by decide) rfl : Sep H (([] ++ [imA v10 (x9 : Any), imA (.ref a6) ((Any.tup (cutL xs1 (some (1)) none)) : Any), imA a_v_law_tree (v_law_tree : Any), F] : List (Asn G)))), R.wp_mono (R.wp_bind hm) (fun r14 hm H hS => ?_) (fun _ z => z)⟩
        have hS : Sep H ([imA v10 (x9 : Any), imA (.ref a6) ((Any.tup (cutL xs1 (some (1)) none)) : Any), imA a_v_law_tree (v_law_tree : Any), F] : List (Asn G)) := Sep.star (M := []) hS
        refine c_nil ?_
        refine ⟨_, _, rfl, ?_⟩
        obtain ⟨y15, hy15, hm⟩ := wp_let hm
        refine n_is (w := (.int (y15))) (by rw [hy15]) ?_
        refine c_set (σ' := [some a_v_law_tree, some (.int (y15)), some v10]) rfl ?_
        exact nx _ _ _ hm ⟨rfl, hS.sel [0, 1, 2, 3] (by decide) rfl⟩
      ·
        refine st_nx ?_
        exact nx _ _ _ hm ⟨rfl, hS.sel [0, 1, 2, 3] (by decide) rfl⟩
      · obtain ⟨rfl, hS⟩ := hI
        exact nx _ _ _ hm ⟨_, rfl, hS.sel [1, 2, 3] (by decide) rfl⟩
    · obtain ⟨w11, rfl, hS⟩ := hI
      refine sq_nx ?_
      refine c_ret ?_
      obtain ⟨xs16, h17, hm⟩ := Ml.wp_asTup hm
      obtain ⟨x18, hx18, hm⟩ := wp_idx hm
      obtain ⟨a19, vs20, he21, hg22, hM23⟩ := any_tupE (hS.im (i := 1) rfl) h17
      obtain ⟨u24, hu25, hi26⟩ := atI_im hM23 hx18
      obtain ⟨b27, hb27, hm⟩ := wp_eqA hm
      refine ev_to (ev_add (ev_var rfl) (ev_cb (ea_cons (ev_eqA (ev_ixT (ev_is (ev_var rfl) he21) ev_c hg22 hu25) ev_c hi26 (any_str.mpr rfl) hb27) ea_nil) fun _ q => .inr ⟨_, rfl, q⟩)) ?_
      exact hm _ (hS.sel [2] (by decide) rfl)
theorem ok_law_threads (T : Txt G mg) : ∀ n : Nat, FnOk P w G.K mg base CX0 (1 + n) T.a_law_threads T.fd_law_threads ["_law_tree"] (sp_law_threads G (m_law_threads n))
  | 0 => fnOk_no fun vs H Q E h => by obtain ⟨a_v_law_tree, v_law_tree, F, _, him_v_law_tree, _, hm⟩ := h; exact hm
  | n + 1 => ok_law_threads_b T (Nat.le_add_right_of_le (by decide)) (ok_law_threads T n)
def sp_law_tree_by (G : Gx) : Sp := fun vs H Q E => ∃ (v_law_shape : Int) (a_v_law_cells : Addr) (v_law_cells : (List Int)) (F : Asn G), vs = [(.int (v_law_shape)), .ref a_v_law_cells] ∧ Sep H ([lstA a_v_law_cells (v_law_cells : (List Int)), F] : List (Asn G)) ∧ R.wp (m_law_tree_by v_law_shape v_law_cells) (fun r => ∀ (p : V) H', Sep H' ([imA p (r : Any), lstA a_v_law_cells (v_law_cells : (List Int)), F] : List (Asn G)) → Q p H') (fun _ => False)
abbrev N_law_tree_by : List Str := ["_law_shape", "_law_cells", "_law_pile", "_law_cell", "_law_kind"]
theorem sc_law_tree_by : FnScope N_law_tree_by ["_law_shape", "_law_cells"] (defScope s_law_tree_by) := ⟨rfl, rfl, rfl, by decide +kernel, rfl, by decide +kernel, by decide +kernel⟩
theorem ok_law_tree_by (T : Txt G mg) : FnOk P w G.K mg base CX0 14 T.a_law_tree_by T.fd_law_tree_by ["_law_shape", "_law_cells"] (sp_law_tree_by G) := by
  have nd := sc_law_tree_by.nd
  refine Fun.ok T.F_law_tree_by sc_law_tree_by (fun vs H Q E h => ?_) (fun cdv A outer s H vs Q E hr h => ?_)
  · obtain ⟨v_law_shape, a_v_law_cells, v_law_cells, F, rfl, _⟩ := h; rfl
  · obtain ⟨v_law_shape, a_v_law_cells, v_law_cells, F, rfl, hS, hm⟩ := h
    refine ⟨_, (pss_cons (ps_set (i := 2) nd rfl (Or.inl rfl) (pe_fz (pe_lst pa_nil)))
      (pss_cons (ps_for PassesOwn.never rfl (pi_listK G.K (pe_fz (pv 1))) (pg_name (i := 3) nd rfl (Or.inl rfl)) (pss_cons (ps_set (i := 4) nd rfl (Or.inl rfl) (pe_op op_mod (pv 3) pe_int))
      (pss_one (ps_if (PW.pt (pw_and (pt_cmpR op_lt (pv 4) pe_int (nomark _)) (pw_and1 (pt_cmpR op_gt (pe_callB (lenSqK G.K) (by rfl) T.z_len PySem.boot_len (pa_cons (pe_fz (pv 2)) pa_nil)) pe_int (nomark _))))) (pss_one (ps_set (i := 2) nd rfl (Or.inl rfl) (pe_fz (pe_op op_catR (pe_fz (pe_slice (sl_listK G.K) (pe_fz (pv 2)) po_none (po_some (pe_un un_neg pe_int)))) (pe_fz (pe_lst (pa_cons (pe_tup (pa_cons pe_str (pa_cons (pe_ix (ix_listK G.K) (pe_fz (pv 2)) (pe_un un_neg pe_int) (fun _ _ => rfl)) pa_nil))) pa_nil))))))) (pss_one (ps_if (PW.pt (pw_and (pt_cmpR op_eq (pv 4) pe_int (nomark _)) (pw_and (pt_cmpR op_gt (pe_callB (lenSqK G.K) (by rfl) T.z_len PySem.boot_len (pa_cons (pe_fz (pv 2)) pa_nil)) pe_int (nomark _)) (pw_and1 (pt_cmpR op_lt (pe_call (ok_law_threads T 12) (hr.mono (by decide)) rfl T.g_law_threads T.kp_law_threads T.b_law_threads .nil pass0 (pa_cons (pe_ix (ix_listK G.K) (pe_fz (pv 2)) (pe_un un_neg pe_int) (fun _ _ => rfl)) pa_nil)) pe_int (nomark _)))))) (pss_one (ps_set (i := 2) nd rfl (Or.inl rfl) (pe_fz (pe_op op_catR (pe_fz (pe_slice (sl_listK G.K) (pe_fz (pv 2)) po_none (po_some (pe_un un_neg pe_int)))) (pe_fz (pe_lst (pa_cons (pe_tup (pa_cons pe_str (pa_cons (pe_ix (ix_listK G.K) (pe_fz (pv 2)) (pe_un un_neg pe_int) (fun _ _ => rfl)) pa_nil))) pa_nil))))))) (pss_one (ps_if (PW.pt (pw_and (pt_cmpR op_gt (pv 4) pe_int (nomark _)) (pw_and1 (pt_cmpR op_gt (pe_callB (lenSqK G.K) (by rfl) T.z_len PySem.boot_len (pa_cons (pe_fz (pv 2)) pa_nil)) pe_int (nomark _))))) (pss_one (ps_set (i := 2) nd rfl (Or.inl rfl) (pe_fz (pe_op op_catR (pe_fz (pe_slice (sl_listK G.K) (pe_fz (pv 2)) po_none (po_some (pe_un un_neg pe_int)))) (pe_fz (pe_lst (pa_cons (pe_tup (pa_cons (pe_ix (ix_listK G.K) (pe_fz (pe_lst (pa_cons pe_str (pa_cons pe_str pa_nil)))) (pe_op op_mod (pv 4) pe_int) (fun _ _ => rfl)) (pa_cons (pe_ix (ix_listK G.K) (pe_fz (pv 2)) (pe_un un_neg pe_int) (fun _ _ => rfl)) (pa_cons (pe_ix (ix_listK G.K) (pe_fz (pv 2)) (pe_un un_neg pe_int) (fun _ _ => rfl)) pa_nil)))) pa_nil))))))) (pss_one (ps_expr (pe_bmK G.K PySem.F.plainAttrs_list PySem.F.slot_list_append PySem.F.type_list_append mt_append (pe_fz (pv 2)) (pa_cons (pe_call (ok_law_leaf_by T) (hr.mono (by decide)) rfl T.g_law_leaf_by T.kp_law_leaf_by T.b_law_leaf_by .nil pass0 (pa_cons (pv 0) (pa_cons (pe_op op_fdiv (pv 3) pe_int) pa_nil))) pa_nil))))))))))))
      (pss_cons (ps_while PassesOwn.never (pt_cmpR op_gt (pe_callB (lenSqK G.K) (by rfl) T.z_len PySem.boot_len (pa_cons (pe_fz (pv 2)) pa_nil)) pe_int (nomark _)) (pss_one (ps_set (i := 2) nd rfl (Or.inl rfl) (pe_fz (pe_op op_catR (pe_fz (pe_slice (sl_listK G.K) (pe_fz (pv 2)) po_none (po_some (pe_un un_neg pe_int)))) (pe_fz (pe_lst (pa_cons (pe_tup (pa_cons (pe_ix (ix_listK G.K) (pe_fz (pe_lst (pa_cons pe_str (pa_cons pe_str pa_nil)))) (pe_op op_mod (pe_op op_fdiv (pe_ix (ix_listK G.K) (pe_fz (pv 1)) pe_int (fun _ _ => rfl)) pe_int) pe_int) (fun _ _ => rfl)) (pa_cons (pe_ix (ix_listK G.K) (pe_fz (pv 2)) (pe_un un_neg pe_int) (fun _ _ => rfl)) (pa_cons (pe_ix (ix_listK G.K) (pe_fz (pv 2)) (pe_un un_neg pe_int) (fun _ _ => rfl)) pa_nil)))) pa_nil))))))))
      (pss_one (ps_ret (pe_ix (ix_listK G.K) (pe_fz (pv 2)) pe_int (fun _ _ => rfl))))))), ?_⟩
    unfold m_law_tree_by at hm
    refine f_seq ?_
    refine c_asg ?_
    refine c_fz ?_
    refine c_lst ?_
    refine ea_to ea_nil ?_
    refine k_lst (α := Any) (vs := []) (xs := ([] : (List Any))) hS True.intro (by show 0 ≤ sizeLine; decide) fun p1 H hS => ?_
    refine fz_no ?_
    refine c_set (σ' := [some (.int (v_law_shape)), some (.ref a_v_law_cells), some (.ref p1), none, none]) rfl ?_
    refine sq_nx ?_
    refine f_seq ?_
    refine c_for ?_
    refine c_il ?_
    refine ev_to (ev_fz (ev_var rfl)) ?_
    refine k_il hS (i := 1) rfl ?_
    refine k_for (τ := (List Any)) (fun (s2 : (List Any)) (σ : L2.St) (H : Hp) => ∃ (w5 w6 : Option V), ∃ (a7 : Addr), σ = [some (.int (v_law_shape)), some (.ref a_v_law_cells), some (.ref a7), w5, w6] ∧ Sep H ([lstA a7 (s2 : (List Any)), lstA a_v_law_cells (v_law_cells : (List Int)), F] : List (Asn G))) (im := (Im.im G)) (s := (([] : (List Any)))) (fun _ => wk_list fun _ _ ⟨_, _, _, _, h⟩ => h.sq (i := 1) rfl) ⟨_, _, _, rfl, hS.sel [0, 1, 2] (by decide) rfl⟩ hm (fun s2 x3 v4 σ H q N hI hx hm nx => ?_) (fun s2 σ H hm hI => ?_)
    ·
      obtain ⟨w5, w6, a7, rfl, hS⟩ := hI
      cases hx
      refine c_gN (σ' := [some (.int (v_law_shape)), some (.ref a_v_law_cells), some (.ref a7), some (.int (x3)), w6]) rfl ?_
      refine f_seq ?_
      refine c_asg ?_
      refine ev_to (ev_mod (ev_var rfl) ev_c (by decide)) ?_
      obtain ⟨y8, hy8, hm⟩ := wp_let hm
      refine n_is (w := (.int (y8))) (by rw [hy8]) ?_
      refine c_set (σ' := [some (.int (v_law_shape)), some (.ref a_v_law_cells), some (.ref a7), some (.int (x3)), some (.int (y8))]) rfl ?_
      refine sq_nx ?_
      refine f_if ?_
      refine et_to (et_and (et_test (ev_i0 (ev_var rfl) ev_c)) fun _ => (et_test (ev_i0 (ev_lenG (ev_fz (ev_var rfl)) (hS.sq (i := 0) rfl)) ev_c))) ?_
      refine ifK_J (τ := (List Any)) (fun (s9 : (List Any)) (σ : L2.St) (H : Hp) => ∃ (a10 : Addr), σ = [some (.int (v_law_shape)), some (.ref a_v_law_cells), some (.ref a10), some (.int (x3)), some (.int (y8))] ∧ Sep H ([lstA a10 (s9 : (List Any)), lstA a_v_law_cells (v_law_cells : (List Int)), F] : List (Asn G))) hm (fun hb q hm nx => ?_) (fun hb q hm nx => ?_) (fun s9 σ H hm hI => ?_)
      ·
        refine c_asg ?_
        refine c_fz ?_
        refine c_op ?_
        refine c_fz ?_
        refine c_sl ?_
        refine ev_to (ev_fz (ev_var rfl)) ?_
        refine eo_to eo_no ?_
        refine eo_to (eo_some (ev_un ev_c fun _ q => ⟨_, rfl, q⟩)) ?_
        refine k_slG hS (hS.sq (i := 0) rfl) fun p11 H hS => ?_
        refine fz_no ?_
        refine c_fz ?_
        refine c_lst ?_
        refine c_cons ?_
        refine c_tup ?_
        obtain ⟨x12, hx12, hm⟩ := wp_idx hm
        obtain ⟨vs13, hq14, hM15⟩ := hS.sq (i := 1) rfl
        obtain ⟨u16, hu17, hi18⟩ := atI_im hM15 hx12
        refine ea_to (ea_cons ev_c (ea_cons (ev_ixSq (ev_fz (ev_var rfl)) (ev_un ev_c fun _ q => ⟨_, rfl, q⟩) hq14 hu17) ea_nil)) ?_
        have hS := hS.addIm (v := u16) (x := (x12 : Any)) hi18
        refine k_tupA (vs := [(.str (("not" : Str))), u16]) (xs := [(Any.str ("not" : Str)), x12]) hS ⟨(any_str.mpr rfl), ⟨(hS.im (i := 0) rfl), True.intro⟩⟩ (by show 2 ≤ sizeLine; decide) fun p20 H hS => ?_
        refine c_nil ?_
        refine k_lst (α := Any) (vs := [(.ref p20)]) (xs := [(Any.tup [(Any.str ("not" : Str)), x12])]) hS ⟨(hS.im (i := 0) rfl), True.intro⟩ (by show 1 ≤ sizeLine; decide) fun p22 H hS => ?_
        refine fz_no ?_
        obtain ⟨h23, hm⟩ := R.wp_need hm
        refine k_catG hS (hS.rdL (i := 3) rfl) (hS.rdL (i := 0) rfl) h23 fun p24 H hS => ?_
        refine fz_no ?_
        obtain ⟨y25, hy25, hm⟩ := wp_let hm
        have hS : Sep H ([lstA p24 (y25 : (List Any)), lstA p22 ([(Any.tup [(Any.str ("not" : Str)), x12])] : (List Any)), imA (.ref p20) ((Any.tup [(Any.str ("not" : Str)), x12]) : Any), imA u16 (x12 : Any), lstA p11 (cutL s2 none (some (-1)) : (List Any)), lstA a7 (s2 : (List Any)), lstA a_v_law_cells (v_law_cells : (List Int)), F] : List (Asn G)) := by rw [← hy25]; exact hS
        refine c_set (σ' := [some (.int (v_law_shape)), some (.ref a_v_law_cells), some (.ref p24), some (.int (x3)), some (.int (y8))]) rfl ?_
        exact nx _ _ _ hm ⟨_, rfl, hS.sel [0, 6, 7] (by decide) rfl⟩
      ·
        refine f_if ?_
        refine f_and ?_
        refine et_to (et_test (ev_eqI (ev_var rfl) ev_c)) ?_
        refine andK_J hm hS (fun hb q hm nx => ?_) (fun b26 H hm hS => ?_)
        ·
          refine f_and ?_
          refine et_to (et_test (ev_i0 (ev_lenG (ev_fz (ev_var rfl)) (hS.sq (i := 0) rfl)) ev_c)) ?_
          refine andK_J hm hS (fun hb q hm nx => ?_) (fun b27 H hm hS => ?_)
          ·
            refine f_test ?_
            refine c_op ?_
            refine c_call ?_
            obtain ⟨x28, hx28, hm⟩ := wp_idx hm
            obtain ⟨vs29, hq30, hM31⟩ := hS.sq (i := 0) rfl
            obtain ⟨u32, hu33, hi34⟩ := atI_im hM31 hx28
            refine ea_to (ea_cons (ev_ixSq (ev_fz (ev_var rfl)) (ev_un ev_c fun _ q => ⟨_, rfl, q⟩) hq30 hu33) ea_nil) ?_
            have hS := hS.addIm (v := u32) (x := (x28 : Any)) hi34
            refine ⟨u32, (x28 : Any), star [imA u32 (x28 : Any), lstA a7 (s2 : (List Any)), lstA a_v_law_cells (v_law_cells : (List Int)), F], rfl, (hS.im (i := 0) rfl), Sep.unstar (M := []) (hS.sel [0, 1, 2, 3] (by decide) rfl : Sep H (([] ++ [imA u32 (x28 : Any), lstA a7 (s2 : (List Any)), lstA a_v_law_cells (v_law_cells : (List Int)), F] : List (Asn G)))), R.wp_mono (R.wp_bind hm) (fun r36 hm H hS => ?_) (fun _ z => z)⟩
            have hS : Sep H ([imA u32 (x28 : Any), lstA a7 (s2 : (List Any)), lstA a_v_law_cells (v_law_cells : (List Int)), F] : List (Asn G)) := Sep.star (M := []) hS
            refine ev_to ev_c ?_
            refine ev_op2 (ev_i0 ev_c ev_c) ?_
            refine f_bl ?_
            exact nx _ _ hm (hS.sel [1, 2, 3] (by decide) rfl)
          ·
            exact nx _ _ hm (hS.sel [0, 1, 2] (by decide) rfl)
        ·
          refine ifK_J (τ := (List Any)) (fun (s37 : (List Any)) (σ : L2.St) (H : Hp) => ∃ (a38 : Addr), σ = [some (.int (v_law_shape)), some (.ref a_v_law_cells), some (.ref a38), some (.int (x3)), some (.int (y8))] ∧ Sep H ([lstA a38 (s37 : (List Any)), lstA a_v_law_cells (v_law_cells : (List Int)), F] : List (Asn G))) hm (fun hb q hm nx => ?_) (fun hb q hm nx => ?_) (fun s37 σ H hm hI => ?_)
          ·
            refine c_asg ?_
            refine c_fz ?_
            refine c_op ?_
            refine c_fz ?_
            refine c_sl ?_
            refine ev_to (ev_fz (ev_var rfl)) ?_
            refine eo_to eo_no ?_
            refine eo_to (eo_some (ev_un ev_c fun _ q => ⟨_, rfl, q⟩)) ?_
            refine k_slG hS (hS.sq (i := 0) rfl) fun p39 H hS => ?_
            refine fz_no ?_
            refine c_fz ?_
            refine c_lst ?_
            refine c_cons ?_
            refine c_tup ?_
            obtain ⟨x40, hx40, hm⟩ := wp_idx hm
            obtain ⟨vs41, hq42, hM43⟩ := hS.sq (i := 1) rfl
            obtain ⟨u44, hu45, hi46⟩ := atI_im hM43 hx40
            refine ea_to (ea_cons ev_c (ea_cons (ev_ixSq (ev_fz (ev_var rfl)) (ev_un ev_c fun _ q => ⟨_, rfl, q⟩) hq42 hu45) ea_nil)) ?_
            have hS := hS.addIm (v := u44) (x := (x40 : Any)) hi46
            refine k_tupA (vs := [(.str (("thread" : Str))), u44]) (xs := [(Any.str ("thread" : Str)), x40]) hS ⟨(any_str.mpr rfl), ⟨(hS.im (i := 0) rfl), True.intro⟩⟩ (by show 2 ≤ sizeLine; decide) fun p48 H hS => ?_
            refine c_nil ?_
            refine k_lst (α := Any) (vs := [(.ref p48)]) (xs := [(Any.tup [(Any.str ("thread" : Str)), x40])]) hS ⟨(hS.im (i := 0) rfl), True.intro⟩ (by show 1 ≤ sizeLine; decide) fun p50 H hS => ?_
            refine fz_no ?_
            obtain ⟨h51, hm⟩ := R.wp_need hm
            refine k_catG hS (hS.rdL (i := 3) rfl) (hS.rdL (i := 0) rfl) h51 fun p52 H hS => ?_
            refine fz_no ?_
            obtain ⟨y53, hy53, hm⟩ := wp_let hm
            have hS : Sep H ([lstA p52 (y53 : (List Any)), lstA p50 ([(Any.tup [(Any.str ("thread" : Str)), x40])] : (List Any)), imA (.ref p48) ((Any.tup [(Any.str ("thread" : Str)), x40]) : Any), imA u44 (x40 : Any), lstA p39 (cutL s2 none (some (-1)) : (List Any)), lstA a7 (s2 : (List Any)), lstA a_v_law_cells (v_law_cells : (List Int)), F] : List (Asn G)) := by rw [← hy53]; exact hS
            refine c_set (σ' := [some (.int (v_law_shape)), some (.ref a_v_law_cells), some (.ref p52), some (.int (x3)), some (.int (y8))]) rfl ?_
            exact nx _ _ _ hm ⟨_, rfl, hS.sel [0, 6, 7] (by decide) rfl⟩
          ·
            refine f_if ?_
            refine et_to (et_and (et_test (ev_i0 (ev_var rfl) ev_c)) fun _ => (et_test (ev_i0 (ev_lenG (ev_fz (ev_var rfl)) (hS.sq (i := 0) rfl)) ev_c))) ?_
            refine ifK_J (τ := (List Any)) (fun (s54 : (List Any)) (σ : L2.St) (H : Hp) => ∃ (a55 : Addr), σ = [some (.int (v_law_shape)), some (.ref a_v_law_cells), some (.ref a55), some (.int (x3)), some (.int (y8))] ∧ Sep H ([lstA a55 (s54 : (List Any)), lstA a_v_law_cells (v_law_cells : (List Int)), F] : List (Asn G))) hm (fun hb q hm nx => ?_) (fun hb q hm nx => ?_) (fun s54 σ H hm hI => ?_)
            ·
              refine c_asg ?_
              refine c_fz ?_
              refine c_op ?_
              refine c_fz ?_
              refine c_sl ?_
              refine ev_to (ev_fz (ev_var rfl)) ?_
              refine eo_to eo_no ?_
              refine eo_to (eo_some (ev_un ev_c fun _ q => ⟨_, rfl, q⟩)) ?_
              refine k_slG hS (hS.sq (i := 0) rfl) fun p56 H hS => ?_
              refine fz_no ?_
              refine c_fz ?_
              refine c_lst ?_
              refine c_cons ?_
              refine c_tup ?_
              refine c_cons ?_
              refine c_op ?_
              refine c_fz ?_
              refine c_lst ?_
              refine ea_to (ea_cons ev_c (ea_cons ev_c ea_nil)) ?_
              refine k_lst (α := Str) (vs := [(.str (("both" : Str))), (.str (("either" : Str)))]) (xs := [("both" : Str), ("either" : Str)]) hS ⟨rfl, ⟨rfl, True.intro⟩⟩ (by show 2 ≤ sizeLine; decide) fun p57 H hS => ?_
              refine fz_no ?_
              refine ev_to (ev_mod (ev_var rfl) ev_c (by decide)) ?_
              obtain ⟨x58, hx58, hm⟩ := wp_idx hm
              refine r_ixSq (hS.sqF (i := 0) rfl) (atI_map hx58) _ ?_
              refine c_cons ?_
              obtain ⟨x59, hx59, hm⟩ := wp_idx hm
              obtain ⟨vs60, hq61, hM62⟩ := hS.sq (i := 2) rfl
              obtain ⟨u63, hu64, hi65⟩ := atI_im hM62 hx59
              refine ev_to (ev_ixSq (ev_fz (ev_var rfl)) (ev_un ev_c fun _ q => ⟨_, rfl, q⟩) hq61 hu64) ?_
              have hS := hS.addIm (v := u63) (x := (x59 : Any)) hi65
              refine c_cons ?_
              obtain ⟨x67, hx67, hm⟩ := wp_idx hm
              obtain ⟨vs68, hq69, hM70⟩ := hS.sq (i := 3) rfl
              obtain ⟨u71, hu72, hi73⟩ := atI_im hM70 hx67
              refine ev_to (ev_ixSq (ev_fz (ev_var rfl)) (ev_un ev_c fun _ q => ⟨_, rfl, q⟩) hq69 hu72) ?_
              have hS := hS.addIm (v := u71) (x := (x67 : Any)) hi73
              refine c_nil ?_
              refine k_tupA (vs := [(.str (x58)), u63, u71]) (xs := [(Any.str x58), x59, x67]) hS ⟨(any_str.mpr rfl), ⟨(hS.im (i := 1) rfl), ⟨(hS.im (i := 0) rfl), True.intro⟩⟩⟩ (by show 3 ≤ sizeLine; decide) fun p75 H hS => ?_
              refine c_nil ?_
              refine k_lst (α := Any) (vs := [(.ref p75)]) (xs := [(Any.tup [(Any.str x58), x59, x67])]) hS ⟨(hS.im (i := 0) rfl), True.intro⟩ (by show 1 ≤ sizeLine; decide) fun p77 H hS => ?_
              refine fz_no ?_
              obtain ⟨h78, hm⟩ := R.wp_need hm
              refine k_catG hS (hS.rdL (i := 5) rfl) (hS.rdL (i := 0) rfl) h78 fun p79 H hS => ?_
              refine fz_no ?_
              obtain ⟨y80, hy80, hm⟩ := wp_let hm
              have hS : Sep H ([lstA p79 (y80 : (List Any)), lstA p77 ([(Any.tup [(Any.str x58), x59, x67])] : (List Any)), imA (.ref p75) ((Any.tup [(Any.str x58), x59, x67]) : Any), imA u71 (x67 : Any), imA u63 (x59 : Any), lstA p57 ([("both" : Str), ("either" : Str)] : (List Str)), lstA p56 (cutL s2 none (some (-2)) : (List Any)), lstA a7 (s2 : (List Any)), lstA a_v_law_cells (v_law_cells : (List Int)), F] : List (Asn G)) := by rw [← hy80]; exact hS
              refine c_set (σ' := [some (.int (v_law_shape)), some (.ref a_v_law_cells), some (.ref p79), some (.int (x3)), some (.int (y8))]) rfl ?_
              exact nx _ _ _ hm ⟨_, rfl, hS.sel [0, 8, 9] (by decide) rfl⟩
            ·
              refine c_drop ?_
              refine c_bm ?_
              refine ev_to (ev_fz (ev_var rfl)) ⟨tyL hS (i := 0) rfl, ?_⟩
              refine c_cons ?_
              refine c_call ?_
              refine ea_to (ea_cons (ev_var rfl) (ea_cons (ev_fdiv (ev_var rfl) ev_c ⟨by decide, by decide⟩) ea_nil)) ?_
              refine ⟨v_law_shape, (x3 / 9), star [lstA a7 (s2 : (List Any)), lstA a_v_law_cells (v_law_cells : (List Int)), F], rfl, Sep.unstar (M := []) (hS.sel [0, 1, 2] (by decide) rfl : Sep H (([] ++ [lstA a7 (s2 : (List Any)), lstA a_v_law_cells (v_law_cells : (List Int)), F] : List (Asn G)))), R.wp_mono (R.wp_bind hm) (fun r81 hm p82 H hS => ?_) (fun _ z => z)⟩
              have hS : Sep H ([imA p82 (r81 : Any), lstA a7 (s2 : (List Any)), lstA a_v_law_cells (v_law_cells : (List Int)), F] : List (Asn G)) := Sep.star (M := [imA p82 (r81 : Any)]) hS
              refine c_nil ?_
              obtain ⟨h84, hm⟩ := R.wp_need hm
              refine k_append (x := r81) hS (i := 1) rfl (hS.im (i := 0) rfl) h84 rfl fun H hS => ?_
              exact nx _ _ _ hm ⟨_, rfl, hS.sel [1, 2, 3] (by decide) rfl⟩
            · obtain ⟨a55, rfl, hS⟩ := hI
              exact nx _ _ _ hm ⟨_, rfl, hS.sel [0, 1, 2] (by decide) rfl⟩
          · obtain ⟨a38, rfl, hS⟩ := hI
            exact nx _ _ _ hm ⟨_, rfl, hS.sel [0, 1, 2] (by decide) rfl⟩
      · obtain ⟨a10, rfl, hS⟩ := hI
        exact nx _ _ _ hm ⟨_, _, _, rfl, hS.sel [0, 1, 2] (by decide) rfl⟩
    · obtain ⟨w5, w6, a7, rfl, hS⟩ := hI
      refine sq_nx ?_
      refine f_seq ?_
      refine k_whileN (τ := (List Any)) (n := 64) (c := fun (s85 : (List Any)) => decide (1 < (s85.length : Int))) (s := (s2)) (fun (s85 : (List Any)) (σ : L2.St) (H : Hp) => ∃ (a86 : Addr), σ = [some (.int (v_law_shape)), some (.ref a_v_law_cells), some (.ref a86), w5, w6] ∧ Sep H ([lstA a86 (s85 : (List Any)), lstA a_v_law_cells (v_law_cells : (List Int)), F] : List (Asn G))) ⟨_, rfl, hS.sel [0, 1, 2] (by decide) rfl⟩ hm (fun s85 σ H hI => by obtain ⟨a86, rfl, hS⟩ := hI; exact (et_test (ev_i0 (ev_lenG (ev_fz (ev_var rfl)) (hS.sq (i := 0) rfl)) ev_c))) (fun s85 σ H q N hI hm nx => ?_) (fun s85 σ H hm hI => ?_)
      ·
        obtain ⟨a86, rfl, hS⟩ := hI
        refine c_asg ?_
        refine c_fz ?_
        refine c_op ?_
        refine c_fz ?_
        refine c_sl ?_
        refine ev_to (ev_fz (ev_var rfl)) ?_
        refine eo_to eo_no ?_
        refine eo_to (eo_some (ev_un ev_c fun _ q => ⟨_, rfl, q⟩)) ?_
        refine k_slG hS (hS.sq (i := 0) rfl) fun p87 H hS => ?_
        refine fz_no ?_
        refine c_fz ?_
        refine c_lst ?_
        refine c_cons ?_
        refine c_tup ?_
        refine c_cons ?_
        refine c_op ?_
        refine c_fz ?_
        refine c_lst ?_
        refine ea_to (ea_cons ev_c (ea_cons ev_c ea_nil)) ?_
        refine k_lst (α := Str) (vs := [(.str (("both" : Str))), (.str (("either" : Str)))]) (xs := [("both" : Str), ("either" : Str)]) hS ⟨rfl, ⟨rfl, True.intro⟩⟩ (by show 2 ≤ sizeLine; decide) fun p88 H hS => ?_
        refine fz_no ?_
        obtain ⟨x89, hx89, hm⟩ := wp_idx hm
        refine ev_to (ev_mod (ev_fdiv (ev_ixSq (ev_fz (ev_var rfl)) ev_c (hS.sqF (i := 3) rfl) (atI_map hx89)) ev_c ⟨by decide, by decide⟩) ev_c (by decide)) ?_
        obtain ⟨x90, hx90, hm⟩ := wp_idx hm
        refine r_ixSq (hS.sqF (i := 0) rfl) (atI_map hx90) _ ?_
        refine c_cons ?_
        obtain ⟨x91, hx91, hm⟩ := wp_idx hm
        obtain ⟨vs92, hq93, hM94⟩ := hS.sq (i := 2) rfl
        obtain ⟨u95, hu96, hi97⟩ := atI_im hM94 hx91
        refine ev_to (ev_ixSq (ev_fz (ev_var rfl)) (ev_un ev_c fun _ q => ⟨_, rfl, q⟩) hq93 hu96) ?_
        have hS := hS.addIm (v := u95) (x := (x91 : Any)) hi97
        refine c_cons ?_
        obtain ⟨x99, hx99, hm⟩ := wp_idx hm
        obtain ⟨vs100, hq101, hM102⟩ := hS.sq (i := 3) rfl
        obtain ⟨u103, hu104, hi105⟩ := atI_im hM102 hx99
        refine ev_to (ev_ixSq (ev_fz (ev_var rfl)) (ev_un ev_c fun _ q => ⟨_, rfl, q⟩) hq101 hu104) ?_
        have hS := hS.addIm (v := u103) (x := (x99 : Any)) hi105
        refine c_nil ?_
        refine k_tupA (vs := [(.str (x90)), u95, u103]) (xs := [(Any.str x90), x91, x99]) hS ⟨(any_str.mpr rfl), ⟨(hS.im (i := 1) rfl), ⟨(hS.im (i := 0) rfl), True.intro⟩⟩⟩ (by show 3 ≤ sizeLine; decide) fun p107 H hS => ?_
        refine c_nil ?_
        refine k_lst (α := Any) (vs := [(.ref p107)]) (xs := [(Any.tup [(Any.str x90), x91, x99])]) hS ⟨(hS.im (i := 0) rfl), True.intro⟩ (by show 1 ≤ sizeLine; decide) fun p109 H hS => ?_
        refine fz_no ?_
        obtain ⟨h110, hm⟩ := R.wp_need hm
        refine k_catG hS (hS.rdL (i := 5) rfl) (hS.rdL (i := 0) rfl) h110 fun p111 H hS => ?_
        refine fz_no ?_
        obtain ⟨y112, hy112, hm⟩ := wp_let hm
        have hS : Sep H ([lstA p111 (y112 : (List Any)), lstA p109 ([(Any.tup [(Any.str x90), x91, x99])] : (List Any)), imA (.ref p107) ((Any.tup [(Any.str x90), x91, x99]) : Any), imA u103 (x99 : Any), imA u95 (x91 : Any), lstA p88 ([("both" : Str), ("either" : Str)] : (List Str)), lstA p87 (cutL s85 none (some (-2)) : (List Any)), lstA a86 (s85 : (List Any)), lstA a_v_law_cells (v_law_cells : (List Int)), F] : List (Asn G)) := by rw [← hy112]; exact hS
        refine c_set (σ' := [some (.int (v_law_shape)), some (.ref a_v_law_cells), some (.ref p111), w5, w6]) rfl ?_
        exact nx _ _ _ hm ⟨_, rfl, hS.sel [0, 8, 9] (by decide) rfl⟩
      · obtain ⟨a86, rfl, hS⟩ := hI
        refine sq_nx ?_
        refine c_ret ?_
        obtain ⟨x113, hx113, hm⟩ := wp_idx hm
        obtain ⟨vs114, hq115, hM116⟩ := hS.sq (i := 0) rfl
        obtain ⟨u117, hu118, hi119⟩ := atI_im hM116 hx113
        refine ev_to (ev_ixSq (ev_fz (ev_var rfl)) ev_c hq115 hu118) ?_
        have hS := hS.addIm (v := u117) (x := (x113 : Any)) hi119
        exact hm _ _ (hS.sel [0, 2, 3] (by decide) rfl)
def sp_law_runs (G : Gx) : Sp := fun vs H Q E => ∃ (v_law_text : Str) (F : Asn G), vs = [(.str (v_law_text))] ∧ Sep H ([F] : List (Asn G)) ∧ R.wp (m_law_runs v_law_text) (fun r => ∀ p H', Sep H' ([lstA p (r : (List Str)), F] : List (Asn G)) → Q (.ref p) H') (fun _ => False)
abbrev N_law_runs : List Str := ["_law_text", "_law_found", "_law_run", "_law_sign"]
theorem sc_law_runs : FnScope N_law_runs ["_law_text"] (defScope s_law_runs) := ⟨rfl, rfl, rfl, by decide +kernel, rfl, by decide +kernel, by decide +kernel⟩
theorem ok_law_runs (T : Txt G mg) : FnOk P w G.K mg base CX0 1 T.a_law_runs T.fd_law_runs ["_law_text"] (sp_law_runs G) := by
  have nd := sc_law_runs.nd
  refine Fun.ok T.F_law_runs sc_law_runs (fun vs H Q E h => ?_) (fun cdv A outer s H vs Q E hr h => ?_)
  · obtain ⟨v_law_text, F, rfl, _⟩ := h; rfl
  · obtain ⟨v_law_text, F, rfl, hS, hm⟩ := h
    refine ⟨_, (pss_cons (ps_set (i := 1) nd rfl (Or.inl rfl) (pe_fz (pe_lst pa_nil)))
      (pss_cons (ps_set (i := 2) nd rfl (Or.inl rfl) pe_str)
      (pss_cons (ps_for PassesOwn.never rfl (pi_str (pe_op op_catS (pv 0) pe_str)) (pg_name (i := 3) nd rfl (Or.inl rfl)) (pss_one (ps_if (pt_val (pe_m0 PySem.F.slot_str_isalnum PySem.F.type_str_isalnum mt_isalnum (pv 3))) (pss_one (ps_set (i := 2) nd rfl (Or.inl rfl) (pe_op op_catS (pv 2) (pe_m0 PySem.F.slot_str_lower PySem.F.type_str_lower mt_lower (pv 3))))) (pss_one (ps_if (pt_cmpR op_ne (pv 2) pe_str (nomark _)) (pss_cons (ps_expr (pe_bmK G.K PySem.F.plainAttrs_list PySem.F.slot_list_append PySem.F.type_list_append mt_append (pe_fz (pv 1)) (pa_cons (pv 2) pa_nil)))
      (pss_one (ps_set (i := 2) nd rfl (Or.inl rfl) pe_str))) pss_nil)))))
      (pss_one (ps_ret (pe_fz (pv 1))))))), ?_⟩
    unfold m_law_runs at hm
    refine f_seq ?_
    refine c_asg ?_
    refine c_fz ?_
    refine c_lst ?_
    refine ea_to ea_nil ?_
    refine k_lst (α := Str) (vs := []) (xs := ([] : (List Str))) hS True.intro (by show 0 ≤ sizeLine; decide) fun p1 H hS => ?_
    refine fz_no ?_
    refine c_set (σ' := [some (.str (v_law_text)), some (.ref p1), none, none]) rfl ?_
    refine sq_nx ?_
    refine f_seq ?_
    refine c_asg ?_
    refine ev_to ev_c ?_
    refine c_set (σ' := [some (.str (v_law_text)), some (.ref p1), some (.str (("" : Str))), none]) rfl ?_
    refine sq_nx ?_
    refine f_seq ?_
    refine c_for ?_
    refine c_is ?_
    obtain ⟨h2, hm⟩ := R.wp_need hm
    refine ev_to (ev_catS (ev_var rfl) ev_c h2) ?_
    refine k_is ?_
    refine k_for (τ := (List Str) × Str) (fun (s3 : (List Str) × Str) (σ : L2.St) (H : Hp) => ∃ (w6 : Option V), σ = [some (.str (v_law_text)), some (.ref p1), some (.str (s3.2)), w6] ∧ Sep H ([lstA p1 (s3.1 : (List Str)), F] : List (Asn G))) (im := (fun _ v (c : Nat) => v = .str (sg c))) (s := (([] : (List Str)), ("" : Str))) (fun _ => wk_str) ⟨_, rfl, hS.sel [0, 1] (by decide) rfl⟩ hm (fun s3 x4 v5 σ H q N hI hx hm nx => ?_) (fun s3 σ H hm hI => ?_)
    ·
      obtain ⟨w6, rfl, hS⟩ := hI
      cases hx
      refine c_gN (σ' := [some (.str (v_law_text)), some (.ref p1), some (.str (s3.2)), some (.str (sg (x4)))]) rfl ?_
      refine f_if ?_
      refine et_to (et_B (ev_m0 (ev_var rfl) fun _ q => ⟨_, rfl, rfl, True.intro, q⟩)) ?_
      refine ifK_J (τ := (List Str) × Str) (fun (s7 : (List Str) × Str) (σ : L2.St) (H : Hp) => σ = [some (.str (v_law_text)), some (.ref p1), some (.str (s7.2)), some (.str (sg (x4)))] ∧ Sep H ([lstA p1 (s7.1 : (List Str)), F] : List (Asn G))) hm (fun hb q hm nx => ?_) (fun hb q hm nx => ?_) (fun s7 σ H hm hI => ?_)
      ·
        refine c_asg ?_
        obtain ⟨h8, hm⟩ := R.wp_need hm
        obtain ⟨h9, hm⟩ := R.wp_need hm
        refine ev_to (ev_catS (ev_var rfl) (ev_m0 (ev_var rfl) fun _ q => ⟨_, rfl, rfl, h8, q⟩) h9) ?_
        obtain ⟨y10, hy10, hm⟩ := wp_let hm
        refine n_is (w := (.str (y10))) (by rw [hy10]) ?_
        refine c_set (σ' := [some (.str (v_law_text)), some (.ref p1), some (.str (y10)), some (.str (sg (x4)))]) rfl ?_
        exact nx _ _ _ hm ⟨rfl, hS.sel [0, 1] (by decide) rfl⟩
      ·
        refine f_if ?_
        refine et_to (et_test (ev_neS (ev_var rfl) ev_c)) ?_
        refine ifK_J (τ := (List Str) × Str) (fun (s11 : (List Str) × Str) (σ : L2.St) (H : Hp) => σ = [some (.str (v_law_text)), some (.ref p1), some (.str (s11.2)), some (.str (sg (x4)))] ∧ Sep H ([lstA p1 (s11.1 : (List Str)), F] : List (Asn G))) hm (fun hb q hm nx => ?_) (fun hb q hm nx => ?_) (fun s11 σ H hm hI => ?_)
        ·
          refine f_seq ?_
          refine c_drop ?_
          refine c_bm ?_
          refine ev_to (ev_fz (ev_var rfl)) ⟨tyL hS (i := 0) rfl, ?_⟩
          refine ea_to (ea_cons (ev_var rfl) ea_nil) ?_
          obtain ⟨h12, hm⟩ := R.wp_need hm
          refine k_append (x := s3.2) hS (i := 0) rfl rfl h12 rfl fun H hS => ?_
          refine sq_nx ?_
          refine c_asg ?_
          refine ev_to ev_c ?_
          refine c_set (σ' := [some (.str (v_law_text)), some (.ref p1), some (.str (("" : Str))), some (.str (sg (x4)))]) rfl ?_
          exact nx _ _ _ hm ⟨rfl, hS.sel [0, 1] (by decide) rfl⟩
        ·
          refine st_nx ?_
          exact nx _ _ _ hm ⟨rfl, hS.sel [0, 1] (by decide) rfl⟩
        · obtain ⟨rfl, hS⟩ := hI
          exact nx _ _ _ hm ⟨rfl, hS.sel [0, 1] (by decide) rfl⟩
      · obtain ⟨rfl, hS⟩ := hI
        exact nx _ _ _ hm ⟨_, rfl, hS.sel [0, 1] (by decide) rfl⟩
    · obtain ⟨w6, rfl, hS⟩ := hI
      refine sq_nx ?_
      refine c_ret ?_
      refine ev_to (ev_fz (ev_var rfl)) ?_
      exact hm _ _ (hS.sel [0, 1] (by decide) rfl)
def sp_law_holds (G : Gx) (m_law_holds : Any → (T3 (T5 Str Str Str Int Str) Str (List Str)) → (List (T3 (T5 Str Str Str Int Str) Str (List Str))) → R Bool) : Sp := fun vs H Q E => ∃ (a_v_law_tree : V) (v_law_tree : Any) (a_v_law_card : Addr) (v_law_card : (T3 (T5 Str Str Str Int Str) Str (List Str))) (a_v_law_others : Addr) (v_law_others : (List (T3 (T5 Str Str Str Int Str) Str (List Str)))) (F : Asn G), vs = [a_v_law_tree, (.ref a_v_law_card), .ref a_v_law_others] ∧ Im.im G H a_v_law_tree v_law_tree ∧ Im.im G H (.ref a_v_law_card) v_law_card ∧ Sep H ([lstA a_v_law_others (v_law_others : (List (T3 (T5 Str Str Str Int Str) Str (List Str)))), F] : List (Asn G)) ∧ R.wp (m_law_holds v_law_tree v_law_card v_law_others) (fun r => ∀ H', Sep H' ([lstA a_v_law_others (v_law_others : (List (T3 (T5 Str Str Str Int Str) Str (List Str)))), F] : List (Asn G)) → Q (.bl (r)) H') (fun _ => False)
abbrev N_law_holds : List Str := ["_law_tree", "_law_card", "_law_others", "_law_parts", "_law_folder", "_law_marks", "_law_kind", "_law_k", "_law_where"]
theorem sc_law_holds : FnScope N_law_holds ["_law_tree", "_law_card", "_law_others"] (defScope s_law_holds) := ⟨rfl, rfl, rfl, by decide +kernel, rfl, by decide +kernel, by decide +kernel⟩
theorem ok_law_holds_b (T : Txt G mg) {lv : Nat} (hl : 1 ≤ lv) {m_law_holds : Any → (T3 (T5 Str Str Str Int Str) Str (List Str)) → (List (T3 (T5 Str Str Str Int Str) Str (List Str))) → R Bool} (R_law_holds : FnOk P w G.K mg base CX0 lv T.a_law_holds T.fd_law_holds ["_law_tree", "_law_card", "_law_others"] (sp_law_holds G m_law_holds)) : FnOk P w G.K mg base CX0 (lv + 1) T.a_law_holds T.fd_law_holds ["_law_tree", "_law_card", "_law_others"] (sp_law_holds G (m_law_holds_b m_law_holds)) := by
  have nd := sc_law_holds.nd
  refine Fun.ok T.F_law_holds sc_law_holds (fun vs H Q E h => ?_) (fun cdv A outer s H vs Q E hr h => ?_)
  · obtain ⟨a_v_law_tree, v_law_tree, a_v_law_card, v_law_card, a_v_law_others, v_law_others, F, rfl, _⟩ := h; rfl
  · obtain ⟨a_v_law_tree, v_law_tree, a_v_law_card, v_law_card, a_v_law_others, v_law_others, F, rfl, him_v_law_tree, him_v_law_card, hS, hm⟩ := h
    have hS := hS.addIm him_v_law_tree
    have hS := hS.addIm him_v_law_card
    refine ⟨_, (pss_cons (ps_asg (pv 1) (pg_tupK (n := 3) G.K rfl rfl (pgs_cons (pg_name (i := 3) nd rfl (Or.inl rfl)) (pgs_cons (pg_name (i := 4) nd rfl (Or.inl rfl)) (pgs_cons (pg_name (i := 5) nd rfl (Or.inl rfl)) pgs_nil)))))
      (pss_cons (ps_set (i := 6) nd rfl (Or.inl rfl) (pe_ix (ix_tupK G.K) (pv 0) pe_int (fun _ _ => rfl)))
      (pss_cons (ps_if (pt_cmpR (eqDK G.K hr.units) (pv 6) pe_str (nomark _)) (pss_one (ps_ret pe_bl)) pss_nil)
      (pss_cons (ps_if (pt_cmpR (eqDK G.K hr.units) (pv 6) pe_str (nomark _)) (pss_one (ps_ret (pe_cmpR op_ne (pe_ix (ix_tupK G.K) (pv 3) pe_int (fun _ _ => rfl)) pe_str (nomark _)))) pss_nil)
      (pss_cons (ps_if (pt_cmpR (eqDK G.K hr.units) (pv 6) pe_str (nomark _)) (pss_one (ps_ret (pe_chain op_le op_le (pe_ix (ix_tupK G.K) (pv 0) pe_int (fun _ _ => rfl)) (pe_ix (ix_tupK G.K) (pv 3) pe_int (fun _ _ => rfl)) (pe_ix (ix_tupK G.K) (pv 0) pe_int (fun _ _ => rfl))))) pss_nil)
      (pss_cons (ps_if (pt_cmpR (eqDK G.K hr.units) (pv 6) pe_str (nomark _)) (pss_one (ps_ret (pe_not (pe_call R_law_holds (hr.mono (by omega)) rfl T.g_law_holds T.kp_law_holds T.b_law_holds .nil pass0 (pa_cons (pe_ix (ix_tupK G.K) (pv 0) pe_int (fun _ _ => rfl)) (pa_cons (pv 1) (pa_cons (pe_fz (pv 2)) pa_nil))))))) pss_nil)
      (pss_cons (ps_if (pt_cmpR (eqDK G.K hr.units) (pv 6) pe_str (nomark _)) (pss_one (ps_ret (pe_and (pe_call R_law_holds (hr.mono (by omega)) rfl T.g_law_holds T.kp_law_holds T.b_law_holds .nil pass0 (pa_cons (pe_ix (ix_tupK G.K) (pv 0) pe_int (fun _ _ => rfl)) (pa_cons (pv 1) (pa_cons (pe_fz (pv 2)) pa_nil)))) (pe_one (pe_call R_law_holds (hr.mono (by omega)) rfl T.g_law_holds T.kp_law_holds T.b_law_holds .nil pass0 (pa_cons (pe_ix (ix_tupK G.K) (pv 0) pe_int (fun _ _ => rfl)) (pa_cons (pv 1) (pa_cons (pe_fz (pv 2)) pa_nil)))))))) pss_nil)
      (pss_cons (ps_if (pt_cmpR (eqDK G.K hr.units) (pv 6) pe_str (nomark _)) (pss_one (ps_ret (pe_or (pe_call R_law_holds (hr.mono (by omega)) rfl T.g_law_holds T.kp_law_holds T.b_law_holds .nil pass0 (pa_cons (pe_ix (ix_tupK G.K) (pv 0) pe_int (fun _ _ => rfl)) (pa_cons (pv 1) (pa_cons (pe_fz (pv 2)) pa_nil)))) (pe_one (pe_call R_law_holds (hr.mono (by omega)) rfl T.g_law_holds T.kp_law_holds T.b_law_holds .nil pass0 (pa_cons (pe_ix (ix_tupK G.K) (pv 0) pe_int (fun _ _ => rfl)) (pa_cons (pv 1) (pa_cons (pe_fz (pv 2)) pa_nil)))))))) pss_nil)
      (pss_cons (ps_if (pt_cmpR (eqDK G.K hr.units) (pv 6) pe_str (nomark _)) (pss_cons (ps_for PassesOwn.never rfl (pi_range1 rfl T.z_range (pa_cons (pe_callB (lenSqK G.K) (by rfl) T.z_len PySem.boot_len (pa_cons (pe_fz (pv 2)) pa_nil)) pa_nil)) (pg_name (i := 7) nd rfl (Or.inl rfl)) (pss_one (ps_if (pt_val (pe_call R_law_holds (hr.mono (by omega)) rfl T.g_law_holds T.kp_law_holds T.b_law_holds .nil pass0 (pa_cons (pe_ix (ix_tupK G.K) (pv 0) pe_int (fun _ _ => rfl)) (pa_cons (pe_ix (ix_listK G.K) (pe_fz (pv 2)) (pv 7) (fun _ _ => rfl)) (pa_cons (pe_fz (pe_op op_catR (pe_fz (pe_op op_catR (pe_fz (pe_lst (pa_cons (pv 1) pa_nil))) (pe_fz (pe_slice (sl_listK G.K) (pe_fz (pv 2)) po_none (po_some (pv 7)))))) (pe_fz (pe_slice (sl_listK G.K) (pe_fz (pv 2)) (po_some (pe_op op_add (pv 7) pe_int)) po_none)))) pa_nil))))) (pss_one (ps_ret pe_bl)) pss_nil)))
      (pss_one (ps_ret pe_bl))) pss_nil)
      (pss_cons (ps_set (i := 8) nd rfl (Or.inl rfl) (pe_disp (pps_cons pe_str (pe_fz (pe_call (ok_law_runs T) (hr.mono (by omega)) rfl T.g_law_runs T.kp_law_runs T.b_law_runs .nil pass0 (pa_cons (pe_ix (ix_tupK G.K) (pv 3) pe_int (fun _ _ => rfl)) pa_nil))) (pps_cons pe_str (pe_fz (pe_lst (pa_cons (pe_ix (ix_tupK G.K) (pv 3) pe_int (fun _ _ => rfl)) pa_nil))) (pps_cons pe_str (pe_fz (pe_lst (pa_cons (pv 4) pa_nil))) pps_nil))) rfl rfl (by simp) (by show 3 ≤ 15; decide)))
      (pss_cons (ps_asg (pe_fz (pe_op op_catR (pe_dget (hu_of hr) (pv 8) pe_str (fun _ _ => rfl)) (pe_fz (pe_call (ok_law_runs T) (hr.mono (by omega)) rfl T.g_law_runs T.kp_law_runs T.b_law_runs .nil pass0 (pa_cons (pe_ix (ix_tupK G.K) (pv 3) pe_int (fun _ _ => rfl)) pa_nil))))) (pg_sub (pv 8) pe_str (set_dict (hu_of hr))))
      (pss_cons (ps_asg (pv 5) (pg_sub (pv 8) pe_str (set_dict (hu_of hr))))
      (pss_one (ps_ret (pe_cmpR (inSqK G.K) (pe_ix (ix_tupK G.K) (pv 0) pe_int (fun _ _ => rfl)) (pe_dget (hu_of hr) (pv 8) (pv 6) (fun _ _ => rfl)) (by rfl)))))))))))))))), ?_⟩
    unfold m_law_holds_b at hm
    refine f_seq ?_
    refine c_asgG ?_
    refine ev_to (ev_var rfl) ?_
    refine k_asgG ?_
    obtain ⟨u1, u2, u3, hT7, h4, h5, h6⟩ := im3 (hS.im (i := 0) rfl)
    obtain ⟨a8, rfl⟩ := isref h4
    obtain rfl : u2 = (.str (v_law_card.b)) := h5
    obtain ⟨a9, rfl⟩ := isref h6
    have hS := hS.addIm (v := (.ref a8)) (x := (v_law_card.a : (T5 Str Str Str Int Str))) h4
    have hS := hS.addIm (v := (.ref a9)) (x := (v_law_card.c : (List Str))) h6
    refine k_gT hT7 rfl ?_
    refine k_gC (σ' := [some a_v_law_tree, some (.ref a_v_law_card), some (.ref a_v_law_others), some (.ref a8), none, none, none, none, none]) rfl ?_
    refine k_gC (σ' := [some a_v_law_tree, some (.ref a_v_law_card), some (.ref a_v_law_others), some (.ref a8), some (.str (v_law_card.b)), none, none, none, none]) rfl ?_
    refine k_gC (σ' := [some a_v_law_tree, some (.ref a_v_law_card), some (.ref a_v_law_others), some (.ref a8), some (.str (v_law_card.b)), some (.ref a9), none, none, none]) rfl ?_
    refine k_gE ?_
    refine sq_nx ?_
    refine f_seq ?_
    refine c_asg ?_
    obtain ⟨xs12, h13, hm⟩ := Ml.wp_asTup hm
    obtain ⟨x14, hx14, hm⟩ := wp_idx hm
    obtain ⟨a15, vs16, he17, hg18, hM19⟩ := any_tupE (hS.im (i := 3) rfl) h13
    obtain ⟨u20, hu21, hi22⟩ := atI_im hM19 hx14
    refine ev_to (ev_ixT (ev_is (ev_var rfl) he17) ev_c hg18 hu21) ?_
    have hS := hS.addIm (v := u20) (x := (x14 : Any)) hi22
    refine c_set (σ' := [some a_v_law_tree, some (.ref a_v_law_card), some (.ref a_v_law_others), some (.ref a8), some (.str (v_law_card.b)), some (.ref a9), some u20, none, none]) rfl ?_
    refine sq_nx ?_
    refine f_seq ?_
    refine f_if ?_
    obtain ⟨b24, hb24, hm⟩ := wp_eqA hm
    refine et_to (et_test (ev_eqA (ev_var rfl) ev_c (hS.im (i := 0) rfl) (any_str.mpr rfl) hb24)) ?_
    refine ifK_2 (fun hb25 => ?_) (fun hb25 => ?_)
    · have hm := R.wp_ifY hm hb25
      refine c_ret ?_
      refine ev_to ev_c ?_
      exact hm _ (hS.sel [5, 6] (by decide) rfl)
    · have hm := R.wp_ifN hm (by first | (rw [hb25]; decide) | simpa using hb25)
      refine st_nx ?_
      refine sq_nx ?_
      refine f_seq ?_
      refine f_if ?_
      obtain ⟨b26, hb26, hm⟩ := wp_eqA hm
      refine et_to (et_test (ev_eqA (ev_var rfl) ev_c (hS.im (i := 0) rfl) (any_str.mpr rfl) hb26)) ?_
      refine ifK_2 (fun hb27 => ?_) (fun hb27 => ?_)
      · have hm := R.wp_ifY hm hb27
        refine c_ret ?_
        obtain ⟨u28, u29, u30, u31, u32, hT38, h33, h34, h35, h36, h37⟩ := im5 (hS.im (i := 2) rfl)
        obtain rfl : u28 = (.str (v_law_card.a.a)) := h33
        obtain rfl : u29 = (.str (v_law_card.a.b)) := h34
        obtain rfl : u30 = (.str (v_law_card.a.c)) := h35
        obtain rfl : u31 = (.int (v_law_card.a.d)) := h36
        obtain rfl : u32 = (.str (v_law_card.a.e)) := h37
        refine ev_to (ev_neS (ev_ixT (ev_var rfl) ev_c hT38 rfl) ev_c) ?_
        exact hm _ (hS.sel [5, 6] (by decide) rfl)
      · have hm := R.wp_ifN hm (by first | (rw [hb27]; decide) | simpa using hb27)
        refine st_nx ?_
        refine sq_nx ?_
        refine f_seq ?_
        refine f_if ?_
        obtain ⟨b39, hb39, hm⟩ := wp_eqA hm
        refine et_to (et_test (ev_eqA (ev_var rfl) ev_c (hS.im (i := 0) rfl) (any_str.mpr rfl) hb39)) ?_
        refine ifK_2 (fun hb40 => ?_) (fun hb40 => ?_)
        · have hm := R.wp_ifY hm hb40
          refine c_ret ?_
          obtain ⟨xs41, h42, hm⟩ := Ml.wp_asTup hm
          obtain ⟨x43, hx43, hm⟩ := wp_idx hm
          obtain ⟨a44, vs45, he46, hg47, hM48⟩ := any_tupE (hS.im (i := 4) rfl) h42
          obtain ⟨u49, hu50, hi51⟩ := atI_im hM48 hx43
          obtain ⟨u52, u53, u54, u55, u56, hT62, h57, h58, h59, h60, h61⟩ := im5 (hS.im (i := 2) rfl)
          obtain rfl : u52 = (.str (v_law_card.a.a)) := h57
          obtain rfl : u53 = (.str (v_law_card.a.b)) := h58
          obtain rfl : u54 = (.str (v_law_card.a.c)) := h59
          obtain rfl : u55 = (.int (v_law_card.a.d)) := h60
          obtain rfl : u56 = (.str (v_law_card.a.e)) := h61
          obtain ⟨xs63, h64, hm⟩ := Ml.wp_asTup hm
          obtain ⟨x65, hx65, hm⟩ := wp_idx hm
          obtain ⟨a66, vs67, he68, hg69, hM70⟩ := any_tupE (hS.im (i := 4) rfl) h64
          obtain ⟨u71, hu72, hi73⟩ := atI_im hM70 hx65
          obtain ⟨s74, hs75, hm⟩ := Ml.wp_asInt hm
          have hv76 := v_int hi51 hs75
          subst hv76
          obtain ⟨s77, hs78, hm⟩ := Ml.wp_asInt hm
          have hv79 := v_int hi73 hs78
          subst hv79
          refine ev_to (ev_chainB (a := decide (s74 ≤ v_law_card.a.d)) (b := decide (v_law_card.a.d ≤ s77)) (ev_ixT (ev_is (ev_var rfl) he46) ev_c hg47 hu50) (ev_ixT (ev_var rfl) ev_c hT62 rfl) (fun _ => (ev_ixT (ev_is (ev_var rfl) he68) ev_c hg69 hu72)) (fun Q q => r_I0 Q q) (fun _ Q q => r_I0 Q q)) ?_
          exact hm _ (hS.sel [5, 6] (by decide) rfl)
        · have hm := R.wp_ifN hm (by first | (rw [hb40]; decide) | simpa using hb40)
          refine st_nx ?_
          refine sq_nx ?_
          refine f_seq ?_
          refine f_if ?_
          obtain ⟨b80, hb80, hm⟩ := wp_eqA hm
          refine et_to (et_test (ev_eqA (ev_var rfl) ev_c (hS.im (i := 0) rfl) (any_str.mpr rfl) hb80)) ?_
          refine ifK_2 (fun hb81 => ?_) (fun hb81 => ?_)
          · have hm := R.wp_ifY hm hb81
            refine c_ret ?_
            refine f_notV ?_
            refine c_call ?_
            obtain ⟨xs82, h83, hm⟩ := Ml.wp_asTup hm
            obtain ⟨x84, hx84, hm⟩ := wp_idx hm
            obtain ⟨a85, vs86, he87, hg88, hM89⟩ := any_tupE (hS.im (i := 4) rfl) h83
            obtain ⟨u90, hu91, hi92⟩ := atI_im hM89 hx84
            refine ea_to (ea_cons (ev_ixT (ev_is (ev_var rfl) he87) ev_c hg88 hu91) (ea_cons (ev_var rfl) (ea_cons (ev_fz (ev_var rfl)) ea_nil))) ?_
            have hS := hS.addIm (v := u90) (x := (x84 : Any)) hi92
            refine ⟨u90, (x84 : Any), a_v_law_card, (v_law_card : (T3 (T5 Str Str Str Int Str) Str (List Str))), a_v_law_others, (v_law_others : (List (T3 (T5 Str Str Str Int Str) Str (List Str)))), star [imA u90 (x84 : Any), imA u20 (x14 : Any), imA (.ref a9) (v_law_card.c : (List Str)), imA (.ref a8) (v_law_card.a : (T5 Str Str Str Int Str)), imA (.ref a_v_law_card) (v_law_card : (T3 (T5 Str Str Str Int Str) Str (List Str))), imA a_v_law_tree (v_law_tree : Any), F], rfl, (hS.im (i := 0) rfl), (hS.im (i := 4) rfl), Sep.unstar (M := [lstA a_v_law_others (v_law_others : (List (T3 (T5 Str Str Str Int Str) Str (List Str))))]) (hS.sel [6, 0, 1, 2, 3, 4, 5, 7] (by decide) rfl : Sep H (([lstA a_v_law_others (v_law_others : (List (T3 (T5 Str Str Str Int Str) Str (List Str))))] ++ [imA u90 (x84 : Any), imA u20 (x14 : Any), imA (.ref a9) (v_law_card.c : (List Str)), imA (.ref a8) (v_law_card.a : (T5 Str Str Str Int Str)), imA (.ref a_v_law_card) (v_law_card : (T3 (T5 Str Str Str Int Str) Str (List Str))), imA a_v_law_tree (v_law_tree : Any), F] : List (Asn G)))), R.wp_mono (R.wp_bind hm) (fun r94 hm H hS => ?_) (fun _ z => z)⟩
            have hS : Sep H ([lstA a_v_law_others (v_law_others : (List (T3 (T5 Str Str Str Int Str) Str (List Str)))), imA u90 (x84 : Any), imA u20 (x14 : Any), imA (.ref a9) (v_law_card.c : (List Str)), imA (.ref a8) (v_law_card.a : (T5 Str Str Str Int Str)), imA (.ref a_v_law_card) (v_law_card : (T3 (T5 Str Str Str Int Str) Str (List Str))), imA a_v_law_tree (v_law_tree : Any), F] : List (Asn G)) := Sep.star (M := [lstA a_v_law_others (v_law_others : (List (T3 (T5 Str Str Str Int Str) Str (List Str))))]) hS
            refine f_nV ?_
            exact hm _ (hS.sel [0, 7] (by decide) rfl)
          · have hm := R.wp_ifN hm (by first | (rw [hb81]; decide) | simpa using hb81)
            refine st_nx ?_
            refine sq_nx ?_
            refine f_seq ?_
            refine f_if ?_
            obtain ⟨b95, hb95, hm⟩ := wp_eqA hm
            refine et_to (et_test (ev_eqA (ev_var rfl) ev_c (hS.im (i := 0) rfl) (any_str.mpr rfl) hb95)) ?_
            refine ifK_2 (fun hb96 => ?_) (fun hb96 => ?_)
            · have hm := R.wp_ifY hm hb96
              refine c_ret ?_
              refine f_andV ?_
              refine c_call ?_
              obtain ⟨xs97, h98, hm⟩ := Ml.wp_asTup hm
              obtain ⟨x99, hx99, hm⟩ := wp_idx hm
              obtain ⟨a100, vs101, he102, hg103, hM104⟩ := any_tupE (hS.im (i := 4) rfl) h98
              obtain ⟨u105, hu106, hi107⟩ := atI_im hM104 hx99
              refine ea_to (ea_cons (ev_ixT (ev_is (ev_var rfl) he102) ev_c hg103 hu106) (ea_cons (ev_var rfl) (ea_cons (ev_fz (ev_var rfl)) ea_nil))) ?_
              have hS := hS.addIm (v := u105) (x := (x99 : Any)) hi107
              refine ⟨u105, (x99 : Any), a_v_law_card, (v_law_card : (T3 (T5 Str Str Str Int Str) Str (List Str))), a_v_law_others, (v_law_others : (List (T3 (T5 Str Str Str Int Str) Str (List Str)))), star [imA u105 (x99 : Any), imA u20 (x14 : Any), imA (.ref a9) (v_law_card.c : (List Str)), imA (.ref a8) (v_law_card.a : (T5 Str Str Str Int Str)), imA (.ref a_v_law_card) (v_law_card : (T3 (T5 Str Str Str Int Str) Str (List Str))), imA a_v_law_tree (v_law_tree : Any), F], rfl, (hS.im (i := 0) rfl), (hS.im (i := 4) rfl), Sep.unstar (M := [lstA a_v_law_others (v_law_others : (List (T3 (T5 Str Str Str Int Str) Str (List Str))))]) (hS.sel [6, 0, 1, 2, 3, 4, 5, 7] (by decide) rfl : Sep H (([lstA a_v_law_others (v_law_others : (List (T3 (T5 Str Str Str Int Str) Str (List Str))))] ++ [imA u105 (x99 : Any), imA u20 (x14 : Any), imA (.ref a9) (v_law_card.c : (List Str)), imA (.ref a8) (v_law_card.a : (T5 Str Str Str Int Str)), imA (.ref a_v_law_card) (v_law_card : (T3 (T5 Str Str Str Int Str) Str (List Str))), imA a_v_law_tree (v_law_tree : Any), F] : List (Asn G)))), R.wp_mono (R.wp_bind hm) (fun r109 hm H hS => ?_) (fun _ z => z)⟩
              have hS : Sep H ([lstA a_v_law_others (v_law_others : (List (T3 (T5 Str Str Str Int Str) Str (List Str)))), imA u105 (x99 : Any), imA u20 (x14 : Any), imA (.ref a9) (v_law_card.c : (List Str)), imA (.ref a8) (v_law_card.a : (T5 Str Str Str Int Str)), imA (.ref a_v_law_card) (v_law_card : (T3 (T5 Str Str Str Int Str) Str (List Str))), imA a_v_law_tree (v_law_tree : Any), F] : List (Asn G)) := Sep.star (M := [lstA a_v_law_others (v_law_others : (List (T3 (T5 Str Str Str Int Str) Str (List Str))))]) hS
              refine andVK_J hm hS (fun hb q hm nx => ?_) (fun b110 H hm hS => ?_)
              ·
                refine c_call ?_
                obtain ⟨xs111, h112, hm⟩ := Ml.wp_asTup hm
                obtain ⟨x113, hx113, hm⟩ := wp_idx hm
                obtain ⟨a114, vs115, he116, hg117, hM118⟩ := any_tupE (hS.im (i := 6) rfl) h112
                obtain ⟨u119, hu120, hi121⟩ := atI_im hM118 hx113
                refine ea_to (ea_cons (ev_ixT (ev_is (ev_var rfl) he116) ev_c hg117 hu120) (ea_cons (ev_var rfl) (ea_cons (ev_fz (ev_var rfl)) ea_nil))) ?_
                have hS := hS.addIm (v := u119) (x := (x113 : Any)) hi121
                refine ⟨u119, (x113 : Any), a_v_law_card, (v_law_card : (T3 (T5 Str Str Str Int Str) Str (List Str))), a_v_law_others, (v_law_others : (List (T3 (T5 Str Str Str Int Str) Str (List Str)))), star [imA u119 (x113 : Any), imA u105 (x99 : Any), imA u20 (x14 : Any), imA (.ref a9) (v_law_card.c : (List Str)), imA (.ref a8) (v_law_card.a : (T5 Str Str Str Int Str)), imA (.ref a_v_law_card) (v_law_card : (T3 (T5 Str Str Str Int Str) Str (List Str))), imA a_v_law_tree (v_law_tree : Any), F], rfl, (hS.im (i := 0) rfl), (hS.im (i := 6) rfl), Sep.unstar (M := [lstA a_v_law_others (v_law_others : (List (T3 (T5 Str Str Str Int Str) Str (List Str))))]) (hS.sel [1, 0, 2, 3, 4, 5, 6, 7, 8] (by decide) rfl : Sep H (([lstA a_v_law_others (v_law_others : (List (T3 (T5 Str Str Str Int Str) Str (List Str))))] ++ [imA u119 (x113 : Any), imA u105 (x99 : Any), imA u20 (x14 : Any), imA (.ref a9) (v_law_card.c : (List Str)), imA (.ref a8) (v_law_card.a : (T5 Str Str Str Int Str)), imA (.ref a_v_law_card) (v_law_card : (T3 (T5 Str Str Str Int Str) Str (List Str))), imA a_v_law_tree (v_law_tree : Any), F] : List (Asn G)))), R.wp_mono (R.wp_bind hm) (fun r123 hm H hS => ?_) (fun _ z => z)⟩
                have hS : Sep H ([lstA a_v_law_others (v_law_others : (List (T3 (T5 Str Str Str Int Str) Str (List Str)))), imA u119 (x113 : Any), imA u105 (x99 : Any), imA u20 (x14 : Any), imA (.ref a9) (v_law_card.c : (List Str)), imA (.ref a8) (v_law_card.a : (T5 Str Str Str Int Str)), imA (.ref a_v_law_card) (v_law_card : (T3 (T5 Str Str Str Int Str) Str (List Str))), imA a_v_law_tree (v_law_tree : Any), F] : List (Asn G)) := Sep.star (M := [lstA a_v_law_others (v_law_others : (List (T3 (T5 Str Str Str Int Str) Str (List Str))))]) hS
                exact nx _ _ hm (hS.sel [0, 2, 3, 4, 5, 6, 7, 8] (by decide) rfl)
              ·
                exact hm _ (hS.sel [0, 7] (by decide) rfl)
            · have hm := R.wp_ifN hm (by first | (rw [hb96]; decide) | simpa using hb96)
              refine st_nx ?_
              refine sq_nx ?_
              refine f_seq ?_
              refine f_if ?_
              obtain ⟨b124, hb124, hm⟩ := wp_eqA hm
              refine et_to (et_test (ev_eqA (ev_var rfl) ev_c (hS.im (i := 0) rfl) (any_str.mpr rfl) hb124)) ?_
              refine ifK_2 (fun hb125 => ?_) (fun hb125 => ?_)
              · have hm := R.wp_ifY hm hb125
                refine c_ret ?_
                refine f_orV ?_
                refine c_call ?_
                obtain ⟨xs126, h127, hm⟩ := Ml.wp_asTup hm
                obtain ⟨x128, hx128, hm⟩ := wp_idx hm
                obtain ⟨a129, vs130, he131, hg132, hM133⟩ := any_tupE (hS.im (i := 4) rfl) h127
                obtain ⟨u134, hu135, hi136⟩ := atI_im hM133 hx128
                refine ea_to (ea_cons (ev_ixT (ev_is (ev_var rfl) he131) ev_c hg132 hu135) (ea_cons (ev_var rfl) (ea_cons (ev_fz (ev_var rfl)) ea_nil))) ?_
                have hS := hS.addIm (v := u134) (x := (x128 : Any)) hi136
                refine ⟨u134, (x128 : Any), a_v_law_card, (v_law_card : (T3 (T5 Str Str Str Int Str) Str (List Str))), a_v_law_others, (v_law_others : (List (T3 (T5 Str Str Str Int Str) Str (List Str)))), star [imA u134 (x128 : Any), imA u20 (x14 : Any), imA (.ref a9) (v_law_card.c : (List Str)), imA (.ref a8) (v_law_card.a : (T5 Str Str Str Int Str)), imA (.ref a_v_law_card) (v_law_card : (T3 (T5 Str Str Str Int Str) Str (List Str))), imA a_v_law_tree (v_law_tree : Any), F], rfl, (hS.im (i := 0) rfl), (hS.im (i := 4) rfl), Sep.unstar (M := [lstA a_v_law_others (v_law_others : (List (T3 (T5 Str Str Str Int Str) Str (List Str))))]) (hS.sel [6, 0, 1, 2, 3, 4, 5, 7] (by decide) rfl : Sep H (([lstA a_v_law_others (v_law_others : (List (T3 (T5 Str Str Str Int Str) Str (List Str))))] ++ [imA u134 (x128 : Any), imA u20 (x14 : Any), imA (.ref a9) (v_law_card.c : (List Str)), imA (.ref a8) (v_law_card.a : (T5 Str Str Str Int Str)), imA (.ref a_v_law_card) (v_law_card : (T3 (T5 Str Str Str Int Str) Str (List Str))), imA a_v_law_tree (v_law_tree : Any), F] : List (Asn G)))), R.wp_mono (R.wp_bind hm) (fun r138 hm H hS => ?_) (fun _ z => z)⟩
                have hS : Sep H ([lstA a_v_law_others (v_law_others : (List (T3 (T5 Str Str Str Int Str) Str (List Str)))), imA u134 (x128 : Any), imA u20 (x14 : Any), imA (.ref a9) (v_law_card.c : (List Str)), imA (.ref a8) (v_law_card.a : (T5 Str Str Str Int Str)), imA (.ref a_v_law_card) (v_law_card : (T3 (T5 Str Str Str Int Str) Str (List Str))), imA a_v_law_tree (v_law_tree : Any), F] : List (Asn G)) := Sep.star (M := [lstA a_v_law_others (v_law_others : (List (T3 (T5 Str Str Str Int Str) Str (List Str))))]) hS
                refine orVK_J hm hS (fun hb q hm nx => ?_) (fun b139 H hm hS => ?_)
                ·
                  refine c_call ?_
                  obtain ⟨xs140, h141, hm⟩ := Ml.wp_asTup hm
                  obtain ⟨x142, hx142, hm⟩ := wp_idx hm
                  obtain ⟨a143, vs144, he145, hg146, hM147⟩ := any_tupE (hS.im (i := 6) rfl) h141
                  obtain ⟨u148, hu149, hi150⟩ := atI_im hM147 hx142
                  refine ea_to (ea_cons (ev_ixT (ev_is (ev_var rfl) he145) ev_c hg146 hu149) (ea_cons (ev_var rfl) (ea_cons (ev_fz (ev_var rfl)) ea_nil))) ?_
                  have hS := hS.addIm (v := u148) (x := (x142 : Any)) hi150
                  refine ⟨u148, (x142 : Any), a_v_law_card, (v_law_card : (T3 (T5 Str Str Str Int Str) Str (List Str))), a_v_law_others, (v_law_others : (List (T3 (T5 Str Str Str Int Str) Str (List Str)))), star [imA u148 (x142 : Any), imA u134 (x128 : Any), imA u20 (x14 : Any), imA (.ref a9) (v_law_card.c : (List Str)), imA (.ref a8) (v_law_card.a : (T5 Str Str Str Int Str)), imA (.ref a_v_law_card) (v_law_card : (T3 (T5 Str Str Str Int Str) Str (List Str))), imA a_v_law_tree (v_law_tree : Any), F], rfl, (hS.im (i := 0) rfl), (hS.im (i := 6) rfl), Sep.unstar (M := [lstA a_v_law_others (v_law_others : (List (T3 (T5 Str Str Str Int Str) Str (List Str))))]) (hS.sel [1, 0, 2, 3, 4, 5, 6, 7, 8] (by decide) rfl : Sep H (([lstA a_v_law_others (v_law_others : (List (T3 (T5 Str Str Str Int Str) Str (List Str))))] ++ [imA u148 (x142 : Any), imA u134 (x128 : Any), imA u20 (x14 : Any), imA (.ref a9) (v_law_card.c : (List Str)), imA (.ref a8) (v_law_card.a : (T5 Str Str Str Int Str)), imA (.ref a_v_law_card) (v_law_card : (T3 (T5 Str Str Str Int Str) Str (List Str))), imA a_v_law_tree (v_law_tree : Any), F] : List (Asn G)))), R.wp_mono (R.wp_bind hm) (fun r152 hm H hS => ?_) (fun _ z => z)⟩
                  have hS : Sep H ([lstA a_v_law_others (v_law_others : (List (T3 (T5 Str Str Str Int Str) Str (List Str)))), imA u148 (x142 : Any), imA u134 (x128 : Any), imA u20 (x14 : Any), imA (.ref a9) (v_law_card.c : (List Str)), imA (.ref a8) (v_law_card.a : (T5 Str Str Str Int Str)), imA (.ref a_v_law_card) (v_law_card : (T3 (T5 Str Str Str Int Str) Str (List Str))), imA a_v_law_tree (v_law_tree : Any), F] : List (Asn G)) := Sep.star (M := [lstA a_v_law_others (v_law_others : (List (T3 (T5 Str Str Str Int Str) Str (List Str))))]) hS
                  exact nx _ _ hm (hS.sel [0, 2, 3, 4, 5, 6, 7, 8] (by decide) rfl)
                ·
                  exact hm _ (hS.sel [0, 7] (by decide) rfl)
              · have hm := R.wp_ifN hm (by first | (rw [hb125]; decide) | simpa using hb125)
                refine st_nx ?_
                refine sq_nx ?_
                refine f_seq ?_
                refine f_if ?_
                obtain ⟨b153, hb153, hm⟩ := wp_eqA hm
                refine et_to (et_test (ev_eqA (ev_var rfl) ev_c (hS.im (i := 0) rfl) (any_str.mpr rfl) hb153)) ?_
                refine ifK_2 (fun hb154 => ?_) (fun hb154 => ?_)
                · have hm := R.wp_ifY hm hb154
                  refine f_seq ?_
                  refine c_for ?_
                  refine c_rng1 ?_
                  refine ea_to (ea_cons (ev_lenG (ev_fz (ev_var rfl)) (hS.sq (i := 5) rfl)) ea_nil) ?_
                  obtain ⟨h155, hm⟩ := R.wp_need hm
                  refine k_rng1 (len62 h155).1 (len62 h155).2 ?_
                  refine k_forF (τ := Unit) (fun (s156 : Unit) (σ : L2.St) (H : Hp) => ∃ (w159 : Option V), σ = [some a_v_law_tree, some (.ref a_v_law_card), some (.ref a_v_law_others), some (.ref a8), some (.str (v_law_card.b)), some (.ref a9), some u20, w159, none] ∧ Sep H ([imA u20 (x14 : Any), imA (.ref a9) (v_law_card.c : (List Str)), imA (.ref a8) (v_law_card.a : (T5 Str Str Str Int Str)), imA (.ref a_v_law_card) (v_law_card : (T3 (T5 Str Str Str Int Str) Str (List Str))), imA a_v_law_tree (v_law_tree : Any), lstA a_v_law_others (v_law_others : (List (T3 (T5 Str Str Str Int Str) Str (List Str)))), F] : List (Asn G))) (im := (fun _ v (x : Int) => v = .int x)) (s := ()) (fun _ => wk_range) ⟨_, rfl, hS.sel [0, 1, 2, 3, 4, 5, 6] (by decide) rfl⟩ hm (fun s156 x157 v158 σ H q N B hI hx hm nx bk ho160 => ?_) (fun s156 σ H hm hI => ?_)
                  ·
                    obtain ⟨w159, rfl, hS⟩ := hI
                    cases hx
                    refine c_gN (σ' := [some a_v_law_tree, some (.ref a_v_law_card), some (.ref a_v_law_others), some (.ref a8), some (.str (v_law_card.b)), some (.ref a9), some u20, some (.int (x157)), none]) rfl ?_
                    refine f_if ?_
                    refine f_B ?_
                    refine c_call ?_
                    refine c_cons ?_
                    obtain ⟨xs161, h162, hm⟩ := Ml.wp_asTup hm
                    obtain ⟨x163, hx163, hm⟩ := wp_idx hm
                    obtain ⟨a164, vs165, he166, hg167, hM168⟩ := any_tupE (hS.im (i := 4) rfl) h162
                    obtain ⟨u169, hu170, hi171⟩ := atI_im hM168 hx163
                    refine ev_to (ev_ixT (ev_is (ev_var rfl) he166) ev_c hg167 hu170) ?_
                    have hS := hS.addIm (v := u169) (x := (x163 : Any)) hi171
                    refine c_cons ?_
                    obtain ⟨x173, hx173, hm⟩ := wp_idx hm
                    obtain ⟨vs174, hq175, hM176⟩ := hS.sq (i := 6) rfl
                    obtain ⟨u177, hu178, hi179⟩ := atI_im hM176 hx173
                    obtain ⟨a180, rfl⟩ := isref hi179
                    refine ev_to (ev_ixSq (ev_fz (ev_var rfl)) (ev_var rfl) hq175 hu178) ?_
                    have hS := hS.addIm (v := (.ref a180)) (x := (x173 : (T3 (T5 Str Str Str Int Str) Str (List Str)))) hi179
                    refine c_cons ?_
                    refine c_fz ?_
                    refine c_op ?_
                    refine c_fz ?_
                    refine c_op ?_
                    refine c_fz ?_
                    refine c_lst ?_
                    refine ea_to (ea_cons (ev_var rfl) ea_nil) ?_
                    refine k_lst (α := (T3 (T5 Str Str Str Int Str) Str (List Str))) (vs := [(.ref a_v_law_card)]) (xs := [v_law_card]) hS ⟨(hS.im (i := 5) rfl), True.intro⟩ (by show 1 ≤ sizeLine; decide) fun p182 H hS => ?_
                    refine fz_no ?_
                    refine c_fz ?_
                    refine c_sl ?_
                    refine ev_to (ev_fz (ev_var rfl)) ?_
                    refine eo_to eo_no ?_
                    refine eo_to (eo_some (ev_var rfl)) ?_
                    refine k_slG hS (hS.sq (i := 8) rfl) fun p183 H hS => ?_
                    refine fz_no ?_
                    obtain ⟨h184, hm⟩ := R.wp_need hm
                    refine k_catG hS (hS.rdL (i := 1) rfl) (hS.rdL (i := 0) rfl) h184 fun p185 H hS => ?_
                    refine fz_no ?_
                    refine c_fz ?_
                    refine c_sl ?_
                    refine ev_to (ev_fz (ev_var rfl)) ?_
                    refine eo_to (eo_some (ev_add (ev_var rfl) ev_c)) ?_
                    refine eo_to eo_no ?_
                    refine k_slG hS (hS.sq (i := 10) rfl) fun p186 H hS => ?_
                    refine fz_no ?_
                    obtain ⟨h187, hm⟩ := R.wp_need hm
                    refine k_catG hS (hS.rdL (i := 1) rfl) (hS.rdL (i := 0) rfl) h187 fun p188 H hS => ?_
                    refine fz_no ?_
                    refine c_nil ?_
                    refine ⟨u169, (x163 : Any), a180, (x173 : (T3 (T5 Str Str Str Int Str) Str (List Str))), p188, ((([v_law_card]) ++ (cutL v_law_others none (some (x157)))) ++ (cutL v_law_others (some (x157 + 1)) none) : (List (T3 (T5 Str Str Str Int Str) Str (List Str)))), star [lstA p186 (cutL v_law_others (some (x157 + 1)) none : (List (T3 (T5 Str Str Str Int Str) Str (List Str)))), lstA p185 (([v_law_card]) ++ (cutL v_law_others none (some (x157))) : (List (T3 (T5 Str Str Str Int Str) Str (List Str)))), lstA p183 (cutL v_law_others none (some (x157)) : (List (T3 (T5 Str Str Str Int Str) Str (List Str)))), lstA p182 ([v_law_card] : (List (T3 (T5 Str Str Str Int Str) Str (List Str)))), imA (.ref a180) (x173 : (T3 (T5 Str Str Str Int Str) Str (List Str))), imA u169 (x163 : Any), imA u20 (x14 : Any), imA (.ref a9) (v_law_card.c : (List Str)), imA (.ref a8) (v_law_card.a : (T5 Str Str Str Int Str)), imA (.ref a_v_law_card) (v_law_card : (T3 (T5 Str Str Str Int Str) Str (List Str))), imA a_v_law_tree (v_law_tree : Any), lstA a_v_law_others (v_law_others : (List (T3 (T5 Str Str Str Int Str) Str (List Str)))), F], rfl, (hS.im (i := 6) rfl), (hS.im (i := 5) rfl), Sep.unstar (M := [lstA p188 ((([v_law_card]) ++ (cutL v_law_others none (some (x157)))) ++ (cutL v_law_others (some (x157 + 1)) none) : (List (T3 (T5 Str Str Str Int Str) Str (List Str))))]) (hS.sel [0, 1, 2, 3, 4, 5, 6, 7, 8, 9, 10, 11, 12, 13] (by decide) rfl : Sep H (([lstA p188 ((([v_law_card]) ++ (cutL v_law_others none (some (x157)))) ++ (cutL v_law_others (some (x157 + 1)) none) : (List (T3 (T5 Str Str Str Int Str) Str (List Str))))] ++ [lstA p186 (cutL v_law_others (some (x157 + 1)) none : (List (T3 (T5 Str Str Str Int Str) Str (List Str)))), lstA p185 (([v_law_card]) ++ (cutL v_law_others none (some (x157))) : (List (T3 (T5 Str Str Str Int Str) Str (List Str)))), lstA p183 (cutL v_law_others none (some (x157)) : (List (T3 (T5 Str Str Str Int Str) Str (List Str)))), lstA p182 ([v_law_card] : (List (T3 (T5 Str Str Str Int Str) Str (List Str)))), imA (.ref a180) (x173 : (T3 (T5 Str Str Str Int Str) Str (List Str))), imA u169 (x163 : Any), imA u20 (x14 : Any), imA (.ref a9) (v_law_card.c : (List Str)), imA (.ref a8) (v_law_card.a : (T5 Str Str Str Int Str)), imA (.ref a_v_law_card) (v_law_card : (T3 (T5 Str Str Str Int Str) Str (List Str))), imA a_v_law_tree (v_law_tree : Any), lstA a_v_law_others (v_law_others : (List (T3 (T5 Str Str Str Int Str) Str (List Str)))), F] : List (Asn G)))), R.wp_mono (R.wp_bind hm) (fun r189 hm H hS => ?_) (fun _ z => z)⟩
                    have hS : Sep H ([lstA p188 ((([v_law_card]) ++ (cutL v_law_others none (some (x157)))) ++ (cutL v_law_others (some (x157 + 1)) none) : (List (T3 (T5 Str Str Str Int Str) Str (List Str)))), lstA p186 (cutL v_law_others (some (x157 + 1)) none : (List (T3 (T5 Str Str Str Int Str) Str (List Str)))), lstA p185 (([v_law_card]) ++ (cutL v_law_others none (some (x157))) : (List (T3 (T5 Str Str Str Int Str) Str (List Str)))), lstA p183 (cutL v_law_others none (some (x157)) : (List (T3 (T5 Str Str Str Int Str) Str (List Str)))), lstA p182 ([v_law_card] : (List (T3 (T5 Str Str Str Int Str) Str (List Str)))), imA (.ref a180) (x173 : (T3 (T5 Str Str Str Int Str) Str (List Str))), imA u169 (x163 : Any), imA u20 (x14 : Any), imA (.ref a9) (v_law_card.c : (List Str)), imA (.ref a8) (v_law_card.a : (T5 Str Str Str Int Str)), imA (.ref a_v_law_card) (v_law_card : (T3 (T5 Str Str Str Int Str) Str (List Str))), imA a_v_law_tree (v_law_tree : Any), lstA a_v_law_others (v_law_others : (List (T3 (T5 Str Str Str Int Str) Str (List Str)))), F] : List (Asn G)) := Sep.star (M := [lstA p188 ((([v_law_card]) ++ (cutL v_law_others none (some (x157)))) ++ (cutL v_law_others (some (x157 + 1)) none) : (List (T3 (T5 Str Str Str Int Str) Str (List Str))))]) hS
                    refine f_bl ?_
                    refine ifK_2 (fun hb190 => ?_) (fun hb190 => ?_)
                    · have hm := R.wp_ifY hm hb190
                      refine c_ret ?_
                      refine ev_to ev_c ?_
                      exact (ho160 _ hm) _ (hS.sel [12, 13] (by decide) rfl)
                    · have hm := R.wp_ifN hm (by first | (rw [hb190]; decide) | simpa using hb190)
                      refine st_nx ?_
                      exact nx _ _ _ hm ⟨_, rfl, hS.sel [7, 8, 9, 10, 11, 12, 13] (by decide) rfl⟩
                  · obtain ⟨w159, rfl, hS⟩ := hI
                    refine sq_nx ?_
                    refine c_ret ?_
                    refine ev_to ev_c ?_
                    exact hm _ (hS.sel [5, 6] (by decide) rfl)
                · have hm := R.wp_ifN hm (by first | (rw [hb154]; decide) | simpa using hb154)
                  refine st_nx ?_
                  refine sq_nx ?_
                  refine f_seq ?_
                  refine c_asg ?_
                  refine c_disp ?_
                  refine k_disp (κ := Str) (β := (List Str)) hS fun p192 H hS => ?_
                  have hS : Sep H ([dictA p192 (([] : (List (Str × (List Str)))) : (List (Str × (List Str)))), imA u20 (x14 : Any), imA (.ref a9) (v_law_card.c : (List Str)), imA (.ref a8) (v_law_card.a : (T5 Str Str Str Int Str)), imA (.ref a_v_law_card) (v_law_card : (T3 (T5 Str Str Str Int Str) Str (List Str))), imA a_v_law_tree (v_law_tree : Any), lstA a_v_law_others (v_law_others : (List (T3 (T5 Str Str Str Int Str) Str (List Str)))), F] : List (Asn G)) := hS
                  refine pr_cons ?_
                  refine ev_to ev_c ?_
                  refine pr_1 ?_
                  refine c_fz ?_
                  refine c_call ?_
                  obtain ⟨u193, u194, u195, u196, u197, hT203, h198, h199, h200, h201, h202⟩ := im5 (hS.im (i := 3) rfl)
                  obtain rfl : u193 = (.str (v_law_card.a.a)) := h198
                  obtain rfl : u194 = (.str (v_law_card.a.b)) := h199
                  obtain rfl : u195 = (.str (v_law_card.a.c)) := h200
                  obtain rfl : u196 = (.int (v_law_card.a.d)) := h201
                  obtain rfl : u197 = (.str (v_law_card.a.e)) := h202
                  refine ea_to (ea_cons (ev_ixT (ev_var rfl) ev_c hT203 rfl) ea_nil) ?_
                  refine ⟨v_law_card.a.b, star [dictA p192 (([] : (List (Str × (List Str)))) : (List (Str × (List Str)))), imA u20 (x14 : Any), imA (.ref a9) (v_law_card.c : (List Str)), imA (.ref a8) (v_law_card.a : (T5 Str Str Str Int Str)), imA (.ref a_v_law_card) (v_law_card : (T3 (T5 Str Str Str Int Str) Str (List Str))), imA a_v_law_tree (v_law_tree : Any), lstA a_v_law_others (v_law_others : (List (T3 (T5 Str Str Str Int Str) Str (List Str)))), F], rfl, Sep.unstar (M := []) (hS.sel [0, 1, 2, 3, 4, 5, 6, 7] (by decide) rfl : Sep H (([] ++ [dictA p192 (([] : (List (Str × (List Str)))) : (List (Str × (List Str)))), imA u20 (x14 : Any), imA (.ref a9) (v_law_card.c : (List Str)), imA (.ref a8) (v_law_card.a : (T5 Str Str Str Int Str)), imA (.ref a_v_law_card) (v_law_card : (T3 (T5 Str Str Str Int Str) Str (List Str))), imA a_v_law_tree (v_law_tree : Any), lstA a_v_law_others (v_law_others : (List (T3 (T5 Str Str Str Int Str) Str (List Str)))), F] : List (Asn G)))), R.wp_mono (R.wp_bind hm) (fun r204 hm p205 H hS => ?_) (fun _ z => z)⟩
                  have hS : Sep H ([lstA p205 (r204 : (List Str)), dictA p192 (([] : (List (Str × (List Str)))) : (List (Str × (List Str)))), imA u20 (x14 : Any), imA (.ref a9) (v_law_card.c : (List Str)), imA (.ref a8) (v_law_card.a : (T5 Str Str Str Int Str)), imA (.ref a_v_law_card) (v_law_card : (T3 (T5 Str Str Str Int Str) Str (List Str))), imA a_v_law_tree (v_law_tree : Any), lstA a_v_law_others (v_law_others : (List (T3 (T5 Str Str Str Int Str) Str (List Str)))), F] : List (Asn G)) := Sep.star (M := [lstA p205 (r204 : (List Str))]) hS
                  refine fz_yes (xs := (r204 : (List Str))) hS (i := 0) rfl fun H hS => ?_
                  have hS : Sep H ([imA (.ref p205) (r204 : (List Str)), dictA p192 (([] : (List (Str × (List Str)))) : (List (Str × (List Str)))), imA u20 (x14 : Any), imA (.ref a9) (v_law_card.c : (List Str)), imA (.ref a8) (v_law_card.a : (T5 Str Str Str Int Str)), imA (.ref a_v_law_card) (v_law_card : (T3 (T5 Str Str Str Int Str) Str (List Str))), imA a_v_law_tree (v_law_tree : Any), lstA a_v_law_others (v_law_others : (List (T3 (T5 Str Str Str Int Str) Str (List Str)))), F] : List (Asn G)) := hS
                  refine pr_2 ?_
                  refine pr_cons ?_
                  refine ev_to ev_c ?_
                  refine pr_1 ?_
                  refine c_fz ?_
                  refine c_lst ?_
                  obtain ⟨u207, u208, u209, u210, u211, hT217, h212, h213, h214, h215, h216⟩ := im5 (hS.im (i := 4) rfl)
                  obtain rfl : u207 = (.str (v_law_card.a.a)) := h212
                  obtain rfl : u208 = (.str (v_law_card.a.b)) := h213
                  obtain rfl : u209 = (.str (v_law_card.a.c)) := h214
                  obtain rfl : u210 = (.int (v_law_card.a.d)) := h215
                  obtain rfl : u211 = (.str (v_law_card.a.e)) := h216
                  refine ea_to (ea_cons (ev_ixT (ev_var rfl) ev_c hT217 rfl) ea_nil) ?_
                  refine k_lst (α := Str) (vs := [(.str (v_law_card.a.a))]) (xs := [v_law_card.a.a]) hS ⟨rfl, True.intro⟩ (by show 1 ≤ sizeLine; decide) fun p218 H hS => ?_
                  refine fz_yes (xs := ([v_law_card.a.a] : (List Str))) hS (i := 0) rfl fun H hS => ?_
                  have hS : Sep H ([imA (.ref p218) ([v_law_card.a.a] : (List Str)), imA (.ref p205) (r204 : (List Str)), dictA p192 (([] : (List (Str × (List Str)))) : (List (Str × (List Str)))), imA u20 (x14 : Any), imA (.ref a9) (v_law_card.c : (List Str)), imA (.ref a8) (v_law_card.a : (T5 Str Str Str Int Str)), imA (.ref a_v_law_card) (v_law_card : (T3 (T5 Str Str Str Int Str) Str (List Str))), imA a_v_law_tree (v_law_tree : Any), lstA a_v_law_others (v_law_others : (List (T3 (T5 Str Str Str Int Str) Str (List Str)))), F] : List (Asn G)) := hS
                  refine pr_2 ?_
                  refine pr_cons ?_
                  refine ev_to ev_c ?_
                  refine pr_1 ?_
                  refine c_fz ?_
                  refine c_lst ?_
                  refine ea_to (ea_cons (ev_var rfl) ea_nil) ?_
                  refine k_lst (α := Str) (vs := [(.str (v_law_card.b))]) (xs := [v_law_card.b]) hS ⟨rfl, True.intro⟩ (by show 1 ≤ sizeLine; decide) fun p220 H hS => ?_
                  refine fz_yes (xs := ([v_law_card.b] : (List Str))) hS (i := 0) rfl fun H hS => ?_
                  have hS : Sep H ([imA (.ref p220) ([v_law_card.b] : (List Str)), imA (.ref p218) ([v_law_card.a.a] : (List Str)), imA (.ref p205) (r204 : (List Str)), dictA p192 (([] : (List (Str × (List Str)))) : (List (Str × (List Str)))), imA u20 (x14 : Any), imA (.ref a9) (v_law_card.c : (List Str)), imA (.ref a8) (v_law_card.a : (T5 Str Str Str Int Str)), imA (.ref a_v_law_card) (v_law_card : (T3 (T5 Str Str Str Int Str) Str (List Str))), imA a_v_law_tree (v_law_tree : Any), lstA a_v_law_others (v_law_others : (List (T3 (T5 Str Str Str Int Str) Str (List Str)))), F] : List (Asn G)) := hS
                  refine pr_2 ?_
                  refine pr_nil ?_
                  refine k_dispEnd (qs := ([(("title" : Str), r204), (("from" : Str), [v_law_card.a.a]), (("in" : Str), [v_law_card.b])] : (List (Str × (List Str))))) (kvs := [(Kx.key ("title" : Str), (.ref p205)), (Kx.key ("from" : Str), (.ref p218)), (Kx.key ("in" : Str), (.ref p220))]) hS (i := 3) rfl rfl ⟨⟨rfl, (hS.im (i := 2) rfl)⟩, ⟨⟨rfl, (hS.im (i := 1) rfl)⟩, ⟨⟨rfl, (hS.im (i := 0) rfl)⟩, True.intro⟩⟩⟩ (by show 3 ≤ 15; decide) rfl fun H hS => ?_
                  have hS : Sep H ([imA (.ref p220) ([v_law_card.b] : (List Str)), imA (.ref p218) ([v_law_card.a.a] : (List Str)), imA (.ref p205) (r204 : (List Str)), dictA p192 (mergeD [] ([(("title" : Str), r204), (("from" : Str), [v_law_card.a.a]), (("in" : Str), [v_law_card.b])] : (List (Str × (List Str)))) : (List (Str × (List Str)))), imA u20 (x14 : Any), imA (.ref a9) (v_law_card.c : (List Str)), imA (.ref a8) (v_law_card.a : (T5 Str Str Str Int Str)), imA (.ref a_v_law_card) (v_law_card : (T3 (T5 Str Str Str Int Str) Str (List Str))), imA a_v_law_tree (v_law_tree : Any), lstA a_v_law_others (v_law_others : (List (T3 (T5 Str Str Str Int Str) Str (List Str)))), F] : List (Asn G)) := hS
                  obtain ⟨y222, hy222, hm⟩ := wp_let hm
                  have hS : Sep H ([imA (.ref p220) ([v_law_card.b] : (List Str)), imA (.ref p218) ([v_law_card.a.a] : (List Str)), imA (.ref p205) (r204 : (List Str)), dictA p192 (y222 : (List (Str × (List Str)))), imA u20 (x14 : Any), imA (.ref a9) (v_law_card.c : (List Str)), imA (.ref a8) (v_law_card.a : (T5 Str Str Str Int Str)), imA (.ref a_v_law_card) (v_law_card : (T3 (T5 Str Str Str Int Str) Str (List Str))), imA a_v_law_tree (v_law_tree : Any), lstA a_v_law_others (v_law_others : (List (T3 (T5 Str Str Str Int Str) Str (List Str)))), F] : List (Asn G)) := by rw [← hy222]; exact hS
                  refine c_set (σ' := [some a_v_law_tree, some (.ref a_v_law_card), some (.ref a_v_law_others), some (.ref a8), some (.str (v_law_card.b)), some (.ref a9), some u20, none, some (.ref p192)]) rfl ?_
                  refine sq_nx ?_
                  refine f_seq ?_
                  refine c_asgS ?_
                  refine c_fz ?_
                  refine c_op ?_
                  obtain ⟨y223, hy223, hm⟩ := wp_dget hm
                  obtain ⟨v224, g225, hv226⟩ := dget_some hS (i := 3) rfl hy223
                  obtain ⟨a227, rfl⟩ := isref hv226
                  refine ev_to (ev_dget (y := y223) hS (i := 3) rfl (ev_var rfl) ev_c g225) ?_
                  have hS := hS.addIm (v := (.ref a227)) (x := (y223 : (List Str))) hv226
                  refine c_fz ?_
                  refine c_call ?_
                  obtain ⟨u229, u230, u231, u232, u233, hT239, h234, h235, h236, h237, h238⟩ := im5 (hS.im (i := 7) rfl)
                  obtain rfl : u229 = (.str (v_law_card.a.a)) := h234
                  obtain rfl : u230 = (.str (v_law_card.a.b)) := h235
                  obtain rfl : u231 = (.str (v_law_card.a.c)) := h236
                  obtain rfl : u232 = (.int (v_law_card.a.d)) := h237
                  obtain rfl : u233 = (.str (v_law_card.a.e)) := h238
                  refine ea_to (ea_cons (ev_ixT (ev_var rfl) ev_c hT239 rfl) ea_nil) ?_
                  refine ⟨v_law_card.a.c, star [imA (.ref a227) (y223 : (List Str)), imA (.ref p220) ([v_law_card.b] : (List Str)), imA (.ref p218) ([v_law_card.a.a] : (List Str)), imA (.ref p205) (r204 : (List Str)), dictA p192 (y222 : (List (Str × (List Str)))), imA u20 (x14 : Any), imA (.ref a9) (v_law_card.c : (List Str)), imA (.ref a8) (v_law_card.a : (T5 Str Str Str Int Str)), imA (.ref a_v_law_card) (v_law_card : (T3 (T5 Str Str Str Int Str) Str (List Str))), imA a_v_law_tree (v_law_tree : Any), lstA a_v_law_others (v_law_others : (List (T3 (T5 Str Str Str Int Str) Str (List Str)))), F], rfl, Sep.unstar (M := []) (hS.sel [0, 1, 2, 3, 4, 5, 6, 7, 8, 9, 10, 11] (by decide) rfl : Sep H (([] ++ [imA (.ref a227) (y223 : (List Str)), imA (.ref p220) ([v_law_card.b] : (List Str)), imA (.ref p218) ([v_law_card.a.a] : (List Str)), imA (.ref p205) (r204 : (List Str)), dictA p192 (y222 : (List (Str × (List Str)))), imA u20 (x14 : Any), imA (.ref a9) (v_law_card.c : (List Str)), imA (.ref a8) (v_law_card.a : (T5 Str Str Str Int Str)), imA (.ref a_v_law_card) (v_law_card : (T3 (T5 Str Str Str Int Str) Str (List Str))), imA a_v_law_tree (v_law_tree : Any), lstA a_v_law_others (v_law_others : (List (T3 (T5 Str Str Str Int Str) Str (List Str)))), F] : List (Asn G)))), R.wp_mono (R.wp_bind hm) (fun r240 hm p241 H hS => ?_) (fun _ z => z)⟩
                  have hS : Sep H ([lstA p241 (r240 : (List Str)), imA (.ref a227) (y223 : (List Str)), imA (.ref p220) ([v_law_card.b] : (List Str)), imA (.ref p218) ([v_law_card.a.a] : (List Str)), imA (.ref p205) (r204 : (List Str)), dictA p192 (y222 : (List (Str × (List Str)))), imA u20 (x14 : Any), imA (.ref a9) (v_law_card.c : (List Str)), imA (.ref a8) (v_law_card.a : (T5 Str Str Str Int Str)), imA (.ref a_v_law_card) (v_law_card : (T3 (T5 Str Str Str Int Str) Str (List Str))), imA a_v_law_tree (v_law_tree : Any), lstA a_v_law_others (v_law_others : (List (T3 (T5 Str Str Str Int Str) Str (List Str)))), F] : List (Asn G)) := Sep.star (M := [lstA p241 (r240 : (List Str))]) hS
                  refine fz_no ?_
                  obtain ⟨h242, hm⟩ := R.wp_need hm
                  refine k_catG hS (imPlR (hS.im (i := 1) rfl)) (hS.rdL (i := 0) rfl) h242 fun p243 H hS => ?_
                  refine fz_yes (xs := (y223 ++ r240 : (List Str))) hS (i := 0) rfl fun H hS => ?_
                  have hS : Sep H ([imA (.ref p243) (y223 ++ r240 : (List Str)), lstA p241 (r240 : (List Str)), imA (.ref a227) (y223 : (List Str)), imA (.ref p220) ([v_law_card.b] : (List Str)), imA (.ref p218) ([v_law_card.a.a] : (List Str)), imA (.ref p205) (r204 : (List Str)), dictA p192 (y222 : (List (Str × (List Str)))), imA u20 (x14 : Any), imA (.ref a9) (v_law_card.c : (List Str)), imA (.ref a8) (v_law_card.a : (T5 Str Str Str Int Str)), imA (.ref a_v_law_card) (v_law_card : (T3 (T5 Str Str Str Int Str) Str (List Str))), imA a_v_law_tree (v_law_tree : Any), lstA a_v_law_others (v_law_others : (List (T3 (T5 Str Str Str Int Str) Str (List Str)))), F] : List (Asn G)) := hS
                  obtain ⟨h245, hm⟩ := R.wp_need hm
                  refine ev_to (ev_var rfl) ?_
                  refine ev_to ev_c ?_
                  refine k_setD (k := ("word" : Str)) (y := y223 ++ r240) hS (i := 6) rfl (hS.im (i := 0) rfl) h245 rfl fun H hS => ?_
                  have hS : Sep H ([imA (.ref p243) (y223 ++ r240 : (List Str)), lstA p241 (r240 : (List Str)), imA (.ref a227) (y223 : (List Str)), imA (.ref p220) ([v_law_card.b] : (List Str)), imA (.ref p218) ([v_law_card.a.a] : (List Str)), imA (.ref p205) (r204 : (List Str)), dictA p192 (dput y222 ("word" : Str) (y223 ++ r240) : (List (Str × (List Str)))), imA u20 (x14 : Any), imA (.ref a9) (v_law_card.c : (List Str)), imA (.ref a8) (v_law_card.a : (T5 Str Str Str Int Str)), imA (.ref a_v_law_card) (v_law_card : (T3 (T5 Str Str Str Int Str) Str (List Str))), imA a_v_law_tree (v_law_tree : Any), lstA a_v_law_others (v_law_others : (List (T3 (T5 Str Str Str Int Str) Str (List Str)))), F] : List (Asn G)) := hS
                  refine sq_nx ?_
                  refine f_seq ?_
                  refine c_asgS ?_
                  refine ev_to (ev_var rfl) ?_
                  revert hm; refine R.need_rev fun h246 hm => ?_
                  refine ev_to (ev_var rfl) ?_
                  refine ev_to ev_c ?_
                  refine k_setD (k := ("marked" : Str)) (y := v_law_card.c) hS (i := 6) rfl (hS.im (i := 8) rfl) h246 rfl fun H hS => ?_
                  have hS : Sep H ([imA (.ref p243) (y223 ++ r240 : (List Str)), lstA p241 (r240 : (List Str)), imA (.ref a227) (y223 : (List Str)), imA (.ref p220) ([v_law_card.b] : (List Str)), imA (.ref p218) ([v_law_card.a.a] : (List Str)), imA (.ref p205) (r204 : (List Str)), dictA p192 (dput (dput y222 ("word" : Str) (y223 ++ r240)) ("marked" : Str) v_law_card.c : (List (Str × (List Str)))), imA u20 (x14 : Any), imA (.ref a9) (v_law_card.c : (List Str)), imA (.ref a8) (v_law_card.a : (T5 Str Str Str Int Str)), imA (.ref a_v_law_card) (v_law_card : (T3 (T5 Str Str Str Int Str) Str (List Str))), imA a_v_law_tree (v_law_tree : Any), lstA a_v_law_others (v_law_others : (List (T3 (T5 Str Str Str Int Str) Str (List Str)))), F] : List (Asn G)) := hS
                  refine sq_nx ?_
                  refine c_ret ?_
                  obtain ⟨xs247, h248, hm⟩ := Ml.wp_asTup hm
                  obtain ⟨x249, hx249, hm⟩ := wp_idx hm
                  obtain ⟨a250, vs251, he252, hg253, hM254⟩ := any_tupE (hS.im (i := 11) rfl) h248
                  obtain ⟨u255, hu256, hi257⟩ := atI_im hM254 hx249
                  obtain ⟨s258, hs259, hm⟩ := Ml.wp_asStr hm
                  have hv260 := v_str (hS.im (i := 7) rfl) hs259
                  subst hv260
                  obtain ⟨y261, hy261, hm⟩ := wp_dget hm
                  obtain ⟨v262, g263, hv264⟩ := dget_some hS (i := 6) rfl hy261
                  obtain ⟨a265, rfl⟩ := isref hv264
                  obtain ⟨s266, hs267, hm⟩ := Ml.wp_asStr hm
                  have hv268 := v_str hi257 hs267
                  subst hv268
                  refine ev_to (ev_inPl hv264 (ev_ixT (ev_is (ev_var rfl) he252) ev_c hg253 hu256) (ev_dget (y := y261) hS (i := 6) rfl (ev_var rfl) (ev_var rfl) g263)) ?_
                  exact hm _ (hS.sel [12, 13] (by decide) rfl)
theorem ok_law_holds (T : Txt G mg) : ∀ n : Nat, FnOk P w G.K mg base CX0 (2 + n) T.a_law_holds T.fd_law_holds ["_law_tree", "_law_card", "_law_others"] (sp_law_holds G (m_law_holds n))
  | 0 => fnOk_no fun vs H Q E h => by obtain ⟨a_v_law_tree, v_law_tree, a_v_law_card, v_law_card, a_v_law_others, v_law_others, F, _, him_v_law_tree, him_v_law_card, _, hm⟩ := h; exact hm
  | n + 1 => ok_law_holds_b T (Nat.le_add_right_of_le (by decide)) (ok_law_holds T n)
def sp_law_shown (G : Gx) : Sp := fun vs H Q E => ∃ (a_v_law_card : Addr) (v_law_card : Card) (F : Asn G), vs = [(.ref a_v_law_card)] ∧ Im.im G H (.ref a_v_law_card) v_law_card ∧ Sep H ([F] : List (Asn G)) ∧ R.wp (m_law_shown v_law_card) (fun r => ∀ (p : Addr) H', Sep H' ([imA (.ref p) (r : (T3 (T5 Str Str Str Int Str) Str (List Str))), F] : List (Asn G)) → Q (.ref p) H') (fun _ => False)
abbrev N_law_shown : List Str := ["_law_card"]
theorem sc_law_shown : FnScope N_law_shown ["_law_card"] (defScope s_law_shown) := ⟨rfl, rfl, rfl, by decide +kernel, rfl, by decide +kernel, by decide +kernel⟩
theorem ok_law_shown (T : Txt G mg) : FnOk P w G.K mg base CX0 2 T.a_law_shown T.fd_law_shown ["_law_card"] (sp_law_shown G) := by
  have nd := sc_law_shown.nd
  refine Fun.ok T.F_law_shown sc_law_shown (fun vs H Q E h => ?_) (fun cdv A outer s H vs Q E hr h => ?_)
  · obtain ⟨a_v_law_card, v_law_card, F, rfl, _⟩ := h; rfl
  · obtain ⟨a_v_law_card, v_law_card, F, rfl, him_v_law_card, hS, hm⟩ := h
    have hS := hS.addIm him_v_law_card
    refine ⟨_, (pss_one (ps_ret (pe_tup (pa_cons (pe_meth0 (pe_fld (pv 0) rfl) T.cl_Letter T.m_Letter_parts (ok_Letter_parts T) (hr.mono (by decide)) T.b_Letter_parts .nil pass0) (pa_cons (pe_fld (pv 0) rfl) (pa_cons (pe_fz (pe_callTy (listSqK G.K) (by rfl) T.z_list (by decide +kernel) (pa_cons (pe_fld (pv 0) rfl) pa_nil))) pa_nil)))))), ?_⟩
    unfold m_law_shown at hm
    refine c_ret ?_
    refine c_tup ?_
    refine c_cons ?_
    refine c_meth ?_
    obtain ⟨d1, u3, u4, hO2, h5, h6⟩ := im_Card (hS.im (i := 0) rfl)
    obtain ⟨a7, rfl⟩ := isref h5
    refine ev_to (ev_fld (ev_var rfl) hO2 T.cl_Card T.n_Card_letter rfl) ?_
    have hS := hS.addIm (v := (.ref a7)) (x := (v_law_card.letter : Letter)) h5
    obtain ⟨d9, hO10⟩ := im_Letter (hS.im (i := 0) rfl)
    refine ⟨_, _, _, rfl, hO10, rfl, ?_⟩
    refine ea_to ea_nil ?_
    refine ⟨a7, (v_law_card.letter : Letter), star [imA (.ref a7) (v_law_card.letter : Letter), imA (.ref a_v_law_card) (v_law_card : Card), F], rfl, (hS.im (i := 0) rfl), Sep.unstar (M := []) (hS.sel [0, 1, 2] (by decide) rfl : Sep H (([] ++ [imA (.ref a7) (v_law_card.letter : Letter), imA (.ref a_v_law_card) (v_law_card : Card), F] : List (Asn G)))), R.wp_mono (R.wp_bind hm) (fun r11 hm p12 H hS => ?_) (fun _ z => z)⟩
    have hS : Sep H ([imA (.ref p12) (r11 : (T5 Str Str Str Int Str)), imA (.ref a7) (v_law_card.letter : Letter), imA (.ref a_v_law_card) (v_law_card : Card), F] : List (Asn G)) := Sep.star (M := [imA (.ref p12) (r11 : (T5 Str Str Str Int Str))]) hS
    refine c_cons ?_
    obtain ⟨d14, u16, u17, hO15, h18, h19⟩ := im_Card (hS.im (i := 2) rfl)
    refine ev_to (ev_fld (ev_var rfl) hO15 T.cl_Card T.n_Card_box rfl) ?_
    refine c_cons ?_
    refine c_fz ?_
    refine c_cb ?_
    obtain ⟨d20, u22, u23, hO21, h24, h25⟩ := im_Card (hS.im (i := 2) rfl)
    obtain ⟨a26, rfl⟩ := isref h25
    refine ea_to (ea_cons (ev_fld (ev_var rfl) hO21 T.cl_Card T.n_Card_signs rfl) ea_nil) ?_
    have hS := hS.addIm (v := (.ref a26)) (x := (v_law_card.signs : (List Str))) h25
    refine k_listG hS (imPl (hS.im (i := 0) rfl)) fun p28 H hS => ?_
    refine fz_yes (xs := (v_law_card.signs : (List Str))) hS (i := 0) rfl fun H hS => ?_
    have hS : Sep H ([imA (.ref p28) (v_law_card.signs : (List Str)), imA (.ref a26) (v_law_card.signs : (List Str)), imA (.ref p12) (r11 : (T5 Str Str Str Int Str)), imA (.ref a7) (v_law_card.letter : Letter), imA (.ref a_v_law_card) (v_law_card : Card), F] : List (Asn G)) := hS
    refine c_nil ?_
    refine k_tupP (x := ((⟨r11, v_law_card.box, v_law_card.signs⟩ : T3 _ _ _) : (T3 (T5 Str Str Str Int Str) Str (List Str)))) hS (fun H' p h s => mk3 (hS.im (i := 2) rfl) rfl (hS.im (i := 0) rfl) h s) (by show 3 ≤ sizeLine; decide) fun p30 H hS => ?_
    exact hm _ _ (hS.sel [0, 6] (by decide) rfl)
def sp_OfWord_tree_InTitle (G : Gx) : Sp := fun vs H Q E => ∃ (a_v_self : Addr) (v_self : InTitle) (F : Asn G), vs = [(.ref a_v_self)] ∧ Im.im G H (.ref a_v_self) v_self ∧ Sep H ([F] : List (Asn G)) ∧ R.wp (m_OfWord_tree_InTitle v_self) (fun r => ∀ (p : V) H', Sep H' ([imA p (r : Any), F] : List (Asn G)) → Q p H') (fun _ => False)
abbrev N_OfWord_tree_InTitle : List Str := ["self"]
theorem sc_OfWord_tree_InTitle : FnScope N_OfWord_tree_InTitle ["self"] (defScope s_OfWord_tree) := ⟨rfl, rfl, rfl, by decide +kernel, rfl, by decide +kernel, by decide +kernel⟩
theorem ok_OfWord_tree_InTitle (T : Txt G mg) : FnOk P w G.K mg base CX0 2 T.a_OfWord_tree T.fd_OfWord_tree ["self"] (sp_OfWord_tree_InTitle G) := by
  have nd := sc_OfWord_tree_InTitle.nd
  refine Fun.ok T.F_OfWord_tree sc_OfWord_tree_InTitle (fun vs H Q E h => ?_) (fun cdv A outer s H vs Q E hr h => ?_)
  · obtain ⟨a_v_self, v_self, F, rfl, _⟩ := h; rfl
  · obtain ⟨a_v_self, v_self, F, rfl, him_v_self, hS, hm⟩ := h
    have hS := hS.addIm him_v_self
    refine ⟨_, (pss_one (ps_ret (pe_tup (pa_cons (pe_meth0 (pv 0) T.cl_InTitle T.m_InTitle_sign (ok_InTitle_sign T) (hr.mono (by decide)) T.b_InTitle_sign .nil pass0) (pa_cons (pe_fld (pv 0) rfl) pa_nil))))), ?_⟩
    unfold m_OfWord_tree_InTitle at hm
    refine c_ret ?_
    refine c_tup ?_
    refine c_cons ?_
    refine c_meth ?_
    refine ev_to (ev_var rfl) ?_
    obtain ⟨d1, hO2⟩ := im_InTitle (hS.im (i := 0) rfl)
    refine ⟨_, _, _, rfl, hO2, rfl, ?_⟩
    refine ea_to ea_nil ?_
    refine ⟨a_v_self, (v_self : InTitle), star [imA (.ref a_v_self) (v_self : InTitle), F], rfl, (hS.im (i := 0) rfl), Sep.unstar (M := []) (hS.sel [0, 1] (by decide) rfl : Sep H (([] ++ [imA (.ref a_v_self) (v_self : InTitle), F] : List (Asn G)))), R.wp_mono (R.wp_bind hm) (fun r3 hm H hS => ?_) (fun _ z => z)⟩
    have hS : Sep H ([imA (.ref a_v_self) (v_self : InTitle), F] : List (Asn G)) := Sep.star (M := []) hS
    refine c_cons ?_
    obtain ⟨d4, hO5⟩ := im_InTitle (hS.im (i := 0) rfl)
    refine ev_to (ev_fld (ev_var rfl) hO5 T.cl_InTitle T.n_InTitle_word rfl) ?_
    refine c_nil ?_
    refine k_tupA (vs := [(.str (r3)), (.str (v_self.word))]) (xs := [(Any.str r3), (Any.str v_self.word)]) hS ⟨(any_str.mpr rfl), ⟨(any_str.mpr rfl), True.intro⟩⟩ (by show 2 ≤ sizeLine; decide) fun p6 H hS => ?_
    exact hm _ _ (hS.sel [0, 2] (by decide) rfl)
def sp_OfWord_tree_FromSender (G : Gx) : Sp := fun vs H Q E => ∃ (a_v_self : Addr) (v_self : FromSender) (F : Asn G), vs = [(.ref a_v_self)] ∧ Im.im G H (.ref a_v_self) v_self ∧ Sep H ([F] : List (Asn G)) ∧ R.wp (m_OfWord_tree_FromSender v_self) (fun r => ∀ (p : V) H', Sep H' ([imA p (r : Any), F] : List (Asn G)) → Q p H') (fun _ => False)
abbrev N_OfWord_tree_FromSender : List Str := ["self"]
theorem sc_OfWord_tree_FromSender : FnScope N_OfWord_tree_FromSender ["self"] (defScope s_OfWord_tree) := ⟨rfl, rfl, rfl, by decide +kernel, rfl, by decide +kernel, by decide +kernel⟩
theorem ok_OfWord_tree_FromSender (T : Txt G mg) : FnOk P w G.K mg base CX0 2 T.a_OfWord_tree T.fd_OfWord_tree ["self"] (sp_OfWord_tree_FromSender G) := by
  have nd := sc_OfWord_tree_FromSender.nd
  refine Fun.ok T.F_OfWord_tree sc_OfWord_tree_FromSender (fun vs H Q E h => ?_) (fun cdv A outer s H vs Q E hr h => ?_)
  · obtain ⟨a_v_self, v_self, F, rfl, _⟩ := h; rfl
  · obtain ⟨a_v_self, v_self, F, rfl, him_v_self, hS, hm⟩ := h
    have hS := hS.addIm him_v_self
    refine ⟨_, (pss_one (ps_ret (pe_tup (pa_cons (pe_meth0 (pv 0) T.cl_FromSender T.m_FromSender_sign (ok_FromSender_sign T) (hr.mono (by decide)) T.b_FromSender_sign .nil pass0) (pa_cons (pe_fld (pv 0) rfl) pa_nil))))), ?_⟩
    unfold m_OfWord_tree_FromSender at hm
    refine c_ret ?_
    refine c_tup ?_
    refine c_cons ?_
    refine c_meth ?_
    refine ev_to (ev_var rfl) ?_
    obtain ⟨d1, hO2⟩ := im_FromSender (hS.im (i := 0) rfl)
    refine ⟨_, _, _, rfl, hO2, rfl, ?_⟩
    refine ea_to ea_nil ?_
    refine ⟨a_v_self, (v_self : FromSender), star [imA (.ref a_v_self) (v_self : FromSender), F], rfl, (hS.im (i := 0) rfl), Sep.unstar (M := []) (hS.sel [0, 1] (by decide) rfl : Sep H (([] ++ [imA (.ref a_v_self) (v_self : FromSender), F] : List (Asn G)))), R.wp_mono (R.wp_bind hm) (fun r3 hm H hS => ?_) (fun _ z => z)⟩
    have hS : Sep H ([imA (.ref a_v_self) (v_self : FromSender), F] : List (Asn G)) := Sep.star (M := []) hS
    refine c_cons ?_
    obtain ⟨d4, hO5⟩ := im_FromSender (hS.im (i := 0) rfl)
    refine ev_to (ev_fld (ev_var rfl) hO5 T.cl_FromSender T.n_FromSender_word rfl) ?_
    refine c_nil ?_
    refine k_tupA (vs := [(.str (r3)), (.str (v_self.word))]) (xs := [(Any.str r3), (Any.str v_self.word)]) hS ⟨(any_str.mpr rfl), ⟨(any_str.mpr rfl), True.intro⟩⟩ (by show 2 ≤ sizeLine; decide) fun p6 H hS => ?_
    exact hm _ _ (hS.sel [0, 2] (by decide) rfl)
def sp_OfWord_tree_InFolder (G : Gx) : Sp := fun vs H Q E => ∃ (a_v_self : Addr) (v_self : InFolder) (F : Asn G), vs = [(.ref a_v_self)] ∧ Im.im G H (.ref a_v_self) v_self ∧ Sep H ([F] : List (Asn G)) ∧ R.wp (m_OfWord_tree_InFolder v_self) (fun r => ∀ (p : V) H', Sep H' ([imA p (r : Any), F] : List (Asn G)) → Q p H') (fun _ => False)
abbrev N_OfWord_tree_InFolder : List Str := ["self"]
theorem sc_OfWord_tree_InFolder : FnScope N_OfWord_tree_InFolder ["self"] (defScope s_OfWord_tree) := ⟨rfl, rfl, rfl, by decide +kernel, rfl, by decide +kernel, by decide +kernel⟩
theorem ok_OfWord_tree_InFolder (T : Txt G mg) : FnOk P w G.K mg base CX0 2 T.a_OfWord_tree T.fd_OfWord_tree ["self"] (sp_OfWord_tree_InFolder G) := by
  have nd := sc_OfWord_tree_InFolder.nd
  refine Fun.ok T.F_OfWord_tree sc_OfWord_tree_InFolder (fun vs H Q E h => ?_) (fun cdv A outer s H vs Q E hr h => ?_)
  · obtain ⟨a_v_self, v_self, F, rfl, _⟩ := h; rfl
  · obtain ⟨a_v_self, v_self, F, rfl, him_v_self, hS, hm⟩ := h
    have hS := hS.addIm him_v_self
    refine ⟨_, (pss_one (ps_ret (pe_tup (pa_cons (pe_meth0 (pv 0) T.cl_InFolder T.m_InFolder_sign (ok_InFolder_sign T) (hr.mono (by decide)) T.b_InFolder_sign .nil pass0) (pa_cons (pe_fld (pv 0) rfl) pa_nil))))), ?_⟩
    unfold m_OfWord_tree_InFolder at hm
    refine c_ret ?_
    refine c_tup ?_
    refine c_cons ?_
    refine c_meth ?_
    refine ev_to (ev_var rfl) ?_
    obtain ⟨d1, hO2⟩ := im_InFolder (hS.im (i := 0) rfl)
    refine ⟨_, _, _, rfl, hO2, rfl, ?_⟩
    refine ea_to ea_nil ?_
    refine ⟨a_v_self, (v_self : InFolder), star [imA (.ref a_v_self) (v_self : InFolder), F], rfl, (hS.im (i := 0) rfl), Sep.unstar (M := []) (hS.sel [0, 1] (by decide) rfl : Sep H (([] ++ [imA (.ref a_v_self) (v_self : InFolder), F] : List (Asn G)))), R.wp_mono (R.wp_bind hm) (fun r3 hm H hS => ?_) (fun _ z => z)⟩
    have hS : Sep H ([imA (.ref a_v_self) (v_self : InFolder), F] : List (Asn G)) := Sep.star (M := []) hS
    refine c_cons ?_
    obtain ⟨d4, hO5⟩ := im_InFolder (hS.im (i := 0) rfl)
    refine ev_to (ev_fld (ev_var rfl) hO5 T.cl_InFolder T.n_InFolder_word rfl) ?_
    refine c_nil ?_
    refine k_tupA (vs := [(.str (r3)), (.str (v_self.word))]) (xs := [(Any.str r3), (Any.str v_self.word)]) hS ⟨(any_str.mpr rfl), ⟨(any_str.mpr rfl), True.intro⟩⟩ (by show 2 ≤ sizeLine; decide) fun p6 H hS => ?_
    exact hm _ _ (hS.sel [0, 2] (by decide) rfl)
def sp_OfWord_tree_IsMarked (G : Gx) : Sp := fun vs H Q E => ∃ (a_v_self : Addr) (v_self : IsMarked) (F : Asn G), vs = [(.ref a_v_self)] ∧ Im.im G H (.ref a_v_self) v_self ∧ Sep H ([F] : List (Asn G)) ∧ R.wp (m_OfWord_tree_IsMarked v_self) (fun r => ∀ (p : V) H', Sep H' ([imA p (r : Any), F] : List (Asn G)) → Q p H') (fun _ => False)
abbrev N_OfWord_tree_IsMarked : List Str := ["self"]
theorem sc_OfWord_tree_IsMarked : FnScope N_OfWord_tree_IsMarked ["self"] (defScope s_OfWord_tree) := ⟨rfl, rfl, rfl, by decide +kernel, rfl, by decide +kernel, by decide +kernel⟩
theorem ok_OfWord_tree_IsMarked (T : Txt G mg) : FnOk P w G.K mg base CX0 2 T.a_OfWord_tree T.fd_OfWord_tree ["self"] (sp_OfWord_tree_IsMarked G) := by
  have nd := sc_OfWord_tree_IsMarked.nd
  refine Fun.ok T.F_OfWord_tree sc_OfWord_tree_IsMarked (fun vs H Q E h => ?_) (fun cdv A outer s H vs Q E hr h => ?_)
  · obtain ⟨a_v_self, v_self, F, rfl, _⟩ := h; rfl
  · obtain ⟨a_v_self, v_self, F, rfl, him_v_self, hS, hm⟩ := h
    have hS := hS.addIm him_v_self
    refine ⟨_, (pss_one (ps_ret (pe_tup (pa_cons (pe_meth0 (pv 0) T.cl_IsMarked T.m_IsMarked_sign (ok_IsMarked_sign T) (hr.mono (by decide)) T.b_IsMarked_sign .nil pass0) (pa_cons (pe_fld (pv 0) rfl) pa_nil))))), ?_⟩
    unfold m_OfWord_tree_IsMarked at hm
    refine c_ret ?_
    refine c_tup ?_
    refine c_cons ?_
    refine c_meth ?_
    refine ev_to (ev_var rfl) ?_
    obtain ⟨d1, hO2⟩ := im_IsMarked (hS.im (i := 0) rfl)
    refine ⟨_, _, _, rfl, hO2, rfl, ?_⟩
    refine ea_to ea_nil ?_
    refine ⟨a_v_self, (v_self : IsMarked), star [imA (.ref a_v_self) (v_self : IsMarked), F], rfl, (hS.im (i := 0) rfl), Sep.unstar (M := []) (hS.sel [0, 1] (by decide) rfl : Sep H (([] ++ [imA (.ref a_v_self) (v_self : IsMarked), F] : List (Asn G)))), R.wp_mono (R.wp_bind hm) (fun r3 hm H hS => ?_) (fun _ z => z)⟩
    have hS : Sep H ([imA (.ref a_v_self) (v_self : IsMarked), F] : List (Asn G)) := Sep.star (M := []) hS
    refine c_cons ?_
    obtain ⟨d4, hO5⟩ := im_IsMarked (hS.im (i := 0) rfl)
    refine ev_to (ev_fld (ev_var rfl) hO5 T.cl_IsMarked T.n_IsMarked_word rfl) ?_
    refine c_nil ?_
    refine k_tupA (vs := [(.str (r3)), (.str (v_self.word))]) (xs := [(Any.str r3), (Any.str v_self.word)]) hS ⟨(any_str.mpr rfl), ⟨(any_str.mpr rfl), True.intro⟩⟩ (by show 2 ≤ sizeLine; decide) fun p6 H hS => ?_
    exact hm _ _ (hS.sel [0, 2] (by decide) rfl)
def sp_HasWord_holds (G : Gx) : Sp := fun vs H Q E => ∃ (a_v_self : Addr) (v_self : HasWord) (a_v_card : Addr) (v_card : Card) (a_v_others : Addr) (v_others : (List Card)) (F : Asn G), vs = [(.ref a_v_self), (.ref a_v_card), .ref a_v_others] ∧ Im.im G H (.ref a_v_self) v_self ∧ Im.im G H (.ref a_v_card) v_card ∧ Sep H ([lstA a_v_others (v_others : (List Card)), F] : List (Asn G)) ∧ R.wp (m_HasWord_holds v_self v_card v_others) (fun r => ∀ H', Sep H' ([lstA a_v_others (v_others : (List Card)), F] : List (Asn G)) → Q (.bl (r)) H') (fun _ => False)
abbrev N_HasWord_holds : List Str := ["self", "card", "others"]
theorem sc_HasWord_holds : FnScope N_HasWord_holds ["self", "card", "others"] (defScope s_HasWord_holds) := ⟨rfl, rfl, rfl, by decide +kernel, rfl, by decide +kernel, by decide +kernel⟩
theorem ok_HasWord_holds (T : Txt G mg) : FnOk P w G.K mg base CX0 4 T.a_HasWord_holds T.fd_HasWord_holds ["self", "card", "others"] (sp_HasWord_holds G) := by
  have nd := sc_HasWord_holds.nd
  refine Fun.ok T.F_HasWord_holds sc_HasWord_holds (fun vs H Q E h => ?_) (fun cdv A outer s H vs Q E hr h => ?_)
  · obtain ⟨a_v_self, v_self, a_v_card, v_card, a_v_others, v_others, F, rfl, _⟩ := h; rfl
  · obtain ⟨a_v_self, v_self, a_v_card, v_card, a_v_others, v_others, F, rfl, him_v_self, him_v_card, hS, hm⟩ := h
    have hS := hS.addIm him_v_self
    have hS := hS.addIm him_v_card
    refine ⟨_, (pss_one (ps_ret (pe_cmpR (inSqK G.K) (pe_fld (pv 0) rfl) (pe_fz (pe_meth0 (pe_fld (pv 1) rfl) T.cl_Letter T.m_Letter_words (ok_Letter_words T) (hr.mono (by decide)) T.b_Letter_words .nil pass0)) (by rfl)))), ?_⟩
    unfold m_HasWord_holds at hm
    refine c_ret ?_
    refine c_op ?_
    obtain ⟨d1, hO2⟩ := im_HasWord (hS.im (i := 1) rfl)
    refine ev_to (ev_fld (ev_var rfl) hO2 T.cl_HasWord T.n_HasWord_word rfl) ?_
    refine c_fz ?_
    refine c_meth ?_
    obtain ⟨d3, u5, u6, hO4, h7, h8⟩ := im_Card (hS.im (i := 0) rfl)
    obtain ⟨a9, rfl⟩ := isref h7
    refine ev_to (ev_fld (ev_var rfl) hO4 T.cl_Card T.n_Card_letter rfl) ?_
    have hS := hS.addIm (v := (.ref a9)) (x := (v_card.letter : Letter)) h7
    obtain ⟨d11, hO12⟩ := im_Letter (hS.im (i := 0) rfl)
    refine ⟨_, _, _, rfl, hO12, rfl, ?_⟩
    refine ea_to ea_nil ?_
    refine ⟨a9, (v_card.letter : Letter), star [imA (.ref a9) (v_card.letter : Letter), imA (.ref a_v_card) (v_card : Card), imA (.ref a_v_self) (v_self : HasWord), lstA a_v_others (v_others : (List Card)), F], rfl, (hS.im (i := 0) rfl), Sep.unstar (M := []) (hS.sel [0, 1, 2, 3, 4] (by decide) rfl : Sep H (([] ++ [imA (.ref a9) (v_card.letter : Letter), imA (.ref a_v_card) (v_card : Card), imA (.ref a_v_self) (v_self : HasWord), lstA a_v_others (v_others : (List Card)), F] : List (Asn G)))), R.wp_mono (R.wp_bind hm) (fun r13 hm p14 H hS => ?_) (fun _ z => z)⟩
    have hS : Sep H ([lstA p14 (r13 : (List Str)), imA (.ref a9) (v_card.letter : Letter), imA (.ref a_v_card) (v_card : Card), imA (.ref a_v_self) (v_self : HasWord), lstA a_v_others (v_others : (List Card)), F] : List (Asn G)) := Sep.star (M := [lstA p14 (r13 : (List Str))]) hS
    refine fz_no ?_
    refine ev_op2 (ev_inL hS (i := 0) rfl ev_c ev_c) ?_
    exact hm _ (hS.sel [4, 5] (by decide) rfl)
def sp_InTitle_holds (G : Gx) : Sp := fun vs H Q E => ∃ (a_v_self : Addr) (v_self : InTitle) (a_v_card : Addr) (v_card : Card) (a_v_others : Addr) (v_others : (List Card)) (F : Asn G), vs = [(.ref a_v_self), (.ref a_v_card), .ref a_v_others] ∧ Im.im G H (.ref a_v_self) v_self ∧ Im.im G H (.ref a_v_card) v_card ∧ Sep H ([lstA a_v_others (v_others : (List Card)), F] : List (Asn G)) ∧ R.wp (m_InTitle_holds v_self v_card v_others) (fun r => ∀ H', Sep H' ([lstA a_v_others (v_others : (List Card)), F] : List (Asn G)) → Q (.bl (r)) H') (fun _ => False)
abbrev N_InTitle_holds : List Str := ["self", "card", "others"]
theorem sc_InTitle_holds : FnScope N_InTitle_holds ["self", "card", "others"] (defScope s_InTitle_holds) := ⟨rfl, rfl, rfl, by decide +kernel, rfl, by decide +kernel, by decide +kernel⟩
theorem ok_InTitle_holds (T : Txt G mg) : FnOk P w G.K mg base CX0 4 T.a_InTitle_holds T.fd_InTitle_holds ["self", "card", "others"] (sp_InTitle_holds G) := by
  have nd := sc_InTitle_holds.nd
  refine Fun.ok T.F_InTitle_holds sc_InTitle_holds (fun vs H Q E h => ?_) (fun cdv A outer s H vs Q E hr h => ?_)
  · obtain ⟨a_v_self, v_self, a_v_card, v_card, a_v_others, v_others, F, rfl, _⟩ := h; rfl
  · obtain ⟨a_v_self, v_self, a_v_card, v_card, a_v_others, v_others, F, rfl, him_v_self, him_v_card, hS, hm⟩ := h
    have hS := hS.addIm him_v_self
    have hS := hS.addIm him_v_card
    refine ⟨_, (pss_one (ps_ret (pe_cmpR (inSqK G.K) (pe_fld (pv 0) rfl) (pe_fz (pe_meth0 (pe_fld (pv 1) rfl) T.cl_Letter T.m_Letter_title_words (ok_Letter_title_words T) (hr.mono (by decide)) T.b_Letter_title_words .nil pass0)) (by rfl)))), ?_⟩
    unfold m_InTitle_holds at hm
    refine c_ret ?_
    refine c_op ?_
    obtain ⟨d1, hO2⟩ := im_InTitle (hS.im (i := 1) rfl)
    refine ev_to (ev_fld (ev_var rfl) hO2 T.cl_InTitle T.n_InTitle_word rfl) ?_
    refine c_fz ?_
    refine c_meth ?_
    obtain ⟨d3, u5, u6, hO4, h7, h8⟩ := im_Card (hS.im (i := 0) rfl)
    obtain ⟨a9, rfl⟩ := isref h7
    refine ev_to (ev_fld (ev_var rfl) hO4 T.cl_Card T.n_Card_letter rfl) ?_
    have hS := hS.addIm (v := (.ref a9)) (x := (v_card.letter : Letter)) h7
    obtain ⟨d11, hO12⟩ := im_Letter (hS.im (i := 0) rfl)
    refine ⟨_, _, _, rfl, hO12, rfl, ?_⟩
    refine ea_to ea_nil ?_
    refine ⟨a9, (v_card.letter : Letter), star [imA (.ref a9) (v_card.letter : Letter), imA (.ref a_v_card) (v_card : Card), imA (.ref a_v_self) (v_self : InTitle), lstA a_v_others (v_others : (List Card)), F], rfl, (hS.im (i := 0) rfl), Sep.unstar (M := []) (hS.sel [0, 1, 2, 3, 4] (by decide) rfl : Sep H (([] ++ [imA (.ref a9) (v_card.letter : Letter), imA (.ref a_v_card) (v_card : Card), imA (.ref a_v_self) (v_self : InTitle), lstA a_v_others (v_others : (List Card)), F] : List (Asn G)))), R.wp_mono (R.wp_bind hm) (fun r13 hm p14 H hS => ?_) (fun _ z => z)⟩
    have hS : Sep H ([lstA p14 (r13 : (List Str)), imA (.ref a9) (v_card.letter : Letter), imA (.ref a_v_card) (v_card : Card), imA (.ref a_v_self) (v_self : InTitle), lstA a_v_others (v_others : (List Card)), F] : List (Asn G)) := Sep.star (M := [lstA p14 (r13 : (List Str))]) hS
    refine fz_no ?_
    refine ev_op2 (ev_inL hS (i := 0) rfl ev_c ev_c) ?_
    exact hm _ (hS.sel [4, 5] (by decide) rfl)
def sp_OfOne_tree_InThread (G : Gx) (m_Cond_tree : Cond → R Any) : Sp := fun vs H Q E => ∃ (a_v_self : Addr) (v_self : InThread) (F : Asn G), vs = [(.ref a_v_self)] ∧ Im.im G H (.ref a_v_self) v_self ∧ Sep H ([F] : List (Asn G)) ∧ R.wp (m_OfOne_tree_InThread m_Cond_tree v_self) (fun r => ∀ (p : V) H', Sep H' ([imA p (r : Any), F] : List (Asn G)) → Q p H') (fun _ => False)
abbrev N_OfOne_tree_InThread : List Str := ["self"]
theorem sc_OfOne_tree_InThread : FnScope N_OfOne_tree_InThread ["self"] (defScope s_OfOne_tree) := ⟨rfl, rfl, rfl, by decide +kernel, rfl, by decide +kernel, by decide +kernel⟩
theorem ok_OfOne_tree_InThread (T : Txt G mg) {lv : Nat} (hl : 1 ≤ lv) {m_Cond_tree : Cond → R Any} (R_Cond_tree : Dsp P w G.K mg base CX0 lv isC_Cond G.cl "tree" ["self"] (sp_Cond_tree G m_Cond_tree)) : FnOk P w G.K mg base CX0 (lv + 1) T.a_OfOne_tree T.fd_OfOne_tree ["self"] (sp_OfOne_tree_InThread G m_Cond_tree) := by
  have nd := sc_OfOne_tree_InThread.nd
  refine Fun.ok T.F_OfOne_tree sc_OfOne_tree_InThread (fun vs H Q E h => ?_) (fun cdv A outer s H vs Q E hr h => ?_)
  · obtain ⟨a_v_self, v_self, F, rfl, _⟩ := h; rfl
  · obtain ⟨a_v_self, v_self, F, rfl, him_v_self, hS, hm⟩ := h
    have hS := hS.addIm him_v_self
    refine ⟨_, (pss_one (ps_ret (pe_tup (pa_cons (pe_meth0 (pv 0) T.cl_InThread T.m_InThread_sign (ok_InThread_sign T) (hr.mono (by omega)) T.b_InThread_sign .nil pass0) (pa_cons (pe_methF0 (pe_fld (pv 0) rfl) R_Cond_tree (hr.mono (by omega)) pass0) pa_nil))))), ?_⟩
    unfold m_OfOne_tree_InThread at hm
    refine c_ret ?_
    refine c_tup ?_
    refine c_cons ?_
    refine c_meth ?_
    refine ev_to (ev_var rfl) ?_
    obtain ⟨d1, _, hO2, _⟩ := im_InThread (hS.im (i := 0) rfl)
    refine ⟨_, _, _, rfl, hO2, rfl, ?_⟩
    refine ea_to ea_nil ?_
    refine ⟨a_v_self, (v_self : InThread), star [imA (.ref a_v_self) (v_self : InThread), F], rfl, (hS.im (i := 0) rfl), Sep.unstar (M := []) (hS.sel [0, 1] (by decide) rfl : Sep H (([] ++ [imA (.ref a_v_self) (v_self : InThread), F] : List (Asn G)))), R.wp_mono (R.wp_bind hm) (fun r3 hm H hS => ?_) (fun _ z => z)⟩
    have hS : Sep H ([imA (.ref a_v_self) (v_self : InThread), F] : List (Asn G)) := Sep.star (M := []) hS
    refine c_cons ?_
    refine c_methF ?_
    obtain ⟨d4, u6, hO5, h7⟩ := im_InThread (hS.im (i := 0) rfl)
    obtain ⟨a8, rfl⟩ := isref h7
    refine ev_to (ev_fld (ev_var rfl) hO5 T.cl_InThread T.n_InThread_inner rfl) ?_
    have hS := hS.addIm (v := (.ref a8)) (x := (v_self.inner : Cond)) h7
    obtain ⟨dx10, fs11, hO12, hl13⟩ := cls_Cond (hS.im (i := 0) rfl)
    refine ⟨_, _, _, _, rfl, fam_Cond _, hO12, hl13 "tree" (by decide), ?_⟩
    refine ea_to ea_nil ?_
    refine ⟨a8, (v_self.inner : Cond), star [imA (.ref a8) (v_self.inner : Cond), imA (.ref a_v_self) (v_self : InThread), F], rfl, (hS.im (i := 0) rfl), rfl, Sep.unstar (M := []) (hS.sel [0, 1, 2] (by decide) rfl : Sep H (([] ++ [imA (.ref a8) (v_self.inner : Cond), imA (.ref a_v_self) (v_self : InThread), F] : List (Asn G)))), R.wp_mono (R.wp_bind hm) (fun r14 hm p15 H hS => ?_) (fun _ z => z)⟩
    have hS : Sep H ([imA p15 (r14 : Any), imA (.ref a8) (v_self.inner : Cond), imA (.ref a_v_self) (v_self : InThread), F] : List (Asn G)) := Sep.star (M := [imA p15 (r14 : Any)]) hS
    refine c_nil ?_
    refine k_tupA (vs := [(.str (r3)), p15]) (xs := [(Any.str r3), r14]) hS ⟨(any_str.mpr rfl), ⟨(hS.im (i := 0) rfl), True.intro⟩⟩ (by show 2 ≤ sizeLine; decide) fun p17 H hS => ?_
    exact hm _ _ (hS.sel [0, 4] (by decide) rfl)
def sp_OfTwo_tree_EitherSo (G : Gx) (m_Cond_tree : Cond → R Any) : Sp := fun vs H Q E => ∃ (a_v_self : Addr) (v_self : EitherSo) (F : Asn G), vs = [(.ref a_v_self)] ∧ Im.im G H (.ref a_v_self) v_self ∧ Sep H ([F] : List (Asn G)) ∧ R.wp (m_OfTwo_tree_EitherSo m_Cond_tree v_self) (fun r => ∀ (p : V) H', Sep H' ([imA p (r : Any), F] : List (Asn G)) → Q p H') (fun _ => False)
abbrev N_OfTwo_tree_EitherSo : List Str := ["self"]
theorem sc_OfTwo_tree_EitherSo : FnScope N_OfTwo_tree_EitherSo ["self"] (defScope s_OfTwo_tree) := ⟨rfl, rfl, rfl, by decide +kernel, rfl, by decide +kernel, by decide +kernel⟩
theorem ok_OfTwo_tree_EitherSo (T : Txt G mg) {lv : Nat} (hl : 1 ≤ lv) {m_Cond_tree : Cond → R Any} (R_Cond_tree : Dsp P w G.K mg base CX0 lv isC_Cond G.cl "tree" ["self"] (sp_Cond_tree G m_Cond_tree)) : FnOk P w G.K mg base CX0 (lv + 1) T.a_OfTwo_tree T.fd_OfTwo_tree ["self"] (sp_OfTwo_tree_EitherSo G m_Cond_tree) := by
  have nd := sc_OfTwo_tree_EitherSo.nd
  refine Fun.ok T.F_OfTwo_tree sc_OfTwo_tree_EitherSo (fun vs H Q E h => ?_) (fun cdv A outer s H vs Q E hr h => ?_)
  · obtain ⟨a_v_self, v_self, F, rfl, _⟩ := h; rfl
  · obtain ⟨a_v_self, v_self, F, rfl, him_v_self, hS, hm⟩ := h
    have hS := hS.addIm him_v_self
    refine ⟨_, (pss_one (ps_ret (pe_tup (pa_cons (pe_ix (ix_tupK G.K) (pe_meth0 (pv 0) T.cl_EitherSo T.m_EitherSo_sign (ok_EitherSo_sign T) (hr.mono (by omega)) T.b_EitherSo_sign .nil pass0) pe_int (fun _ _ => rfl)) (pa_cons (pe_methF0 (pe_fld (pv 0) rfl) R_Cond_tree (hr.mono (by omega)) pass0) (pa_cons (pe_methF0 (pe_fld (pv 0) rfl) R_Cond_tree (hr.mono (by omega)) pass0) pa_nil)))))), ?_⟩
    unfold m_OfTwo_tree_EitherSo at hm
    refine c_ret ?_
    refine c_tup ?_
    refine c_cons ?_
    refine c_op ?_
    refine c_meth ?_
    refine ev_to (ev_var rfl) ?_
    obtain ⟨d1, _, _, hO2, _, _⟩ := im_EitherSo (hS.im (i := 0) rfl)
    refine ⟨_, _, _, rfl, hO2, rfl, ?_⟩
    refine ea_to ea_nil ?_
    refine ⟨a_v_self, (v_self : EitherSo), star [imA (.ref a_v_self) (v_self : EitherSo), F], rfl, (hS.im (i := 0) rfl), Sep.unstar (M := []) (hS.sel [0, 1] (by decide) rfl : Sep H (([] ++ [imA (.ref a_v_self) (v_self : EitherSo), F] : List (Asn G)))), R.wp_mono (R.wp_bind hm) (fun r3 hm p4 H hS => ?_) (fun _ z => z)⟩
    have hS : Sep H ([imA (.ref p4) (r3 : (Str × Str)), imA (.ref a_v_self) (v_self : EitherSo), F] : List (Asn G)) := Sep.star (M := [imA (.ref p4) (r3 : (Str × Str))]) hS
    refine ev_to ev_c ?_
    obtain ⟨u6, u7, hT10, h8, h9⟩ := im2 (hS.im (i := 0) rfl)
    obtain rfl : u6 = (.str (r3.1)) := h8
    obtain rfl : u7 = (.str (r3.2)) := h9
    refine r_ixT hT10 rfl ?_
    refine c_cons ?_
    refine c_methF ?_
    obtain ⟨d11, u13, u14, hO12, h15, h16⟩ := im_EitherSo (hS.im (i := 1) rfl)
    obtain ⟨a17, rfl⟩ := isref h15
    refine ev_to (ev_fld (ev_var rfl) hO12 T.cl_EitherSo T.n_EitherSo_first rfl) ?_
    have hS := hS.addIm (v := (.ref a17)) (x := (v_self.first : Cond)) h15
    obtain ⟨dx19, fs20, hO21, hl22⟩ := cls_Cond (hS.im (i := 0) rfl)
    refine ⟨_, _, _, _, rfl, fam_Cond _, hO21, hl22 "tree" (by decide), ?_⟩
    refine ea_to ea_nil ?_
    refine ⟨a17, (v_self.first : Cond), star [imA (.ref a17) (v_self.first : Cond), imA (.ref p4) (r3 : (Str × Str)), imA (.ref a_v_self) (v_self : EitherSo), F], rfl, (hS.im (i := 0) rfl), rfl, Sep.unstar (M := []) (hS.sel [0, 1, 2, 3] (by decide) rfl : Sep H (([] ++ [imA (.ref a17) (v_self.first : Cond), imA (.ref p4) (r3 : (Str × Str)), imA (.ref a_v_self) (v_self : EitherSo), F] : List (Asn G)))), R.wp_mono (R.wp_bind hm) (fun r23 hm p24 H hS => ?_) (fun _ z => z)⟩
    have hS : Sep H ([imA p24 (r23 : Any), imA (.ref a17) (v_self.first : Cond), imA (.ref p4) (r3 : (Str × Str)), imA (.ref a_v_self) (v_self : EitherSo), F] : List (Asn G)) := Sep.star (M := [imA p24 (r23 : Any)]) hS
    refine c_cons ?_
    refine c_methF ?_
    obtain ⟨d26, u28, u29, hO27, h30, h31⟩ := im_EitherSo (hS.im (i := 3) rfl)
    obtain ⟨a32, rfl⟩ := isref h31
    refine ev_to (ev_fld (ev_var rfl) hO27 T.cl_EitherSo T.n_EitherSo_second rfl) ?_
    have hS := hS.addIm (v := (.ref a32)) (x := (v_self.second : Cond)) h31
    obtain ⟨dx34, fs35, hO36, hl37⟩ := cls_Cond (hS.im (i := 0) rfl)
    refine ⟨_, _, _, _, rfl, fam_Cond _, hO36, hl37 "tree" (by decide), ?_⟩
    refine ea_to ea_nil ?_
    refine ⟨a32, (v_self.second : Cond), star [imA (.ref a32) (v_self.second : Cond), imA p24 (r23 : Any), imA (.ref a17) (v_self.first : Cond), imA (.ref p4) (r3 : (Str × Str)), imA (.ref a_v_self) (v_self : EitherSo), F], rfl, (hS.im (i := 0) rfl), rfl, Sep.unstar (M := []) (hS.sel [0, 1, 2, 3, 4, 5] (by decide) rfl : Sep H (([] ++ [imA (.ref a32) (v_self.second : Cond), imA p24 (r23 : Any), imA (.ref a17) (v_self.first : Cond), imA (.ref p4) (r3 : (Str × Str)), imA (.ref a_v_self) (v_self : EitherSo), F] : List (Asn G)))), R.wp_mono (R.wp_bind hm) (fun r38 hm p39 H hS => ?_) (fun _ z => z)⟩
    have hS : Sep H ([imA p39 (r38 : Any), imA (.ref a32) (v_self.second : Cond), imA p24 (r23 : Any), imA (.ref a17) (v_self.first : Cond), imA (.ref p4) (r3 : (Str × Str)), imA (.ref a_v_self) (v_self : EitherSo), F] : List (Asn G)) := Sep.star (M := [imA p39 (r38 : Any)]) hS
    refine c_nil ?_
    refine k_tupA (vs := [(.str (r3.2)), p24, p39]) (xs := [(Any.str r3.2), r23, r38]) hS ⟨(any_str.mpr rfl), ⟨(hS.im (i := 2) rfl), ⟨(hS.im (i := 0) rfl), True.intro⟩⟩⟩ (by show 3 ≤ sizeLine; decide) fun p41 H hS => ?_
    exact hm _ _ (hS.sel [0, 7] (by decide) rfl)
theorem ok_Cond_tree (T : Txt G mg) : ∀ n : Nat, Dsp P w G.K mg base CX0 (3 + n) isC_Cond G.cl "tree" ["self"] (sp_Cond_tree G (m_Cond_tree n))
  | 0 => fun i hi => by
    have hi : i ∈ [1, 2, 3, 4, 5, 6, 7, 8, 9, 10, 11, 12] := by simpa [isC_Cond] using hi
    simp only [List.mem_cons, List.not_mem_nil, or_false] at hi
    rcases hi with rfl | rfl | rfl | rfl | rfl | rfl | rfl | rfl | rfl | rfl | rfl | rfl
    · exact ⟨T.a_Anything_tree, T.fd_Anything_tree, T.cl_Anything, T.m_Anything_tree, T.b_Anything_tree, fnOk_no fun vs H Q E h => by obtain ⟨a_v_self, v_self, F, _, him_v_self, _, _, hm⟩ := h; unfold m_Cond_tree at hm; exact hm⟩
    · exact ⟨T.a_OfWord_tree, T.fd_OfWord_tree, T.cl_HasWord, T.m_HasWord_tree, T.b_OfWord_tree, fnOk_no fun vs H Q E h => by obtain ⟨a_v_self, v_self, F, _, him_v_self, _, _, hm⟩ := h; unfold m_Cond_tree at hm; exact hm⟩
    · exact ⟨T.a_OfWord_tree, T.fd_OfWord_tree, T.cl_InTitle, T.m_InTitle_tree, T.b_OfWord_tree, fnOk_no fun vs H Q E h => by obtain ⟨a_v_self, v_self, F, _, him_v_self, _, _, hm⟩ := h; unfold m_Cond_tree at hm; exact hm⟩
    · exact ⟨T.a_OfWord_tree, T.fd_OfWord_tree, T.cl_FromSender, T.m_FromSender_tree, T.b_OfWord_tree, fnOk_no fun vs H Q E h => by obtain ⟨a_v_self, v_self, F, _, him_v_self, _, _, hm⟩ := h; unfold m_Cond_tree at hm; exact hm⟩
    · exact ⟨T.a_OfWord_tree, T.fd_OfWord_tree, T.cl_InFolder, T.m_InFolder_tree, T.b_OfWord_tree, fnOk_no fun vs H Q E h => by obtain ⟨a_v_self, v_self, F, _, him_v_self, _, _, hm⟩ := h; unfold m_Cond_tree at hm; exact hm⟩
    · exact ⟨T.a_OfWord_tree, T.fd_OfWord_tree, T.cl_IsMarked, T.m_IsMarked_tree, T.b_OfWord_tree, fnOk_no fun vs H Q E h => by obtain ⟨a_v_self, v_self, F, _, him_v_self, _, _, hm⟩ := h; unfold m_Cond_tree at hm; exact hm⟩
    · exact ⟨T.a_OnDays_tree, T.fd_OnDays_tree, T.cl_OnDays, T.m_OnDays_tree, T.b_OnDays_tree, fnOk_no fun vs H Q E h => by obtain ⟨a_v_self, v_self, F, _, him_v_self, _, _, hm⟩ := h; unfold m_Cond_tree at hm; exact hm⟩
    · exact ⟨T.a_IsAnswer_tree, T.fd_IsAnswer_tree, T.cl_IsAnswer, T.m_IsAnswer_tree, T.b_IsAnswer_tree, fnOk_no fun vs H Q E h => by obtain ⟨a_v_self, v_self, F, _, him_v_self, _, _, hm⟩ := h; unfold m_Cond_tree at hm; exact hm⟩
    · exact ⟨T.a_OfOne_tree, T.fd_OfOne_tree, T.cl_NotSo, T.m_NotSo_tree, T.b_OfOne_tree, fnOk_no fun vs H Q E h => by obtain ⟨a_v_self, v_self, F, _, him_v_self, _, _, hm⟩ := h; unfold m_Cond_tree at hm; exact hm⟩
    · exact ⟨T.a_OfOne_tree, T.fd_OfOne_tree, T.cl_InThread, T.m_InThread_tree, T.b_OfOne_tree, fnOk_no fun vs H Q E h => by obtain ⟨a_v_self, v_self, F, _, him_v_self, _, _, hm⟩ := h; unfold m_Cond_tree at hm; exact hm⟩
    · exact ⟨T.a_OfTwo_tree, T.fd_OfTwo_tree, T.cl_BothSo, T.m_BothSo_tree, T.b_OfTwo_tree, fnOk_no fun vs H Q E h => by obtain ⟨a_v_self, v_self, F, _, him_v_self, _, _, hm⟩ := h; unfold m_Cond_tree at hm; exact hm⟩
    · exact ⟨T.a_OfTwo_tree, T.fd_OfTwo_tree, T.cl_EitherSo, T.m_EitherSo_tree, T.b_OfTwo_tree, fnOk_no fun vs H Q E h => by obtain ⟨a_v_self, v_self, F, _, him_v_self, _, _, hm⟩ := h; unfold m_Cond_tree at hm; exact hm⟩
  | n + 1 => fun i hi => by
    have hi : i ∈ [1, 2, 3, 4, 5, 6, 7, 8, 9, 10, 11, 12] := by simpa [isC_Cond] using hi
    simp only [List.mem_cons, List.not_mem_nil, or_false] at hi
    rcases hi with rfl | rfl | rfl | rfl | rfl | rfl | rfl | rfl | rfl | rfl | rfl | rfl
    · refine ⟨T.a_Anything_tree, T.fd_Anything_tree, T.cl_Anything, T.m_Anything_tree, T.b_Anything_tree, (((ok_Anything_tree T).mono (Nat.le_add_right_of_le (by decide)))).imp fun vs H Q E h => ?_⟩
      obtain ⟨a_v_self, v_self, F, ev, him_v_self, hc, hS, hm⟩ := h
      cases v_self with
      | Anything => exact ⟨a_v_self, ⟨⟩, F, ev, (of_Anything him_v_self), hS, hm⟩
      | _ => simp [Cond.cls] at hc
    · refine ⟨T.a_OfWord_tree, T.fd_OfWord_tree, T.cl_HasWord, T.m_HasWord_tree, T.b_OfWord_tree, (((ok_OfWord_tree_HasWord T).mono (Nat.le_add_right_of_le (by decide)))).imp fun vs H Q E h => ?_⟩
      obtain ⟨a_v_self, v_self, F, ev, him_v_self, hc, hS, hm⟩ := h
      cases v_self with
      | HasWord word => exact ⟨a_v_self, ⟨word⟩, F, ev, (of_HasWord him_v_self), hS, hm⟩
      | _ => simp [Cond.cls] at hc
    · refine ⟨T.a_OfWord_tree, T.fd_OfWord_tree, T.cl_InTitle, T.m_InTitle_tree, T.b_OfWord_tree, (((ok_OfWord_tree_InTitle T).mono (Nat.le_add_right_of_le (by decide)))).imp fun vs H Q E h => ?_⟩
      obtain ⟨a_v_self, v_self, F, ev, him_v_self, hc, hS, hm⟩ := h
      cases v_self with
      | InTitle word => exact ⟨a_v_self, ⟨word⟩, F, ev, (of_InTitle him_v_self), hS, hm⟩
      | _ => simp [Cond.cls] at hc
    · refine ⟨T.a_OfWord_tree, T.fd_OfWord_tree, T.cl_FromSender, T.m_FromSender_tree, T.b_OfWord_tree, (((ok_OfWord_tree_FromSender T).mono (Nat.le_add_right_of_le (by decide)))).imp fun vs H Q E h => ?_⟩
      obtain ⟨a_v_self, v_self, F, ev, him_v_self, hc, hS, hm⟩ := h
      cases v_self with
      | FromSender word => exact ⟨a_v_self, ⟨word⟩, F, ev, (of_FromSender him_v_self), hS, hm⟩
      | _ => simp [Cond.cls] at hc
    · refine ⟨T.a_OfWord_tree, T.fd_OfWord_tree, T.cl_InFolder, T.m_InFolder_tree, T.b_OfWord_tree, (((ok_OfWord_tree_InFolder T).mono (Nat.le_add_right_of_le (by decide)))).imp fun vs H Q E h => ?_⟩
      obtain ⟨a_v_self, v_self, F, ev, him_v_self, hc, hS, hm⟩ := h
      cases v_self with
      | InFolder word => exact ⟨a_v_self, ⟨word⟩, F, ev, (of_InFolder him_v_self), hS, hm⟩
      | _ => simp [Cond.cls] at hc
    · refine ⟨T.a_OfWord_tree, T.fd_OfWord_tree, T.cl_IsMarked, T.m_IsMarked_tree, T.b_OfWord_tree, (((ok_OfWord_tree_IsMarked T).mono (Nat.le_add_right_of_le (by decide)))).imp fun vs H Q E h => ?_⟩
      obtain ⟨a_v_self, v_self, F, ev, him_v_self, hc, hS, hm⟩ := h
      cases v_self with
      | IsMarked word => exact ⟨a_v_self, ⟨word⟩, F, ev, (of_IsMarked him_v_self), hS, hm⟩
      | _ => simp [Cond.cls] at hc
    · refine ⟨T.a_OnDays_tree, T.fd_OnDays_tree, T.cl_OnDays, T.m_OnDays_tree, T.b_OnDays_tree, (((ok_OnDays_tree T).mono (Nat.le_add_right_of_le (by decide)))).imp fun vs H Q E h => ?_⟩
      obtain ⟨a_v_self, v_self, F, ev, him_v_self, hc, hS, hm⟩ := h
      cases v_self with
      | OnDays low high => exact ⟨a_v_self, ⟨low, high⟩, F, ev, (of_OnDays him_v_self), hS, hm⟩
      | _ => simp [Cond.cls] at hc
    · refine ⟨T.a_IsAnswer_tree, T.fd_IsAnswer_tree, T.cl_IsAnswer, T.m_IsAnswer_tree, T.b_IsAnswer_tree, (((ok_IsAnswer_tree T).mono (Nat.le_add_right_of_le (by decide)))).imp fun vs H Q E h => ?_⟩
      obtain ⟨a_v_self, v_self, F, ev, him_v_self, hc, hS, hm⟩ := h
      cases v_self with
      | IsAnswer => exact ⟨a_v_self, ⟨⟩, F, ev, (of_IsAnswer him_v_self), hS, hm⟩
      | _ => simp [Cond.cls] at hc
    · refine ⟨T.a_OfOne_tree, T.fd_OfOne_tree, T.cl_NotSo, T.m_NotSo_tree, T.b_OfOne_tree, ((ok_OfOne_tree_NotSo T (lv := 3 + n) (Nat.le_add_right_of_le (by decide)) (ok_Cond_tree T n))).imp fun vs H Q E h => ?_⟩
      obtain ⟨a_v_self, v_self, F, ev, him_v_self, hc, hS, hm⟩ := h
      cases v_self with
      | NotSo inner => exact ⟨a_v_self, ⟨inner⟩, F, ev, (of_NotSo him_v_self), hS, hm⟩
      | _ => simp [Cond.cls] at hc
    · refine ⟨T.a_OfOne_tree, T.fd_OfOne_tree, T.cl_InThread, T.m_InThread_tree, T.b_OfOne_tree, ((ok_OfOne_tree_InThread T (lv := 3 + n) (Nat.le_add_right_of_le (by decide)) (ok_Cond_tree T n))).imp fun vs H Q E h => ?_⟩
      obtain ⟨a_v_self, v_self, F, ev, him_v_self, hc, hS, hm⟩ := h
      cases v_self with
      | InThread inner => exact ⟨a_v_self, ⟨inner⟩, F, ev, (of_InThread him_v_self), hS, hm⟩
      | _ => simp [Cond.cls] at hc
    · refine ⟨T.a_OfTwo_tree, T.fd_OfTwo_tree, T.cl_BothSo, T.m_BothSo_tree, T.b_OfTwo_tree, ((ok_OfTwo_tree_BothSo T (lv := 3 + n) (Nat.le_add_right_of_le (by decide)) (ok_Cond_tree T n))).imp fun vs H Q E h => ?_⟩
      obtain ⟨a_v_self, v_self, F, ev, him_v_self, hc, hS, hm⟩ := h
      cases v_self with
      | BothSo first second => exact ⟨a_v_self, ⟨first, second⟩, F, ev, (of_BothSo him_v_self), hS, hm⟩
      | _ => simp [Cond.cls] at hc
    · refine ⟨T.a_OfTwo_tree, T.fd_OfTwo_tree, T.cl_EitherSo, T.m_EitherSo_tree, T.b_OfTwo_tree, ((ok_OfTwo_tree_EitherSo T (lv := 3 + n) (Nat.le_add_right_of_le (by decide)) (ok_Cond_tree T n))).imp fun vs H Q E h => ?_⟩
      obtain ⟨a_v_self, v_self, F, ev, him_v_self, hc, hS, hm⟩ := h
      cases v_self with
      | EitherSo first second => exact ⟨a_v_self, ⟨first, second⟩, F, ev, (of_EitherSo him_v_self), hS, hm⟩
      | _ => simp [Cond.cls] at hc
theorem ok_Cond_holds (T : Txt G mg) : ∀ n : Nat, Dsp P w G.K mg base CX0 (5 + n) isC_Cond G.cl "holds" ["self", "card", "others"] (sp_Cond_holds G (m_Cond_holds n))
  | 0 => fun i hi => by
    have hi : i ∈ [1, 2, 3, 4, 5, 6, 7, 8, 9, 10, 11, 12] := by simpa [isC_Cond] using hi
    simp only [List.mem_cons, List.not_mem_nil, or_false] at hi
    rcases hi with rfl | rfl | rfl | rfl | rfl | rfl | rfl | rfl | rfl | rfl | rfl | rfl
    · exact ⟨T.a_Anything_holds, T.fd_Anything_holds, T.cl_Anything, T.m_Anything_holds, T.b_Anything_holds, fnOk_no fun vs H Q E h => by obtain ⟨a_v_self, v_self, a_v_card, v_card, a_v_others, v_others, F, _, him_v_self, him_v_card, _, _, hm⟩ := h; unfold m_Cond_holds at hm; exact hm⟩
    · exact ⟨T.a_HasWord_holds, T.fd_HasWord_holds, T.cl_HasWord, T.m_HasWord_holds, T.b_HasWord_holds, fnOk_no fun vs H Q E h => by obtain ⟨a_v_self, v_self, a_v_card, v_card, a_v_others, v_others, F, _, him_v_self, him_v_card, _, _, hm⟩ := h; unfold m_Cond_holds at hm; exact hm⟩
    · exact ⟨T.a_InTitle_holds, T.fd_InTitle_holds, T.cl_InTitle, T.m_InTitle_holds, T.b_InTitle_holds, fnOk_no fun vs H Q E h => by obtain ⟨a_v_self, v_self, a_v_card, v_card, a_v_others, v_others, F, _, him_v_self, him_v_card, _, _, hm⟩ := h; unfold m_Cond_holds at hm; exact hm⟩
    · exact ⟨T.a_FromSender_holds, T.fd_FromSender_holds, T.cl_FromSender, T.m_FromSender_holds, T.b_FromSender_holds, fnOk_no fun vs H Q E h => by obtain ⟨a_v_self, v_self, a_v_card, v_card, a_v_others, v_others, F, _, him_v_self, him_v_card, _, _, hm⟩ := h; unfold m_Cond_holds at hm; exact hm⟩
    · exact ⟨T.a_InFolder_holds, T.fd_InFolder_holds, T.cl_InFolder, T.m_InFolder_holds, T.b_InFolder_holds, fnOk_no fun vs H Q E h => by obtain ⟨a_v_self, v_self, a_v_card, v_card, a_v_others, v_others, F, _, him_v_self, him_v_card, _, _, hm⟩ := h; unfold m_Cond_holds at hm; exact hm⟩
    · exact ⟨T.a_IsMarked_holds, T.fd_IsMarked_holds, T.cl_IsMarked, T.m_IsMarked_holds, T.b_IsMarked_holds, fnOk_no fun vs H Q E h => by obtain ⟨a_v_self, v_self, a_v_card, v_card, a_v_others, v_others, F, _, him_v_self, him_v_card, _, _, hm⟩ := h; unfold m_Cond_holds at hm; exact hm⟩
    · exact ⟨T.a_OnDays_holds, T.fd_OnDays_holds, T.cl_OnDays, T.m_OnDays_holds, T.b_OnDays_holds, fnOk_no fun vs H Q E h => by obtain ⟨a_v_self, v_self, a_v_card, v_card, a_v_others, v_others, F, _, him_v_self, him_v_card, _, _, hm⟩ := h; unfold m_Cond_holds at hm; exact hm⟩
    · exact ⟨T.a_IsAnswer_holds, T.fd_IsAnswer_holds, T.cl_IsAnswer, T.m_IsAnswer_holds, T.b_IsAnswer_holds, fnOk_no fun vs H Q E h => by obtain ⟨a_v_self, v_self, a_v_card, v_card, a_v_others, v_others, F, _, him_v_self, him_v_card, _, _, hm⟩ := h; unfold m_Cond_holds at hm; exact hm⟩
    · exact ⟨T.a_NotSo_holds, T.fd_NotSo_holds, T.cl_NotSo, T.m_NotSo_holds, T.b_NotSo_holds, fnOk_no fun vs H Q E h => by obtain ⟨a_v_self, v_self, a_v_card, v_card, a_v_others, v_others, F, _, him_v_self, him_v_card, _, _, hm⟩ := h; unfold m_Cond_holds at hm; exact hm⟩
    · exact ⟨T.a_InThread_holds, T.fd_InThread_holds, T.cl_InThread, T.m_InThread_holds, T.b_InThread_holds, fnOk_no fun vs H Q E h => by obtain ⟨a_v_self, v_self, a_v_card, v_card, a_v_others, v_others, F, _, him_v_self, him_v_card, _, _, hm⟩ := h; unfold m_Cond_holds at hm; exact hm⟩
    · exact ⟨T.a_BothSo_holds, T.fd_BothSo_holds, T.cl_BothSo, T.m_BothSo_holds, T.b_BothSo_holds, fnOk_no fun vs H Q E h => by obtain ⟨a_v_self, v_self, a_v_card, v_card, a_v_others, v_others, F, _, him_v_self, him_v_card, _, _, hm⟩ := h; unfold m_Cond_holds at hm; exact hm⟩
    · exact ⟨T.a_EitherSo_holds, T.fd_EitherSo_holds, T.cl_EitherSo, T.m_EitherSo_holds, T.b_EitherSo_holds, fnOk_no fun vs H Q E h => by obtain ⟨a_v_self, v_self, a_v_card, v_card, a_v_others, v_others, F, _, him_v_self, him_v_card, _, _, hm⟩ := h; unfold m_Cond_holds at hm; exact hm⟩
  | n + 1 => fun i hi => by
    have hi : i ∈ [1, 2, 3, 4, 5, 6, 7, 8, 9, 10, 11, 12] := by simpa [isC_Cond] using hi
    simp only [List.mem_cons, List.not_mem_nil, or_false] at hi
    rcases hi with rfl | rfl | rfl | rfl | rfl | rfl | rfl | rfl | rfl | rfl | rfl | rfl
    · refine ⟨T.a_Anything_holds, T.fd_Anything_holds, T.cl_Anything, T.m_Anything_holds, T.b_Anything_holds, (((ok_Anything_holds T).mono (Nat.le_add_right_of_le (by decide)))).imp fun vs H Q E h => ?_⟩
      obtain ⟨a_v_self, v_self, a_v_card, v_card, a_v_others, v_others, F, ev, him_v_self, him_v_card, hc, hS, hm⟩ := h
      cases v_self with
      | Anything => exact ⟨a_v_self, ⟨⟩, a_v_card, v_card, a_v_others, v_others, F, ev, (of_Anything him_v_self), him_v_card, hS, hm⟩
      | _ => simp [Cond.cls] at hc
    · refine ⟨T.a_HasWord_holds, T.fd_HasWord_holds, T.cl_HasWord, T.m_HasWord_holds, T.b_HasWord_holds, (((ok_HasWord_holds T).mono (Nat.le_add_right_of_le (by decide)))).imp fun vs H Q E h => ?_⟩
      obtain ⟨a_v_self, v_self, a_v_card, v_card, a_v_others, v_others, F, ev, him_v_self, him_v_card, hc, hS, hm⟩ := h
      cases v_self with
      | HasWord word => exact ⟨a_v_self, ⟨word⟩, a_v_card, v_card, a_v_others, v_others, F, ev, (of_HasWord him_v_self), him_v_card, hS, hm⟩
      | _ => simp [Cond.cls] at hc
    · refine ⟨T.a_InTitle_holds, T.fd_InTitle_holds, T.cl_InTitle, T.m_InTitle_holds, T.b_InTitle_holds, (((ok_InTitle_holds T).mono (Nat.le_add_right_of_le (by decide)))).imp fun vs H Q E h => ?_⟩
      obtain ⟨a_v_self, v_self, a_v_card, v_card, a_v_others, v_others, F, ev, him_v_self, him_v_card, hc, hS, hm⟩ := h
      cases v_self with
      | InTitle word => exact ⟨a_v_self, ⟨word⟩, a_v_card, v_card, a_v_others, v_others, F, ev, (of_InTitle him_v_self), him_v_card, hS, hm⟩
      | _ => simp [Cond.cls] at hc
    · refine ⟨T.a_FromSender_holds, T.fd_FromSender_holds, T.cl_FromSender, T.m_FromSender_holds, T.b_FromSender_holds, (((ok_FromSender_holds T).mono (Nat.le_add_right_of_le (by decide)))).imp fun vs H Q E h => ?_⟩
      obtain ⟨a_v_self, v_self, a_v_card, v_card, a_v_others, v_others, F, ev, him_v_self, him_v_card, hc, hS, hm⟩ := h
      cases v_self with
      | FromSender word => exact ⟨a_v_self, ⟨word⟩, a_v_card, v_card, a_v_others, v_others, F, ev, (of_FromSender him_v_self), him_v_card, hS, hm⟩
      | _ => simp [Cond.cls] at hc
    · refine ⟨T.a_InFolder_holds, T.fd_InFolder_holds, T.cl_InFolder, T.m_InFolder_holds, T.b_InFolder_holds, (((ok_InFolder_holds T).mono (Nat.le_add_right_of_le (by decide)))).imp fun vs H Q E h => ?_⟩
      obtain ⟨a_v_self, v_self, a_v_card, v_card, a_v_others, v_others, F, ev, him_v_self, him_v_card, hc, hS, hm⟩ := h
      cases v_self with
      | InFolder word => exact ⟨a_v_self, ⟨word⟩, a_v_card, v_card, a_v_others, v_others, F, ev, (of_InFolder him_v_self), him_v_card, hS, hm⟩
      | _ => simp [Cond.cls] at hc
    · refine ⟨T.a_IsMarked_holds, T.fd_IsMarked_holds, T.cl_IsMarked, T.m_IsMarked_holds, T.b_IsMarked_holds, (((ok_IsMarked_holds T).mono (Nat.le_add_right_of_le (by decide)))).imp fun vs H Q E h => ?_⟩
      obtain ⟨a_v_self, v_self, a_v_card, v_card, a_v_others, v_others, F, ev, him_v_self, him_v_card, hc, hS, hm⟩ := h
      cases v_self with
      | IsMarked word => exact ⟨a_v_self, ⟨word⟩, a_v_card, v_card, a_v_others, v_others, F, ev, (of_IsMarked him_v_self), him_v_card, hS, hm⟩
      | _ => simp [Cond.cls] at hc
    · refine ⟨T.a_OnDays_holds, T.fd_OnDays_holds, T.cl_OnDays, T.m_OnDays_holds, T.b_OnDays_holds, (((ok_OnDays_holds T).mono (Nat.le_add_right_of_le (by decide)))).imp fun vs H Q E h => ?_⟩
      obtain ⟨a_v_self, v_self, a_v_card, v_card, a_v_others, v_others, F, ev, him_v_self, him_v_card, hc, hS, hm⟩ := h
      cases v_self with
      | OnDays low high => exact ⟨a_v_self, ⟨low, high⟩, a_v_card, v_card, a_v_others, v_others, F, ev, (of_OnDays him_v_self), him_v_card, hS, hm⟩
      | _ => simp [Cond.cls] at hc
    · refine ⟨T.a_IsAnswer_holds, T.fd_IsAnswer_holds, T.cl_IsAnswer, T.m_IsAnswer_holds, T.b_IsAnswer_holds, (((ok_IsAnswer_holds T).mono (Nat.le_add_right_of_le (by decide)))).imp fun vs H Q E h => ?_⟩
      obtain ⟨a_v_self, v_self, a_v_card, v_card, a_v_others, v_others, F, ev, him_v_self, him_v_card, hc, hS, hm⟩ := h
      cases v_self with
      | IsAnswer => exact ⟨a_v_self, ⟨⟩, a_v_card, v_card, a_v_others, v_others, F, ev, (of_IsAnswer him_v_self), him_v_card, hS, hm⟩
      | _ => simp [Cond.cls] at hc
    · refine ⟨T.a_NotSo_holds, T.fd_NotSo_holds, T.cl_NotSo, T.m_NotSo_holds, T.b_NotSo_holds, ((ok_NotSo_holds T (lv := 5 + n) (Nat.le_add_right_of_le (by decide)) (ok_Cond_holds T n))).imp fun vs H Q E h => ?_⟩
      obtain ⟨a_v_self, v_self, a_v_card, v_card, a_v_others, v_others, F, ev, him_v_self, him_v_card, hc, hS, hm⟩ := h
      cases v_self with
      | NotSo inner => exact ⟨a_v_self, ⟨inner⟩, a_v_card, v_card, a_v_others, v_others, F, ev, (of_NotSo him_v_self), him_v_card, hS, hm⟩
      | _ => simp [Cond.cls] at hc
    · refine ⟨T.a_InThread_holds, T.fd_InThread_holds, T.cl_InThread, T.m_InThread_holds, T.b_InThread_holds, ((ok_InThread_holds T (lv := 5 + n) (Nat.le_add_right_of_le (by decide)) (ok_Cond_holds T n))).imp fun vs H Q E h => ?_⟩
      obtain ⟨a_v_self, v_self, a_v_card, v_card, a_v_others, v_others, F, ev, him_v_self, him_v_card, hc, hS, hm⟩ := h
      cases v_self with
      | InThread inner => exact ⟨a_v_self, ⟨inner⟩, a_v_card, v_card, a_v_others, v_others, F, ev, (of_InThread him_v_self), him_v_card, hS, hm⟩
      | _ => simp [Cond.cls] at hc
    · refine ⟨T.a_BothSo_holds, T.fd_BothSo_holds, T.cl_BothSo, T.m_BothSo_holds, T.b_BothSo_holds, ((ok_BothSo_holds T (lv := 5 + n) (Nat.le_add_right_of_le (by decide)) (ok_Cond_holds T n))).imp fun vs H Q E h => ?_⟩
      obtain ⟨a_v_self, v_self, a_v_card, v_card, a_v_others, v_others, F, ev, him_v_self, him_v_card, hc, hS, hm⟩ := h
      cases v_self with
      | BothSo first second => exact ⟨a_v_self, ⟨first, second⟩, a_v_card, v_card, a_v_others, v_others, F, ev, (of_BothSo him_v_self), him_v_card, hS, hm⟩
      | _ => simp [Cond.cls] at hc
    · refine ⟨T.a_EitherSo_holds, T.fd_EitherSo_holds, T.cl_EitherSo, T.m_EitherSo_holds, T.b_EitherSo_holds, ((ok_EitherSo_holds T (lv := 5 + n) (Nat.le_add_right_of_le (by decide)) (ok_Cond_holds T n))).imp fun vs H Q E h => ?_⟩
      obtain ⟨a_v_self, v_self, a_v_card, v_card, a_v_others, v_others, F, ev, him_v_self, him_v_card, hc, hS, hm⟩ := h
      cases v_self with
      | EitherSo first second => exact ⟨a_v_self, ⟨first, second⟩, a_v_card, v_card, a_v_others, v_others, F, ev, (of_EitherSo him_v_self), him_v_card, hS, hm⟩
      | _ => simp [Cond.cls] at hc
def sp_law_told (G : Gx) : Sp := fun vs H Q E => ∃ (a_v_law_condition : Addr) (v_law_condition : Cond) (a_v_law_tree : V) (v_law_tree : Any) (a_v_law_cards : Addr) (v_law_cards : (List (T3 (T5 Str Str Str Int Str) Str (List Str)))) (a_v_law_made_here : Addr) (v_law_made_here : (List Card)) (F : Asn G), vs = [(.ref a_v_law_condition), a_v_law_tree, .ref a_v_law_cards, .ref a_v_law_made_here] ∧ Im.im G H (.ref a_v_law_condition) v_law_condition ∧ Im.im G H a_v_law_tree v_law_tree ∧ Sep H ([lstA a_v_law_cards (v_law_cards : (List (T3 (T5 Str Str Str Int Str) Str (List Str)))), lstA a_v_law_made_here (v_law_made_here : (List Card)), F] : List (Asn G)) ∧ R.wp (m_law_told v_law_condition v_law_tree v_law_cards v_law_made_here) (fun r => ∀ H', Sep H' ([lstA a_v_law_cards (v_law_cards : (List (T3 (T5 Str Str Str Int Str) Str (List Str)))), lstA a_v_law_made_here (v_law_made_here : (List Card)), F] : List (Asn G)) → Q (.bl (r)) H') (fun _ => False)
abbrev N_law_told : List Str := ["_law_condition", "_law_tree", "_law_cards", "_law_made_here", "_law_k", "_law_others", "_law_handed", "_law_found", "_law_due", "_law_one"]
theorem sc_law_told : FnScope N_law_told ["_law_condition", "_law_tree", "_law_cards", "_law_made_here"] (defScope s_law_told) := ⟨rfl, rfl, rfl, by decide +kernel, rfl, by decide +kernel, by decide +kernel⟩
theorem ok_law_told (T : Txt G mg) : FnOk P w G.K mg base CX0 18 T.a_law_told T.fd_law_told ["_law_condition", "_law_tree", "_law_cards", "_law_made_here"] (sp_law_told G) := by
  have nd := sc_law_told.nd
  refine Fun.ok T.F_law_told sc_law_told (fun vs H Q E h => ?_) (fun cdv A outer s H vs Q E hr h => ?_)
  · obtain ⟨a_v_law_condition, v_law_condition, a_v_law_tree, v_law_tree, a_v_law_cards, v_law_cards, a_v_law_made_here, v_law_made_here, F, rfl, _⟩ := h; rfl
  · obtain ⟨a_v_law_condition, v_law_condition, a_v_law_tree, v_law_tree, a_v_law_cards, v_law_cards, a_v_law_made_here, v_law_made_here, F, rfl, him_v_law_condition, him_v_law_tree, hS, hm⟩ := h
    have hS := hS.addIm him_v_law_condition
    have hS := hS.addIm him_v_law_tree
    refine ⟨_, (pss_cons (ps_for PassesOwn.never rfl (pi_range1 rfl T.z_range (pa_cons (pe_callB (lenSqK G.K) (by rfl) T.z_len PySem.boot_len (pa_cons (pe_fz (pv 2)) pa_nil)) pa_nil)) (pg_name (i := 4) nd rfl (Or.inl rfl)) (pss_cons (ps_set (i := 5) nd rfl (Or.inl rfl) (pe_fz (pe_op op_catR (pe_fz (pe_slice (sl_listK G.K) (pe_fz (pv 3)) po_none (po_some (pv 4)))) (pe_fz (pe_slice (sl_listK G.K) (pe_fz (pv 3)) (po_some (pe_op op_add (pv 4) pe_int)) po_none)))))
      (pss_cons (ps_set (i := 6) nd rfl (Or.inl rfl) (pe_fz (pe_callTy (listSqK G.K) (by rfl) T.z_list (by decide +kernel) (pa_cons (pe_fz (pv 5)) pa_nil))))
      (pss_cons (ps_set (i := 7) nd rfl (Or.inl rfl) (pe_methF (pv 0) (ok_Cond_holds T 12) (hr.mono (by decide)) pass0 (pa_cons (pe_ix (ix_listK G.K) (pe_fz (pv 3)) (pv 4) (fun _ _ => rfl)) (pa_cons (pe_fz (pv 6)) pa_nil))))
      (pss_cons (ps_set (i := 8) nd rfl (Or.inl rfl) (pe_call (ok_law_holds T 12) (hr.mono (by decide)) rfl T.g_law_holds T.kp_law_holds T.b_law_holds .nil pass0 (pa_cons (pv 1) (pa_cons (pe_ix (ix_listK G.K) (pe_fz (pv 2)) (pv 4) (fun _ _ => rfl)) (pa_cons (pe_fz (pe_op op_catR (pe_fz (pe_slice (sl_listK G.K) (pe_fz (pv 2)) po_none (po_some (pv 4)))) (pe_fz (pe_slice (sl_listK G.K) (pe_fz (pv 2)) (po_some (pe_op op_add (pv 4) pe_int)) po_none)))) pa_nil)))))
      (pss_cons (ps_if (PW.pt (pw_or (pt_not (pt_val (pe_callB (isiK G.K) (by rfl) T.z_isinstance (by decide +kernel) (pa_cons (pv 7) (pa_cons (pe_bltn (v := .ty "bool") (by rfl) T.z_bool (by decide +kernel) rfl) pa_nil))))) (pw_or1 (pt_cmpR op_ne (pv 7) (pv 8) (nomark _))))) (pss_one (ps_ret pe_bl)) pss_nil)
      (pss_one (ps_if (pt_cmpR (neDK G.K hr.units) (pe_fz (pe_lc (own := [("_law_one", 9)]) (g := gName 9) rfl nd (pi_listK G.K (pe_fz (pv 6))) (blkOk_by (own := [("_law_one", 9)]) (N := N_law_told) (sc := defScope s_law_told) (by decide +kernel)) (fun _ _ _ _ _ => pg_name (i := 9) nd rfl (Or.inl rfl)) (fun _ _ _ _ _ => pts_nil) (fun _ _ _ _ _ => (pe_call (ok_law_shown T) (hr.mono (by decide)) rfl T.g_law_shown T.kp_law_shown T.b_law_shown .nil pass0 (pa_cons (pv 9) pa_nil))))) (pe_fz (pe_lc (own := [("_law_one", 9)]) (g := gName 9) rfl nd (pi_listK G.K (pe_fz (pv 5))) (blkOk_by (own := [("_law_one", 9)]) (N := N_law_told) (sc := defScope s_law_told) (by decide +kernel)) (fun _ _ _ _ _ => pg_name (i := 9) nd rfl (Or.inl rfl)) (fun _ _ _ _ _ => pts_nil) (fun _ _ _ _ _ => (pe_call (ok_law_shown T) (hr.mono (by decide)) rfl T.g_law_shown T.kp_law_shown T.b_law_shown .nil pass0 (pa_cons (pv 9) pa_nil))))) (nomark _)) (pss_one (ps_ret pe_bl)) pss_nil))))))))
      (pss_one (ps_ret (pe_and (pe_cmpR (eqDK G.K hr.units) (pe_methF0 (pv 0) (ok_Cond_tree T 12) (hr.mono (by decide)) pass0) (pv 1) (nomark _)) (pe_one (pe_callB (isiK G.K) (by rfl) T.z_isinstance (by decide +kernel) (pa_cons (pv 0) (pa_cons (pe_glob (v := .ref (G.cl 0)) rfl T.g_Condition rfl) pa_nil)))))))), ?_⟩
    unfold m_law_told at hm
    refine f_seq ?_
    refine c_for ?_
    refine c_rng1 ?_
    refine ea_to (ea_cons (ev_lenG (ev_fz (ev_var rfl)) (hS.sq (i := 2) rfl)) ea_nil) ?_
    obtain ⟨h1, hm⟩ := R.wp_need hm
    refine k_rng1 (len62 h1).1 (len62 h1).2 ?_
    refine k_forF (τ := Unit) (fun (s2 : Unit) (σ : L2.St) (H : Hp) => ∃ (w5 w6 w7 w8 w9 : Option V), σ = [some (.ref a_v_law_condition), some a_v_law_tree, some (.ref a_v_law_cards), some (.ref a_v_law_made_here), w5, w6, w7, w8, w9, none] ∧ Sep H ([imA a_v_law_tree (v_law_tree : Any), imA (.ref a_v_law_condition) (v_law_condition : Cond), lstA a_v_law_cards (v_law_cards : (List (T3 (T5 Str Str Str Int Str) Str (List Str)))), lstA a_v_law_made_here (v_law_made_here : (List Card)), F] : List (Asn G))) (im := (fun _ v (x : Int) => v = .int x)) (s := ()) (fun _ => wk_range) ⟨_, _, _, _, _, rfl, hS.sel [0, 1, 2, 3, 4] (by decide) rfl⟩ hm (fun s2 x3 v4 σ H q N B hI hx hm nx bk ho10 => ?_) (fun s2 σ H hm hI => ?_)
    ·
      obtain ⟨w5, w6, w7, w8, w9, rfl, hS⟩ := hI
      cases hx
      refine c_gN (σ' := [some (.ref a_v_law_condition), some a_v_law_tree, some (.ref a_v_law_cards), some (.ref a_v_law_made_here), some (.int (x3)), w6, w7, w8, w9, none]) rfl ?_
      refine f_seq ?_
      refine c_asg ?_
      refine c_fz ?_
      refine c_op ?_
      refine c_fz ?_
      refine c_sl ?_
      refine ev_to (ev_fz (ev_var rfl)) ?_
      refine eo_to eo_no ?_
      refine eo_to (eo_some (ev_var rfl)) ?_
      refine k_slG hS (hS.sq (i := 3) rfl) fun p11 H hS => ?_
      refine fz_no ?_
      refine c_fz ?_
      refine c_sl ?_
      refine ev_to (ev_fz (ev_var rfl)) ?_
      refine eo_to (eo_some (ev_add (ev_var rfl) ev_c)) ?_
      refine eo_to eo_no ?_
      refine k_slG hS (hS.sq (i := 4) rfl) fun p12 H hS => ?_
      refine fz_no ?_
      obtain ⟨h13, hm⟩ := R.wp_need hm
      refine k_catG hS (hS.rdL (i := 1) rfl) (hS.rdL (i := 0) rfl) h13 fun p14 H hS => ?_
      refine fz_no ?_
      obtain ⟨y15, hy15, hm⟩ := wp_let hm
      have hS : Sep H ([lstA p14 (y15 : (List Card)), lstA p12 (cutL v_law_made_here (some (x3 + 1)) none : (List Card)), lstA p11 (cutL v_law_made_here none (some (x3)) : (List Card)), imA a_v_law_tree (v_law_tree : Any), imA (.ref a_v_law_condition) (v_law_condition : Cond), lstA a_v_law_cards (v_law_cards : (List (T3 (T5 Str Str Str Int Str) Str (List Str)))), lstA a_v_law_made_here (v_law_made_here : (List Card)), F] : List (Asn G)) := by rw [← hy15]; exact hS
      refine c_set (σ' := [some (.ref a_v_law_condition), some a_v_law_tree, some (.ref a_v_law_cards), some (.ref a_v_law_made_here), some (.int (x3)), some (.ref p14), w7, w8, w9, none]) rfl ?_
      refine sq_nx ?_
      refine f_seq ?_
      refine c_asg ?_
      refine c_fz ?_
      refine c_cb ?_
      refine ea_to (ea_cons (ev_fz (ev_var rfl)) ea_nil) ?_
      refine k_listG hS (hS.sq (i := 0) rfl) fun p16 H hS => ?_
      refine fz_no ?_
      refine c_set (σ' := [some (.ref a_v_law_condition), some a_v_law_tree, some (.ref a_v_law_cards), some (.ref a_v_law_made_here), some (.int (x3)), some (.ref p14), some (.ref p16), w8, w9, none]) rfl ?_
      refine sq_nx ?_
      refine f_seq ?_
      refine c_asg ?_
      refine c_methF ?_
      refine ev_to (ev_var rfl) ?_
      obtain ⟨dx17, fs18, hO19, hl20⟩ := cls_Cond (hS.im (i := 5) rfl)
      refine ⟨_, _, _, _, rfl, fam_Cond _, hO19, hl20 "holds" (by decide), ?_⟩
      obtain ⟨x21, hx21, hm⟩ := wp_idx hm
      obtain ⟨vs22, hq23, hM24⟩ := hS.sq (i := 7) rfl
      obtain ⟨u25, hu26, hi27⟩ := atI_im hM24 hx21
      obtain ⟨a28, rfl⟩ := isref hi27
      refine ea_to (ea_cons (ev_ixSq (ev_fz (ev_var rfl)) (ev_var rfl) hq23 hu26) (ea_cons (ev_fz (ev_var rfl)) ea_nil)) ?_
      have hS := hS.addIm (v := (.ref a28)) (x := (x21 : Card)) hi27
      refine ⟨a_v_law_condition, (v_law_condition : Cond), a28, (x21 : Card), p16, (y15 : (List Card)), star [imA (.ref a28) (x21 : Card), lstA p14 (y15 : (List Card)), lstA p12 (cutL v_law_made_here (some (x3 + 1)) none : (List Card)), lstA p11 (cutL v_law_made_here none (some (x3)) : (List Card)), imA a_v_law_tree (v_law_tree : Any), imA (.ref a_v_law_condition) (v_law_condition : Cond), lstA a_v_law_cards (v_law_cards : (List (T3 (T5 Str Str Str Int Str) Str (List Str)))), lstA a_v_law_made_here (v_law_made_here : (List Card)), F], rfl, (hS.im (i := 6) rfl), (hS.im (i := 0) rfl), rfl, Sep.unstar (M := [lstA p16 (y15 : (List Card))]) (hS.sel [1, 0, 2, 3, 4, 5, 6, 7, 8, 9] (by decide) rfl : Sep H (([lstA p16 (y15 : (List Card))] ++ [imA (.ref a28) (x21 : Card), lstA p14 (y15 : (List Card)), lstA p12 (cutL v_law_made_here (some (x3 + 1)) none : (List Card)), lstA p11 (cutL v_law_made_here none (some (x3)) : (List Card)), imA a_v_law_tree (v_law_tree : Any), imA (.ref a_v_law_condition) (v_law_condition : Cond), lstA a_v_law_cards (v_law_cards : (List (T3 (T5 Str Str Str Int Str) Str (List Str)))), lstA a_v_law_made_here (v_law_made_here : (List Card)), F] : List (Asn G)))), R.wp_mono (R.wp_bind hm) (fun r30 hm H hS => ?_) (fun _ z => z)⟩
      have hS : Sep H ([lstA p16 (y15 : (List Card)), imA (.ref a28) (x21 : Card), lstA p14 (y15 : (List Card)), lstA p12 (cutL v_law_made_here (some (x3 + 1)) none : (List Card)), lstA p11 (cutL v_law_made_here none (some (x3)) : (List Card)), imA a_v_law_tree (v_law_tree : Any), imA (.ref a_v_law_condition) (v_law_condition : Cond), lstA a_v_law_cards (v_law_cards : (List (T3 (T5 Str Str Str Int Str) Str (List Str)))), lstA a_v_law_made_here (v_law_made_here : (List Card)), F] : List (Asn G)) := Sep.star (M := [lstA p16 (y15 : (List Card))]) hS
      refine c_set (σ' := [some (.ref a_v_law_condition), some a_v_law_tree, some (.ref a_v_law_cards), some (.ref a_v_law_made_here), some (.int (x3)), some (.ref p14), some (.ref p16), some (.bl (r30)), w9, none]) rfl ?_
      refine sq_nx ?_
      refine f_seq ?_
      refine c_asg ?_
      refine c_call ?_
      refine c_cons ?_
      refine ev_to (ev_var rfl) ?_
      refine c_cons ?_
      obtain ⟨x31, hx31, hm⟩ := wp_idx hm
      obtain ⟨vs32, hq33, hM34⟩ := hS.sq (i := 7) rfl
      obtain ⟨u35, hu36, hi37⟩ := atI_im hM34 hx31
      obtain ⟨a38, rfl⟩ := isref hi37
      refine ev_to (ev_ixSq (ev_fz (ev_var rfl)) (ev_var rfl) hq33 hu36) ?_
      have hS := hS.addIm (v := (.ref a38)) (x := (x31 : (T3 (T5 Str Str Str Int Str) Str (List Str)))) hi37
      refine c_cons ?_
      refine c_fz ?_
      refine c_op ?_
      refine c_fz ?_
      refine c_sl ?_
      refine ev_to (ev_fz (ev_var rfl)) ?_
      refine eo_to eo_no ?_
      refine eo_to (eo_some (ev_var rfl)) ?_
      refine k_slG hS (hS.sq (i := 8) rfl) fun p40 H hS => ?_
      refine fz_no ?_
      refine c_fz ?_
      refine c_sl ?_
      refine ev_to (ev_fz (ev_var rfl)) ?_
      refine eo_to (eo_some (ev_add (ev_var rfl) ev_c)) ?_
      refine eo_to eo_no ?_
      refine k_slG hS (hS.sq (i := 9) rfl) fun p41 H hS => ?_
      refine fz_no ?_
      obtain ⟨h42, hm⟩ := R.wp_need hm
      refine k_catG hS (hS.rdL (i := 1) rfl) (hS.rdL (i := 0) rfl) h42 fun p43 H hS => ?_
      refine fz_no ?_
      refine c_nil ?_
      refine ⟨a_v_law_tree, (v_law_tree : Any), a38, (x31 : (T3 (T5 Str Str Str Int Str) Str (List Str))), p43, ((cutL v_law_cards none (some (x3))) ++ (cutL v_law_cards (some (x3 + 1)) none) : (List (T3 (T5 Str Str Str Int Str) Str (List Str)))), star [lstA p41 (cutL v_law_cards (some (x3 + 1)) none : (List (T3 (T5 Str Str Str Int Str) Str (List Str)))), lstA p40 (cutL v_law_cards none (some (x3)) : (List (T3 (T5 Str Str Str Int Str) Str (List Str)))), imA (.ref a38) (x31 : (T3 (T5 Str Str Str Int Str) Str (List Str))), lstA p16 (y15 : (List Card)), imA (.ref a28) (x21 : Card), lstA p14 (y15 : (List Card)), lstA p12 (cutL v_law_made_here (some (x3 + 1)) none : (List Card)), lstA p11 (cutL v_law_made_here none (some (x3)) : (List Card)), imA a_v_law_tree (v_law_tree : Any), imA (.ref a_v_law_condition) (v_law_condition : Cond), lstA a_v_law_cards (v_law_cards : (List (T3 (T5 Str Str Str Int Str) Str (List Str)))), lstA a_v_law_made_here (v_law_made_here : (List Card)), F], rfl, (hS.im (i := 9) rfl), (hS.im (i := 3) rfl), Sep.unstar (M := [lstA p43 ((cutL v_law_cards none (some (x3))) ++ (cutL v_law_cards (some (x3 + 1)) none) : (List (T3 (T5 Str Str Str Int Str) Str (List Str))))]) (hS.sel [0, 1, 2, 3, 4, 5, 6, 7, 8, 9, 10, 11, 12, 13] (by decide) rfl : Sep H (([lstA p43 ((cutL v_law_cards none (some (x3))) ++ (cutL v_law_cards (some (x3 + 1)) none) : (List (T3 (T5 Str Str Str Int Str) Str (List Str))))] ++ [lstA p41 (cutL v_law_cards (some (x3 + 1)) none : (List (T3 (T5 Str Str Str Int Str) Str (List Str)))), lstA p40 (cutL v_law_cards none (some (x3)) : (List (T3 (T5 Str Str Str Int Str) Str (List Str)))), imA (.ref a38) (x31 : (T3 (T5 Str Str Str Int Str) Str (List Str))), lstA p16 (y15 : (List Card)), imA (.ref a28) (x21 : Card), lstA p14 (y15 : (List Card)), lstA p12 (cutL v_law_made_here (some (x3 + 1)) none : (List Card)), lstA p11 (cutL v_law_made_here none (some (x3)) : (List Card)), imA a_v_law_tree (v_law_tree : Any), imA (.ref a_v_law_condition) (v_law_condition : Cond), lstA a_v_law_cards (v_law_cards : (List (T3 (T5 Str Str Str Int Str) Str (List Str)))), lstA a_v_law_made_here (v_law_made_here : (List Card)), F] : List (Asn G)))), R.wp_mono (R.wp_bind hm) (fun r44 hm H hS => ?_) (fun _ z => z)⟩
      have hS : Sep H ([lstA p43 ((cutL v_law_cards none (some (x3))) ++ (cutL v_law_cards (some (x3 + 1)) none) : (List (T3 (T5 Str Str Str Int Str) Str (List Str)))), lstA p41 (cutL v_law_cards (some (x3 + 1)) none : (List (T3 (T5 Str Str Str Int Str) Str (List Str)))), lstA p40 (cutL v_law_cards none (some (x3)) : (List (T3 (T5 Str Str Str Int Str) Str (List Str)))), imA (.ref a38) (x31 : (T3 (T5 Str Str Str Int Str) Str (List Str))), lstA p16 (y15 : (List Card)), imA (.ref a28) (x21 : Card), lstA p14 (y15 : (List Card)), lstA p12 (cutL v_law_made_here (some (x3 + 1)) none : (List Card)), lstA p11 (cutL v_law_made_here none (some (x3)) : (List Card)), imA a_v_law_tree (v_law_tree : Any), imA (.ref a_v_law_condition) (v_law_condition : Cond), lstA a_v_law_cards (v_law_cards : (List (T3 (T5 Str Str Str Int Str) Str (List Str)))), lstA a_v_law_made_here (v_law_made_here : (List Card)), F] : List (Asn G)) := Sep.star (M := [lstA p43 ((cutL v_law_cards none (some (x3))) ++ (cutL v_law_cards (some (x3 + 1)) none) : (List (T3 (T5 Str Str Str Int Str) Str (List Str))))]) hS
      refine c_set (σ' := [some (.ref a_v_law_condition), some a_v_law_tree, some (.ref a_v_law_cards), some (.ref a_v_law_made_here), some (.int (x3)), some (.ref p14), some (.ref p16), some (.bl (r30)), some (.bl (r44)), none]) rfl ?_
      refine sq_nx ?_
      refine f_seq ?_
      refine f_if ?_
      refine et_to (et_or (et_not (et_B (ev_isi (G := G) (x := (.bl (r30))) (T := "bool") (U := "bool") (b := true) (ev_var rfl) ev_c (.base (.bl _)) (by decide +kernel)))) fun _ => (et_test (ev_neB (ev_var rfl) (ev_var rfl)))) ?_
      refine ifK_2 (fun hb45 => ?_) (fun hb45 => ?_)
      · have hm := R.wp_ifY hm hb45
        refine c_ret ?_
        refine ev_to ev_c ?_
        exact (ho10 _ hm) _ (hS.sel [11, 12, 13] (by decide) rfl)
      · have hm := R.wp_ifN hm (by first | (rw [hb45]; decide) | simpa using hb45)
        refine st_nx ?_
        refine sq_nx ?_
        refine f_if ?_
        refine f_test ?_
        refine c_op ?_
        refine c_fz ?_
        refine c_lc ?_
        refine c_il ?_
        refine ev_to (ev_fz (ev_var rfl)) ?_
        refine k_il hS (i := 4) rfl ?_
        obtain ⟨h46, hm⟩ := R.wp_need hm
        refine lc_sep (β := (T3 (T5 Str Str Str Int Str) Str (List Str))) (fun (_ : Unit) => ([lstA p43 ((cutL v_law_cards none (some (x3))) ++ (cutL v_law_cards (some (x3 + 1)) none) : (List (T3 (T5 Str Str Str Int Str) Str (List Str)))), lstA p41 (cutL v_law_cards (some (x3 + 1)) none : (List (T3 (T5 Str Str Str Int Str) Str (List Str)))), lstA p40 (cutL v_law_cards none (some (x3)) : (List (T3 (T5 Str Str Str Int Str) Str (List Str)))), imA (.ref a38) (x31 : (T3 (T5 Str Str Str Int Str) Str (List Str))), lstA p16 (y15 : (List Card)), imA (.ref a28) (x21 : Card), lstA p14 (y15 : (List Card)), lstA p12 (cutL v_law_made_here (some (x3 + 1)) none : (List Card)), lstA p11 (cutL v_law_made_here none (some (x3)) : (List Card)), imA a_v_law_tree (v_law_tree : Any), imA (.ref a_v_law_condition) (v_law_condition : Cond), lstA a_v_law_cards (v_law_cards : (List (T3 (T5 Str Str Str Int Str) Str (List Str)))), lstA a_v_law_made_here (v_law_made_here : (List Card)), F] : List (Asn G))) (s := ()) (im := (Im.im G)) hS (fun _ _ _ => wk_list fun _ _ h => h.sq (i := 5) rfl) h46 hm (fun p47 _ ys50 x48 v49 H q Nx hS hx hm kS kN => ?_) (fun p47 t H hm hS => ?_)
        ·
          obtain ⟨a51, rfl⟩ := isref hx
          have hS := hS.addIm (v := (.ref a51)) (x := (x48 : Card)) hx
          refine c_gLc (σ' := [some (.ref a_v_law_condition), some a_v_law_tree, some (.ref a_v_law_cards), some (.ref a_v_law_made_here), some (.int (x3)), some (.ref p14), some (.ref p16), some (.bl (r30)), some (.bl (r44)), some (.ref a51)]) rfl rfl ?_
          refine c_yes ?_
          refine c_call ?_
          refine ea_to (ea_cons (ev_var rfl) ea_nil) ?_
          refine ⟨a51, (x48 : Card), star [imA (.ref a51) (x48 : Card), lstA p47 (ys50 : List (T3 (T5 Str Str Str Int Str) Str (List Str))), lstA p43 ((cutL v_law_cards none (some (x3))) ++ (cutL v_law_cards (some (x3 + 1)) none) : (List (T3 (T5 Str Str Str Int Str) Str (List Str)))), lstA p41 (cutL v_law_cards (some (x3 + 1)) none : (List (T3 (T5 Str Str Str Int Str) Str (List Str)))), lstA p40 (cutL v_law_cards none (some (x3)) : (List (T3 (T5 Str Str Str Int Str) Str (List Str)))), imA (.ref a38) (x31 : (T3 (T5 Str Str Str Int Str) Str (List Str))), lstA p16 (y15 : (List Card)), imA (.ref a28) (x21 : Card), lstA p14 (y15 : (List Card)), lstA p12 (cutL v_law_made_here (some (x3 + 1)) none : (List Card)), lstA p11 (cutL v_law_made_here none (some (x3)) : (List Card)), imA a_v_law_tree (v_law_tree : Any), imA (.ref a_v_law_condition) (v_law_condition : Cond), lstA a_v_law_cards (v_law_cards : (List (T3 (T5 Str Str Str Int Str) Str (List Str)))), lstA a_v_law_made_here (v_law_made_here : (List Card)), F], rfl, (hS.im (i := 0) rfl), Sep.unstar (M := []) (hS.sel [0, 1, 2, 3, 4, 5, 6, 7, 8, 9, 10, 11, 12, 13, 14, 15] (by decide) rfl : Sep H (([] ++ [imA (.ref a51) (x48 : Card), lstA p47 (ys50 : List (T3 (T5 Str Str Str Int Str) Str (List Str))), lstA p43 ((cutL v_law_cards none (some (x3))) ++ (cutL v_law_cards (some (x3 + 1)) none) : (List (T3 (T5 Str Str Str Int Str) Str (List Str)))), lstA p41 (cutL v_law_cards (some (x3 + 1)) none : (List (T3 (T5 Str Str Str Int Str) Str (List Str)))), lstA p40 (cutL v_law_cards none (some (x3)) : (List (T3 (T5 Str Str Str Int Str) Str (List Str)))), imA (.ref a38) (x31 : (T3 (T5 Str Str Str Int Str) Str (List Str))), lstA p16 (y15 : (List Card)), imA (.ref a28) (x21 : Card), lstA p14 (y15 : (List Card)), lstA p12 (cutL v_law_made_here (some (x3 + 1)) none : (List Card)), lstA p11 (cutL v_law_made_here none (some (x3)) : (List Card)), imA a_v_law_tree (v_law_tree : Any), imA (.ref a_v_law_condition) (v_law_condition : Cond), lstA a_v_law_cards (v_law_cards : (List (T3 (T5 Str Str Str Int Str) Str (List Str)))), lstA a_v_law_made_here (v_law_made_here : (List Card)), F] : List (Asn G)))), R.wp_mono (R.wp_bind hm) (fun r53 hm p54 H hS => ?_) (fun _ z => z)⟩
          have hS : Sep H ([imA (.ref p54) (r53 : (T3 (T5 Str Str Str Int Str) Str (List Str))), imA (.ref a51) (x48 : Card), lstA p47 (ys50 : List (T3 (T5 Str Str Str Int Str) Str (List Str))), lstA p43 ((cutL v_law_cards none (some (x3))) ++ (cutL v_law_cards (some (x3 + 1)) none) : (List (T3 (T5 Str Str Str Int Str) Str (List Str)))), lstA p41 (cutL v_law_cards (some (x3 + 1)) none : (List (T3 (T5 Str Str Str Int Str) Str (List Str)))), lstA p40 (cutL v_law_cards none (some (x3)) : (List (T3 (T5 Str Str Str Int Str) Str (List Str)))), imA (.ref a38) (x31 : (T3 (T5 Str Str Str Int Str) Str (List Str))), lstA p16 (y15 : (List Card)), imA (.ref a28) (x21 : Card), lstA p14 (y15 : (List Card)), lstA p12 (cutL v_law_made_here (some (x3 + 1)) none : (List Card)), lstA p11 (cutL v_law_made_here none (some (x3)) : (List Card)), imA a_v_law_tree (v_law_tree : Any), imA (.ref a_v_law_condition) (v_law_condition : Cond), lstA a_v_law_cards (v_law_cards : (List (T3 (T5 Str Str Str Int Str) Str (List Str)))), lstA a_v_law_made_here (v_law_made_here : (List Card)), F] : List (Asn G)) := Sep.star (M := [imA (.ref p54) (r53 : (T3 (T5 Str Str Str Int Str) Str (List Str)))]) hS
          exact kS () _ _ _ hm (hS.im (i := 0) rfl) (hS.sel [2, 3, 4, 5, 6, 7, 8, 9, 10, 11, 12, 13, 14, 15, 16] (by decide) rfl)
        · revert hm hS; generalize t = t56; intro hm hS
          refine fz_no ?_
          refine c_fz ?_
          refine c_lc ?_
          refine c_il ?_
          refine ev_to (ev_fz (ev_var rfl)) ?_
          refine k_il hS (i := 7) rfl ?_
          obtain ⟨h57, hm⟩ := R.wp_need hm
          refine lc_sep (β := (T3 (T5 Str Str Str Int Str) Str (List Str))) (fun (_ : Unit) => ([lstA p47 (t56.2 : (List (T3 (T5 Str Str Str Int Str) Str (List Str)))), lstA p43 ((cutL v_law_cards none (some (x3))) ++ (cutL v_law_cards (some (x3 + 1)) none) : (List (T3 (T5 Str Str Str Int Str) Str (List Str)))), lstA p41 (cutL v_law_cards (some (x3 + 1)) none : (List (T3 (T5 Str Str Str Int Str) Str (List Str)))), lstA p40 (cutL v_law_cards none (some (x3)) : (List (T3 (T5 Str Str Str Int Str) Str (List Str)))), imA (.ref a38) (x31 : (T3 (T5 Str Str Str Int Str) Str (List Str))), lstA p16 (y15 : (List Card)), imA (.ref a28) (x21 : Card), lstA p14 (y15 : (List Card)), lstA p12 (cutL v_law_made_here (some (x3 + 1)) none : (List Card)), lstA p11 (cutL v_law_made_here none (some (x3)) : (List Card)), imA a_v_law_tree (v_law_tree : Any), imA (.ref a_v_law_condition) (v_law_condition : Cond), lstA a_v_law_cards (v_law_cards : (List (T3 (T5 Str Str Str Int Str) Str (List Str)))), lstA a_v_law_made_here (v_law_made_here : (List Card)), F] : List (Asn G))) (s := ()) (im := (Im.im G)) hS (fun _ _ _ => wk_list fun _ _ h => h.sq (i := 8) rfl) h57 hm (fun p58 _ ys61 x59 v60 H q Nx hS hx hm kS kN => ?_) (fun p58 t H hm hS => ?_)
          ·
            obtain ⟨a62, rfl⟩ := isref hx
            have hS := hS.addIm (v := (.ref a62)) (x := (x59 : Card)) hx
            refine c_gLc (σ' := [some (.ref a_v_law_condition), some a_v_law_tree, some (.ref a_v_law_cards), some (.ref a_v_law_made_here), some (.int (x3)), some (.ref p14), some (.ref p16), some (.bl (r30)), some (.bl (r44)), some (.ref a62)]) rfl rfl ?_
            refine c_yes ?_
            refine c_call ?_
            refine ea_to (ea_cons (ev_var rfl) ea_nil) ?_
            refine ⟨a62, (x59 : Card), star [imA (.ref a62) (x59 : Card), lstA p58 (ys61 : List (T3 (T5 Str Str Str Int Str) Str (List Str))), lstA p47 (t56.2 : (List (T3 (T5 Str Str Str Int Str) Str (List Str)))), lstA p43 ((cutL v_law_cards none (some (x3))) ++ (cutL v_law_cards (some (x3 + 1)) none) : (List (T3 (T5 Str Str Str Int Str) Str (List Str)))), lstA p41 (cutL v_law_cards (some (x3 + 1)) none : (List (T3 (T5 Str Str Str Int Str) Str (List Str)))), lstA p40 (cutL v_law_cards none (some (x3)) : (List (T3 (T5 Str Str Str Int Str) Str (List Str)))), imA (.ref a38) (x31 : (T3 (T5 Str Str Str Int Str) Str (List Str))), lstA p16 (y15 : (List Card)), imA (.ref a28) (x21 : Card), lstA p14 (y15 : (List Card)), lstA p12 (cutL v_law_made_here (some (x3 + 1)) none : (List Card)), lstA p11 (cutL v_law_made_here none (some (x3)) : (List Card)), imA a_v_law_tree (v_law_tree : Any), imA (.ref a_v_law_condition) (v_law_condition : Cond), lstA a_v_law_cards (v_law_cards : (List (T3 (T5 Str Str Str Int Str) Str (List Str)))), lstA a_v_law_made_here (v_law_made_here : (List Card)), F], rfl, (hS.im (i := 0) rfl), Sep.unstar (M := []) (hS.sel [0, 1, 2, 3, 4, 5, 6, 7, 8, 9, 10, 11, 12, 13, 14, 15, 16] (by decide) rfl : Sep H (([] ++ [imA (.ref a62) (x59 : Card), lstA p58 (ys61 : List (T3 (T5 Str Str Str Int Str) Str (List Str))), lstA p47 (t56.2 : (List (T3 (T5 Str Str Str Int Str) Str (List Str)))), lstA p43 ((cutL v_law_cards none (some (x3))) ++ (cutL v_law_cards (some (x3 + 1)) none) : (List (T3 (T5 Str Str Str Int Str) Str (List Str)))), lstA p41 (cutL v_law_cards (some (x3 + 1)) none : (List (T3 (T5 Str Str Str Int Str) Str (List Str)))), lstA p40 (cutL v_law_cards none (some (x3)) : (List (T3 (T5 Str Str Str Int Str) Str (List Str)))), imA (.ref a38) (x31 : (T3 (T5 Str Str Str Int Str) Str (List Str))), lstA p16 (y15 : (List Card)), imA (.ref a28) (x21 : Card), lstA p14 (y15 : (List Card)), lstA p12 (cutL v_law_made_here (some (x3 + 1)) none : (List Card)), lstA p11 (cutL v_law_made_here none (some (x3)) : (List Card)), imA a_v_law_tree (v_law_tree : Any), imA (.ref a_v_law_condition) (v_law_condition : Cond), lstA a_v_law_cards (v_law_cards : (List (T3 (T5 Str Str Str Int Str) Str (List Str)))), lstA a_v_law_made_here (v_law_made_here : (List Card)), F] : List (Asn G)))), R.wp_mono (R.wp_bind hm) (fun r64 hm p65 H hS => ?_) (fun _ z => z)⟩
            have hS : Sep H ([imA (.ref p65) (r64 : (T3 (T5 Str Str Str Int Str) Str (List Str))), imA (.ref a62) (x59 : Card), lstA p58 (ys61 : List (T3 (T5 Str Str Str Int Str) Str (List Str))), lstA p47 (t56.2 : (List (T3 (T5 Str Str Str Int Str) Str (List Str)))), lstA p43 ((cutL v_law_cards none (some (x3))) ++ (cutL v_law_cards (some (x3 + 1)) none) : (List (T3 (T5 Str Str Str Int Str) Str (List Str)))), lstA p41 (cutL v_law_cards (some (x3 + 1)) none : (List (T3 (T5 Str Str Str Int Str) Str (List Str)))), lstA p40 (cutL v_law_cards none (some (x3)) : (List (T3 (T5 Str Str Str Int Str) Str (List Str)))), imA (.ref a38) (x31 : (T3 (T5 Str Str Str Int Str) Str (List Str))), lstA p16 (y15 : (List Card)), imA (.ref a28) (x21 : Card), lstA p14 (y15 : (List Card)), lstA p12 (cutL v_law_made_here (some (x3 + 1)) none : (List Card)), lstA p11 (cutL v_law_made_here none (some (x3)) : (List Card)), imA a_v_law_tree (v_law_tree : Any), imA (.ref a_v_law_condition) (v_law_condition : Cond), lstA a_v_law_cards (v_law_cards : (List (T3 (T5 Str Str Str Int Str) Str (List Str)))), lstA a_v_law_made_here (v_law_made_here : (List Card)), F] : List (Asn G)) := Sep.star (M := [imA (.ref p65) (r64 : (T3 (T5 Str Str Str Int Str) Str (List Str)))]) hS
            exact kS () _ _ _ hm (hS.im (i := 0) rfl) (hS.sel [2, 3, 4, 5, 6, 7, 8, 9, 10, 11, 12, 13, 14, 15, 16, 17] (by decide) rfl)
          · revert hm hS; generalize t = t67; intro hm hS
            refine fz_no ?_
            obtain ⟨h68, hm⟩ := R.wp_need hm
            obtain ⟨h69, hm⟩ := R.wp_need hm
            refine ev_op2 (ev_neP (G := G) (x := (t56.2 : (List (T3 (T5 Str Str Str Int Str) Str (List Str))))) (y := t67.2) ev_c ev_c (dpOwn hS (i := 1) rfl) (dpOwn hS (i := 0) rfl) h68 h69 (Nat.le_of_ble_eq_true rfl)) ?_
            refine f_bl ?_
            refine ifK_2 (fun hb70 => ?_) (fun hb70 => ?_)
            · have hm := R.wp_ifY hm hb70
              refine c_ret ?_
              refine ev_to ev_c ?_
              exact (ho10 _ hm) _ (hS.sel [13, 14, 15] (by decide) rfl)
            · have hm := R.wp_ifN hm (by first | (rw [hb70]; decide) | simpa using hb70)
              refine st_nx ?_
              exact nx _ _ _ hm ⟨_, _, _, _, _, rfl, hS.sel [11, 12, 13, 14, 15] (by decide) rfl⟩
    · obtain ⟨w5, w6, w7, w8, w9, rfl, hS⟩ := hI
      refine sq_nx ?_
      refine c_ret ?_
      refine f_andV ?_
      refine c_op ?_
      refine c_methF ?_
      refine ev_to (ev_var rfl) ?_
      obtain ⟨dx71, fs72, hO73, hl74⟩ := cls_Cond (hS.im (i := 1) rfl)
      refine ⟨_, _, _, _, rfl, fam_Cond _, hO73, hl74 "tree" (by decide), ?_⟩
      refine ea_to ea_nil ?_
      refine ⟨a_v_law_condition, (v_law_condition : Cond), star [imA a_v_law_tree (v_law_tree : Any), imA (.ref a_v_law_condition) (v_law_condition : Cond), lstA a_v_law_cards (v_law_cards : (List (T3 (T5 Str Str Str Int Str) Str (List Str)))), lstA a_v_law_made_here (v_law_made_here : (List Card)), F], rfl, (hS.im (i := 1) rfl), rfl, Sep.unstar (M := []) (hS.sel [0, 1, 2, 3, 4] (by decide) rfl : Sep H (([] ++ [imA a_v_law_tree (v_law_tree : Any), imA (.ref a_v_law_condition) (v_law_condition : Cond), lstA a_v_law_cards (v_law_cards : (List (T3 (T5 Str Str Str Int Str) Str (List Str)))), lstA a_v_law_made_here (v_law_made_here : (List Card)), F] : List (Asn G)))), R.wp_mono (R.wp_bind hm) (fun r75 hm p76 H hS => ?_) (fun _ z => z)⟩
      have hS : Sep H ([imA p76 (r75 : Any), imA a_v_law_tree (v_law_tree : Any), imA (.ref a_v_law_condition) (v_law_condition : Cond), lstA a_v_law_cards (v_law_cards : (List (T3 (T5 Str Str Str Int Str) Str (List Str)))), lstA a_v_law_made_here (v_law_made_here : (List Card)), F] : List (Asn G)) := Sep.star (M := [imA p76 (r75 : Any)]) hS
      refine ev_to (ev_var rfl) ?_
      obtain ⟨b78, hb78, hm⟩ := wp_eqA hm
      refine ev_op2 (ev_eqA ev_c ev_c (hS.im (i := 0) rfl) (hS.im (i := 1) rfl) hb78) ?_
      refine andVK_J hm hS (fun hb q hm nx => ?_) (fun b79 H hm hS => ?_)
      ·
        obtain ⟨d80, fs81, hc82⟩ := any_of_cls (cls_Cond (hS.im (i := 2) rfl))
        refine ev_to (ev_isD (ev_var rfl) ev_c hc82 (T.tc_Cond_Condition (fam_Cond _))) ?_
        exact nx _ _ hm (hS.sel [0, 1, 2, 3, 4, 5] (by decide) rfl)
      ·
        exact hm _ (hS.sel [3, 4, 5] (by decide) rfl)
def sp_law (G : Gx) : Sp := fun vs H Q E => ∃ (a_v_law_script : V) (v_law_script : Script) (F : Asn G), vs = [a_v_law_script] ∧ Im.im G H a_v_law_script v_law_script ∧ Sep H ([F] : List (Asn G)) ∧ R.wp (m_law v_law_script) (fun r => ∀ H', Sep H' ([F] : List (Asn G)) → Q (.bl (r)) H') (fun _ => False)
abbrev N_law : List Str := ["_law_script", "_law_cells", "_law_shape", "_law_k", "_law_cards", "_law_card", "_law_made_here", "_law_tree", "_law_other", "_law_first", "_law_second"]
theorem sc_law : FnScope N_law ["_law_script"] (defScope s_law) := ⟨rfl, rfl, rfl, by decide +kernel, rfl, by decide +kernel, by decide +kernel⟩
theorem ok_law (T : Txt G mg) : FnOk P w G.K mg base CX0 19 T.a_law T.fd_law ["_law_script"] (sp_law G) := by
  have nd := sc_law.nd
  refine Fun.ok T.F_law sc_law (fun vs H Q E h => ?_) (fun cdv A outer s H vs Q E hr h => ?_)
  · obtain ⟨a_v_law_script, v_law_script, F, rfl, _⟩ := h; rfl
  · obtain ⟨a_v_law_script, v_law_script, F, rfl, him_v_law_script, hS, hm⟩ := h
    obtain ⟨ad_v_law_script, rfl, _⟩ := im_script him_v_law_script
    have hS := hS.addIm him_v_law_script
    refine ⟨_, (pss_cons (ps_set (i := 1) nd rfl (Or.inr rfl) (pe_fz (pe_call (ok_law_mixed T) (hr.mono (by decide)) rfl T.g_law_mixed T.kp_law_mixed T.b_law_mixed .nil pass0 (pa_cons (pv 0) (pa_cons pe_int (pa_cons pe_int pa_nil))))))
      (pss_cons (ps_set (i := 2) nd rfl (Or.inr rfl) (pe_ix (ix_listK G.K) (pe_fz (pv 1)) pe_int (fun _ _ => rfl)))
      (pss_cons (ps_setLc (i := 4) (own := [("_law_k", 3)]) (g := gName 3) rfl nd rfl rfl (sw_true rfl rfl rfl (by decide +kernel)) (pi_range1 rfl T.z_range (pa_cons (pe_op op_add pe_int (pe_op op_mod (pe_ix (ix_listK G.K) (pe_fz (pv 1)) pe_int (fun _ _ => rfl)) pe_int)) pa_nil)) (blkOk_by (own := [("_law_k", 3)]) (N := N_law) (sc := defScope s_law) (by decide +kernel)) (fun _ _ _ _ _ => pg_name (i := 3) nd rfl (Or.inl rfl)) (fun _ _ _ _ _ => pts_nil) (fun _ _ _ _ _ => (pe_call (ok_law_card_by T) (hr.mono (by decide)) rfl T.g_law_card_by T.kp_law_card_by T.b_law_card_by .nil pass0 (pa_cons (pv 2) (pa_cons (pe_fz (pe_slice (sl_listK G.K) (pe_fz (pv 1)) (po_some (pe_op op_mul pe_int (pv 3))) (po_some (pe_op op_add (pe_op op_mul pe_int (pv 3)) pe_int)))) pa_nil)))))
      (pss_cons (ps_setLc (i := 6) (own := [("_law_card", 5)]) (g := gName 5) rfl nd rfl rfl (sw_true rfl rfl rfl (by decide +kernel)) (pi_listK G.K (pe_fz (pv 4))) (blkOk_by (own := [("_law_card", 5)]) (N := N_law) (sc := defScope s_law) (by decide +kernel)) (fun _ _ _ _ _ => pg_name (i := 5) nd rfl (Or.inl rfl)) (fun _ _ _ _ _ => pts_nil) (fun _ _ _ _ _ => (pe_call (ok_law_made T) (hr.mono (by decide)) rfl T.g_law_made T.kp_law_made T.b_law_made .nil pass0 (pa_cons (pv 5) pa_nil))))
      (pss_cons (ps_set (i := 7) nd rfl (Or.inl rfl) (pe_call (ok_law_tree_by T) (hr.mono (by decide)) rfl T.g_law_tree_by T.kp_law_tree_by T.b_law_tree_by .nil pass0 (pa_cons (pv 2) (pa_cons (pe_fz (pe_slice (sl_listK G.K) (pe_fz (pv 1)) (po_some pe_int) (po_some (pe_op op_add pe_int (pe_op op_mod (pe_op op_fdiv (pe_ix (ix_listK G.K) (pe_fz (pv 1)) pe_int (fun _ _ => rfl)) pe_int) pe_int))))) pa_nil))))
      (pss_cons (ps_set (i := 8) nd rfl (Or.inl rfl) (pe_call (ok_law_tree_by T) (hr.mono (by decide)) rfl T.g_law_tree_by T.kp_law_tree_by T.b_law_tree_by .nil pass0 (pa_cons (pv 2) (pa_cons (pe_fz (pe_slice (sl_listK G.K) (pe_fz (pv 1)) (po_some pe_int) (po_some (pe_op op_add pe_int (pe_op op_mod (pe_op op_fdiv (pe_ix (ix_listK G.K) (pe_fz (pv 1)) pe_int (fun _ _ => rfl)) pe_int) pe_int))))) pa_nil))))
      (pss_cons (ps_set (i := 9) nd rfl (Or.inl rfl) (pe_call (ok_condition_of T 12) (hr.mono (by decide)) rfl T.g_condition_of T.kp_condition_of T.b_condition_of .nil pass0 (pa_cons (pv 7) pa_nil)))
      (pss_cons (ps_set (i := 10) nd rfl (Or.inl rfl) (pe_call (ok_condition_of T 12) (hr.mono (by decide)) rfl T.g_condition_of T.kp_condition_of T.b_condition_of .nil pass0 (pa_cons (pv 8) pa_nil)))
      (pss_cons (ps_if (PW.pt (pw_or (pt_not (pt_val (pe_call (ok_law_told T) (hr.mono (by decide)) rfl T.g_law_told T.kp_law_told T.b_law_told .nil pass0 (pa_cons (pv 9) (pa_cons (pv 7) (pa_cons (pe_fz (pv 4)) (pa_cons (pe_fz (pv 6)) pa_nil))))))) (pw_or1 (pt_not (pt_val (pe_call (ok_law_told T) (hr.mono (by decide)) rfl T.g_law_told T.kp_law_told T.b_law_told .nil pass0 (pa_cons (pv 10) (pa_cons (pv 8) (pa_cons (pe_fz (pv 4)) (pa_cons (pe_fz (pv 6)) pa_nil)))))))))) (pss_one (ps_ret pe_bl)) pss_nil)
      (pss_one (ps_ret (pe_call (ok_law_told T) (hr.mono (by decide)) rfl T.g_law_told T.kp_law_told T.b_law_told .nil pass0 (pa_cons (pv 9) (pa_cons (pv 7) (pa_cons (pe_fz (pv 4)) (pa_cons (pe_fz (pv 6)) pa_nil)))))))))))))))), ?_⟩
    unfold m_law at hm
    refine f_seq ?_
    refine c_asg ?_
    refine c_fz ?_
    refine c_call ?_
    refine ea_to (ea_cons (ev_var rfl) (ea_cons ev_c (ea_cons ev_c ea_nil))) ?_
    refine ⟨_, v_law_script, 0, 52, star [imA (.ref ad_v_law_script) v_law_script, F], rfl, (hS.im (i := 0) rfl), Sep.unstar (M := []) (hS.sel [0, 1] (by decide) rfl : Sep H (([] ++ [imA (.ref ad_v_law_script) v_law_script, F] : List (Asn G)))), R.wp_mono (R.wp_bind hm) (fun r1 hm p2 H hS => ?_) (fun _ z => z)⟩
    have hS : Sep H ([lstA p2 (r1 : (List Int)), imA (.ref ad_v_law_script) v_law_script, F] : List (Asn G)) := Sep.star (M := [lstA p2 (r1 : (List Int))]) hS
    refine fz_no ?_
    refine c_set (σ' := [some (.ref ad_v_law_script), some (.ref p2), none, none, none, none, none, none, none, none, none]) rfl ?_
    refine sq_nx ?_
    refine f_seq ?_
    refine c_asg ?_
    obtain ⟨x3, hx3, hm⟩ := wp_idx hm
    refine ev_to (ev_ixSq (ev_fz (ev_var rfl)) ev_c (hS.sqF (i := 0) rfl) (atI_map hx3)) ?_
    refine c_set (σ' := [some (.ref ad_v_law_script), some (.ref p2), some (.int (x3)), none, none, none, none, none, none, none, none]) rfl ?_
    refine sq_nx ?_
    refine f_seq ?_
    refine c_asg ?_
    refine c_lc ?_
    refine c_rng1 ?_
    obtain ⟨x4, hx4, hm⟩ := wp_idx hm
    refine ea_to (ea_cons (ev_add ev_c (ev_mod (ev_ixSq (ev_fz (ev_var rfl)) ev_c (hS.sqF (i := 0) rfl) (atI_map hx4)) ev_c (by decide))) ea_nil) ?_
    obtain ⟨h5, hm⟩ := R.wp_need hm
    refine k_rng1 h5.1 h5.2 ?_
    obtain ⟨h6, hm⟩ := R.wp_need hm
    refine lc_sep (β := (T3 (T5 Str Str Str Int Str) Str (List Str))) (fun (_ : Unit) => ([lstA p2 (r1 : (List Int)), imA (.ref ad_v_law_script) v_law_script, F] : List (Asn G))) (s := ()) (im := (fun _ v (x : Int) => v = .int x)) hS (fun _ _ _ => wk_range) h6 hm (fun p7 _ ys10 x8 v9 H q Nx hS hx hm kS kN => ?_) (fun p7 t H hm hS => ?_)
    ·
      cases hx
      refine c_gLc (σ' := [some (.ref ad_v_law_script), some (.ref p2), some (.int (x3)), some (.int (x8)), none, none, none, none, none, none, none]) rfl rfl ?_
      refine c_yes ?_
      refine c_call ?_
      refine c_cons ?_
      refine ev_to (ev_var rfl) ?_
      refine c_cons ?_
      refine c_fz ?_
      refine c_sl ?_
      refine ev_to (ev_fz (ev_var rfl)) ?_
      refine eo_to (eo_some (ev_mul ev_c (ev_var rfl) (.inl (by constructor <;> decide)))) ?_
      refine eo_to (eo_some (ev_add (ev_mul ev_c (ev_var rfl) (.inl (by constructor <;> decide))) ev_c)) ?_
      refine k_slG hS (hS.sq (i := 1) rfl) fun p11 H hS => ?_
      refine fz_no ?_
      refine c_nil ?_
      refine ⟨x3, p11, (cutL r1 (some (10 * x8)) (some ((10 * x8) + 10)) : (List Int)), star [lstA p7 (ys10 : List (T3 (T5 Str Str Str Int Str) Str (List Str))), lstA p2 (r1 : (List Int)), imA (.ref ad_v_law_script) v_law_script, F], rfl, Sep.unstar (M := [lstA p11 (cutL r1 (some (10 * x8)) (some ((10 * x8) + 10)) : (List Int))]) (hS.sel [0, 1, 2, 3, 4] (by decide) rfl : Sep H (([lstA p11 (cutL r1 (some (10 * x8)) (some ((10 * x8) + 10)) : (List Int))] ++ [lstA p7 (ys10 : List (T3 (T5 Str Str Str Int Str) Str (List Str))), lstA p2 (r1 : (List Int)), imA (.ref ad_v_law_script) v_law_script, F] : List (Asn G)))), R.wp_mono (R.wp_bind hm) (fun r12 hm p13 H hS => ?_) (fun _ z => z)⟩
      have hS : Sep H ([imA (.ref p13) (r12 : (T3 (T5 Str Str Str Int Str) Str (List Str))), lstA p11 (cutL r1 (some (10 * x8)) (some ((10 * x8) + 10)) : (List Int)), lstA p7 (ys10 : List (T3 (T5 Str Str Str Int Str) Str (List Str))), lstA p2 (r1 : (List Int)), imA (.ref ad_v_law_script) v_law_script, F] : List (Asn G)) := Sep.star (M := [imA (.ref p13) (r12 : (T3 (T5 Str Str Str Int Str) Str (List Str))), lstA p11 (cutL r1 (some (10 * x8)) (some ((10 * x8) + 10)) : (List Int))]) hS
      exact kS () _ _ _ hm (hS.im (i := 0) rfl) (hS.sel [2, 3, 4, 5] (by decide) rfl)
    · revert hm hS; generalize t = t15; intro hm hS
      refine c_set (σ' := [some (.ref ad_v_law_script), some (.ref p2), some (.int (x3)), none, some (.ref p7), none, none, none, none, none, none]) rfl ?_
      refine sq_nx ?_
      refine f_seq ?_
      refine c_asg ?_
      refine c_lc ?_
      refine c_il ?_
      refine ev_to (ev_fz (ev_var rfl)) ?_
      refine k_il hS (i := 0) rfl ?_
      obtain ⟨h16, hm⟩ := R.wp_need hm
      refine lc_sep (β := Card) (fun (_ : Unit) => ([lstA p7 (t15.2 : (List (T3 (T5 Str Str Str Int Str) Str (List Str)))), lstA p2 (r1 : (List Int)), imA (.ref ad_v_law_script) v_law_script, F] : List (Asn G))) (s := ()) (im := (Im.im G)) hS (fun _ _ _ => wk_list fun _ _ h => h.sq (i := 1) rfl) h16 hm (fun p17 _ ys20 x18 v19 H q Nx hS hx hm kS kN => ?_) (fun p17 t H hm hS => ?_)
      ·
        obtain ⟨a21, rfl⟩ := isref hx
        have hS := hS.addIm (v := (.ref a21)) (x := (x18 : (T3 (T5 Str Str Str Int Str) Str (List Str)))) hx
        refine c_gLc (σ' := [some (.ref ad_v_law_script), some (.ref p2), some (.int (x3)), none, some (.ref p7), some (.ref a21), none, none, none, none, none]) rfl rfl ?_
        refine c_yes ?_
        refine c_call ?_
        refine ea_to (ea_cons (ev_var rfl) ea_nil) ?_
        refine ⟨a21, (x18 : (T3 (T5 Str Str Str Int Str) Str (List Str))), star [imA (.ref a21) (x18 : (T3 (T5 Str Str Str Int Str) Str (List Str))), lstA p17 (ys20 : List Card), lstA p7 (t15.2 : (List (T3 (T5 Str Str Str Int Str) Str (List Str)))), lstA p2 (r1 : (List Int)), imA (.ref ad_v_law_script) v_law_script, F], rfl, (hS.im (i := 0) rfl), Sep.unstar (M := []) (hS.sel [0, 1, 2, 3, 4, 5] (by decide) rfl : Sep H (([] ++ [imA (.ref a21) (x18 : (T3 (T5 Str Str Str Int Str) Str (List Str))), lstA p17 (ys20 : List Card), lstA p7 (t15.2 : (List (T3 (T5 Str Str Str Int Str) Str (List Str)))), lstA p2 (r1 : (List Int)), imA (.ref ad_v_law_script) v_law_script, F] : List (Asn G)))), R.wp_mono (R.wp_bind hm) (fun r23 hm p24 H hS => ?_) (fun _ z => z)⟩
        have hS : Sep H ([imA (.ref p24) (r23 : Card), imA (.ref a21) (x18 : (T3 (T5 Str Str Str Int Str) Str (List Str))), lstA p17 (ys20 : List Card), lstA p7 (t15.2 : (List (T3 (T5 Str Str Str Int Str) Str (List Str)))), lstA p2 (r1 : (List Int)), imA (.ref ad_v_law_script) v_law_script, F] : List (Asn G)) := Sep.star (M := [imA (.ref p24) (r23 : Card)]) hS
        exact kS () _ _ _ hm (hS.im (i := 0) rfl) (hS.sel [2, 3, 4, 5, 6] (by decide) rfl)
      · revert hm hS; generalize t = t26; intro hm hS
        refine c_set (σ' := [some (.ref ad_v_law_script), some (.ref p2), some (.int (x3)), none, some (.ref p7), none, some (.ref p17), none, none, none, none]) rfl ?_
        refine sq_nx ?_
        refine f_seq ?_
        refine c_asg ?_
        refine c_call ?_
        refine c_cons ?_
        refine ev_to (ev_var rfl) ?_
        refine c_cons ?_
        refine c_fz ?_
        refine c_sl ?_
        refine ev_to (ev_fz (ev_var rfl)) ?_
        obtain ⟨x27, hx27, hm⟩ := wp_idx hm
        refine eo_to (eo_some ev_c) ?_
        refine eo_to (eo_some (ev_add ev_c (ev_mod (ev_fdiv (ev_ixSq (ev_fz (ev_var rfl)) ev_c (hS.sqF (i := 2) rfl) (atI_map hx27)) ev_c ⟨by decide, by decide⟩) ev_c (by decide)))) ?_
        refine k_slG hS (hS.sq (i := 2) rfl) fun p28 H hS => ?_
        refine fz_no ?_
        refine c_nil ?_
        refine ⟨x3, p28, (cutL r1 (some (40)) (some (41 + ((x27 / 4) % 7))) : (List Int)), star [lstA p17 (t26.2 : (List Card)), lstA p7 (t15.2 : (List (T3 (T5 Str Str Str Int Str) Str (List Str)))), lstA p2 (r1 : (List Int)), imA (.ref ad_v_law_script) v_law_script, F], rfl, Sep.unstar (M := [lstA p28 (cutL r1 (some (40)) (some (41 + ((x27 / 4) % 7))) : (List Int))]) (hS.sel [0, 1, 2, 3, 4, 5] (by decide) rfl : Sep H (([lstA p28 (cutL r1 (some (40)) (some (41 + ((x27 / 4) % 7))) : (List Int))] ++ [lstA p17 (t26.2 : (List Card)), lstA p7 (t15.2 : (List (T3 (T5 Str Str Str Int Str) Str (List Str)))), lstA p2 (r1 : (List Int)), imA (.ref ad_v_law_script) v_law_script, F] : List (Asn G)))), R.wp_mono (R.wp_bind hm) (fun r29 hm p30 H hS => ?_) (fun _ z => z)⟩
        have hS : Sep H ([imA p30 (r29 : Any), lstA p28 (cutL r1 (some (40)) (some (41 + ((x27 / 4) % 7))) : (List Int)), lstA p17 (t26.2 : (List Card)), lstA p7 (t15.2 : (List (T3 (T5 Str Str Str Int Str) Str (List Str)))), lstA p2 (r1 : (List Int)), imA (.ref ad_v_law_script) v_law_script, F] : List (Asn G)) := Sep.star (M := [imA p30 (r29 : Any), lstA p28 (cutL r1 (some (40)) (some (41 + ((x27 / 4) % 7))) : (List Int))]) hS
        refine c_set (σ' := [some (.ref ad_v_law_script), some (.ref p2), some (.int (x3)), none, some (.ref p7), none, some (.ref p17), some p30, none, none, none]) rfl ?_
        refine sq_nx ?_
        refine f_seq ?_
        refine c_asg ?_
        refine c_call ?_
        refine c_cons ?_
        refine ev_to (ev_var rfl) ?_
        refine c_cons ?_
        refine c_fz ?_
        refine c_sl ?_
        refine ev_to (ev_fz (ev_var rfl)) ?_
        obtain ⟨x32, hx32, hm⟩ := wp_idx hm
        refine eo_to (eo_some ev_c) ?_
        refine eo_to (eo_some (ev_add ev_c (ev_mod (ev_fdiv (ev_ixSq (ev_fz (ev_var rfl)) ev_c (hS.sqF (i := 4) rfl) (atI_map hx32)) ev_c ⟨by decide, by decide⟩) ev_c (by decide)))) ?_
        refine k_slG hS (hS.sq (i := 4) rfl) fun p33 H hS => ?_
        refine fz_no ?_
        refine c_nil ?_
        refine ⟨x3, p33, (cutL r1 (some (43)) (some (45 + ((x32 / 28) % 4))) : (List Int)), star [imA p30 (r29 : Any), lstA p28 (cutL r1 (some (40)) (some (41 + ((x27 / 4) % 7))) : (List Int)), lstA p17 (t26.2 : (List Card)), lstA p7 (t15.2 : (List (T3 (T5 Str Str Str Int Str) Str (List Str)))), lstA p2 (r1 : (List Int)), imA (.ref ad_v_law_script) v_law_script, F], rfl, Sep.unstar (M := [lstA p33 (cutL r1 (some (43)) (some (45 + ((x32 / 28) % 4))) : (List Int))]) (hS.sel [0, 1, 2, 3, 4, 5, 6, 7] (by decide) rfl : Sep H (([lstA p33 (cutL r1 (some (43)) (some (45 + ((x32 / 28) % 4))) : (List Int))] ++ [imA p30 (r29 : Any), lstA p28 (cutL r1 (some (40)) (some (41 + ((x27 / 4) % 7))) : (List Int)), lstA p17 (t26.2 : (List Card)), lstA p7 (t15.2 : (List (T3 (T5 Str Str Str Int Str) Str (List Str)))), lstA p2 (r1 : (List Int)), imA (.ref ad_v_law_script) v_law_script, F] : List (Asn G)))), R.wp_mono (R.wp_bind hm) (fun r34 hm p35 H hS => ?_) (fun _ z => z)⟩
        have hS : Sep H ([imA p35 (r34 : Any), lstA p33 (cutL r1 (some (43)) (some (45 + ((x32 / 28) % 4))) : (List Int)), imA p30 (r29 : Any), lstA p28 (cutL r1 (some (40)) (some (41 + ((x27 / 4) % 7))) : (List Int)), lstA p17 (t26.2 : (List Card)), lstA p7 (t15.2 : (List (T3 (T5 Str Str Str Int Str) Str (List Str)))), lstA p2 (r1 : (List Int)), imA (.ref ad_v_law_script) v_law_script, F] : List (Asn G)) := Sep.star (M := [imA p35 (r34 : Any), lstA p33 (cutL r1 (some (43)) (some (45 + ((x32 / 28) % 4))) : (List Int))]) hS
        refine c_set (σ' := [some (.ref ad_v_law_script), some (.ref p2), some (.int (x3)), none, some (.ref p7), none, some (.ref p17), some p30, some p35, none, none]) rfl ?_
        refine sq_nx ?_
        refine f_seq ?_
        refine c_asg ?_
        refine c_call ?_
        refine ea_to (ea_cons (ev_var rfl) ea_nil) ?_
        refine ⟨p30, (r29 : Any), star [imA p35 (r34 : Any), lstA p33 (cutL r1 (some (43)) (some (45 + ((x32 / 28) % 4))) : (List Int)), imA p30 (r29 : Any), lstA p28 (cutL r1 (some (40)) (some (41 + ((x27 / 4) % 7))) : (List Int)), lstA p17 (t26.2 : (List Card)), lstA p7 (t15.2 : (List (T3 (T5 Str Str Str Int Str) Str (List Str)))), lstA p2 (r1 : (List Int)), imA (.ref ad_v_law_script) v_law_script, F], rfl, (hS.im (i := 2) rfl), Sep.unstar (M := []) (hS.sel [0, 1, 2, 3, 4, 5, 6, 7, 8] (by decide) rfl : Sep H (([] ++ [imA p35 (r34 : Any), lstA p33 (cutL r1 (some (43)) (some (45 + ((x32 / 28) % 4))) : (List Int)), imA p30 (r29 : Any), lstA p28 (cutL r1 (some (40)) (some (41 + ((x27 / 4) % 7))) : (List Int)), lstA p17 (t26.2 : (List Card)), lstA p7 (t15.2 : (List (T3 (T5 Str Str Str Int Str) Str (List Str)))), lstA p2 (r1 : (List Int)), imA (.ref ad_v_law_script) v_law_script, F] : List (Asn G)))), R.wp_mono (R.wp_bind hm) (fun r37 hm p38 H hS => ?_) (fun _ z => z)⟩
        have hS : Sep H ([imA (.ref p38) (r37 : Cond), imA p35 (r34 : Any), lstA p33 (cutL r1 (some (43)) (some (45 + ((x32 / 28) % 4))) : (List Int)), imA p30 (r29 : Any), lstA p28 (cutL r1 (some (40)) (some (41 + ((x27 / 4) % 7))) : (List Int)), lstA p17 (t26.2 : (List Card)), lstA p7 (t15.2 : (List (T3 (T5 Str Str Str Int Str) Str (List Str)))), lstA p2 (r1 : (List Int)), imA (.ref ad_v_law_script) v_law_script, F] : List (Asn G)) := Sep.star (M := [imA (.ref p38) (r37 : Cond)]) hS
        refine c_set (σ' := [some (.ref ad_v_law_script), some (.ref p2), some (.int (x3)), none, some (.ref p7), none, some (.ref p17), some p30, some p35, some (.ref p38), none]) rfl ?_
        refine sq_nx ?_
        refine f_seq ?_
        refine c_asg ?_
        refine c_call ?_
        refine ea_to (ea_cons (ev_var rfl) ea_nil) ?_
        refine ⟨p35, (r34 : Any), star [imA (.ref p38) (r37 : Cond), imA p35 (r34 : Any), lstA p33 (cutL r1 (some (43)) (some (45 + ((x32 / 28) % 4))) : (List Int)), imA p30 (r29 : Any), lstA p28 (cutL r1 (some (40)) (some (41 + ((x27 / 4) % 7))) : (List Int)), lstA p17 (t26.2 : (List Card)), lstA p7 (t15.2 : (List (T3 (T5 Str Str Str Int Str) Str (List Str)))), lstA p2 (r1 : (List Int)), imA (.ref ad_v_law_script) v_law_script, F], rfl, (hS.im (i := 1) rfl), Sep.unstar (M := []) (hS.sel [0, 1, 2, 3, 4, 5, 6, 7, 8, 9] (by decide) rfl : Sep H (([] ++ [imA (.ref p38) (r37 : Cond), imA p35 (r34 : Any), lstA p33 (cutL r1 (some (43)) (some (45 + ((x32 / 28) % 4))) : (List Int)), imA p30 (r29 : Any), lstA p28 (cutL r1 (some (40)) (some (41 + ((x27 / 4) % 7))) : (List Int)), lstA p17 (t26.2 : (List Card)), lstA p7 (t15.2 : (List (T3 (T5 Str Str Str Int Str) Str (List Str)))), lstA p2 (r1 : (List Int)), imA (.ref ad_v_law_script) v_law_script, F] : List (Asn G)))), R.wp_mono (R.wp_bind hm) (fun r40 hm p41 H hS => ?_) (fun _ z => z)⟩
        have hS : Sep H ([imA (.ref p41) (r40 : Cond), imA (.ref p38) (r37 : Cond), imA p35 (r34 : Any), lstA p33 (cutL r1 (some (43)) (some (45 + ((x32 / 28) % 4))) : (List Int)), imA p30 (r29 : Any), lstA p28 (cutL r1 (some (40)) (some (41 + ((x27 / 4) % 7))) : (List Int)), lstA p17 (t26.2 : (List Card)), lstA p7 (t15.2 : (List (T3 (T5 Str Str Str Int Str) Str (List Str)))), lstA p2 (r1 : (List Int)), imA (.ref ad_v_law_script) v_law_script, F] : List (Asn G)) := Sep.star (M := [imA (.ref p41) (r40 : Cond)]) hS
        refine c_set (σ' := [some (.ref ad_v_law_script), some (.ref p2), some (.int (x3)), none, some (.ref p7), none, some (.ref p17), some p30, some p35, some (.ref p38), some (.ref p41)]) rfl ?_
        refine sq_nx ?_
        refine f_seq ?_
        refine f_if ?_
        refine f_or ?_
        refine f_not ?_
        refine f_B ?_
        refine c_call ?_
        refine ea_to (ea_cons (ev_var rfl) (ea_cons (ev_var rfl) (ea_cons (ev_fz (ev_var rfl)) (ea_cons (ev_fz (ev_var rfl)) ea_nil)))) ?_
        refine ⟨p38, (r37 : Cond), p30, (r29 : Any), p7, (t15.2 : (List (T3 (T5 Str Str Str Int Str) Str (List Str)))), p17, (t26.2 : (List Card)), star [imA (.ref p41) (r40 : Cond), imA (.ref p38) (r37 : Cond), imA p35 (r34 : Any), lstA p33 (cutL r1 (some (43)) (some (45 + ((x32 / 28) % 4))) : (List Int)), imA p30 (r29 : Any), lstA p28 (cutL r1 (some (40)) (some (41 + ((x27 / 4) % 7))) : (List Int)), lstA p2 (r1 : (List Int)), imA (.ref ad_v_law_script) v_law_script, F], rfl, (hS.im (i := 1) rfl), (hS.im (i := 4) rfl), Sep.unstar (M := [lstA p7 (t15.2 : (List (T3 (T5 Str Str Str Int Str) Str (List Str)))), lstA p17 (t26.2 : (List Card))]) (hS.sel [7, 6, 0, 1, 2, 3, 4, 5, 8, 9, 10] (by decide) rfl : Sep H (([lstA p7 (t15.2 : (List (T3 (T5 Str Str Str Int Str) Str (List Str)))), lstA p17 (t26.2 : (List Card))] ++ [imA (.ref p41) (r40 : Cond), imA (.ref p38) (r37 : Cond), imA p35 (r34 : Any), lstA p33 (cutL r1 (some (43)) (some (45 + ((x32 / 28) % 4))) : (List Int)), imA p30 (r29 : Any), lstA p28 (cutL r1 (some (40)) (some (41 + ((x27 / 4) % 7))) : (List Int)), lstA p2 (r1 : (List Int)), imA (.ref ad_v_law_script) v_law_script, F] : List (Asn G)))), R.wp_mono (R.wp_bind hm) (fun r43 hm H hS => ?_) (fun _ z => z)⟩
        have hS : Sep H ([lstA p7 (t15.2 : (List (T3 (T5 Str Str Str Int Str) Str (List Str)))), lstA p17 (t26.2 : (List Card)), imA (.ref p41) (r40 : Cond), imA (.ref p38) (r37 : Cond), imA p35 (r34 : Any), lstA p33 (cutL r1 (some (43)) (some (45 + ((x32 / 28) % 4))) : (List Int)), imA p30 (r29 : Any), lstA p28 (cutL r1 (some (40)) (some (41 + ((x27 / 4) % 7))) : (List Int)), lstA p2 (r1 : (List Int)), imA (.ref ad_v_law_script) v_law_script, F] : List (Asn G)) := Sep.star (M := [lstA p7 (t15.2 : (List (T3 (T5 Str Str Str Int Str) Str (List Str)))), lstA p17 (t26.2 : (List Card))]) hS
        refine f_bl ?_
        refine f_nK ?_
        refine orK_J hm hS (fun hb q hm nx => ?_) (fun b44 H hm hS => ?_)
        ·
          refine f_not ?_
          refine f_B ?_
          refine c_call ?_
          refine ea_to (ea_cons (ev_var rfl) (ea_cons (ev_var rfl) (ea_cons (ev_fz (ev_var rfl)) (ea_cons (ev_fz (ev_var rfl)) ea_nil)))) ?_
          refine ⟨p41, (r40 : Cond), p35, (r34 : Any), p7, (t15.2 : (List (T3 (T5 Str Str Str Int Str) Str (List Str)))), p17, (t26.2 : (List Card)), star [imA (.ref p41) (r40 : Cond), imA (.ref p38) (r37 : Cond), imA p35 (r34 : Any), lstA p33 (cutL r1 (some (43)) (some (45 + ((x32 / 28) % 4))) : (List Int)), imA p30 (r29 : Any), lstA p28 (cutL r1 (some (40)) (some (41 + ((x27 / 4) % 7))) : (List Int)), lstA p2 (r1 : (List Int)), imA (.ref ad_v_law_script) v_law_script, F], rfl, (hS.im (i := 2) rfl), (hS.im (i := 4) rfl), Sep.unstar (M := [lstA p7 (t15.2 : (List (T3 (T5 Str Str Str Int Str) Str (List Str)))), lstA p17 (t26.2 : (List Card))]) (hS.sel [0, 1, 2, 3, 4, 5, 6, 7, 8, 9, 10] (by decide) rfl : Sep H (([lstA p7 (t15.2 : (List (T3 (T5 Str Str Str Int Str) Str (List Str)))), lstA p17 (t26.2 : (List Card))] ++ [imA (.ref p41) (r40 : Cond), imA (.ref p38) (r37 : Cond), imA p35 (r34 : Any), lstA p33 (cutL r1 (some (43)) (some (45 + ((x32 / 28) % 4))) : (List Int)), imA p30 (r29 : Any), lstA p28 (cutL r1 (some (40)) (some (41 + ((x27 / 4) % 7))) : (List Int)), lstA p2 (r1 : (List Int)), imA (.ref ad_v_law_script) v_law_script, F] : List (Asn G)))), R.wp_mono (R.wp_bind hm) (fun r45 hm H hS => ?_) (fun _ z => z)⟩
          have hS : Sep H ([lstA p7 (t15.2 : (List (T3 (T5 Str Str Str Int Str) Str (List Str)))), lstA p17 (t26.2 : (List Card)), imA (.ref p41) (r40 : Cond), imA (.ref p38) (r37 : Cond), imA p35 (r34 : Any), lstA p33 (cutL r1 (some (43)) (some (45 + ((x32 / 28) % 4))) : (List Int)), imA p30 (r29 : Any), lstA p28 (cutL r1 (some (40)) (some (41 + ((x27 / 4) % 7))) : (List Int)), lstA p2 (r1 : (List Int)), imA (.ref ad_v_law_script) v_law_script, F] : List (Asn G)) := Sep.star (M := [lstA p7 (t15.2 : (List (T3 (T5 Str Str Str Int Str) Str (List Str)))), lstA p17 (t26.2 : (List Card))]) hS
          refine f_bl ?_
          refine f_nK ?_
          exact nx _ _ hm (hS.sel [0, 1, 2, 3, 4, 5, 6, 7, 8, 9, 10] (by decide) rfl)
        ·
          refine ifK_2 (fun hb46 => ?_) (fun hb46 => ?_)
          · have hm := R.wp_ifY hm hb46
            refine c_ret ?_
            refine ev_to ev_c ?_
            exact hm _ (hS.sel [10] (by decide) rfl)
          · have hm := R.wp_ifN hm (by first | (rw [hb46]; decide) | simpa using hb46)
            refine st_nx ?_
            refine sq_nx ?_
            refine c_ret ?_
            refine c_call ?_
            refine ea_to (ea_cons (ev_var rfl) (ea_cons (ev_var rfl) (ea_cons (ev_fz (ev_var rfl)) (ea_cons (ev_fz (ev_var rfl)) ea_nil)))) ?_
            refine ⟨p38, (r37 : Cond), p30, (r29 : Any), p7, (t15.2 : (List (T3 (T5 Str Str Str Int Str) Str (List Str)))), p17, (t26.2 : (List Card)), star [imA (.ref p41) (r40 : Cond), imA (.ref p38) (r37 : Cond), imA p35 (r34 : Any), lstA p33 (cutL r1 (some (43)) (some (45 + ((x32 / 28) % 4))) : (List Int)), imA p30 (r29 : Any), lstA p28 (cutL r1 (some (40)) (some (41 + ((x27 / 4) % 7))) : (List Int)), lstA p2 (r1 : (List Int)), imA (.ref ad_v_law_script) v_law_script, F], rfl, (hS.im (i := 3) rfl), (hS.im (i := 6) rfl), Sep.unstar (M := [lstA p7 (t15.2 : (List (T3 (T5 Str Str Str Int Str) Str (List Str)))), lstA p17 (t26.2 : (List Card))]) (hS.sel [0, 1, 2, 3, 4, 5, 6, 7, 8, 9, 10] (by decide) rfl : Sep H (([lstA p7 (t15.2 : (List (T3 (T5 Str Str Str Int Str) Str (List Str)))), lstA p17 (t26.2 : (List Card))] ++ [imA (.ref p41) (r40 : Cond), imA (.ref p38) (r37 : Cond), imA p35 (r34 : Any), lstA p33 (cutL r1 (some (43)) (some (45 + ((x32 / 28) % 4))) : (List Int)), imA p30 (r29 : Any), lstA p28 (cutL r1 (some (40)) (some (41 + ((x27 / 4) % 7))) : (List Int)), lstA p2 (r1 : (List Int)), imA (.ref ad_v_law_script) v_law_script, F] : List (Asn G)))), R.wp_mono (R.wp_bind hm) (fun r47 hm H hS => ?_) (fun _ z => z)⟩
            have hS : Sep H ([lstA p7 (t15.2 : (List (T3 (T5 Str Str Str Int Str) Str (List Str)))), lstA p17 (t26.2 : (List Card)), imA (.ref p41) (r40 : Cond), imA (.ref p38) (r37 : Cond), imA p35 (r34 : Any), lstA p33 (cutL r1 (some (43)) (some (45 + ((x32 / 28) % 4))) : (List Int)), imA p30 (r29 : Any), lstA p28 (cutL r1 (some (40)) (some (41 + ((x27 / 4) % 7))) : (List Int)), lstA p2 (r1 : (List Int)), imA (.ref ad_v_law_script) v_law_script, F] : List (Asn G)) := Sep.star (M := [lstA p7 (t15.2 : (List (T3 (T5 Str Str Str Int Str) Str (List Str)))), lstA p17 (t26.2 : (List Card))]) hS
            exact hm _ (hS.sel [10] (by decide) rfl)
end
end Lw
namespace Lw
open PySem PySem.Spec PyProof.Rows L2 Ml
def sp_top (K : PySem.W.Frag) : Sp := fun vs H Q E => ∃ (a : Addr) (ns : List Int), vs = [.ref a] ∧ SqL K H a (ns.map V.int) ∧ Only H ∧ ns.length ≤ 63 ∧ ∀ H', Q (.bl true) H'
theorem all_mk {l : PySem.W.OpenLaw} {w : World} {K : PySem.W.Frag} {h : Heap} {mg : Str → Option Value} {fa : Addr} (X : K.In h) (H : h.Ns mainGlobals mg) (hfa : mg "law" = some (.ref fa))
    {c0 : Addr}
    {c1 : Addr}
    {c2 : Addr}
    {c3 : Addr}
    {c4 : Addr}
    {c5 : Addr}
    {c6 : Addr}
    {c7 : Addr}
    {c8 : Addr}
    {c9 : Addr}
    {c10 : Addr}
    {c11 : Addr}
    {c12 : Addr}
    {c13 : Addr}
    {c14 : Addr}
    {c15 : Addr}
    {c16 : Addr}
    {f0 : Addr} {od0 an0 : Option Addr} {sl0 : Array (Option Value)} {oc0 kV0 dc0 pm0 cd0 ct0 : Value}
    {f1 : Addr} {od1 an1 : Option Addr} {sl1 : Array (Option Value)} {oc1 kV1 dc1 pm1 cd1 ct1 : Value}
    {f2 : Addr} {od2 an2 : Option Addr} {sl2 : Array (Option Value)} {oc2 kV2 dc2 pm2 cd2 ct2 : Value}
    {f3 : Addr} {od3 an3 : Option Addr} {sl3 : Array (Option Value)} {oc3 kV3 dc3 pm3 cd3 ct3 : Value}
    {f4 : Addr} {od4 an4 : Option Addr} {sl4 : Array (Option Value)} {oc4 kV4 dc4 pm4 cd4 ct4 : Value}
    {f5 : Addr} {od5 an5 : Option Addr} {sl5 : Array (Option Value)} {oc5 kV5 dc5 pm5 cd5 ct5 : Value}
    {f6 : Addr} {od6 an6 : Option Addr} {sl6 : Array (Option Value)} {oc6 kV6 dc6 pm6 cd6 ct6 : Value}
    {f7 : Addr} {od7 an7 : Option Addr} {sl7 : Array (Option Value)} {oc7 kV7 dc7 pm7 cd7 ct7 : Value}
    {f8 : Addr} {od8 an8 : Option Addr} {sl8 : Array (Option Value)} {oc8 kV8 dc8 pm8 cd8 ct8 : Value}
    {f9 : Addr} {od9 an9 : Option Addr} {sl9 : Array (Option Value)} {oc9 kV9 dc9 pm9 cd9 ct9 : Value}
    {f10 : Addr} {od10 an10 : Option Addr} {sl10 : Array (Option Value)} {oc10 kV10 dc10 pm10 cd10 ct10 : Value}
    {f11 : Addr} {od11 an11 : Option Addr} {sl11 : Array (Option Value)} {oc11 kV11 dc11 pm11 cd11 ct11 : Value}
    {f12 : Addr} {od12 an12 : Option Addr} {sl12 : Array (Option Value)} {oc12 kV12 dc12 pm12 cd12 ct12 : Value}
    {f13 : Addr} {od13 an13 : Option Addr} {sl13 : Array (Option Value)} {oc13 kV13 dc13 pm13 cd13 ct13 : Value}
    {f14 : Addr} {od14 an14 : Option Addr} {sl14 : Array (Option Value)} {oc14 kV14 dc14 pm14 cd14 ct14 : Value}
    {f15 : Addr} {od15 an15 : Option Addr} {sl15 : Array (Option Value)} {oc15 kV15 dc15 pm15 cd15 ct15 : Value}
    {f16 : Addr} {od16 an16 : Option Addr} {sl16 : Array (Option Value)} {oc16 kV16 dc16 pm16 cd16 ct16 : Value}
    {f17 : Addr} {od17 an17 : Option Addr} {sl17 : Array (Option Value)} {oc17 kV17 dc17 pm17 cd17 ct17 : Value}
    {f18 : Addr} {od18 an18 : Option Addr} {sl18 : Array (Option Value)} {oc18 kV18 dc18 pm18 cd18 ct18 : Value}
    {f19 : Addr} {od19 an19 : Option Addr} {sl19 : Array (Option Value)} {oc19 kV19 dc19 pm19 cd19 ct19 : Value}
    {f20 : Addr} {od20 an20 : Option Addr} {sl20 : Array (Option Value)} {oc20 kV20 dc20 pm20 cd20 ct20 : Value}
    {f21 : Addr} {od21 an21 : Option Addr} {sl21 : Array (Option Value)} {oc21 kV21 dc21 pm21 cd21 ct21 : Value}
    {f22 : Addr} {od22 an22 : Option Addr} {sl22 : Array (Option Value)} {oc22 kV22 dc22 pm22 cd22 ct22 : Value}
    {f23 : Addr} {od23 an23 : Option Addr} {sl23 : Array (Option Value)} {oc23 kV23 dc23 pm23 cd23 ct23 : Value}
    {f24 : Addr} {od24 an24 : Option Addr} {sl24 : Array (Option Value)} {oc24 kV24 dc24 pm24 cd24 ct24 : Value}
    {f25 : Addr} {od25 an25 : Option Addr} {sl25 : Array (Option Value)} {oc25 kV25 dc25 pm25 cd25 ct25 : Value}
    {f26 : Addr} {od26 an26 : Option Addr} {sl26 : Array (Option Value)} {oc26 kV26 dc26 pm26 cd26 ct26 : Value}
    {f27 : Addr} {od27 an27 : Option Addr} {sl27 : Array (Option Value)} {oc27 kV27 dc27 pm27 cd27 ct27 : Value}
    {f28 : Addr} {od28 an28 : Option Addr} {sl28 : Array (Option Value)} {oc28 kV28 dc28 pm28 cd28 ct28 : Value}
    {f29 : Addr} {od29 an29 : Option Addr} {sl29 : Array (Option Value)} {oc29 kV29 dc29 pm29 cd29 ct29 : Value}
    {f30 : Addr} {od30 an30 : Option Addr} {sl30 : Array (Option Value)} {oc30 kV30 dc30 pm30 cd30 ct30 : Value}
    {f31 : Addr} {od31 an31 : Option Addr} {sl31 : Array (Option Value)} {oc31 kV31 dc31 pm31 cd31 ct31 : Value}
    {T31 : Addr} {Tn31 : Nat}
    {Tk31_0 : Tok}
    {To31c : Value} {To31d : Option Addr} {To31s : Array (Option Value)}
    {f32 : Addr} {od32 an32 : Option Addr} {sl32 : Array (Option Value)} {oc32 kV32 dc32 pm32 cd32 ct32 : Value}
    {f33 : Addr} {od33 an33 : Option Addr} {sl33 : Array (Option Value)} {oc33 kV33 dc33 pm33 cd33 ct33 : Value}
    {f34 : Addr} {od34 an34 : Option Addr} {sl34 : Array (Option Value)} {oc34 kV34 dc34 pm34 cd34 ct34 : Value}
    {f35 : Addr} {od35 an35 : Option Addr} {sl35 : Array (Option Value)} {oc35 kV35 dc35 pm35 cd35 ct35 : Value}
    {f36 : Addr} {od36 an36 : Option Addr} {sl36 : Array (Option Value)} {oc36 kV36 dc36 pm36 cd36 ct36 : Value}
    {f37 : Addr} {od37 an37 : Option Addr} {sl37 : Array (Option Value)} {oc37 kV37 dc37 pm37 cd37 ct37 : Value}
    {f38 : Addr} {od38 an38 : Option Addr} {sl38 : Array (Option Value)} {oc38 kV38 dc38 pm38 cd38 ct38 : Value}
    {T38 : Addr} {Tn38 : Nat}
    {Tk38_0 : Tok}
    {To38c : Value} {To38d : Option Addr} {To38s : Array (Option Value)}
    {f39 : Addr} {od39 an39 : Option Addr} {sl39 : Array (Option Value)} {oc39 kV39 dc39 pm39 cd39 ct39 : Value}
    {f40 : Addr} {od40 an40 : Option Addr} {sl40 : Array (Option Value)} {oc40 kV40 dc40 pm40 cd40 ct40 : Value}
    {f41 : Addr} {od41 an41 : Option Addr} {sl41 : Array (Option Value)} {oc41 kV41 dc41 pm41 cd41 ct41 : Value}
    {f42 : Addr} {od42 an42 : Option Addr} {sl42 : Array (Option Value)} {oc42 kV42 dc42 pm42 cd42 ct42 : Value}
    {f43 : Addr} {od43 an43 : Option Addr} {sl43 : Array (Option Value)} {oc43 kV43 dc43 pm43 cd43 ct43 : Value}
    {f44 : Addr} {od44 an44 : Option Addr} {sl44 : Array (Option Value)} {oc44 kV44 dc44 pm44 cd44 ct44 : Value}
    {f45 : Addr} {od45 an45 : Option Addr} {sl45 : Array (Option Value)} {oc45 kV45 dc45 pm45 cd45 ct45 : Value}
    {f46 : Addr} {od46 an46 : Option Addr} {sl46 : Array (Option Value)} {oc46 kV46 dc46 pm46 cd46 ct46 : Value}
    {f47 : Addr} {od47 an47 : Option Addr} {sl47 : Array (Option Value)} {oc47 kV47 dc47 pm47 cd47 ct47 : Value}
    {f48 : Addr} {od48 an48 : Option Addr} {sl48 : Array (Option Value)} {oc48 kV48 dc48 pm48 cd48 ct48 : Value}
    {f49 : Addr} {od49 an49 : Option Addr} {sl49 : Array (Option Value)} {oc49 kV49 dc49 pm49 cd49 ct49 : Value}
    {f50 : Addr} {od50 an50 : Option Addr} {sl50 : Array (Option Value)} {oc50 kV50 dc50 pm50 cd50 ct50 : Value}
    {f51 : Addr} {od51 an51 : Option Addr} {sl51 : Array (Option Value)} {oc51 kV51 dc51 pm51 cd51 ct51 : Value}
    {f52 : Addr} {od52 an52 : Option Addr} {sl52 : Array (Option Value)} {oc52 kV52 dc52 pm52 cd52 ct52 : Value}
    {f53 : Addr} {od53 an53 : Option Addr} {sl53 : Array (Option Value)} {oc53 kV53 dc53 pm53 cd53 ct53 : Value}
    {f54 : Addr} {od54 an54 : Option Addr} {sl54 : Array (Option Value)} {oc54 kV54 dc54 pm54 cd54 ct54 : Value}
    {f55 : Addr} {od55 an55 : Option Addr} {sl55 : Array (Option Value)} {oc55 kV55 dc55 pm55 cd55 ct55 : Value}
    {f56 : Addr} {od56 an56 : Option Addr} {sl56 : Array (Option Value)} {oc56 kV56 dc56 pm56 cd56 ct56 : Value}
    {f57 : Addr} {od57 an57 : Option Addr} {sl57 : Array (Option Value)} {oc57 kV57 dc57 pm57 cd57 ct57 : Value}
    {f58 : Addr} {od58 an58 : Option Addr} {sl58 : Array (Option Value)} {oc58 kV58 dc58 pm58 cd58 ct58 : Value}
    {f59 : Addr} {od59 an59 : Option Addr} {sl59 : Array (Option Value)} {oc59 kV59 dc59 pm59 cd59 ct59 : Value}
    {t_FIGURES : Tok}
    {t_MOST_BODY : Tok}
    {t_MOST_DAY : Tok}
    {t_MOST_SIGNS : Tok}
    {t_MOST_TITLE : Tok}
    {t_SMALL : Tok}
    (ac0 : PySem.W.nsIn K mainGlobals "Condition" = some (some (.ref c0)))
    (ac1 : PySem.W.nsIn K mainGlobals "Anything" = some (some (.ref c1)))
    (ac2 : PySem.W.nsIn K mainGlobals "HasWord" = some (some (.ref c2)))
    (ac3 : PySem.W.nsIn K mainGlobals "InTitle" = some (some (.ref c3)))
    (ac4 : PySem.W.nsIn K mainGlobals "FromSender" = some (some (.ref c4)))
    (ac5 : PySem.W.nsIn K mainGlobals "InFolder" = some (some (.ref c5)))
    (ac6 : PySem.W.nsIn K mainGlobals "IsMarked" = some (some (.ref c6)))
    (ac7 : PySem.W.nsIn K mainGlobals "OnDays" = some (some (.ref c7)))
    (ac8 : PySem.W.nsIn K mainGlobals "IsAnswer" = some (some (.ref c8)))
    (ac9 : PySem.W.nsIn K mainGlobals "NotSo" = some (some (.ref c9)))
    (ac10 : PySem.W.nsIn K mainGlobals "InThread" = some (some (.ref c10)))
    (ac11 : PySem.W.nsIn K mainGlobals "BothSo" = some (some (.ref c11)))
    (ac12 : PySem.W.nsIn K mainGlobals "EitherSo" = some (some (.ref c12)))
    (ac13 : PySem.W.nsIn K mainGlobals "Card" = some (some (.ref c13)))
    (ac14 : PySem.W.nsIn K mainGlobals "MailError" = some (some (.ref c14)))
    (ac15 : PySem.W.nsIn K mainGlobals "NoLetter" = some (some (.ref c15)))
    (ac16 : PySem.W.nsIn K mainGlobals "Letter" = some (some (.ref c16)))
    (a0_1 : PySem.W.findIn K (.ref c1) "holds" = some (some (.ref f0)))
    (i0 : PySem.W.isFn K (.ref f0) = true)
    (l0 : K.lookup f0 = some ⟨oc0, od0, .func (PySem.W.fnOf "holds" "Anything.holds" (defArgs s_Anything_holds) (defBody s_Anything_holds) (defScope s_Anything_holds) .none kV0 dc0 pm0 an0 cd0 ct0), sl0⟩)
    (cc0 : PySem.W.codeIn K cd0 "Anything.holds" = true)
    (k0 : PySem.W.keepIn K (.ref f0) = true)
    (a1_1 : PySem.W.findIn K (.ref c1) "tree" = some (some (.ref f1)))
    (i1 : PySem.W.isFn K (.ref f1) = true)
    (l1 : K.lookup f1 = some ⟨oc1, od1, .func (PySem.W.fnOf "tree" "Anything.tree" (defArgs s_Anything_tree) (defBody s_Anything_tree) (defScope s_Anything_tree) .none kV1 dc1 pm1 an1 cd1 ct1), sl1⟩)
    (cc1 : PySem.W.codeIn K cd1 "Anything.tree" = true)
    (k1 : PySem.W.keepIn K (.ref f1) = true)
    (a2_2 : PySem.W.findIn K (.ref c2) "__init__" = some (some (.ref f2)))
    (a2_3 : PySem.W.findIn K (.ref c3) "__init__" = some (some (.ref f2)))
    (a2_4 : PySem.W.findIn K (.ref c4) "__init__" = some (some (.ref f2)))
    (a2_5 : PySem.W.findIn K (.ref c5) "__init__" = some (some (.ref f2)))
    (a2_6 : PySem.W.findIn K (.ref c6) "__init__" = some (some (.ref f2)))
    (i2 : PySem.W.isFn K (.ref f2) = true)
    (l2 : K.lookup f2 = some ⟨oc2, od2, .func (PySem.W.fnOf "__init__" "OfWord.__init__" (defArgs s_OfWord___init__) (defBody s_OfWord___init__) (defScope s_OfWord___init__) .none kV2 dc2 pm2 an2 cd2 ct2), sl2⟩)
    (cc2 : PySem.W.codeIn K cd2 "OfWord.__init__" = true)
    (k2 : PySem.W.keepIn K (.ref f2) = true)
    (mk2 : PySem.W.makesIn K c2 = true)
    (kc2 : PySem.W.keepIn K (.ref c2) = true)
    (mk3 : PySem.W.makesIn K c3 = true)
    (kc3 : PySem.W.keepIn K (.ref c3) = true)
    (mk4 : PySem.W.makesIn K c4 = true)
    (kc4 : PySem.W.keepIn K (.ref c4) = true)
    (mk5 : PySem.W.makesIn K c5 = true)
    (kc5 : PySem.W.keepIn K (.ref c5) = true)
    (mk6 : PySem.W.makesIn K c6 = true)
    (kc6 : PySem.W.keepIn K (.ref c6) = true)
    (a3_2 : PySem.W.findIn K (.ref c2) "sign" = some (some (.ref f3)))
    (i3 : PySem.W.isFn K (.ref f3) = true)
    (l3 : K.lookup f3 = some ⟨oc3, od3, .func (PySem.W.fnOf "sign" "OfWord.sign" (defArgs s_OfWord_sign) (defBody s_OfWord_sign) (defScope s_OfWord_sign) .none kV3 dc3 pm3 an3 cd3 ct3), sl3⟩)
    (cc3 : PySem.W.codeIn K cd3 "OfWord.sign" = true)
    (k3 : PySem.W.keepIn K (.ref f3) = true)
    (a4_2 : PySem.W.findIn K (.ref c2) "tree" = some (some (.ref f4)))
    (a4_3 : PySem.W.findIn K (.ref c3) "tree" = some (some (.ref f4)))
    (a4_4 : PySem.W.findIn K (.ref c4) "tree" = some (some (.ref f4)))
    (a4_5 : PySem.W.findIn K (.ref c5) "tree" = some (some (.ref f4)))
    (a4_6 : PySem.W.findIn K (.ref c6) "tree" = some (some (.ref f4)))
    (i4 : PySem.W.isFn K (.ref f4) = true)
    (l4 : K.lookup f4 = some ⟨oc4, od4, .func (PySem.W.fnOf "tree" "OfWord.tree" (defArgs s_OfWord_tree) (defBody s_OfWord_tree) (defScope s_OfWord_tree) .none kV4 dc4 pm4 an4 cd4 ct4), sl4⟩)
    (cc4 : PySem.W.codeIn K cd4 "OfWord.tree" = true)
    (k4 : PySem.W.keepIn K (.ref f4) = true)
    (a5_3 : PySem.W.findIn K (.ref c3) "sign" = some (some (.ref f5)))
    (i5 : PySem.W.isFn K (.ref f5) = true)
    (l5 : K.lookup f5 = some ⟨oc5, od5, .func (PySem.W.fnOf "sign" "InTitle.sign" (defArgs s_InTitle_sign) (defBody s_InTitle_sign) (defScope s_InTitle_sign) .none kV5 dc5 pm5 an5 cd5 ct5), sl5⟩)
    (cc5 : PySem.W.codeIn K cd5 "InTitle.sign" = true)
    (k5 : PySem.W.keepIn K (.ref f5) = true)
    (a6_4 : PySem.W.findIn K (.ref c4) "sign" = some (some (.ref f6)))
    (i6 : PySem.W.isFn K (.ref f6) = true)
    (l6 : K.lookup f6 = some ⟨oc6, od6, .func (PySem.W.fnOf "sign" "FromSender.sign" (defArgs s_FromSender_sign) (defBody s_FromSender_sign) (defScope s_FromSender_sign) .none kV6 dc6 pm6 an6 cd6 ct6), sl6⟩)
    (cc6 : PySem.W.codeIn K cd6 "FromSender.sign" = true)
    (k6 : PySem.W.keepIn K (.ref f6) = true)
    (a7_4 : PySem.W.findIn K (.ref c4) "holds" = some (some (.ref f7)))
    (i7 : PySem.W.isFn K (.ref f7) = true)
    (l7 : K.lookup f7 = some ⟨oc7, od7, .func (PySem.W.fnOf "holds" "FromSender.holds" (defArgs s_FromSender_holds) (defBody s_FromSender_holds) (defScope s_FromSender_holds) .none kV7 dc7 pm7 an7 cd7 ct7), sl7⟩)
    (cc7 : PySem.W.codeIn K cd7 "FromSender.holds" = true)
    (k7 : PySem.W.keepIn K (.ref f7) = true)
    (a8_5 : PySem.W.findIn K (.ref c5) "sign" = some (some (.ref f8)))
    (i8 : PySem.W.isFn K (.ref f8) = true)
    (l8 : K.lookup f8 = some ⟨oc8, od8, .func (PySem.W.fnOf "sign" "InFolder.sign" (defArgs s_InFolder_sign) (defBody s_InFolder_sign) (defScope s_InFolder_sign) .none kV8 dc8 pm8 an8 cd8 ct8), sl8⟩)
    (cc8 : PySem.W.codeIn K cd8 "InFolder.sign" = true)
    (k8 : PySem.W.keepIn K (.ref f8) = true)
    (a9_5 : PySem.W.findIn K (.ref c5) "holds" = some (some (.ref f9)))
    (i9 : PySem.W.isFn K (.ref f9) = true)
    (l9 : K.lookup f9 = some ⟨oc9, od9, .func (PySem.W.fnOf "holds" "InFolder.holds" (defArgs s_InFolder_holds) (defBody s_InFolder_holds) (defScope s_InFolder_holds) .none kV9 dc9 pm9 an9 cd9 ct9), sl9⟩)
    (cc9 : PySem.W.codeIn K cd9 "InFolder.holds" = true)
    (k9 : PySem.W.keepIn K (.ref f9) = true)
    (a10_6 : PySem.W.findIn K (.ref c6) "sign" = some (some (.ref f10)))
    (i10 : PySem.W.isFn K (.ref f10) = true)
    (l10 : K.lookup f10 = some ⟨oc10, od10, .func (PySem.W.fnOf "sign" "IsMarked.sign" (defArgs s_IsMarked_sign) (defBody s_IsMarked_sign) (defScope s_IsMarked_sign) .none kV10 dc10 pm10 an10 cd10 ct10), sl10⟩)
    (cc10 : PySem.W.codeIn K cd10 "IsMarked.sign" = true)
    (k10 : PySem.W.keepIn K (.ref f10) = true)
    (a11_6 : PySem.W.findIn K (.ref c6) "holds" = some (some (.ref f11)))
    (i11 : PySem.W.isFn K (.ref f11) = true)
    (l11 : K.lookup f11 = some ⟨oc11, od11, .func (PySem.W.fnOf "holds" "IsMarked.holds" (defArgs s_IsMarked_holds) (defBody s_IsMarked_holds) (defScope s_IsMarked_holds) .none kV11 dc11 pm11 an11 cd11 ct11), sl11⟩)
    (cc11 : PySem.W.codeIn K cd11 "IsMarked.holds" = true)
    (k11 : PySem.W.keepIn K (.ref f11) = true)
    (a12_7 : PySem.W.findIn K (.ref c7) "__init__" = some (some (.ref f12)))
    (i12 : PySem.W.isFn K (.ref f12) = true)
    (l12 : K.lookup f12 = some ⟨oc12, od12, .func (PySem.W.fnOf "__init__" "OnDays.__init__" (defArgs s_OnDays___init__) (defBody s_OnDays___init__) (defScope s_OnDays___init__) .none kV12 dc12 pm12 an12 cd12 ct12), sl12⟩)
    (cc12 : PySem.W.codeIn K cd12 "OnDays.__init__" = true)
    (k12 : PySem.W.keepIn K (.ref f12) = true)
    (mk7 : PySem.W.makesIn K c7 = true)
    (kc7 : PySem.W.keepIn K (.ref c7) = true)
    (a13_7 : PySem.W.findIn K (.ref c7) "holds" = some (some (.ref f13)))
    (i13 : PySem.W.isFn K (.ref f13) = true)
    (l13 : K.lookup f13 = some ⟨oc13, od13, .func (PySem.W.fnOf "holds" "OnDays.holds" (defArgs s_OnDays_holds) (defBody s_OnDays_holds) (defScope s_OnDays_holds) .none kV13 dc13 pm13 an13 cd13 ct13), sl13⟩)
    (cc13 : PySem.W.codeIn K cd13 "OnDays.holds" = true)
    (k13 : PySem.W.keepIn K (.ref f13) = true)
    (a14_7 : PySem.W.findIn K (.ref c7) "tree" = some (some (.ref f14)))
    (i14 : PySem.W.isFn K (.ref f14) = true)
    (l14 : K.lookup f14 = some ⟨oc14, od14, .func (PySem.W.fnOf "tree" "OnDays.tree" (defArgs s_OnDays_tree) (defBody s_OnDays_tree) (defScope s_OnDays_tree) .none kV14 dc14 pm14 an14 cd14 ct14), sl14⟩)
    (cc14 : PySem.W.codeIn K cd14 "OnDays.tree" = true)
    (k14 : PySem.W.keepIn K (.ref f14) = true)
    (a15_8 : PySem.W.findIn K (.ref c8) "holds" = some (some (.ref f15)))
    (i15 : PySem.W.isFn K (.ref f15) = true)
    (l15 : K.lookup f15 = some ⟨oc15, od15, .func (PySem.W.fnOf "holds" "IsAnswer.holds" (defArgs s_IsAnswer_holds) (defBody s_IsAnswer_holds) (defScope s_IsAnswer_holds) .none kV15 dc15 pm15 an15 cd15 ct15), sl15⟩)
    (cc15 : PySem.W.codeIn K cd15 "IsAnswer.holds" = true)
    (k15 : PySem.W.keepIn K (.ref f15) = true)
    (a16_8 : PySem.W.findIn K (.ref c8) "tree" = some (some (.ref f16)))
    (i16 : PySem.W.isFn K (.ref f16) = true)
    (l16 : K.lookup f16 = some ⟨oc16, od16, .func (PySem.W.fnOf "tree" "IsAnswer.tree" (defArgs s_IsAnswer_tree) (defBody s_IsAnswer_tree) (defScope s_IsAnswer_tree) .none kV16 dc16 pm16 an16 cd16 ct16), sl16⟩)
    (cc16 : PySem.W.codeIn K cd16 "IsAnswer.tree" = true)
    (k16 : PySem.W.keepIn K (.ref f16) = true)
    (a17_9 : PySem.W.findIn K (.ref c9) "__init__" = some (some (.ref f17)))
    (a17_10 : PySem.W.findIn K (.ref c10) "__init__" = some (some (.ref f17)))
    (i17 : PySem.W.isFn K (.ref f17) = true)
    (l17 : K.lookup f17 = some ⟨oc17, od17, .func (PySem.W.fnOf "__init__" "OfOne.__init__" (defArgs s_OfOne___init__) (defBody s_OfOne___init__) (defScope s_OfOne___init__) .none kV17 dc17 pm17 an17 cd17 ct17), sl17⟩)
    (cc17 : PySem.W.codeIn K cd17 "OfOne.__init__" = true)
    (k17 : PySem.W.keepIn K (.ref f17) = true)
    (mk9 : PySem.W.makesIn K c9 = true)
    (kc9 : PySem.W.keepIn K (.ref c9) = true)
    (mk10 : PySem.W.makesIn K c10 = true)
    (kc10 : PySem.W.keepIn K (.ref c10) = true)
    (a18_9 : PySem.W.findIn K (.ref c9) "sign" = some (some (.ref f18)))
    (i18 : PySem.W.isFn K (.ref f18) = true)
    (l18 : K.lookup f18 = some ⟨oc18, od18, .func (PySem.W.fnOf "sign" "OfOne.sign" (defArgs s_OfOne_sign) (defBody s_OfOne_sign) (defScope s_OfOne_sign) .none kV18 dc18 pm18 an18 cd18 ct18), sl18⟩)
    (cc18 : PySem.W.codeIn K cd18 "OfOne.sign" = true)
    (k18 : PySem.W.keepIn K (.ref f18) = true)
    (a19_9 : PySem.W.findIn K (.ref c9) "tree" = some (some (.ref f19)))
    (a19_10 : PySem.W.findIn K (.ref c10) "tree" = some (some (.ref f19)))
    (i19 : PySem.W.isFn K (.ref f19) = true)
    (l19 : K.lookup f19 = some ⟨oc19, od19, .func (PySem.W.fnOf "tree" "OfOne.tree" (defArgs s_OfOne_tree) (defBody s_OfOne_tree) (defScope s_OfOne_tree) .none kV19 dc19 pm19 an19 cd19 ct19), sl19⟩)
    (cc19 : PySem.W.codeIn K cd19 "OfOne.tree" = true)
    (k19 : PySem.W.keepIn K (.ref f19) = true)
    (a20_9 : PySem.W.findIn K (.ref c9) "holds" = some (some (.ref f20)))
    (i20 : PySem.W.isFn K (.ref f20) = true)
    (l20 : K.lookup f20 = some ⟨oc20, od20, .func (PySem.W.fnOf "holds" "NotSo.holds" (defArgs s_NotSo_holds) (defBody s_NotSo_holds) (defScope s_NotSo_holds) .none kV20 dc20 pm20 an20 cd20 ct20), sl20⟩)
    (cc20 : PySem.W.codeIn K cd20 "NotSo.holds" = true)
    (k20 : PySem.W.keepIn K (.ref f20) = true)
    (a21_10 : PySem.W.findIn K (.ref c10) "sign" = some (some (.ref f21)))
    (i21 : PySem.W.isFn K (.ref f21) = true)
    (l21 : K.lookup f21 = some ⟨oc21, od21, .func (PySem.W.fnOf "sign" "InThread.sign" (defArgs s_InThread_sign) (defBody s_InThread_sign) (defScope s_InThread_sign) .none kV21 dc21 pm21 an21 cd21 ct21), sl21⟩)
    (cc21 : PySem.W.codeIn K cd21 "InThread.sign" = true)
    (k21 : PySem.W.keepIn K (.ref f21) = true)
    (a22_10 : PySem.W.findIn K (.ref c10) "holds" = some (some (.ref f22)))
    (i22 : PySem.W.isFn K (.ref f22) = true)
    (l22 : K.lookup f22 = some ⟨oc22, od22, .func (PySem.W.fnOf "holds" "InThread.holds" (defArgs s_InThread_holds) (defBody s_InThread_holds) (defScope s_InThread_holds) .none kV22 dc22 pm22 an22 cd22 ct22), sl22⟩)
    (cc22 : PySem.W.codeIn K cd22 "InThread.holds" = true)
    (k22 : PySem.W.keepIn K (.ref f22) = true)
    (a23_11 : PySem.W.findIn K (.ref c11) "__init__" = some (some (.ref f23)))
    (a23_12 : PySem.W.findIn K (.ref c12) "__init__" = some (some (.ref f23)))
    (i23 : PySem.W.isFn K (.ref f23) = true)
    (l23 : K.lookup f23 = some ⟨oc23, od23, .func (PySem.W.fnOf "__init__" "OfTwo.__init__" (defArgs s_OfTwo___init__) (defBody s_OfTwo___init__) (defScope s_OfTwo___init__) .none kV23 dc23 pm23 an23 cd23 ct23), sl23⟩)
    (cc23 : PySem.W.codeIn K cd23 "OfTwo.__init__" = true)
    (k23 : PySem.W.keepIn K (.ref f23) = true)
    (mk11 : PySem.W.makesIn K c11 = true)
    (kc11 : PySem.W.keepIn K (.ref c11) = true)
    (mk12 : PySem.W.makesIn K c12 = true)
    (kc12 : PySem.W.keepIn K (.ref c12) = true)
    (a24_11 : PySem.W.findIn K (.ref c11) "sign" = some (some (.ref f24)))
    (i24 : PySem.W.isFn K (.ref f24) = true)
    (l24 : K.lookup f24 = some ⟨oc24, od24, .func (PySem.W.fnOf "sign" "OfTwo.sign" (defArgs s_OfTwo_sign) (defBody s_OfTwo_sign) (defScope s_OfTwo_sign) .none kV24 dc24 pm24 an24 cd24 ct24), sl24⟩)
    (cc24 : PySem.W.codeIn K cd24 "OfTwo.sign" = true)
    (k24 : PySem.W.keepIn K (.ref f24) = true)
    (a25_11 : PySem.W.findIn K (.ref c11) "tree" = some (some (.ref f25)))
    (a25_12 : PySem.W.findIn K (.ref c12) "tree" = some (some (.ref f25)))
    (i25 : PySem.W.isFn K (.ref f25) = true)
    (l25 : K.lookup f25 = some ⟨oc25, od25, .func (PySem.W.fnOf "tree" "OfTwo.tree" (defArgs s_OfTwo_tree) (defBody s_OfTwo_tree) (defScope s_OfTwo_tree) .none kV25 dc25 pm25 an25 cd25 ct25), sl25⟩)
    (cc25 : PySem.W.codeIn K cd25 "OfTwo.tree" = true)
    (k25 : PySem.W.keepIn K (.ref f25) = true)
    (a26_11 : PySem.W.findIn K (.ref c11) "holds" = some (some (.ref f26)))
    (i26 : PySem.W.isFn K (.ref f26) = true)
    (l26 : K.lookup f26 = some ⟨oc26, od26, .func (PySem.W.fnOf "holds" "BothSo.holds" (defArgs s_BothSo_holds) (defBody s_BothSo_holds) (defScope s_BothSo_holds) .none kV26 dc26 pm26 an26 cd26 ct26), sl26⟩)
    (cc26 : PySem.W.codeIn K cd26 "BothSo.holds" = true)
    (k26 : PySem.W.keepIn K (.ref f26) = true)
    (a27_12 : PySem.W.findIn K (.ref c12) "sign" = some (some (.ref f27)))
    (i27 : PySem.W.isFn K (.ref f27) = true)
    (l27 : K.lookup f27 = some ⟨oc27, od27, .func (PySem.W.fnOf "sign" "EitherSo.sign" (defArgs s_EitherSo_sign) (defBody s_EitherSo_sign) (defScope s_EitherSo_sign) .none kV27 dc27 pm27 an27 cd27 ct27), sl27⟩)
    (cc27 : PySem.W.codeIn K cd27 "EitherSo.sign" = true)
    (k27 : PySem.W.keepIn K (.ref f27) = true)
    (a28_12 : PySem.W.findIn K (.ref c12) "holds" = some (some (.ref f28)))
    (i28 : PySem.W.isFn K (.ref f28) = true)
    (l28 : K.lookup f28 = some ⟨oc28, od28, .func (PySem.W.fnOf "holds" "EitherSo.holds" (defArgs s_EitherSo_holds) (defBody s_EitherSo_holds) (defScope s_EitherSo_holds) .none kV28 dc28 pm28 an28 cd28 ct28), sl28⟩)
    (cc28 : PySem.W.codeIn K cd28 "EitherSo.holds" = true)
    (k28 : PySem.W.keepIn K (.ref f28) = true)
    (a29 : PySem.W.nsIn K mainGlobals "of_word" = some (some (.ref f29)))
    (l29 : K.lookup f29 = some ⟨oc29, od29, .func (PySem.W.fnOf "of_word" "of_word" (defArgs s_of_word) (defBody s_of_word) (defScope s_of_word) .none kV29 dc29 pm29 an29 cd29 ct29), sl29⟩)
    (cc29 : PySem.W.codeIn K cd29 "of_word" = true)
    (k29 : PySem.W.keepIn K (.ref f29) = true)
    (a30 : PySem.W.nsIn K mainGlobals "condition_of" = some (some (.ref f30)))
    (l30 : K.lookup f30 = some ⟨oc30, od30, .func (PySem.W.fnOf "condition_of" "condition_of" (defArgs s_condition_of) (defBody s_condition_of) (defScope s_condition_of) .none kV30 dc30 pm30 an30 cd30 ct30), sl30⟩)
    (cc30 : PySem.W.codeIn K cd30 "condition_of" = true)
    (k30 : PySem.W.keepIn K (.ref f30) = true)
    (a31_13 : PySem.W.findIn K (.ref c13) "__init__" = some (some (.ref f31)))
    (i31 : PySem.W.isFn K (.ref f31) = true)
    (l31 : K.lookup f31 = some ⟨oc31, od31, .func (PySem.W.fnOf "__init__" "Card.__init__" (defArgs s_Card___init__) (defBody s_Card___init__) (defScope s_Card___init__) (.ref T31) kV31 dc31 pm31 an31 cd31 ct31), sl31⟩)
    (cc31 : PySem.W.codeIn K cd31 "Card.__init__" = true)
    (k31 : PySem.W.keepIn K (.ref f31) = true)
    (T31l : K.lookup T31 = some ⟨To31c, To31d, .seq #[.str ("inbox" : Str) Tk31_0, .none] Tn31, To31s⟩)
    (mk13 : PySem.W.makesIn K c13 = true)
    (kc13 : PySem.W.keepIn K (.ref c13) = true)
    (a32 : PySem.W.nsIn K mainGlobals "is_sign" = some (some (.ref f32)))
    (l32 : K.lookup f32 = some ⟨oc32, od32, .func (PySem.W.fnOf "is_sign" "is_sign" (defArgs s_is_sign) (defBody s_is_sign) (defScope s_is_sign) .none kV32 dc32 pm32 an32 cd32 ct32), sl32⟩)
    (cc32 : PySem.W.codeIn K cd32 "is_sign" = true)
    (k32 : PySem.W.keepIn K (.ref f32) = true)
    (a33 : PySem.W.nsIn K mainGlobals "is_word" = some (some (.ref f33)))
    (l33 : K.lookup f33 = some ⟨oc33, od33, .func (PySem.W.fnOf "is_word" "is_word" (defArgs s_is_word) (defBody s_is_word) (defScope s_is_word) .none kV33 dc33 pm33 an33 cd33 ct33), sl33⟩)
    (cc33 : PySem.W.codeIn K cd33 "is_word" = true)
    (k33 : PySem.W.keepIn K (.ref f33) = true)
    (a34 : PySem.W.nsIn K mainGlobals "words_of" = some (some (.ref f34)))
    (l34 : K.lookup f34 = some ⟨oc34, od34, .func (PySem.W.fnOf "words_of" "words_of" (defArgs s_words_of) (defBody s_words_of) (defScope s_words_of) .none kV34 dc34 pm34 an34 cd34 ct34), sl34⟩)
    (cc34 : PySem.W.codeIn K cd34 "words_of" = true)
    (k34 : PySem.W.keepIn K (.ref f34) = true)
    (a35 : PySem.W.nsIn K mainGlobals "each_once" = some (some (.ref f35)))
    (l35 : K.lookup f35 = some ⟨oc35, od35, .func (PySem.W.fnOf "each_once" "each_once" (defArgs s_each_once) (defBody s_each_once) (defScope s_each_once) .none kV35 dc35 pm35 an35 cd35 ct35), sl35⟩)
    (cc35 : PySem.W.codeIn K cd35 "each_once" = true)
    (k35 : PySem.W.keepIn K (.ref f35) = true)
    (a36 : PySem.W.nsIn K mainGlobals "is_text" = some (some (.ref f36)))
    (l36 : K.lookup f36 = some ⟨oc36, od36, .func (PySem.W.fnOf "is_text" "is_text" (defArgs s_is_text) (defBody s_is_text) (defScope s_is_text) .none kV36 dc36 pm36 an36 cd36 ct36), sl36⟩)
    (cc36 : PySem.W.codeIn K cd36 "is_text" = true)
    (k36 : PySem.W.keepIn K (.ref f36) = true)
    (a37 : PySem.W.nsIn K mainGlobals "is_day" = some (some (.ref f37)))
    (l37 : K.lookup f37 = some ⟨oc37, od37, .func (PySem.W.fnOf "is_day" "is_day" (defArgs s_is_day) (defBody s_is_day) (defScope s_is_day) .none kV37 dc37 pm37 an37 cd37 ct37), sl37⟩)
    (cc37 : PySem.W.codeIn K cd37 "is_day" = true)
    (k37 : PySem.W.keepIn K (.ref f37) = true)
    (a38_16 : PySem.W.findIn K (.ref c16) "__init__" = some (some (.ref f38)))
    (i38 : PySem.W.isFn K (.ref f38) = true)
    (l38 : K.lookup f38 = some ⟨oc38, od38, .func (PySem.W.fnOf "__init__" "Letter.__init__" (defArgs s_Letter___init__) (defBody s_Letter___init__) (defScope s_Letter___init__) (.ref T38) kV38 dc38 pm38 an38 cd38 ct38), sl38⟩)
    (cc38 : PySem.W.codeIn K cd38 "Letter.__init__" = true)
    (k38 : PySem.W.keepIn K (.ref f38) = true)
    (T38l : K.lookup T38 = some ⟨To38c, To38d, .seq #[.str ("" : Str) Tk38_0] Tn38, To38s⟩)
    (mk16 : PySem.W.makesIn K c16 = true)
    (kc16 : PySem.W.keepIn K (.ref c16) = true)
    (a39_16 : PySem.W.findIn K (.ref c16) "parts" = some (some (.ref f39)))
    (i39 : PySem.W.isFn K (.ref f39) = true)
    (l39 : K.lookup f39 = some ⟨oc39, od39, .func (PySem.W.fnOf "parts" "Letter.parts" (defArgs s_Letter_parts) (defBody s_Letter_parts) (defScope s_Letter_parts) .none kV39 dc39 pm39 an39 cd39 ct39), sl39⟩)
    (cc39 : PySem.W.codeIn K cd39 "Letter.parts" = true)
    (k39 : PySem.W.keepIn K (.ref f39) = true)
    (a40_16 : PySem.W.findIn K (.ref c16) "title_words" = some (some (.ref f40)))
    (i40 : PySem.W.isFn K (.ref f40) = true)
    (l40 : K.lookup f40 = some ⟨oc40, od40, .func (PySem.W.fnOf "title_words" "Letter.title_words" (defArgs s_Letter_title_words) (defBody s_Letter_title_words) (defScope s_Letter_title_words) .none kV40 dc40 pm40 an40 cd40 ct40), sl40⟩)
    (cc40 : PySem.W.codeIn K cd40 "Letter.title_words" = true)
    (k40 : PySem.W.keepIn K (.ref f40) = true)
    (a41_16 : PySem.W.findIn K (.ref c16) "words" = some (some (.ref f41)))
    (i41 : PySem.W.isFn K (.ref f41) = true)
    (l41 : K.lookup f41 = some ⟨oc41, od41, .func (PySem.W.fnOf "words" "Letter.words" (defArgs s_Letter_words) (defBody s_Letter_words) (defScope s_Letter_words) .none kV41 dc41 pm41 an41 cd41 ct41), sl41⟩)
    (cc41 : PySem.W.codeIn K cd41 "Letter.words" = true)
    (k41 : PySem.W.keepIn K (.ref f41) = true)
    (a42 : PySem.W.nsIn K mainGlobals "_law_cell_at" = some (some (.ref f42)))
    (l42 : K.lookup f42 = some ⟨oc42, od42, .func (PySem.W.fnOf "_law_cell_at" "_law_cell_at" (defArgs s_law_cell_at) (defBody s_law_cell_at) (defScope s_law_cell_at) .none kV42 dc42 pm42 an42 cd42 ct42), sl42⟩)
    (cc42 : PySem.W.codeIn K cd42 "_law_cell_at" = true)
    (k42 : PySem.W.keepIn K (.ref f42) = true)
    (a43 : PySem.W.nsIn K mainGlobals "_law_mixed" = some (some (.ref f43)))
    (l43 : K.lookup f43 = some ⟨oc43, od43, .func (PySem.W.fnOf "_law_mixed" "_law_mixed" (defArgs s_law_mixed) (defBody s_law_mixed) (defScope s_law_mixed) .none kV43 dc43 pm43 an43 cd43 ct43), sl43⟩)
    (cc43 : PySem.W.codeIn K cd43 "_law_mixed" = true)
    (k43 : PySem.W.keepIn K (.ref f43) = true)
    (a44 : PySem.W.nsIn K mainGlobals "_law_word_by" = some (some (.ref f44)))
    (l44 : K.lookup f44 = some ⟨oc44, od44, .func (PySem.W.fnOf "_law_word_by" "_law_word_by" (defArgs s_law_word_by) (defBody s_law_word_by) (defScope s_law_word_by) .none kV44 dc44 pm44 an44 cd44 ct44), sl44⟩)
    (cc44 : PySem.W.codeIn K cd44 "_law_word_by" = true)
    (k44 : PySem.W.keepIn K (.ref f44) = true)
    (a45 : PySem.W.nsIn K mainGlobals "_law_text_by" = some (some (.ref f45)))
    (l45 : K.lookup f45 = some ⟨oc45, od45, .func (PySem.W.fnOf "_law_text_by" "_law_text_by" (defArgs s_law_text_by) (defBody s_law_text_by) (defScope s_law_text_by) .none kV45 dc45 pm45 an45 cd45 ct45), sl45⟩)
    (cc45 : PySem.W.codeIn K cd45 "_law_text_by" = true)
    (k45 : PySem.W.keepIn K (.ref f45) = true)
    (a46 : PySem.W.nsIn K mainGlobals "_law_parts_by" = some (some (.ref f46)))
    (l46 : K.lookup f46 = some ⟨oc46, od46, .func (PySem.W.fnOf "_law_parts_by" "_law_parts_by" (defArgs s_law_parts_by) (defBody s_law_parts_by) (defScope s_law_parts_by) .none kV46 dc46 pm46 an46 cd46 ct46), sl46⟩)
    (cc46 : PySem.W.codeIn K cd46 "_law_parts_by" = true)
    (k46 : PySem.W.keepIn K (.ref f46) = true)
    (a47 : PySem.W.nsIn K mainGlobals "_law_card_by" = some (some (.ref f47)))
    (l47 : K.lookup f47 = some ⟨oc47, od47, .func (PySem.W.fnOf "_law_card_by" "_law_card_by" (defArgs s_law_card_by) (defBody s_law_card_by) (defScope s_law_card_by) .none kV47 dc47 pm47 an47 cd47 ct47), sl47⟩)
    (cc47 : PySem.W.codeIn K cd47 "_law_card_by" = true)
    (k47 : PySem.W.keepIn K (.ref f47) = true)
    (a48 : PySem.W.nsIn K mainGlobals "_law_letter" = some (some (.ref f48)))
    (l48 : K.lookup f48 = some ⟨oc48, od48, .func (PySem.W.fnOf "_law_letter" "_law_letter" (defArgs s_law_letter) (defBody s_law_letter) (defScope s_law_letter) .none kV48 dc48 pm48 an48 cd48 ct48), sl48⟩)
    (cc48 : PySem.W.codeIn K cd48 "_law_letter" = true)
    (k48 : PySem.W.keepIn K (.ref f48) = true)
    (a49 : PySem.W.nsIn K mainGlobals "_law_made" = some (some (.ref f49)))
    (l49 : K.lookup f49 = some ⟨oc49, od49, .func (PySem.W.fnOf "_law_made" "_law_made" (defArgs s_law_made) (defBody s_law_made) (defScope s_law_made) .none kV49 dc49 pm49 an49 cd49 ct49), sl49⟩)
    (cc49 : PySem.W.codeIn K cd49 "_law_made" = true)
    (k49 : PySem.W.keepIn K (.ref f49) = true)
    (a50 : PySem.W.nsIn K mainGlobals "_law_leaf_by" = some (some (.ref f50)))
    (l50 : K.lookup f50 = some ⟨oc50, od50, .func (PySem.W.fnOf "_law_leaf_by" "_law_leaf_by" (defArgs s_law_leaf_by) (defBody s_law_leaf_by) (defScope s_law_leaf_by) .none kV50 dc50 pm50 an50 cd50 ct50), sl50⟩)
    (cc50 : PySem.W.codeIn K cd50 "_law_leaf_by" = true)
    (k50 : PySem.W.keepIn K (.ref f50) = true)
    (a51 : PySem.W.nsIn K mainGlobals "_law_threads" = some (some (.ref f51)))
    (l51 : K.lookup f51 = some ⟨oc51, od51, .func (PySem.W.fnOf "_law_threads" "_law_threads" (defArgs s_law_threads) (defBody s_law_threads) (defScope s_law_threads) .none kV51 dc51 pm51 an51 cd51 ct51), sl51⟩)
    (cc51 : PySem.W.codeIn K cd51 "_law_threads" = true)
    (k51 : PySem.W.keepIn K (.ref f51) = true)
    (a52 : PySem.W.nsIn K mainGlobals "_law_tree_by" = some (some (.ref f52)))
    (l52 : K.lookup f52 = some ⟨oc52, od52, .func (PySem.W.fnOf "_law_tree_by" "_law_tree_by" (defArgs s_law_tree_by) (defBody s_law_tree_by) (defScope s_law_tree_by) .none kV52 dc52 pm52 an52 cd52 ct52), sl52⟩)
    (cc52 : PySem.W.codeIn K cd52 "_law_tree_by" = true)
    (k52 : PySem.W.keepIn K (.ref f52) = true)
    (a53 : PySem.W.nsIn K mainGlobals "_law_runs" = some (some (.ref f53)))
    (l53 : K.lookup f53 = some ⟨oc53, od53, .func (PySem.W.fnOf "_law_runs" "_law_runs" (defArgs s_law_runs) (defBody s_law_runs) (defScope s_law_runs) .none kV53 dc53 pm53 an53 cd53 ct53), sl53⟩)
    (cc53 : PySem.W.codeIn K cd53 "_law_runs" = true)
    (k53 : PySem.W.keepIn K (.ref f53) = true)
    (a54 : PySem.W.nsIn K mainGlobals "_law_holds" = some (some (.ref f54)))
    (l54 : K.lookup f54 = some ⟨oc54, od54, .func (PySem.W.fnOf "_law_holds" "_law_holds" (defArgs s_law_holds) (defBody s_law_holds) (defScope s_law_holds) .none kV54 dc54 pm54 an54 cd54 ct54), sl54⟩)
    (cc54 : PySem.W.codeIn K cd54 "_law_holds" = true)
    (k54 : PySem.W.keepIn K (.ref f54) = true)
    (a55 : PySem.W.nsIn K mainGlobals "_law_shown" = some (some (.ref f55)))
    (l55 : K.lookup f55 = some ⟨oc55, od55, .func (PySem.W.fnOf "_law_shown" "_law_shown" (defArgs s_law_shown) (defBody s_law_shown) (defScope s_law_shown) .none kV55 dc55 pm55 an55 cd55 ct55), sl55⟩)
    (cc55 : PySem.W.codeIn K cd55 "_law_shown" = true)
    (k55 : PySem.W.keepIn K (.ref f55) = true)
    (a56_2 : PySem.W.findIn K (.ref c2) "holds" = some (some (.ref f56)))
    (i56 : PySem.W.isFn K (.ref f56) = true)
    (l56 : K.lookup f56 = some ⟨oc56, od56, .func (PySem.W.fnOf "holds" "HasWord.holds" (defArgs s_HasWord_holds) (defBody s_HasWord_holds) (defScope s_HasWord_holds) .none kV56 dc56 pm56 an56 cd56 ct56), sl56⟩)
    (cc56 : PySem.W.codeIn K cd56 "HasWord.holds" = true)
    (k56 : PySem.W.keepIn K (.ref f56) = true)
    (a57_3 : PySem.W.findIn K (.ref c3) "holds" = some (some (.ref f57)))
    (i57 : PySem.W.isFn K (.ref f57) = true)
    (l57 : K.lookup f57 = some ⟨oc57, od57, .func (PySem.W.fnOf "holds" "InTitle.holds" (defArgs s_InTitle_holds) (defBody s_InTitle_holds) (defScope s_InTitle_holds) .none kV57 dc57 pm57 an57 cd57 ct57), sl57⟩)
    (cc57 : PySem.W.codeIn K cd57 "InTitle.holds" = true)
    (k57 : PySem.W.keepIn K (.ref f57) = true)
    (a58 : PySem.W.nsIn K mainGlobals "_law_told" = some (some (.ref f58)))
    (l58 : K.lookup f58 = some ⟨oc58, od58, .func (PySem.W.fnOf "_law_told" "_law_told" (defArgs s_law_told) (defBody s_law_told) (defScope s_law_told) .none kV58 dc58 pm58 an58 cd58 ct58), sl58⟩)
    (cc58 : PySem.W.codeIn K cd58 "_law_told" = true)
    (k58 : PySem.W.keepIn K (.ref f58) = true)
    (a59 : PySem.W.nsIn K mainGlobals "law" = some (some (.ref f59)))
    (l59 : K.lookup f59 = some ⟨oc59, od59, .func (PySem.W.fnOf "law" "law" (defArgs s_law) (defBody s_law) (defScope s_law) .none kV59 dc59 pm59 an59 cd59 ct59), sl59⟩)
    (cc59 : PySem.W.codeIn K cd59 "law" = true)
    (k59 : PySem.W.keepIn K (.ref f59) = true)
    (mo1 : PySem.W.makesIn K c1 = true)
    (io1 : PySem.W.findIn K (.ref c1) "__init__" = some (some (.builtin "object.__init__")))
    (to1 : PySem.W.mroIn K c1 (.type "object") = some true)
    (ko1 : PySem.W.keepIn K (.ref c1) = true)
    (mo8 : PySem.W.makesIn K c8 = true)
    (io8 : PySem.W.findIn K (.ref c8) "__init__" = some (some (.builtin "object.__init__")))
    (to8 : PySem.W.mroIn K c8 (.type "object") = some true)
    (ko8 : PySem.W.keepIn K (.ref c8) = true)
    (pg1 : PySem.W.plainGet K c1 Str.empty = true)
    (hd1 : PySem.W.hasDictIn K c1 = true)
    (po1 : PySem.W.plainOver K c1 = true)
    (sa1 : PySem.W.findIn K (.ref c1) "__setattr__" = some (some (.builtin "object.__setattr__")))
    (pg2 : PySem.W.plainGet K c2 Str.empty = true)
    (hd2 : PySem.W.hasDictIn K c2 = true)
    (po2 : PySem.W.plainOver K c2 = true)
    (sa2 : PySem.W.findIn K (.ref c2) "__setattr__" = some (some (.builtin "object.__setattr__")))
    (nf2_0 : PySem.W.findIn K (.ref c2) "word" = some none)
    (pg3 : PySem.W.plainGet K c3 Str.empty = true)
    (hd3 : PySem.W.hasDictIn K c3 = true)
    (po3 : PySem.W.plainOver K c3 = true)
    (sa3 : PySem.W.findIn K (.ref c3) "__setattr__" = some (some (.builtin "object.__setattr__")))
    (nf3_0 : PySem.W.findIn K (.ref c3) "word" = some none)
    (pg4 : PySem.W.plainGet K c4 Str.empty = true)
    (hd4 : PySem.W.hasDictIn K c4 = true)
    (po4 : PySem.W.plainOver K c4 = true)
    (sa4 : PySem.W.findIn K (.ref c4) "__setattr__" = some (some (.builtin "object.__setattr__")))
    (nf4_0 : PySem.W.findIn K (.ref c4) "word" = some none)
    (pg5 : PySem.W.plainGet K c5 Str.empty = true)
    (hd5 : PySem.W.hasDictIn K c5 = true)
    (po5 : PySem.W.plainOver K c5 = true)
    (sa5 : PySem.W.findIn K (.ref c5) "__setattr__" = some (some (.builtin "object.__setattr__")))
    (nf5_0 : PySem.W.findIn K (.ref c5) "word" = some none)
    (pg6 : PySem.W.plainGet K c6 Str.empty = true)
    (hd6 : PySem.W.hasDictIn K c6 = true)
    (po6 : PySem.W.plainOver K c6 = true)
    (sa6 : PySem.W.findIn K (.ref c6) "__setattr__" = some (some (.builtin "object.__setattr__")))
    (nf6_0 : PySem.W.findIn K (.ref c6) "word" = some none)
    (pg7 : PySem.W.plainGet K c7 Str.empty = true)
    (hd7 : PySem.W.hasDictIn K c7 = true)
    (po7 : PySem.W.plainOver K c7 = true)
    (sa7 : PySem.W.findIn K (.ref c7) "__setattr__" = some (some (.builtin "object.__setattr__")))
    (nf7_0 : PySem.W.findIn K (.ref c7) "low" = some none)
    (nf7_1 : PySem.W.findIn K (.ref c7) "high" = some none)
    (pg8 : PySem.W.plainGet K c8 Str.empty = true)
    (hd8 : PySem.W.hasDictIn K c8 = true)
    (po8 : PySem.W.plainOver K c8 = true)
    (sa8 : PySem.W.findIn K (.ref c8) "__setattr__" = some (some (.builtin "object.__setattr__")))
    (pg9 : PySem.W.plainGet K c9 Str.empty = true)
    (hd9 : PySem.W.hasDictIn K c9 = true)
    (po9 : PySem.W.plainOver K c9 = true)
    (sa9 : PySem.W.findIn K (.ref c9) "__setattr__" = some (some (.builtin "object.__setattr__")))
    (nf9_0 : PySem.W.findIn K (.ref c9) "inner" = some none)
    (pg10 : PySem.W.plainGet K c10 Str.empty = true)
    (hd10 : PySem.W.hasDictIn K c10 = true)
    (po10 : PySem.W.plainOver K c10 = true)
    (sa10 : PySem.W.findIn K (.ref c10) "__setattr__" = some (some (.builtin "object.__setattr__")))
    (nf10_0 : PySem.W.findIn K (.ref c10) "inner" = some none)
    (pg11 : PySem.W.plainGet K c11 Str.empty = true)
    (hd11 : PySem.W.hasDictIn K c11 = true)
    (po11 : PySem.W.plainOver K c11 = true)
    (sa11 : PySem.W.findIn K (.ref c11) "__setattr__" = some (some (.builtin "object.__setattr__")))
    (nf11_0 : PySem.W.findIn K (.ref c11) "first" = some none)
    (nf11_1 : PySem.W.findIn K (.ref c11) "second" = some none)
    (pg12 : PySem.W.plainGet K c12 Str.empty = true)
    (hd12 : PySem.W.hasDictIn K c12 = true)
    (po12 : PySem.W.plainOver K c12 = true)
    (sa12 : PySem.W.findIn K (.ref c12) "__setattr__" = some (some (.builtin "object.__setattr__")))
    (nf12_0 : PySem.W.findIn K (.ref c12) "first" = some none)
    (nf12_1 : PySem.W.findIn K (.ref c12) "second" = some none)
    (pg13 : PySem.W.plainGet K c13 Str.empty = true)
    (hd13 : PySem.W.hasDictIn K c13 = true)
    (po13 : PySem.W.plainOver K c13 = true)
    (sa13 : PySem.W.findIn K (.ref c13) "__setattr__" = some (some (.builtin "object.__setattr__")))
    (nf13_0 : PySem.W.findIn K (.ref c13) "letter" = some none)
    (nf13_1 : PySem.W.findIn K (.ref c13) "box" = some none)
    (nf13_2 : PySem.W.findIn K (.ref c13) "signs" = some none)
    (xE15 : PySem.W.excIn K c15 [.type "ValueError", .type "Exception", .type "BaseException", .type "object"] "ValueError.__new__" = true)
    (kE15 : PySem.W.keepIn K (.ref c15) = true)
    (bE15 : PySem.W.subIn K (.ref c15) (.type "BaseException") = some true)
    (tE15 : PySem.W.typeIn K (.ref c15) = some (.type "type"))
    (pg16 : PySem.W.plainGet K c16 Str.empty = true)
    (hd16 : PySem.W.hasDictIn K c16 = true)
    (po16 : PySem.W.plainOver K c16 = true)
    (sa16 : PySem.W.findIn K (.ref c16) "__setattr__" = some (some (.builtin "object.__setattr__")))
    (nf16_0 : PySem.W.findIn K (.ref c16) "sender" = some none)
    (nf16_1 : PySem.W.findIn K (.ref c16) "title" = some none)
    (nf16_2 : PySem.W.findIn K (.ref c16) "body" = some none)
    (nf16_3 : PySem.W.findIn K (.ref c16) "day" = some none)
    (nf16_4 : PySem.W.findIn K (.ref c16) "answers" = some none)
    (ee : PySem.W.specialIn K (.builtin "object.__class__") "__get__" = some (some (.builtin "getset_descriptor.__get__")))
    (ef : PySem.W.takesIn K (.builtin "object.__class__") = some true)
    (hdE0 : PySem.W.hasDictIn K c0 = true)
    (tyE0 : PySem.W.typeIn K (.ref c0) = some (.type "type"))
    (dc1 : PySem.W.findIn K (.ref c1) "__class__" = some (some (.builtin "object.__class__")))
    (dm1 : PySem.W.mroIn K c1 (.type "object") = some true)
    (ds1_0 : PySem.W.subIn K (.ref c1) (.ref c0) = some true)
    (dc2 : PySem.W.findIn K (.ref c2) "__class__" = some (some (.builtin "object.__class__")))
    (dm2 : PySem.W.mroIn K c2 (.type "object") = some true)
    (ds2_0 : PySem.W.subIn K (.ref c2) (.ref c0) = some true)
    (dc3 : PySem.W.findIn K (.ref c3) "__class__" = some (some (.builtin "object.__class__")))
    (dm3 : PySem.W.mroIn K c3 (.type "object") = some true)
    (ds3_0 : PySem.W.subIn K (.ref c3) (.ref c0) = some true)
    (dc4 : PySem.W.findIn K (.ref c4) "__class__" = some (some (.builtin "object.__class__")))
    (dm4 : PySem.W.mroIn K c4 (.type "object") = some true)
    (ds4_0 : PySem.W.subIn K (.ref c4) (.ref c0) = some true)
    (dc5 : PySem.W.findIn K (.ref c5) "__class__" = some (some (.builtin "object.__class__")))
    (dm5 : PySem.W.mroIn K c5 (.type "object") = some true)
    (ds5_0 : PySem.W.subIn K (.ref c5) (.ref c0) = some true)
    (dc6 : PySem.W.findIn K (.ref c6) "__class__" = some (some (.builtin "object.__class__")))
    (dm6 : PySem.W.mroIn K c6 (.type "object") = some true)
    (ds6_0 : PySem.W.subIn K (.ref c6) (.ref c0) = some true)
    (dc7 : PySem.W.findIn K (.ref c7) "__class__" = some (some (.builtin "object.__class__")))
    (dm7 : PySem.W.mroIn K c7 (.type "object") = some true)
    (ds7_0 : PySem.W.subIn K (.ref c7) (.ref c0) = some true)
    (dc8 : PySem.W.findIn K (.ref c8) "__class__" = some (some (.builtin "object.__class__")))
    (dm8 : PySem.W.mroIn K c8 (.type "object") = some true)
    (ds8_0 : PySem.W.subIn K (.ref c8) (.ref c0) = some true)
    (dc9 : PySem.W.findIn K (.ref c9) "__class__" = some (some (.builtin "object.__class__")))
    (dm9 : PySem.W.mroIn K c9 (.type "object") = some true)
    (ds9_0 : PySem.W.subIn K (.ref c9) (.ref c0) = some true)
    (dc10 : PySem.W.findIn K (.ref c10) "__class__" = some (some (.builtin "object.__class__")))
    (dm10 : PySem.W.mroIn K c10 (.type "object") = some true)
    (ds10_0 : PySem.W.subIn K (.ref c10) (.ref c0) = some true)
    (dc11 : PySem.W.findIn K (.ref c11) "__class__" = some (some (.builtin "object.__class__")))
    (dm11 : PySem.W.mroIn K c11 (.type "object") = some true)
    (ds11_0 : PySem.W.subIn K (.ref c11) (.ref c0) = some true)
    (dc12 : PySem.W.findIn K (.ref c12) "__class__" = some (some (.builtin "object.__class__")))
    (dm12 : PySem.W.mroIn K c12 (.type "object") = some true)
    (ds12_0 : PySem.W.subIn K (.ref c12) (.ref c0) = some true)
    (z_all : PySem.W.nsIn K mainGlobals "all" = some none)
    (z_bool : PySem.W.nsIn K mainGlobals "bool" = some none)
    (z_enumerate : PySem.W.nsIn K mainGlobals "enumerate" = some none)
    (z_int : PySem.W.nsIn K mainGlobals "int" = some none)
    (z_isinstance : PySem.W.nsIn K mainGlobals "isinstance" = some none)
    (z_len : PySem.W.nsIn K mainGlobals "len" = some none)
    (z_list : PySem.W.nsIn K mainGlobals "list" = some none)
    (z_max : PySem.W.nsIn K mainGlobals "max" = some none)
    (z_range : PySem.W.nsIn K mainGlobals "range" = some none)
    (z_set : PySem.W.nsIn K mainGlobals "set" = some none)
    (z_sorted : PySem.W.nsIn K mainGlobals "sorted" = some none)
    (z_str : PySem.W.nsIn K mainGlobals "str" = some none)
    (z_tuple : PySem.W.nsIn K mainGlobals "tuple" = some none)
    (v_FIGURES : PySem.W.nsIn K mainGlobals "FIGURES" = some (some (.str ("0123456789" : Str) t_FIGURES)))
    (v_MOST_BODY : PySem.W.nsIn K mainGlobals "MOST_BODY" = some (some (.int 400 t_MOST_BODY)))
    (v_MOST_DAY : PySem.W.nsIn K mainGlobals "MOST_DAY" = some (some (.int 9999 t_MOST_DAY)))
    (v_MOST_SIGNS : PySem.W.nsIn K mainGlobals "MOST_SIGNS" = some (some (.int 20 t_MOST_SIGNS)))
    (v_MOST_TITLE : PySem.W.nsIn K mainGlobals "MOST_TITLE" = some (some (.int 60 t_MOST_TITLE)))
    (v_SMALL : PySem.W.nsIn K mainGlobals "SMALL" = some (some (.str ("abcdefghijklmnopqrstuvwxyz" : Str) t_SMALL)))
    (ne2_1 : ¬ c2 = c1)
    (ne3_1 : ¬ c3 = c1)
    (ne3_2 : ¬ c3 = c2)
    (ne4_1 : ¬ c4 = c1)
    (ne4_2 : ¬ c4 = c2)
    (ne4_3 : ¬ c4 = c3)
    (ne5_1 : ¬ c5 = c1)
    (ne5_2 : ¬ c5 = c2)
    (ne5_3 : ¬ c5 = c3)
    (ne5_4 : ¬ c5 = c4)
    (ne6_1 : ¬ c6 = c1)
    (ne6_2 : ¬ c6 = c2)
    (ne6_3 : ¬ c6 = c3)
    (ne6_4 : ¬ c6 = c4)
    (ne6_5 : ¬ c6 = c5)
    (ne7_1 : ¬ c7 = c1)
    (ne7_2 : ¬ c7 = c2)
    (ne7_3 : ¬ c7 = c3)
    (ne7_4 : ¬ c7 = c4)
    (ne7_5 : ¬ c7 = c5)
    (ne7_6 : ¬ c7 = c6)
    (ne8_1 : ¬ c8 = c1)
    (ne8_2 : ¬ c8 = c2)
    (ne8_3 : ¬ c8 = c3)
    (ne8_4 : ¬ c8 = c4)
    (ne8_5 : ¬ c8 = c5)
    (ne8_6 : ¬ c8 = c6)
    (ne8_7 : ¬ c8 = c7)
    (ne9_1 : ¬ c9 = c1)
    (ne9_2 : ¬ c9 = c2)
    (ne9_3 : ¬ c9 = c3)
    (ne9_4 : ¬ c9 = c4)
    (ne9_5 : ¬ c9 = c5)
    (ne9_6 : ¬ c9 = c6)
    (ne9_7 : ¬ c9 = c7)
    (ne9_8 : ¬ c9 = c8)
    (ne10_1 : ¬ c10 = c1)
    (ne10_2 : ¬ c10 = c2)
    (ne10_3 : ¬ c10 = c3)
    (ne10_4 : ¬ c10 = c4)
    (ne10_5 : ¬ c10 = c5)
    (ne10_6 : ¬ c10 = c6)
    (ne10_7 : ¬ c10 = c7)
    (ne10_8 : ¬ c10 = c8)
    (ne10_9 : ¬ c10 = c9)
    (ne11_1 : ¬ c11 = c1)
    (ne11_2 : ¬ c11 = c2)
    (ne11_3 : ¬ c11 = c3)
    (ne11_4 : ¬ c11 = c4)
    (ne11_5 : ¬ c11 = c5)
    (ne11_6 : ¬ c11 = c6)
    (ne11_7 : ¬ c11 = c7)
    (ne11_8 : ¬ c11 = c8)
    (ne11_9 : ¬ c11 = c9)
    (ne11_10 : ¬ c11 = c10)
    (ne12_1 : ¬ c12 = c1)
    (ne12_2 : ¬ c12 = c2)
    (ne12_3 : ¬ c12 = c3)
    (ne12_4 : ¬ c12 = c4)
    (ne12_5 : ¬ c12 = c5)
    (ne12_6 : ¬ c12 = c6)
    (ne12_7 : ¬ c12 = c7)
    (ne12_8 : ¬ c12 = c8)
    (ne12_9 : ¬ c12 = c9)
    (ne12_10 : ¬ c12 = c10)
    (ne12_11 : ¬ c12 = c11)
    (ne13_1 : ¬ c13 = c1)
    (ne13_2 : ¬ c13 = c2)
    (ne13_3 : ¬ c13 = c3)
    (ne13_4 : ¬ c13 = c4)
    (ne13_5 : ¬ c13 = c5)
    (ne13_6 : ¬ c13 = c6)
    (ne13_7 : ¬ c13 = c7)
    (ne13_8 : ¬ c13 = c8)
    (ne13_9 : ¬ c13 = c9)
    (ne13_10 : ¬ c13 = c10)
    (ne13_11 : ¬ c13 = c11)
    (ne13_12 : ¬ c13 = c12)
    (ne16_1 : ¬ c16 = c1)
    (ne16_2 : ¬ c16 = c2)
    (ne16_3 : ¬ c16 = c3)
    (ne16_4 : ¬ c16 = c4)
    (ne16_5 : ¬ c16 = c5)
    (ne16_6 : ¬ c16 = c6)
    (ne16_7 : ¬ c16 = c7)
    (ne16_8 : ¬ c16 = c8)
    (ne16_9 : ¬ c16 = c9)
    (ne16_10 : ¬ c16 = c10)
    (ne16_11 : ¬ c16 = c11)
    (ne16_12 : ¬ c16 = c12)
    (ne16_13 : ¬ c16 = c13)
    : ∃ fd : FuncData, (∀ (s : Shared) (v : Value), BindsTo s fd ⟨[v], []⟩ [("_law_script", v)]) ∧ ∀ base : Heap, K.In base → base.Ns mainGlobals mg → FnOk l.prog w K mg base CX0 19 fa fd ["_law_script"] (sp_top K) := by
  have e := hfa.symm.trans (PySem.W.mg_of X H a59)
  cases e
  have F0 := fun_mk (st := s_Anything_holds) l0 cc0 k0
  have b0 := F0.binds (ps := ["self", "card", "others"]) fun _ _ _ _ _ _ us hl => match us, hl with | [_, _, _], _ => rfl
  have F1 := fun_mk (st := s_Anything_tree) l1 cc1 k1
  have b1 := F1.binds (ps := ["self"]) fun _ _ _ _ _ _ us hl => match us, hl with | [_], _ => rfl
  have F2 := fun_mk (st := s_OfWord___init__) l2 cc2 k2
  have b2 := F2.binds (ps := ["self", "word"]) fun _ _ _ _ _ _ us hl => match us, hl with | [_, _], _ => rfl
  have F3 := fun_mk (st := s_OfWord_sign) l3 cc3 k3
  have b3 := F3.binds (ps := ["self"]) fun _ _ _ _ _ _ us hl => match us, hl with | [_], _ => rfl
  have F4 := fun_mk (st := s_OfWord_tree) l4 cc4 k4
  have b4 := F4.binds (ps := ["self"]) fun _ _ _ _ _ _ us hl => match us, hl with | [_], _ => rfl
  have F5 := fun_mk (st := s_InTitle_sign) l5 cc5 k5
  have b5 := F5.binds (ps := ["self"]) fun _ _ _ _ _ _ us hl => match us, hl with | [_], _ => rfl
  have F6 := fun_mk (st := s_FromSender_sign) l6 cc6 k6
  have b6 := F6.binds (ps := ["self"]) fun _ _ _ _ _ _ us hl => match us, hl with | [_], _ => rfl
  have F7 := fun_mk (st := s_FromSender_holds) l7 cc7 k7
  have b7 := F7.binds (ps := ["self", "card", "others"]) fun _ _ _ _ _ _ us hl => match us, hl with | [_, _, _], _ => rfl
  have F8 := fun_mk (st := s_InFolder_sign) l8 cc8 k8
  have b8 := F8.binds (ps := ["self"]) fun _ _ _ _ _ _ us hl => match us, hl with | [_], _ => rfl
  have F9 := fun_mk (st := s_InFolder_holds) l9 cc9 k9
  have b9 := F9.binds (ps := ["self", "card", "others"]) fun _ _ _ _ _ _ us hl => match us, hl with | [_, _, _], _ => rfl
  have F10 := fun_mk (st := s_IsMarked_sign) l10 cc10 k10
  have b10 := F10.binds (ps := ["self"]) fun _ _ _ _ _ _ us hl => match us, hl with | [_], _ => rfl
  have F11 := fun_mk (st := s_IsMarked_holds) l11 cc11 k11
  have b11 := F11.binds (ps := ["self", "card", "others"]) fun _ _ _ _ _ _ us hl => match us, hl with | [_, _, _], _ => rfl
  have F12 := fun_mk (st := s_OnDays___init__) l12 cc12 k12
  have b12 := F12.binds (ps := ["self", "low", "high"]) fun _ _ _ _ _ _ us hl => match us, hl with | [_, _, _], _ => rfl
  have F13 := fun_mk (st := s_OnDays_holds) l13 cc13 k13
  have b13 := F13.binds (ps := ["self", "card", "others"]) fun _ _ _ _ _ _ us hl => match us, hl with | [_, _, _], _ => rfl
  have F14 := fun_mk (st := s_OnDays_tree) l14 cc14 k14
  have b14 := F14.binds (ps := ["self"]) fun _ _ _ _ _ _ us hl => match us, hl with | [_], _ => rfl
  have F15 := fun_mk (st := s_IsAnswer_holds) l15 cc15 k15
  have b15 := F15.binds (ps := ["self", "card", "others"]) fun _ _ _ _ _ _ us hl => match us, hl with | [_, _, _], _ => rfl
  have F16 := fun_mk (st := s_IsAnswer_tree) l16 cc16 k16
  have b16 := F16.binds (ps := ["self"]) fun _ _ _ _ _ _ us hl => match us, hl with | [_], _ => rfl
  have F17 := fun_mk (st := s_OfOne___init__) l17 cc17 k17
  have b17 := F17.binds (ps := ["self", "inner"]) fun _ _ _ _ _ _ us hl => match us, hl with | [_, _], _ => rfl
  have F18 := fun_mk (st := s_OfOne_sign) l18 cc18 k18
  have b18 := F18.binds (ps := ["self"]) fun _ _ _ _ _ _ us hl => match us, hl with | [_], _ => rfl
  have F19 := fun_mk (st := s_OfOne_tree) l19 cc19 k19
  have b19 := F19.binds (ps := ["self"]) fun _ _ _ _ _ _ us hl => match us, hl with | [_], _ => rfl
  have F20 := fun_mk (st := s_NotSo_holds) l20 cc20 k20
  have b20 := F20.binds (ps := ["self", "card", "others"]) fun _ _ _ _ _ _ us hl => match us, hl with | [_, _, _], _ => rfl
  have F21 := fun_mk (st := s_InThread_sign) l21 cc21 k21
  have b21 := F21.binds (ps := ["self"]) fun _ _ _ _ _ _ us hl => match us, hl with | [_], _ => rfl
  have F22 := fun_mk (st := s_InThread_holds) l22 cc22 k22
  have b22 := F22.binds (ps := ["self", "card", "others"]) fun _ _ _ _ _ _ us hl => match us, hl with | [_, _, _], _ => rfl
  have F23 := fun_mk (st := s_OfTwo___init__) l23 cc23 k23
  have b23 := F23.binds (ps := ["self", "first", "second"]) fun _ _ _ _ _ _ us hl => match us, hl with | [_, _, _], _ => rfl
  have F24 := fun_mk (st := s_OfTwo_sign) l24 cc24 k24
  have b24 := F24.binds (ps := ["self"]) fun _ _ _ _ _ _ us hl => match us, hl with | [_], _ => rfl
  have F25 := fun_mk (st := s_OfTwo_tree) l25 cc25 k25
  have b25 := F25.binds (ps := ["self"]) fun _ _ _ _ _ _ us hl => match us, hl with | [_], _ => rfl
  have F26 := fun_mk (st := s_BothSo_holds) l26 cc26 k26
  have b26 := F26.binds (ps := ["self", "card", "others"]) fun _ _ _ _ _ _ us hl => match us, hl with | [_, _, _], _ => rfl
  have F27 := fun_mk (st := s_EitherSo_sign) l27 cc27 k27
  have b27 := F27.binds (ps := ["self"]) fun _ _ _ _ _ _ us hl => match us, hl with | [_], _ => rfl
  have F28 := fun_mk (st := s_EitherSo_holds) l28 cc28 k28
  have b28 := F28.binds (ps := ["self", "card", "others"]) fun _ _ _ _ _ _ us hl => match us, hl with | [_, _, _], _ => rfl
  have F29 := fun_mk (st := s_of_word) l29 cc29 k29
  have b29 := F29.binds (ps := ["sign", "word"]) fun _ _ _ _ _ _ us hl => match us, hl with | [_, _], _ => rfl
  have F30 := fun_mk (st := s_condition_of) l30 cc30 k30
  have b30 := F30.binds (ps := ["tree"]) fun _ _ _ _ _ _ us hl => match us, hl with | [_], _ => rfl
  have F31 : FunD K "__init__" "Card.__init__" (defArgs s_Card___init__) (defBody s_Card___init__) (defScope s_Card___init__) [.str ("inbox" : Str), .non] [] f31 _ := ⟨⟨oc31, od31, .ref T31, kV31, dc31, pm31, an31, cd31, ct31, sl31, rfl, l31, cc31, .inr ⟨by simp, T31, _, [.str ("inbox" : Str) Tk31_0, .none], Tn31, rfl, T31l, rfl, (Paired.cons ⟨_, rfl⟩ (Paired.cons rfl Paired.nil))⟩, .inl rfl⟩, k31⟩
  have b31 : Binds K (PySem.W.fnOf "__init__" "Card.__init__" (defArgs s_Card___init__) (defBody s_Card___init__) (defScope s_Card___init__) (.ref T31) kV31 dc31 pm31 an31 cd31 ct31) ["self", "letter", "folder", "marks"] [] := by
    obtain ⟨ds, hv, hb⟩ := F31.binds1 (ps := ["self", "letter", "folder", "marks"]) 4 2 (by simp) rfl (fun _ _ _ _ _ _ _ us its hl hi => match us, its, hl, hi with | [_, _, _, _], [_, _], _, _ => ⟨_, rfl, rfl⟩)
    cases hv; exact hb
  have F32 := fun_mk (st := s_is_sign) l32 cc32 k32
  have b32 := F32.binds (ps := ["sign"]) fun _ _ _ _ _ _ us hl => match us, hl with | [_], _ => rfl
  have F33 := fun_mk (st := s_is_word) l33 cc33 k33
  have b33 := F33.binds (ps := ["thing"]) fun _ _ _ _ _ _ us hl => match us, hl with | [_], _ => rfl
  have F34 := fun_mk (st := s_words_of) l34 cc34 k34
  have b34 := F34.binds (ps := ["text"]) fun _ _ _ _ _ _ us hl => match us, hl with | [_], _ => rfl
  have F35 := fun_mk (st := s_each_once) l35 cc35 k35
  have b35 := F35.binds (ps := ["row"]) fun _ _ _ _ _ _ us hl => match us, hl with | [_], _ => rfl
  have F36 := fun_mk (st := s_is_text) l36 cc36 k36
  have b36 := F36.binds (ps := ["thing", "most"]) fun _ _ _ _ _ _ us hl => match us, hl with | [_, _], _ => rfl
  have F37 := fun_mk (st := s_is_day) l37 cc37 k37
  have b37 := F37.binds (ps := ["thing"]) fun _ _ _ _ _ _ us hl => match us, hl with | [_], _ => rfl
  have F38 : FunD K "__init__" "Letter.__init__" (defArgs s_Letter___init__) (defBody s_Letter___init__) (defScope s_Letter___init__) [.str ("" : Str)] [] f38 _ := ⟨⟨oc38, od38, .ref T38, kV38, dc38, pm38, an38, cd38, ct38, sl38, rfl, l38, cc38, .inr ⟨by simp, T38, _, [.str ("" : Str) Tk38_0], Tn38, rfl, T38l, rfl, (Paired.cons ⟨_, rfl⟩ Paired.nil)⟩, .inl rfl⟩, k38⟩
  have b38 : Binds K (PySem.W.fnOf "__init__" "Letter.__init__" (defArgs s_Letter___init__) (defBody s_Letter___init__) (defScope s_Letter___init__) (.ref T38) kV38 dc38 pm38 an38 cd38 ct38) ["self", "sender", "title", "body", "day", "answers"] [] := by
    obtain ⟨ds, hv, hb⟩ := F38.binds1 (ps := ["self", "sender", "title", "body", "day", "answers"]) 6 1 (by simp) rfl (fun _ _ _ _ _ _ _ us its hl hi => match us, its, hl, hi with | [_, _, _, _, _, _], [_], _, _ => ⟨_, rfl, rfl⟩)
    cases hv; exact hb
  have F39 := fun_mk (st := s_Letter_parts) l39 cc39 k39
  have b39 := F39.binds (ps := ["self"]) fun _ _ _ _ _ _ us hl => match us, hl with | [_], _ => rfl
  have F40 := fun_mk (st := s_Letter_title_words) l40 cc40 k40
  have b40 := F40.binds (ps := ["self"]) fun _ _ _ _ _ _ us hl => match us, hl with | [_], _ => rfl
  have F41 := fun_mk (st := s_Letter_words) l41 cc41 k41
  have b41 := F41.binds (ps := ["self"]) fun _ _ _ _ _ _ us hl => match us, hl with | [_], _ => rfl
  have F42 := fun_mk (st := s_law_cell_at) l42 cc42 k42
  have b42 := F42.binds (ps := ["_law_script", "_law_k"]) fun _ _ _ _ _ _ us hl => match us, hl with | [_, _], _ => rfl
  have F43 := fun_mk (st := s_law_mixed) l43 cc43 k43
  have b43 := F43.binds (ps := ["_law_script", "_law_start", "_law_many"]) fun _ _ _ _ _ _ us hl => match us, hl with | [_, _, _], _ => rfl
  have F44 := fun_mk (st := s_law_word_by) l44 cc44 k44
  have b44 := F44.binds (ps := ["_law_shape", "_law_k"]) fun _ _ _ _ _ _ us hl => match us, hl with | [_, _], _ => rfl
  have F45 := fun_mk (st := s_law_text_by) l45 cc45 k45
  have b45 := F45.binds (ps := ["_law_shape", "_law_cells"]) fun _ _ _ _ _ _ us hl => match us, hl with | [_, _], _ => rfl
  have F46 := fun_mk (st := s_law_parts_by) l46 cc46 k46
  have b46 := F46.binds (ps := ["_law_shape", "_law_cells"]) fun _ _ _ _ _ _ us hl => match us, hl with | [_, _], _ => rfl
  have F47 := fun_mk (st := s_law_card_by) l47 cc47 k47
  have b47 := F47.binds (ps := ["_law_shape", "_law_cells"]) fun _ _ _ _ _ _ us hl => match us, hl with | [_, _], _ => rfl
  have F48 := fun_mk (st := s_law_letter) l48 cc48 k48
  have b48 := F48.binds (ps := ["_law_parts"]) fun _ _ _ _ _ _ us hl => match us, hl with | [_], _ => rfl
  have F49 := fun_mk (st := s_law_made) l49 cc49 k49
  have b49 := F49.binds (ps := ["_law_card"]) fun _ _ _ _ _ _ us hl => match us, hl with | [_], _ => rfl
  have F50 := fun_mk (st := s_law_leaf_by) l50 cc50 k50
  have b50 := F50.binds (ps := ["_law_shape", "_law_cell"]) fun _ _ _ _ _ _ us hl => match us, hl with | [_, _], _ => rfl
  have F51 := fun_mk (st := s_law_threads) l51 cc51 k51
  have b51 := F51.binds (ps := ["_law_tree"]) fun _ _ _ _ _ _ us hl => match us, hl with | [_], _ => rfl
  have F52 := fun_mk (st := s_law_tree_by) l52 cc52 k52
  have b52 := F52.binds (ps := ["_law_shape", "_law_cells"]) fun _ _ _ _ _ _ us hl => match us, hl with | [_, _], _ => rfl
  have F53 := fun_mk (st := s_law_runs) l53 cc53 k53
  have b53 := F53.binds (ps := ["_law_text"]) fun _ _ _ _ _ _ us hl => match us, hl with | [_], _ => rfl
  have F54 := fun_mk (st := s_law_holds) l54 cc54 k54
  have b54 := F54.binds (ps := ["_law_tree", "_law_card", "_law_others"]) fun _ _ _ _ _ _ us hl => match us, hl with | [_, _, _], _ => rfl
  have F55 := fun_mk (st := s_law_shown) l55 cc55 k55
  have b55 := F55.binds (ps := ["_law_card"]) fun _ _ _ _ _ _ us hl => match us, hl with | [_], _ => rfl
  have F56 := fun_mk (st := s_HasWord_holds) l56 cc56 k56
  have b56 := F56.binds (ps := ["self", "card", "others"]) fun _ _ _ _ _ _ us hl => match us, hl with | [_, _, _], _ => rfl
  have F57 := fun_mk (st := s_InTitle_holds) l57 cc57 k57
  have b57 := F57.binds (ps := ["self", "card", "others"]) fun _ _ _ _ _ _ us hl => match us, hl with | [_, _, _], _ => rfl
  have F58 := fun_mk (st := s_law_told) l58 cc58 k58
  have b58 := F58.binds (ps := ["_law_condition", "_law_tree", "_law_cards", "_law_made_here"]) fun _ _ _ _ _ _ us hl => match us, hl with | [_, _, _, _], _ => rfl
  have F59 := fun_mk (st := s_law) l59 cc59 k59
  have b59 := F59.binds (ps := ["_law_script"]) fun _ _ _ _ _ _ us hl => match us, hl with | [_], _ => rfl
  let G : Gx := ⟨K, fun a => if a = c1 then some 0 else if a = c2 then some 1 else if a = c3 then some 1 else if a = c4 then some 1 else if a = c5 then some 1 else if a = c6 then some 1 else if a = c7 then some 2 else if a = c8 then some 0 else if a = c9 then some 1 else if a = c10 then some 1 else if a = c11 then some 2 else if a = c12 then some 2 else if a = c13 then some 3 else if a = c16 then some 5 else none, fun i => ([c0, c1, c2, c3, c4, c5, c6, c7, c8, c9, c10, c11, c12, c13, c14, c15, c16] : List Addr).getD i 0⟩
  have hfz1 : G.fz (G.cl 1) = some 0 := by show (if c1 = c1 then some 0 else if c1 = c2 then some 1 else if c1 = c3 then some 1 else if c1 = c4 then some 1 else if c1 = c5 then some 1 else if c1 = c6 then some 1 else if c1 = c7 then some 2 else if c1 = c8 then some 0 else if c1 = c9 then some 1 else if c1 = c10 then some 1 else if c1 = c11 then some 2 else if c1 = c12 then some 2 else if c1 = c13 then some 3 else if c1 = c16 then some 5 else none) = some 0; rw [if_pos rfl]
  have hfz2 : G.fz (G.cl 2) = some 1 := by show (if c2 = c1 then some 0 else if c2 = c2 then some 1 else if c2 = c3 then some 1 else if c2 = c4 then some 1 else if c2 = c5 then some 1 else if c2 = c6 then some 1 else if c2 = c7 then some 2 else if c2 = c8 then some 0 else if c2 = c9 then some 1 else if c2 = c10 then some 1 else if c2 = c11 then some 2 else if c2 = c12 then some 2 else if c2 = c13 then some 3 else if c2 = c16 then some 5 else none) = some 1; rw [if_neg ne2_1, if_pos rfl]
  have hfz3 : G.fz (G.cl 3) = some 1 := by show (if c3 = c1 then some 0 else if c3 = c2 then some 1 else if c3 = c3 then some 1 else if c3 = c4 then some 1 else if c3 = c5 then some 1 else if c3 = c6 then some 1 else if c3 = c7 then some 2 else if c3 = c8 then some 0 else if c3 = c9 then some 1 else if c3 = c10 then some 1 else if c3 = c11 then some 2 else if c3 = c12 then some 2 else if c3 = c13 then some 3 else if c3 = c16 then some 5 else none) = some 1; rw [if_neg ne3_1, if_neg ne3_2, if_pos rfl]
  have hfz4 : G.fz (G.cl 4) = some 1 := by show (if c4 = c1 then some 0 else if c4 = c2 then some 1 else if c4 = c3 then some 1 else if c4 = c4 then some 1 else if c4 = c5 then some 1 else if c4 = c6 then some 1 else if c4 = c7 then some 2 else if c4 = c8 then some 0 else if c4 = c9 then some 1 else if c4 = c10 then some 1 else if c4 = c11 then some 2 else if c4 = c12 then some 2 else if c4 = c13 then some 3 else if c4 = c16 then some 5 else none) = some 1; rw [if_neg ne4_1, if_neg ne4_2, if_neg ne4_3, if_pos rfl]
  have hfz5 : G.fz (G.cl 5) = some 1 := by show (if c5 = c1 then some 0 else if c5 = c2 then some 1 else if c5 = c3 then some 1 else if c5 = c4 then some 1 else if c5 = c5 then some 1 else if c5 = c6 then some 1 else if c5 = c7 then some 2 else if c5 = c8 then some 0 else if c5 = c9 then some 1 else if c5 = c10 then some 1 else if c5 = c11 then some 2 else if c5 = c12 then some 2 else if c5 = c13 then some 3 else if c5 = c16 then some 5 else none) = some 1; rw [if_neg ne5_1, if_neg ne5_2, if_neg ne5_3, if_neg ne5_4, if_pos rfl]
  have hfz6 : G.fz (G.cl 6) = some 1 := by show (if c6 = c1 then some 0 else if c6 = c2 then some 1 else if c6 = c3 then some 1 else if c6 = c4 then some 1 else if c6 = c5 then some 1 else if c6 = c6 then some 1 else if c6 = c7 then some 2 else if c6 = c8 then some 0 else if c6 = c9 then some 1 else if c6 = c10 then some 1 else if c6 = c11 then some 2 else if c6 = c12 then some 2 else if c6 = c13 then some 3 else if c6 = c16 then some 5 else none) = some 1; rw [if_neg ne6_1, if_neg ne6_2, if_neg ne6_3, if_neg ne6_4, if_neg ne6_5, if_pos rfl]
  have hfz7 : G.fz (G.cl 7) = some 2 := by show (if c7 = c1 then some 0 else if c7 = c2 then some 1 else if c7 = c3 then some 1 else if c7 = c4 then some 1 else if c7 = c5 then some 1 else if c7 = c6 then some 1 else if c7 = c7 then some 2 else if c7 = c8 then some 0 else if c7 = c9 then some 1 else if c7 = c10 then some 1 else if c7 = c11 then some 2 else if c7 = c12 then some 2 else if c7 = c13 then some 3 else if c7 = c16 then some 5 else none) = some 2; rw [if_neg ne7_1, if_neg ne7_2, if_neg ne7_3, if_neg ne7_4, if_neg ne7_5, if_neg ne7_6, if_pos rfl]
  have hfz8 : G.fz (G.cl 8) = some 0 := by show (if c8 = c1 then some 0 else if c8 = c2 then some 1 else if c8 = c3 then some 1 else if c8 = c4 then some 1 else if c8 = c5 then some 1 else if c8 = c6 then some 1 else if c8 = c7 then some 2 else if c8 = c8 then some 0 else if c8 = c9 then some 1 else if c8 = c10 then some 1 else if c8 = c11 then some 2 else if c8 = c12 then some 2 else if c8 = c13 then some 3 else if c8 = c16 then some 5 else none) = some 0; rw [if_neg ne8_1, if_neg ne8_2, if_neg ne8_3, if_neg ne8_4, if_neg ne8_5, if_neg ne8_6, if_neg ne8_7, if_pos rfl]
  have hfz9 : G.fz (G.cl 9) = some 1 := by show (if c9 = c1 then some 0 else if c9 = c2 then some 1 else if c9 = c3 then some 1 else if c9 = c4 then some 1 else if c9 = c5 then some 1 else if c9 = c6 then some 1 else if c9 = c7 then some 2 else if c9 = c8 then some 0 else if c9 = c9 then some 1 else if c9 = c10 then some 1 else if c9 = c11 then some 2 else if c9 = c12 then some 2 else if c9 = c13 then some 3 else if c9 = c16 then some 5 else none) = some 1; rw [if_neg ne9_1, if_neg ne9_2, if_neg ne9_3, if_neg ne9_4, if_neg ne9_5, if_neg ne9_6, if_neg ne9_7, if_neg ne9_8, if_pos rfl]
  have hfz10 : G.fz (G.cl 10) = some 1 := by show (if c10 = c1 then some 0 else if c10 = c2 then some 1 else if c10 = c3 then some 1 else if c10 = c4 then some 1 else if c10 = c5 then some 1 else if c10 = c6 then some 1 else if c10 = c7 then some 2 else if c10 = c8 then some 0 else if c10 = c9 then some 1 else if c10 = c10 then some 1 else if c10 = c11 then some 2 else if c10 = c12 then some 2 else if c10 = c13 then some 3 else if c10 = c16 then some 5 else none) = some 1; rw [if_neg ne10_1, if_neg ne10_2, if_neg ne10_3, if_neg ne10_4, if_neg ne10_5, if_neg ne10_6, if_neg ne10_7, if_neg ne10_8, if_neg ne10_9, if_pos rfl]
  have hfz11 : G.fz (G.cl 11) = some 2 := by show (if c11 = c1 then some 0 else if c11 = c2 then some 1 else if c11 = c3 then some 1 else if c11 = c4 then some 1 else if c11 = c5 then some 1 else if c11 = c6 then some 1 else if c11 = c7 then some 2 else if c11 = c8 then some 0 else if c11 = c9 then some 1 else if c11 = c10 then some 1 else if c11 = c11 then some 2 else if c11 = c12 then some 2 else if c11 = c13 then some 3 else if c11 = c16 then some 5 else none) = some 2; rw [if_neg ne11_1, if_neg ne11_2, if_neg ne11_3, if_neg ne11_4, if_neg ne11_5, if_neg ne11_6, if_neg ne11_7, if_neg ne11_8, if_neg ne11_9, if_neg ne11_10, if_pos rfl]
  have hfz12 : G.fz (G.cl 12) = some 2 := by show (if c12 = c1 then some 0 else if c12 = c2 then some 1 else if c12 = c3 then some 1 else if c12 = c4 then some 1 else if c12 = c5 then some 1 else if c12 = c6 then some 1 else if c12 = c7 then some 2 else if c12 = c8 then some 0 else if c12 = c9 then some 1 else if c12 = c10 then some 1 else if c12 = c11 then some 2 else if c12 = c12 then some 2 else if c12 = c13 then some 3 else if c12 = c16 then some 5 else none) = some 2; rw [if_neg ne12_1, if_neg ne12_2, if_neg ne12_3, if_neg ne12_4, if_neg ne12_5, if_neg ne12_6, if_neg ne12_7, if_neg ne12_8, if_neg ne12_9, if_neg ne12_10, if_neg ne12_11, if_pos rfl]
  have hfz13 : G.fz (G.cl 13) = some 3 := by show (if c13 = c1 then some 0 else if c13 = c2 then some 1 else if c13 = c3 then some 1 else if c13 = c4 then some 1 else if c13 = c5 then some 1 else if c13 = c6 then some 1 else if c13 = c7 then some 2 else if c13 = c8 then some 0 else if c13 = c9 then some 1 else if c13 = c10 then some 1 else if c13 = c11 then some 2 else if c13 = c12 then some 2 else if c13 = c13 then some 3 else if c13 = c16 then some 5 else none) = some 3; rw [if_neg ne13_1, if_neg ne13_2, if_neg ne13_3, if_neg ne13_4, if_neg ne13_5, if_neg ne13_6, if_neg ne13_7, if_neg ne13_8, if_neg ne13_9, if_neg ne13_10, if_neg ne13_11, if_neg ne13_12, if_pos rfl]
  have hfz16 : G.fz (G.cl 16) = some 5 := by show (if c16 = c1 then some 0 else if c16 = c2 then some 1 else if c16 = c3 then some 1 else if c16 = c4 then some 1 else if c16 = c5 then some 1 else if c16 = c6 then some 1 else if c16 = c7 then some 2 else if c16 = c8 then some 0 else if c16 = c9 then some 1 else if c16 = c10 then some 1 else if c16 = c11 then some 2 else if c16 = c12 then some 2 else if c16 = c13 then some 3 else if c16 = c16 then some 5 else none) = some 5; rw [if_neg ne16_1, if_neg ne16_2, if_neg ne16_3, if_neg ne16_4, if_neg ne16_5, if_neg ne16_6, if_neg ne16_7, if_neg ne16_8, if_neg ne16_9, if_neg ne16_10, if_neg ne16_11, if_neg ne16_12, if_neg ne16_13, if_pos rfl]
  let T : Txt G mg := {
    a_Anything_holds := f0,
    fd_Anything_holds := _,
    F_Anything_holds := F0,
    b_Anything_holds := b0,
    kp_Anything_holds := k0,
    m_Anything_holds := ⟨a0_1, i0, k0⟩,
    a_Anything_tree := f1,
    fd_Anything_tree := _,
    F_Anything_tree := F1,
    b_Anything_tree := b1,
    kp_Anything_tree := k1,
    m_Anything_tree := ⟨a1_1, i1, k1⟩,
    a_OfWord___init__ := f2,
    fd_OfWord___init__ := _,
    F_OfWord___init__ := F2,
    b_OfWord___init__ := b2,
    kp_OfWord___init__ := k2,
    k_HasWord := ⟨mk2, a2_2, i2, kc2⟩,
    k_InTitle := ⟨mk3, a2_3, i2, kc3⟩,
    k_FromSender := ⟨mk4, a2_4, i2, kc4⟩,
    k_InFolder := ⟨mk5, a2_5, i2, kc5⟩,
    k_IsMarked := ⟨mk6, a2_6, i2, kc6⟩,
    a_OfWord_sign := f3,
    fd_OfWord_sign := _,
    F_OfWord_sign := F3,
    b_OfWord_sign := b3,
    kp_OfWord_sign := k3,
    m_HasWord_sign := ⟨a3_2, i3, k3⟩,
    a_OfWord_tree := f4,
    fd_OfWord_tree := _,
    F_OfWord_tree := F4,
    b_OfWord_tree := b4,
    kp_OfWord_tree := k4,
    m_HasWord_tree := ⟨a4_2, i4, k4⟩,
    m_InTitle_tree := ⟨a4_3, i4, k4⟩,
    m_FromSender_tree := ⟨a4_4, i4, k4⟩,
    m_InFolder_tree := ⟨a4_5, i4, k4⟩,
    m_IsMarked_tree := ⟨a4_6, i4, k4⟩,
    a_InTitle_sign := f5,
    fd_InTitle_sign := _,
    F_InTitle_sign := F5,
    b_InTitle_sign := b5,
    kp_InTitle_sign := k5,
    m_InTitle_sign := ⟨a5_3, i5, k5⟩,
    a_FromSender_sign := f6,
    fd_FromSender_sign := _,
    F_FromSender_sign := F6,
    b_FromSender_sign := b6,
    kp_FromSender_sign := k6,
    m_FromSender_sign := ⟨a6_4, i6, k6⟩,
    a_FromSender_holds := f7,
    fd_FromSender_holds := _,
    F_FromSender_holds := F7,
    b_FromSender_holds := b7,
    kp_FromSender_holds := k7,
    m_FromSender_holds := ⟨a7_4, i7, k7⟩,
    a_InFolder_sign := f8,
    fd_InFolder_sign := _,
    F_InFolder_sign := F8,
    b_InFolder_sign := b8,
    kp_InFolder_sign := k8,
    m_InFolder_sign := ⟨a8_5, i8, k8⟩,
    a_InFolder_holds := f9,
    fd_InFolder_holds := _,
    F_InFolder_holds := F9,
    b_InFolder_holds := b9,
    kp_InFolder_holds := k9,
    m_InFolder_holds := ⟨a9_5, i9, k9⟩,
    a_IsMarked_sign := f10,
    fd_IsMarked_sign := _,
    F_IsMarked_sign := F10,
    b_IsMarked_sign := b10,
    kp_IsMarked_sign := k10,
    m_IsMarked_sign := ⟨a10_6, i10, k10⟩,
    a_IsMarked_holds := f11,
    fd_IsMarked_holds := _,
    F_IsMarked_holds := F11,
    b_IsMarked_holds := b11,
    kp_IsMarked_holds := k11,
    m_IsMarked_holds := ⟨a11_6, i11, k11⟩,
    a_OnDays___init__ := f12,
    fd_OnDays___init__ := _,
    F_OnDays___init__ := F12,
    b_OnDays___init__ := b12,
    kp_OnDays___init__ := k12,
    k_OnDays := ⟨mk7, a12_7, i12, kc7⟩,
    a_OnDays_holds := f13,
    fd_OnDays_holds := _,
    F_OnDays_holds := F13,
    b_OnDays_holds := b13,
    kp_OnDays_holds := k13,
    m_OnDays_holds := ⟨a13_7, i13, k13⟩,
    a_OnDays_tree := f14,
    fd_OnDays_tree := _,
    F_OnDays_tree := F14,
    b_OnDays_tree := b14,
    kp_OnDays_tree := k14,
    m_OnDays_tree := ⟨a14_7, i14, k14⟩,
    a_IsAnswer_holds := f15,
    fd_IsAnswer_holds := _,
    F_IsAnswer_holds := F15,
    b_IsAnswer_holds := b15,
    kp_IsAnswer_holds := k15,
    m_IsAnswer_holds := ⟨a15_8, i15, k15⟩,
    a_IsAnswer_tree := f16,
    fd_IsAnswer_tree := _,
    F_IsAnswer_tree := F16,
    b_IsAnswer_tree := b16,
    kp_IsAnswer_tree := k16,
    m_IsAnswer_tree := ⟨a16_8, i16, k16⟩,
    a_OfOne___init__ := f17,
    fd_OfOne___init__ := _,
    F_OfOne___init__ := F17,
    b_OfOne___init__ := b17,
    kp_OfOne___init__ := k17,
    k_NotSo := ⟨mk9, a17_9, i17, kc9⟩,
    k_InThread := ⟨mk10, a17_10, i17, kc10⟩,
    a_OfOne_sign := f18,
    fd_OfOne_sign := _,
    F_OfOne_sign := F18,
    b_OfOne_sign := b18,
    kp_OfOne_sign := k18,
    m_NotSo_sign := ⟨a18_9, i18, k18⟩,
    a_OfOne_tree := f19,
    fd_OfOne_tree := _,
    F_OfOne_tree := F19,
    b_OfOne_tree := b19,
    kp_OfOne_tree := k19,
    m_NotSo_tree := ⟨a19_9, i19, k19⟩,
    m_InThread_tree := ⟨a19_10, i19, k19⟩,
    a_NotSo_holds := f20,
    fd_NotSo_holds := _,
    F_NotSo_holds := F20,
    b_NotSo_holds := b20,
    kp_NotSo_holds := k20,
    m_NotSo_holds := ⟨a20_9, i20, k20⟩,
    a_InThread_sign := f21,
    fd_InThread_sign := _,
    F_InThread_sign := F21,
    b_InThread_sign := b21,
    kp_InThread_sign := k21,
    m_InThread_sign := ⟨a21_10, i21, k21⟩,
    a_InThread_holds := f22,
    fd_InThread_holds := _,
    F_InThread_holds := F22,
    b_InThread_holds := b22,
    kp_InThread_holds := k22,
    m_InThread_holds := ⟨a22_10, i22, k22⟩,
    a_OfTwo___init__ := f23,
    fd_OfTwo___init__ := _,
    F_OfTwo___init__ := F23,
    b_OfTwo___init__ := b23,
    kp_OfTwo___init__ := k23,
    k_BothSo := ⟨mk11, a23_11, i23, kc11⟩,
    k_EitherSo := ⟨mk12, a23_12, i23, kc12⟩,
    a_OfTwo_sign := f24,
    fd_OfTwo_sign := _,
    F_OfTwo_sign := F24,
    b_OfTwo_sign := b24,
    kp_OfTwo_sign := k24,
    m_BothSo_sign := ⟨a24_11, i24, k24⟩,
    a_OfTwo_tree := f25,
    fd_OfTwo_tree := _,
    F_OfTwo_tree := F25,
    b_OfTwo_tree := b25,
    kp_OfTwo_tree := k25,
    m_BothSo_tree := ⟨a25_11, i25, k25⟩,
    m_EitherSo_tree := ⟨a25_12, i25, k25⟩,
    a_BothSo_holds := f26,
    fd_BothSo_holds := _,
    F_BothSo_holds := F26,
    b_BothSo_holds := b26,
    kp_BothSo_holds := k26,
    m_BothSo_holds := ⟨a26_11, i26, k26⟩,
    a_EitherSo_sign := f27,
    fd_EitherSo_sign := _,
    F_EitherSo_sign := F27,
    b_EitherSo_sign := b27,
    kp_EitherSo_sign := k27,
    m_EitherSo_sign := ⟨a27_12, i27, k27⟩,
    a_EitherSo_holds := f28,
    fd_EitherSo_holds := _,
    F_EitherSo_holds := F28,
    b_EitherSo_holds := b28,
    kp_EitherSo_holds := k28,
    m_EitherSo_holds := ⟨a28_12, i28, k28⟩,
    a_of_word := f29,
    fd_of_word := _,
    F_of_word := F29,
    b_of_word := b29,
    kp_of_word := k29,
    g_of_word := PySem.W.mg_of X H a29,
    a_condition_of := f30,
    fd_condition_of := _,
    F_condition_of := F30,
    b_condition_of := b30,
    kp_condition_of := k30,
    g_condition_of := PySem.W.mg_of X H a30,
    a_Card___init__ := f31,
    fd_Card___init__ := _,
    F_Card___init__ := F31,
    b_Card___init__ := b31,
    kp_Card___init__ := k31,
    k_Card := ⟨mk13, a31_13, i31, kc13⟩,
    a_is_sign := f32,
    fd_is_sign := _,
    F_is_sign := F32,
    b_is_sign := b32,
    kp_is_sign := k32,
    g_is_sign := PySem.W.mg_of X H a32,
    a_is_word := f33,
    fd_is_word := _,
    F_is_word := F33,
    b_is_word := b33,
    kp_is_word := k33,
    g_is_word := PySem.W.mg_of X H a33,
    a_words_of := f34,
    fd_words_of := _,
    F_words_of := F34,
    b_words_of := b34,
    kp_words_of := k34,
    g_words_of := PySem.W.mg_of X H a34,
    a_each_once := f35,
    fd_each_once := _,
    F_each_once := F35,
    b_each_once := b35,
    kp_each_once := k35,
    g_each_once := PySem.W.mg_of X H a35,
    a_is_text := f36,
    fd_is_text := _,
    F_is_text := F36,
    b_is_text := b36,
    kp_is_text := k36,
    g_is_text := PySem.W.mg_of X H a36,
    a_is_day := f37,
    fd_is_day := _,
    F_is_day := F37,
    b_is_day := b37,
    kp_is_day := k37,
    g_is_day := PySem.W.mg_of X H a37,
    a_Letter___init__ := f38,
    fd_Letter___init__ := _,
    F_Letter___init__ := F38,
    b_Letter___init__ := b38,
    kp_Letter___init__ := k38,
    k_Letter := ⟨mk16, a38_16, i38, kc16⟩,
    a_Letter_parts := f39,
    fd_Letter_parts := _,
    F_Letter_parts := F39,
    b_Letter_parts := b39,
    kp_Letter_parts := k39,
    m_Letter_parts := ⟨a39_16, i39, k39⟩,
    a_Letter_title_words := f40,
    fd_Letter_title_words := _,
    F_Letter_title_words := F40,
    b_Letter_title_words := b40,
    kp_Letter_title_words := k40,
    m_Letter_title_words := ⟨a40_16, i40, k40⟩,
    a_Letter_words := f41,
    fd_Letter_words := _,
    F_Letter_words := F41,
    b_Letter_words := b41,
    kp_Letter_words := k41,
    m_Letter_words := ⟨a41_16, i41, k41⟩,
    a_law_cell_at := f42,
    fd_law_cell_at := _,
    F_law_cell_at := F42,
    b_law_cell_at := b42,
    kp_law_cell_at := k42,
    g_law_cell_at := PySem.W.mg_of X H a42,
    a_law_mixed := f43,
    fd_law_mixed := _,
    F_law_mixed := F43,
    b_law_mixed := b43,
    kp_law_mixed := k43,
    g_law_mixed := PySem.W.mg_of X H a43,
    a_law_word_by := f44,
    fd_law_word_by := _,
    F_law_word_by := F44,
    b_law_word_by := b44,
    kp_law_word_by := k44,
    g_law_word_by := PySem.W.mg_of X H a44,
    a_law_text_by := f45,
    fd_law_text_by := _,
    F_law_text_by := F45,
    b_law_text_by := b45,
    kp_law_text_by := k45,
    g_law_text_by := PySem.W.mg_of X H a45,
    a_law_parts_by := f46,
    fd_law_parts_by := _,
    F_law_parts_by := F46,
    b_law_parts_by := b46,
    kp_law_parts_by := k46,
    g_law_parts_by := PySem.W.mg_of X H a46,
    a_law_card_by := f47,
    fd_law_card_by := _,
    F_law_card_by := F47,
    b_law_card_by := b47,
    kp_law_card_by := k47,
    g_law_card_by := PySem.W.mg_of X H a47,
    a_law_letter := f48,
    fd_law_letter := _,
    F_law_letter := F48,
    b_law_letter := b48,
    kp_law_letter := k48,
    g_law_letter := PySem.W.mg_of X H a48,
    a_law_made := f49,
    fd_law_made := _,
    F_law_made := F49,
    b_law_made := b49,
    kp_law_made := k49,
    g_law_made := PySem.W.mg_of X H a49,
    a_law_leaf_by := f50,
    fd_law_leaf_by := _,
    F_law_leaf_by := F50,
    b_law_leaf_by := b50,
    kp_law_leaf_by := k50,
    g_law_leaf_by := PySem.W.mg_of X H a50,
    a_law_threads := f51,
    fd_law_threads := _,
    F_law_threads := F51,
    b_law_threads := b51,
    kp_law_threads := k51,
    g_law_threads := PySem.W.mg_of X H a51,
    a_law_tree_by := f52,
    fd_law_tree_by := _,
    F_law_tree_by := F52,
    b_law_tree_by := b52,
    kp_law_tree_by := k52,
    g_law_tree_by := PySem.W.mg_of X H a52,
    a_law_runs := f53,
    fd_law_runs := _,
    F_law_runs := F53,
    b_law_runs := b53,
    kp_law_runs := k53,
    g_law_runs := PySem.W.mg_of X H a53,
    a_law_holds := f54,
    fd_law_holds := _,
    F_law_holds := F54,
    b_law_holds := b54,
    kp_law_holds := k54,
    g_law_holds := PySem.W.mg_of X H a54,
    a_law_shown := f55,
    fd_law_shown := _,
    F_law_shown := F55,
    b_law_shown := b55,
    kp_law_shown := k55,
    g_law_shown := PySem.W.mg_of X H a55,
    a_HasWord_holds := f56,
    fd_HasWord_holds := _,
    F_HasWord_holds := F56,
    b_HasWord_holds := b56,
    kp_HasWord_holds := k56,
    m_HasWord_holds := ⟨a56_2, i56, k56⟩,
    a_InTitle_holds := f57,
    fd_InTitle_holds := _,
    F_InTitle_holds := F57,
    b_InTitle_holds := b57,
    kp_InTitle_holds := k57,
    m_InTitle_holds := ⟨a57_3, i57, k57⟩,
    a_law_told := f58,
    fd_law_told := _,
    F_law_told := F58,
    b_law_told := b58,
    kp_law_told := k58,
    g_law_told := PySem.W.mg_of X H a58,
    a_law := fa,
    fd_law := _,
    F_law := F59,
    b_law := b59,
    kp_law := k59,
    g_law := PySem.W.mg_of X H a59,
    ko_Anything := ⟨mo1, io1, to1, ko1⟩,
    ko_IsAnswer := ⟨mo8, io8, to8, ko8⟩,
    g_Condition := PySem.W.mg_of X H ac0,
    g_Anything := PySem.W.mg_of X H ac1,
    cl_Anything := ⟨pg1, hd1, po1, sa1⟩,
    fz_Anything := hfz1,
    g_HasWord := PySem.W.mg_of X H ac2,
    cl_HasWord := ⟨pg2, hd2, po2, sa2⟩,
    n_HasWord_word := nf2_0,
    fz_HasWord := hfz2,
    g_InTitle := PySem.W.mg_of X H ac3,
    cl_InTitle := ⟨pg3, hd3, po3, sa3⟩,
    n_InTitle_word := nf3_0,
    fz_InTitle := hfz3,
    g_FromSender := PySem.W.mg_of X H ac4,
    cl_FromSender := ⟨pg4, hd4, po4, sa4⟩,
    n_FromSender_word := nf4_0,
    fz_FromSender := hfz4,
    g_InFolder := PySem.W.mg_of X H ac5,
    cl_InFolder := ⟨pg5, hd5, po5, sa5⟩,
    n_InFolder_word := nf5_0,
    fz_InFolder := hfz5,
    g_IsMarked := PySem.W.mg_of X H ac6,
    cl_IsMarked := ⟨pg6, hd6, po6, sa6⟩,
    n_IsMarked_word := nf6_0,
    fz_IsMarked := hfz6,
    g_OnDays := PySem.W.mg_of X H ac7,
    cl_OnDays := ⟨pg7, hd7, po7, sa7⟩,
    n_OnDays_low := nf7_0,
    n_OnDays_high := nf7_1,
    fz_OnDays := hfz7,
    g_IsAnswer := PySem.W.mg_of X H ac8,
    cl_IsAnswer := ⟨pg8, hd8, po8, sa8⟩,
    fz_IsAnswer := hfz8,
    g_NotSo := PySem.W.mg_of X H ac9,
    cl_NotSo := ⟨pg9, hd9, po9, sa9⟩,
    n_NotSo_inner := nf9_0,
    fz_NotSo := hfz9,
    g_InThread := PySem.W.mg_of X H ac10,
    cl_InThread := ⟨pg10, hd10, po10, sa10⟩,
    n_InThread_inner := nf10_0,
    fz_InThread := hfz10,
    g_BothSo := PySem.W.mg_of X H ac11,
    cl_BothSo := ⟨pg11, hd11, po11, sa11⟩,
    n_BothSo_first := nf11_0,
    n_BothSo_second := nf11_1,
    fz_BothSo := hfz11,
    g_EitherSo := PySem.W.mg_of X H ac12,
    cl_EitherSo := ⟨pg12, hd12, po12, sa12⟩,
    n_EitherSo_first := nf12_0,
    n_EitherSo_second := nf12_1,
    fz_EitherSo := hfz12,
    g_Card := PySem.W.mg_of X H ac13,
    cl_Card := ⟨pg13, hd13, po13, sa13⟩,
    n_Card_letter := nf13_0,
    n_Card_box := nf13_1,
    n_Card_signs := nf13_2,
    fz_Card := hfz13,
    g_MailError := PySem.W.mg_of X H ac14,
    g_NoLetter := PySem.W.mg_of X H ac15,
    x_NoLetter := xE15,
    kp_NoLetter := kE15,
    r_NoLetter := fun {Y} hY => raises_own (by rw [hY]; exact bE15) (by rw [hY]; exact tE15),
    g_Letter := PySem.W.mg_of X H ac16,
    cl_Letter := ⟨pg16, hd16, po16, sa16⟩,
    n_Letter_sender := nf16_0,
    n_Letter_title := nf16_1,
    n_Letter_body := nf16_2,
    n_Letter_day := nf16_3,
    n_Letter_answers := nf16_4,
    fz_Letter := hfz16,
    tc_Cond_Condition := by
      intro i hi
      have hi : i ∈ [1, 2, 3, 4, 5, 6, 7, 8, 9, 10, 11, 12] := by simpa [isC_Cond] using hi
      simp only [List.mem_cons, List.not_mem_nil, or_false] at hi
      rcases hi with rfl | rfl | rfl | rfl | rfl | rfl | rfl | rfl | rfl | rfl | rfl | rfl
      · exact ⟨⟨pg1, hd1, po1, sa1⟩, dc1, ee, ef, dm1, PySem.W.kit_own hdE0 tyE0 ds1_0 (.inl rfl)⟩
      · exact ⟨⟨pg2, hd2, po2, sa2⟩, dc2, ee, ef, dm2, PySem.W.kit_own hdE0 tyE0 ds2_0 (.inl rfl)⟩
      · exact ⟨⟨pg3, hd3, po3, sa3⟩, dc3, ee, ef, dm3, PySem.W.kit_own hdE0 tyE0 ds3_0 (.inl rfl)⟩
      · exact ⟨⟨pg4, hd4, po4, sa4⟩, dc4, ee, ef, dm4, PySem.W.kit_own hdE0 tyE0 ds4_0 (.inl rfl)⟩
      · exact ⟨⟨pg5, hd5, po5, sa5⟩, dc5, ee, ef, dm5, PySem.W.kit_own hdE0 tyE0 ds5_0 (.inl rfl)⟩
      · exact ⟨⟨pg6, hd6, po6, sa6⟩, dc6, ee, ef, dm6, PySem.W.kit_own hdE0 tyE0 ds6_0 (.inl rfl)⟩
      · exact ⟨⟨pg7, hd7, po7, sa7⟩, dc7, ee, ef, dm7, PySem.W.kit_own hdE0 tyE0 ds7_0 (.inl rfl)⟩
      · exact ⟨⟨pg8, hd8, po8, sa8⟩, dc8, ee, ef, dm8, PySem.W.kit_own hdE0 tyE0 ds8_0 (.inl rfl)⟩
      · exact ⟨⟨pg9, hd9, po9, sa9⟩, dc9, ee, ef, dm9, PySem.W.kit_own hdE0 tyE0 ds9_0 (.inl rfl)⟩
      · exact ⟨⟨pg10, hd10, po10, sa10⟩, dc10, ee, ef, dm10, PySem.W.kit_own hdE0 tyE0 ds10_0 (.inl rfl)⟩
      · exact ⟨⟨pg11, hd11, po11, sa11⟩, dc11, ee, ef, dm11, PySem.W.kit_own hdE0 tyE0 ds11_0 (.inl rfl)⟩
      · exact ⟨⟨pg12, hd12, po12, sa12⟩, dc12, ee, ef, dm12, PySem.W.kit_own hdE0 tyE0 ds12_0 (.inl rfl)⟩,
    z_all := PySem.W.mg_none_of X H z_all,
    z_bool := PySem.W.mg_none_of X H z_bool,
    z_enumerate := PySem.W.mg_none_of X H z_enumerate,
    z_int := PySem.W.mg_none_of X H z_int,
    z_isinstance := PySem.W.mg_none_of X H z_isinstance,
    z_len := PySem.W.mg_none_of X H z_len,
    z_list := PySem.W.mg_none_of X H z_list,
    z_max := PySem.W.mg_none_of X H z_max,
    z_range := PySem.W.mg_none_of X H z_range,
    z_set := PySem.W.mg_none_of X H z_set,
    z_sorted := PySem.W.mg_none_of X H z_sorted,
    z_str := PySem.W.mg_none_of X H z_str,
    z_tuple := PySem.W.mg_none_of X H z_tuple,
    t_FIGURES := t_FIGURES,
    c_FIGURES := PySem.W.mg_of X H v_FIGURES,
    t_MOST_BODY := t_MOST_BODY,
    c_MOST_BODY := PySem.W.mg_of X H v_MOST_BODY,
    t_MOST_DAY := t_MOST_DAY,
    c_MOST_DAY := PySem.W.mg_of X H v_MOST_DAY,
    t_MOST_SIGNS := t_MOST_SIGNS,
    c_MOST_SIGNS := PySem.W.mg_of X H v_MOST_SIGNS,
    t_MOST_TITLE := t_MOST_TITLE,
    c_MOST_TITLE := PySem.W.mg_of X H v_MOST_TITLE,
    t_SMALL := t_SMALL,
    c_SMALL := PySem.W.mg_of X H v_SMALL }
  refine ⟨T.fd_law, fun s v => .of_eq rfl, fun base _ _ => ((ok_law T : FnOk l.prog w K mg base CX0 19 fa T.fd_law ["_law_script"] (sp_law G)).imp fun vs H Q E hh => ?_)⟩
  obtain ⟨a, ns, rfl, hs, ho, hl, hq⟩ := hh
  exact ⟨.ref a, ⟨ns⟩, star [], rfl, im_of_only (G := G) ho hs, Sep.unstar (M := []) (Sep.nil H), R.wp_of (law_ok ⟨ns⟩ hl) fun H' _ => hq H'⟩
theorem walk {l : PySem.W.OpenLaw} {q : Program} {loose : List Str} {XP : (Str → Option Value) → Heap → Prop} {YP : World → Heap → Prop} {d : DefRec} {K : Params → PySem.W.Frag} (hn : l.most = some 63) (hdf : d.params.defaults = [])
    (hY : ∀ (w : World) (h : Heap), YP w h → (K w.params).In h)
    (F : ∀ (w : World) (mg : Str → Option Value) (fa : Addr) (h : Heap), (K w.params).In h → h.Ns mainGlobals mg → mg d.name = some (.ref fa) →
      ∃ fd : FuncData, (∀ (s : Shared) (u : Value), BindsTo s fd ⟨[u], []⟩ [("_law_script", u)]) ∧ ∀ base : Heap, (K w.params).In base → base.Ns mainGlobals mg → FnOk l.prog w (K w.params) mg base CX0 19 fa fd ["_law_script"] (sp_top (K w.params))) :
    PySem.W.WalkO q loose XP YP l.row.toRowW d [] (fun f vs => PySem.call f vs) :=
  L2.walk_of (n := 63) (k := 19) (x := "_law_script") (CX := fun _ => CX0) (sp := fun w => sp_top (K w.params)) hn (by decide) hdf ⟨rfl, by decide, by decide⟩ hY F
    (fun w H a ns hl hO hS => ⟨a, ns, rfl, hS, hO, hl, fun _ => rfl⟩) fun _ _ _ _ _ z => z
end Lw
open PySem PySem.W PyProof.Rows
set_option maxRecDepth 100000 in
set_option maxHeartbeats 0 in
theorem PySem.Challenge.cw_mailroom_k12_conditions_hold_holds : PySem.Challenge.rw_mailroom_k12_conditions_hold.Holds := by
  w_on; o_law; k_head; (case hw => w_witness2)
  k_fill
  refine Lw.walk (l := PySem.Challenge.rw_mailroom_k12_conditions_hold) rfl rfl (fun w h Y => PySem.W.kIn_of Y) ?F
  case F =>
    intro w mg fa h KX G hmg
    refine' Lw.all_mk KX G hmg ?ac0 ?ac1 ?ac2 ?ac3 ?ac4 ?ac5 ?ac6 ?ac7 ?ac8 ?ac9 ?ac10 ?ac11 ?ac12 ?ac13 ?ac14 ?ac15 ?ac16 ?a0_1 ?i0 ?l0 ?cc0 ?k0 ?a1_1 ?i1 ?l1 ?cc1 ?k1 ?a2_2 ?a2_3 ?a2_4 ?a2_5 ?a2_6 ?i2 ?l2 ?cc2 ?k2 ?mk2 ?kc2 ?mk3 ?kc3 ?mk4 ?kc4 ?mk5 ?kc5 ?mk6 ?kc6 ?a3_2 ?i3 ?l3 ?cc3 ?k3 ?a4_2 ?a4_3 ?a4_4 ?a4_5 ?a4_6 ?i4 ?l4 ?cc4 ?k4 ?a5_3 ?i5 ?l5 ?cc5 ?k5 ?a6_4 ?i6 ?l6 ?cc6 ?k6 ?a7_4 ?i7 ?l7 ?cc7 ?k7 ?a8_5 ?i8 ?l8 ?cc8 ?k8 ?a9_5 ?i9 ?l9 ?cc9 ?k9 ?a10_6 ?i10 ?l10 ?cc10 ?k10 ?a11_6 ?i11 ?l11 ?cc11 ?k11 ?a12_7 ?i12 ?l12 ?cc12 ?k12 ?mk7 ?kc7 ?a13_7 ?i13 ?l13 ?cc13 ?k13 ?a14_7 ?i14 ?l14 ?cc14 ?k14 ?a15_8 ?i15 ?l15 ?cc15 ?k15 ?a16_8 ?i16 ?l16 ?cc16 ?k16 ?a17_9 ?a17_10 ?i17 ?l17 ?cc17 ?k17 ?mk9 ?kc9 ?mk10 ?kc10 ?a18_9 ?i18 ?l18 ?cc18 ?k18 ?a19_9 ?a19_10 ?i19 ?l19 ?cc19 ?k19 ?a20_9 ?i20 ?l20 ?cc20 ?k20 ?a21_10 ?i21 ?l21 ?cc21 ?k21 ?a22_10 ?i22 ?l22 ?cc22 ?k22 ?a23_11 ?a23_12 ?i23 ?l23 ?cc23 ?k23 ?mk11 ?kc11 ?mk12 ?kc12 ?a24_11 ?i24 ?l24 ?cc24 ?k24 ?a25_11 ?a25_12 ?i25 ?l25 ?cc25 ?k25 ?a26_11 ?i26 ?l26 ?cc26 ?k26 ?a27_12 ?i27 ?l27 ?cc27 ?k27 ?a28_12 ?i28 ?l28 ?cc28 ?k28 ?a29 ?l29 ?cc29 ?k29 ?a30 ?l30 ?cc30 ?k30 ?a31_13 ?i31 ?l31 ?cc31 ?k31 ?T31l ?mk13 ?kc13 ?a32 ?l32 ?cc32 ?k32 ?a33 ?l33 ?cc33 ?k33 ?a34 ?l34 ?cc34 ?k34 ?a35 ?l35 ?cc35 ?k35 ?a36 ?l36 ?cc36 ?k36 ?a37 ?l37 ?cc37 ?k37 ?a38_16 ?i38 ?l38 ?cc38 ?k38 ?T38l ?mk16 ?kc16 ?a39_16 ?i39 ?l39 ?cc39 ?k39 ?a40_16 ?i40 ?l40 ?cc40 ?k40 ?a41_16 ?i41 ?l41 ?cc41 ?k41 ?a42 ?l42 ?cc42 ?k42 ?a43 ?l43 ?cc43 ?k43 ?a44 ?l44 ?cc44 ?k44 ?a45 ?l45 ?cc45 ?k45 ?a46 ?l46 ?cc46 ?k46 ?a47 ?l47 ?cc47 ?k47 ?a48 ?l48 ?cc48 ?k48 ?a49 ?l49 ?cc49 ?k49 ?a50 ?l50 ?cc50 ?k50 ?a51 ?l51 ?cc51 ?k51 ?a52 ?l52 ?cc52 ?k52 ?a53 ?l53 ?cc53 ?k53 ?a54 ?l54 ?cc54 ?k54 ?a55 ?l55 ?cc55 ?k55 ?a56_2 ?i56 ?l56 ?cc56 ?k56 ?a57_3 ?i57 ?l57 ?cc57 ?k57 ?a58 ?l58 ?cc58 ?k58 ?a59 ?l59 ?cc59 ?k59 ?mo1 ?io1 ?to1 ?ko1 ?mo8 ?io8 ?to8 ?ko8 ?pg1 ?hd1 ?po1 ?sa1 ?pg2 ?hd2 ?po2 ?sa2 ?nf2_0 ?pg3 ?hd3 ?po3 ?sa3 ?nf3_0 ?pg4 ?hd4 ?po4 ?sa4 ?nf4_0 ?pg5 ?hd5 ?po5 ?sa5 ?nf5_0 ?pg6 ?hd6 ?po6 ?sa6 ?nf6_0 ?pg7 ?hd7 ?po7 ?sa7 ?nf7_0 ?nf7_1 ?pg8 ?hd8 ?po8 ?sa8 ?pg9 ?hd9 ?po9 ?sa9 ?nf9_0 ?pg10 ?hd10 ?po10 ?sa10 ?nf10_0 ?pg11 ?hd11 ?po11 ?sa11 ?nf11_0 ?nf11_1 ?pg12 ?hd12 ?po12 ?sa12 ?nf12_0 ?nf12_1 ?pg13 ?hd13 ?po13 ?sa13 ?nf13_0 ?nf13_1 ?nf13_2 ?xE15 ?kE15 ?bE15 ?tE15 ?pg16 ?hd16 ?po16 ?sa16 ?nf16_0 ?nf16_1 ?nf16_2 ?nf16_3 ?nf16_4 ?ee ?ef ?hdE0 ?tyE0 ?dc1 ?dm1 ?ds1_0 ?dc2 ?dm2 ?ds2_0 ?dc3 ?dm3 ?ds3_0 ?dc4 ?dm4 ?ds4_0 ?dc5 ?dm5 ?ds5_0 ?dc6 ?dm6 ?ds6_0 ?dc7 ?dm7 ?ds7_0 ?dc8 ?dm8 ?ds8_0 ?dc9 ?dm9 ?ds9_0 ?dc10 ?dm10 ?ds10_0 ?dc11 ?dm11 ?ds11_0 ?dc12 ?dm12 ?ds12_0 ?z_all ?z_bool ?z_enumerate ?z_int ?z_isinstance ?z_len ?z_list ?z_max ?z_range ?z_set ?z_sorted ?z_str ?z_tuple ?v_FIGURES ?v_MOST_BODY ?v_MOST_DAY ?v_MOST_SIGNS ?v_MOST_TITLE ?v_SMALL ?ne2_1 ?ne3_1 ?ne3_2 ?ne4_1 ?ne4_2 ?ne4_3 ?ne5_1 ?ne5_2 ?ne5_3 ?ne5_4 ?ne6_1 ?ne6_2 ?ne6_3 ?ne6_4 ?ne6_5 ?ne7_1 ?ne7_2 ?ne7_3 ?ne7_4 ?ne7_5 ?ne7_6 ?ne8_1 ?ne8_2 ?ne8_3 ?ne8_4 ?ne8_5 ?ne8_6 ?ne8_7 ?ne9_1 ?ne9_2 ?ne9_3 ?ne9_4 ?ne9_5 ?ne9_6 ?ne9_7 ?ne9_8 ?ne10_1 ?ne10_2 ?ne10_3 ?ne10_4 ?ne10_5 ?ne10_6 ?ne10_7 ?ne10_8 ?ne10_9 ?ne11_1 ?ne11_2 ?ne11_3 ?ne11_4 ?ne11_5 ?ne11_6 ?ne11_7 ?ne11_8 ?ne11_9 ?ne11_10 ?ne12_1 ?ne12_2 ?ne12_3 ?ne12_4 ?ne12_5 ?ne12_6 ?ne12_7 ?ne12_8 ?ne12_9 ?ne12_10 ?ne12_11 ?ne13_1 ?ne13_2 ?ne13_3 ?ne13_4 ?ne13_5 ?ne13_6 ?ne13_7 ?ne13_8 ?ne13_9 ?ne13_10 ?ne13_11 ?ne13_12 ?ne16_1 ?ne16_2 ?ne16_3 ?ne16_4 ?ne16_5 ?ne16_6 ?ne16_7 ?ne16_8 ?ne16_9 ?ne16_10 ?ne16_11 ?ne16_12 ?ne16_13
    (case ac0 => k_is)
    (case ac1 => k_is)
    (case ac2 => k_is)
    (case ac3 => k_is)
    (case ac4 => k_is)
    (case ac5 => k_is)
    (case ac6 => k_is)
    (case ac7 => k_is)
    (case ac8 => k_is)
    (case ac9 => k_is)
    (case ac10 => k_is)
    (case ac11 => k_is)
    (case ac12 => k_is)
    (case ac13 => k_is)
    (case ac14 => k_is)
    (case ac15 => k_is)
    (case ac16 => k_is)
    (case a0_1 => k_is)
    (case i0 => k_is)
    (case l0 => k_is)
    (case cc0 => k_is)
    (case k0 => k_is)
    (case a1_1 => k_is)
    (case i1 => k_is)
    (case l1 => k_is)
    (case cc1 => k_is)
    (case k1 => k_is)
    (case a2_2 => k_is)
    (case a2_3 => k_is)
    (case a2_4 => k_is)
    (case a2_5 => k_is)
    (case a2_6 => k_is)
    (case i2 => k_is)
    (case l2 => k_is)
    (case cc2 => k_is)
    (case k2 => k_is)
    (case mk2 => k_is)
    (case kc2 => k_is)
    (case mk3 => k_is)
    (case kc3 => k_is)
    (case mk4 => k_is)
    (case kc4 => k_is)
    (case mk5 => k_is)
    (case kc5 => k_is)
    (case mk6 => k_is)
    (case kc6 => k_is)
    (case a3_2 => k_is)
    (case i3 => k_is)
    (case l3 => k_is)
    (case cc3 => k_is)
    (case k3 => k_is)
    (case a4_2 => k_is)
    (case a4_3 => k_is)
    (case a4_4 => k_is)
    (case a4_5 => k_is)
    (case a4_6 => k_is)
    (case i4 => k_is)
    (case l4 => k_is)
    (case cc4 => k_is)
    (case k4 => k_is)
    (case a5_3 => k_is)
    (case i5 => k_is)
    (case l5 => k_is)
    (case cc5 => k_is)
    (case k5 => k_is)
    (case a6_4 => k_is)
    (case i6 => k_is)
    (case l6 => k_is)
    (case cc6 => k_is)
    (case k6 => k_is)
    (case a7_4 => k_is)
    (case i7 => k_is)
    (case l7 => k_is)
    (case cc7 => k_is)
    (case k7 => k_is)
    (case a8_5 => k_is)
    (case i8 => k_is)
    (case l8 => k_is)
    (case cc8 => k_is)
    (case k8 => k_is)
    (case a9_5 => k_is)
    (case i9 => k_is)
    (case l9 => k_is)
    (case cc9 => k_is)
    (case k9 => k_is)
    (case a10_6 => k_is)
    (case i10 => k_is)
    (case l10 => k_is)
    (case cc10 => k_is)
    (case k10 => k_is)
    (case a11_6 => k_is)
    (case i11 => k_is)
    (case l11 => k_is)
    (case cc11 => k_is)
    (case k11 => k_is)
    (case a12_7 => k_is)
    (case i12 => k_is)
    (case l12 => k_is)
    (case cc12 => k_is)
    (case k12 => k_is)
    (case mk7 => k_is)
    (case kc7 => k_is)
    (case a13_7 => k_is)
    (case i13 => k_is)
    (case l13 => k_is)
    (case cc13 => k_is)
    (case k13 => k_is)
    (case a14_7 => k_is)
    (case i14 => k_is)
    (case l14 => k_is)
    (case cc14 => k_is)
    (case k14 => k_is)
    (case a15_8 => k_is)
    (case i15 => k_is)
    (case l15 => k_is)
    (case cc15 => k_is)
    (case k15 => k_is)
    (case a16_8 => k_is)
    (case i16 => k_is)
    (case l16 => k_is)
    (case cc16 => k_is)
    (case k16 => k_is)
    (case a17_9 => k_is)
    (case a17_10 => k_is)
    (case i17 => k_is)
    (case l17 => k_is)
    (case cc17 => k_is)
    (case k17 => k_is)
    (case mk9 => k_is)
    (case kc9 => k_is)
    (case mk10 => k_is)
    (case kc10 => k_is)
    (case a18_9 => k_is)
    (case i18 => k_is)
    (case l18 => k_is)
    (case cc18 => k_is)
    (case k18 => k_is)
    (case a19_9 => k_is)
    (case a19_10 => k_is)
    (case i19 => k_is)
    (case l19 => k_is)
    (case cc19 => k_is)
    (case k19 => k_is)
    (case a20_9 => k_is)
    (case i20 => k_is)
    (case l20 => k_is)
    (case cc20 => k_is)
    (case k20 => k_is)
    (case a21_10 => k_is)
    (case i21 => k_is)
    (case l21 => k_is)
    (case cc21 => k_is)
    (case k21 => k_is)
    (case a22_10 => k_is)
    (case i22 => k_is)
    (case l22 => k_is)
    (case cc22 => k_is)
    (case k22 => k_is)
    (case a23_11 => k_is)
    (case a23_12 => k_is)
    (case i23 => k_is)
    (case l23 => k_is)
    (case cc23 => k_is)
    (case k23 => k_is)
    (case mk11 => k_is)
    (case kc11 => k_is)
    (case mk12 => k_is)
    (case kc12 => k_is)
    (case a24_11 => k_is)
    (case i24 => k_is)
    (case l24 => k_is)
    (case cc24 => k_is)
    (case k24 => k_is)
    (case a25_11 => k_is)
    (case a25_12 => k_is)
    (case i25 => k_is)
    (case l25 => k_is)
    (case cc25 => k_is)
    (case k25 => k_is)
    (case a26_11 => k_is)
    (case i26 => k_is)
    (case l26 => k_is)
    (case cc26 => k_is)
    (case k26 => k_is)
    (case a27_12 => k_is)
    (case i27 => k_is)
    (case l27 => k_is)
    (case cc27 => k_is)
    (case k27 => k_is)
    (case a28_12 => k_is)
    (case i28 => k_is)
    (case l28 => k_is)
    (case cc28 => k_is)
    (case k28 => k_is)
    (case a29 => k_is)
    (case l29 => k_is)
    (case cc29 => k_is)
    (case k29 => k_is)
    (case a30 => k_is)
    (case l30 => k_is)
    (case cc30 => k_is)
    (case k30 => k_is)
    (case a31_13 => k_is)
    (case i31 => k_is)
    (case l31 => k_is)
    (case cc31 => k_is)
    (case k31 => k_is)
    (case T31l => k_is)
    (case mk13 => k_is)
    (case kc13 => k_is)
    (case a32 => k_is)
    (case l32 => k_is)
    (case cc32 => k_is)
    (case k32 => k_is)
    (case a33 => k_is)
    (case l33 => k_is)
    (case cc33 => k_is)
    (case k33 => k_is)
    (case a34 => k_is)
    (case l34 => k_is)
    (case cc34 => k_is)
    (case k34 => k_is)
    (case a35 => k_is)
    (case l35 => k_is)
    (case cc35 => k_is)
    (case k35 => k_is)
    (case a36 => k_is)
    (case l36 => k_is)
    (case cc36 => k_is)
    (case k36 => k_is)
    (case a37 => k_is)
    (case l37 => k_is)
    (case cc37 => k_is)
    (case k37 => k_is)
    (case a38_16 => k_is)
    (case i38 => k_is)
    (case l38 => k_is)
    (case cc38 => k_is)
    (case k38 => k_is)
    (case T38l => k_is)
    (case mk16 => k_is)
    (case kc16 => k_is)
    (case a39_16 => k_is)
    (case i39 => k_is)
    (case l39 => k_is)
    (case cc39 => k_is)
    (case k39 => k_is)
    (case a40_16 => k_is)
    (case i40 => k_is)
    (case l40 => k_is)
    (case cc40 => k_is)
    (case k40 => k_is)
    (case a41_16 => k_is)
    (case i41 => k_is)
    (case l41 => k_is)
    (case cc41 => k_is)
    (case k41 => k_is)
    (case a42 => k_is)
    (case l42 => k_is)
    (case cc42 => k_is)
    (case k42 => k_is)
    (case a43 => k_is)
    (case l43 => k_is)
    (case cc43 => k_is)
    (case k43 => k_is)
    (case a44 => k_is)
    (case l44 => k_is)
    (case cc44 => k_is)
    (case k44 => k_is)
    (case a45 => k_is)
    (case l45 => k_is)
    (case cc45 => k_is)
    (case k45 => k_is)
    (case a46 => k_is)
    (case l46 => k_is)
    (case cc46 => k_is)
    (case k46 => k_is)
    (case a47 => k_is)
    (case l47 => k_is)
    (case cc47 => k_is)
    (case k47 => k_is)
    (case a48 => k_is)
    (case l48 => k_is)
    (case cc48 => k_is)
    (case k48 => k_is)
    (case a49 => k_is)
    (case l49 => k_is)
    (case cc49 => k_is)
    (case k49 => k_is)
    (case a50 => k_is)
    (case l50 => k_is)
    (case cc50 => k_is)
    (case k50 => k_is)
    (case a51 => k_is)
    (case l51 => k_is)
    (case cc51 => k_is)
    (case k51 => k_is)
    (case a52 => k_is)
    (case l52 => k_is)
    (case cc52 => k_is)
    (case k52 => k_is)
    (case a53 => k_is)
    (case l53 => k_is)
    (case cc53 => k_is)
    (case k53 => k_is)
    (case a54 => k_is)
    (case l54 => k_is)
    (case cc54 => k_is)
    (case k54 => k_is)
    (case a55 => k_is)
    (case l55 => k_is)
    (case cc55 => k_is)
    (case k55 => k_is)
    (case a56_2 => k_is)
    (case i56 => k_is)
    (case l56 => k_is)
    (case cc56 => k_is)
    (case k56 => k_is)
    (case a57_3 => k_is)
    (case i57 => k_is)
    (case l57 => k_is)
    (case cc57 => k_is)
    (case k57 => k_is)
    (case a58 => k_is)
    (case l58 => k_is)
    (case cc58 => k_is)
    (case k58 => k_is)
    (case a59 => k_is)
    (case l59 => k_is)
    (case cc59 => k_is)
    (case k59 => k_is)
    (case mo1 => k_is)
    (case io1 => k_is)
    (case to1 => k_is)
    (case ko1 => k_is)
    (case mo8 => k_is)
    (case io8 => k_is)
    (case to8 => k_is)
    (case ko8 => k_is)
    (case pg1 => k_is)
    (case hd1 => k_is)
    (case po1 => k_is)
    (case sa1 => k_is)
    (case pg2 => k_is)
    (case hd2 => k_is)
    (case po2 => k_is)
    (case sa2 => k_is)
    (case nf2_0 => k_is)
    (case pg3 => k_is)
    (case hd3 => k_is)
    (case po3 => k_is)
    (case sa3 => k_is)
    (case nf3_0 => k_is)
    (case pg4 => k_is)
    (case hd4 => k_is)
    (case po4 => k_is)
    (case sa4 => k_is)
    (case nf4_0 => k_is)
    (case pg5 => k_is)
    (case hd5 => k_is)
    (case po5 => k_is)
    (case sa5 => k_is)
    (case nf5_0 => k_is)
    (case pg6 => k_is)
    (case hd6 => k_is)
    (case po6 => k_is)
    (case sa6 => k_is)
    (case nf6_0 => k_is)
    (case pg7 => k_is)
    (case hd7 => k_is)
    (case po7 => k_is)
    (case sa7 => k_is)
    (case nf7_0 => k_is)
    (case nf7_1 => k_is)
    (case pg8 => k_is)
    (case hd8 => k_is)
    (case po8 => k_is)
    (case sa8 => k_is)
    (case pg9 => k_is)
    (case hd9 => k_is)
    (case po9 => k_is)
    (case sa9 => k_is)
    (case nf9_0 => k_is)
    (case pg10 => k_is)
    (case hd10 => k_is)
    (case po10 => k_is)
    (case sa10 => k_is)
    (case nf10_0 => k_is)
    (case pg11 => k_is)
    (case hd11 => k_is)
    (case po11 => k_is)
    (case sa11 => k_is)
    (case nf11_0 => k_is)
    (case nf11_1 => k_is)
    (case pg12 => k_is)
    (case hd12 => k_is)
    (case po12 => k_is)
    (case sa12 => k_is)
    (case nf12_0 => k_is)
    (case nf12_1 => k_is)
    (case pg13 => k_is)
    (case hd13 => k_is)
    (case po13 => k_is)
    (case sa13 => k_is)
    (case nf13_0 => k_is)
    (case nf13_1 => k_is)
    (case nf13_2 => k_is)
    (case xE15 => first | k_exc | k_is)
    (case kE15 => k_is)
    (case bE15 => k_is)
    (case tE15 => k_is)
    (case pg16 => k_is)
    (case hd16 => k_is)
    (case po16 => k_is)
    (case sa16 => k_is)
    (case nf16_0 => k_is)
    (case nf16_1 => k_is)
    (case nf16_2 => k_is)
    (case nf16_3 => k_is)
    (case nf16_4 => k_is)
    (case ee => k_is)
    (case ef => k_is)
    (case hdE0 => k_is)
    (case tyE0 => k_is)
    (case dc1 => k_is)
    (case dm1 => k_is)
    (case ds1_0 => k_is)
    (case dc2 => k_is)
    (case dm2 => k_is)
    (case ds2_0 => k_is)
    (case dc3 => k_is)
    (case dm3 => k_is)
    (case ds3_0 => k_is)
    (case dc4 => k_is)
    (case dm4 => k_is)
    (case ds4_0 => k_is)
    (case dc5 => k_is)
    (case dm5 => k_is)
    (case ds5_0 => k_is)
    (case dc6 => k_is)
    (case dm6 => k_is)
    (case ds6_0 => k_is)
    (case dc7 => k_is)
    (case dm7 => k_is)
    (case ds7_0 => k_is)
    (case dc8 => k_is)
    (case dm8 => k_is)
    (case ds8_0 => k_is)
    (case dc9 => k_is)
    (case dm9 => k_is)
    (case ds9_0 => k_is)
    (case dc10 => k_is)
    (case dm10 => k_is)
    (case ds10_0 => k_is)
    (case dc11 => k_is)
    (case dm11 => k_is)
    (case ds11_0 => k_is)
    (case dc12 => k_is)
    (case dm12 => k_is)
    (case ds12_0 => k_is)
    (case z_all => k_is)
    (case z_bool => k_is)
    (case z_enumerate => k_is)
    (case z_int => k_is)
    (case z_isinstance => k_is)
    (case z_len => k_is)
    (case z_list => k_is)
    (case z_max => k_is)
    (case z_range => k_is)
    (case z_set => k_is)
    (case z_sorted => k_is)
    (case z_str => k_is)
    (case z_tuple => k_is)
    (case v_FIGURES => k_is)
    (case v_MOST_BODY => k_is)
    (case v_MOST_DAY => k_is)
    (case v_MOST_SIGNS => k_is)
    (case v_MOST_TITLE => k_is)
    (case v_SMALL => k_is)
    (case ne2_1 => decide)
    (case ne3_1 => decide)
    (case ne3_2 => decide)
    (case ne4_1 => decide)
    (case ne4_2 => decide)
    (case ne4_3 => decide)
    (case ne5_1 => decide)
    (case ne5_2 => decide)
    (case ne5_3 => decide)
    (case ne5_4 => decide)
    (case ne6_1 => decide)
    (case ne6_2 => decide)
    (case ne6_3 => decide)
    (case ne6_4 => decide)
    (case ne6_5 => decide)
    (case ne7_1 => decide)
    (case ne7_2 => decide)
    (case ne7_3 => decide)
    (case ne7_4 => decide)
    (case ne7_5 => decide)
    (case ne7_6 => decide)
    (case ne8_1 => decide)
    (case ne8_2 => decide)
    (case ne8_3 => decide)
    (case ne8_4 => decide)
    (case ne8_5 => decide)
    (case ne8_6 => decide)
    (case ne8_7 => decide)
    (case ne9_1 => decide)
    (case ne9_2 => decide)
    (case ne9_3 => decide)
    (case ne9_4 => decide)
    (case ne9_5 => decide)
    (case ne9_6 => decide)
    (case ne9_7 => decide)
    (case ne9_8 => decide)
    (case ne10_1 => decide)
    (case ne10_2 => decide)
    (case ne10_3 => decide)
    (case ne10_4 => decide)
    (case ne10_5 => decide)
    (case ne10_6 => decide)
    (case ne10_7 => decide)
    (case ne10_8 => decide)
    (case ne10_9 => decide)
    (case ne11_1 => decide)
    (case ne11_2 => decide)
    (case ne11_3 => decide)
    (case ne11_4 => decide)
    (case ne11_5 => decide)
    (case ne11_6 => decide)
    (case ne11_7 => decide)
    (case ne11_8 => decide)
    (case ne11_9 => decide)
    (case ne11_10 => decide)
    (case ne12_1 => decide)
    (case ne12_2 => decide)
    (case ne12_3 => decide)
    (case ne12_4 => decide)
    (case ne12_5 => decide)
    (case ne12_6 => decide)
    (case ne12_7 => decide)
    (case ne12_8 => decide)
    (case ne12_9 => decide)
    (case ne12_10 => decide)
    (case ne12_11 => decide)
    (case ne13_1 => decide)
    (case ne13_2 => decide)
    (case ne13_3 => decide)
    (case ne13_4 => decide)
    (case ne13_5 => decide)
    (case ne13_6 => decide)
    (case ne13_7 => decide)
    (case ne13_8 => decide)
    (case ne13_9 => decide)
    (case ne13_10 => decide)
    (case ne13_11 => decide)
    (case ne13_12 => decide)
    (case ne16_1 => decide)
    (case ne16_2 => decide)
    (case ne16_3 => decide)
    (case ne16_4 => decide)
    (case ne16_5 => decide)
    (case ne16_6 => decide)
    (case ne16_7 => decide)
    (case ne16_8 => decide)
    (case ne16_9 => decide)
    (case ne16_10 => decide)
    (case ne16_11 => decide)
    (case ne16_12 => decide)
    (case ne16_13 => decide)
