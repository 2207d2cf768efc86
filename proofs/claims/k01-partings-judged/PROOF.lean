import PyProof.Rows.All
import Wide.All
import OpenK.AllK
import Wide.FinOn
import HandS.ForMost
import HandS.Deep
import HandS.Walk
import HandS.IsInst
import HandS.Conv
import HandS.Wide
import HandS.WideBits
import HandS.TupLe
import HandS.Style
import HandS.Zip
import HandS.Flow
import HandS.NoneIn
import HandS.Lambda
import KE.SortData
import HandS.RevRange
import HandS.Rev
import HandS.Defaults
import HandS.RaiseMore
import HandS.Ends
import HandS.SetFor
import HandS.Strs
import PyProof.ReprLen
import PySem.Challenge.RW_twopartings_k01_partings_judged
set_option Elab.async false
set_option linter.all false
set_option maxRecDepth 100000
set_option maxHeartbeats 4000000
/-! orders of lists, pure -/
namespace J
def ltI : List Int → List Int → Bool
  | [], [] => false
  | [], _ :: _ => true
  | _ :: _, [] => false
  | x :: r, y :: t => decide (x < y) || (!decide (y < x) && ltI r t)
def leI (a b : List Int) : Bool := !ltI b a
theorem ltI_irrefl : ∀ a : List Int, ltI a a = false
  | [] => rfl
  | x :: r => by simp [ltI, ltI_irrefl r]
theorem ltI_total : ∀ a b : List Int, ltI a b = false → ltI b a = false → a = b
  | [], [], _, _ => rfl
  | [], _ :: _, h, _ => nomatch h
  | _ :: _, [], _, h => nomatch h
  | x :: r, y :: t, h1, h2 => by
    simp only [ltI, Bool.or_eq_false_iff, decide_eq_false_iff_not, Bool.and_eq_false_iff, Bool.not_eq_false', decide_eq_true_eq] at h1 h2
    have e : x = y := by omega
    subst e
    rw [ltI_total r t (by rcases h1.2 with h | h; · omega
                          · exact h) (by rcases h2.2 with h | h; · omega
                                         · exact h)]
theorem ltI_trans : ∀ a b c : List Int, ltI a b = true → ltI b c = true → ltI a c = true
  | [], [], _, h, _ => nomatch h
  | [], _ :: _, [], _, h => nomatch h
  | [], _ :: _, _ :: _, _, _ => rfl
  | _ :: _, [], _, h, _ => nomatch h
  | _ :: _, _ :: _, [], _, h => nomatch h
  | x :: r, y :: t, z :: u, h1, h2 => by
    simp only [ltI, Bool.or_eq_true, decide_eq_true_eq, Bool.and_eq_true, Bool.not_eq_true', decide_eq_false_iff_not] at h1 h2 ⊢
    rcases h1 with h1 | ⟨h1, h3⟩
    · rcases h2 with h2 | ⟨h2, _⟩
      · exact .inl (by omega)
      · exact .inl (by omega)
    · rcases h2 with h2 | ⟨h2, h4⟩
      · exact .inl (by omega)
      · by_cases e : x < z
        · exact .inl e
        · exact .inr ⟨by omega, ltI_trans r t u h3 h4⟩
theorem leI_trans (a b c : List Int) (h1 : leI a b = true) (h2 : leI b c = true) : leI a c = true := by
  unfold leI at *
  rw [Bool.not_eq_true'] at *
  cases q : ltI c a with
  | false => rfl
  | true =>
    cases q2 : ltI b c with
    | true => rw [ltI_trans b c a q2 q] at h1; cases h1
    | false => rw [ltI_total b c q2 h2] at h1; rw [h1] at q; cases q
theorem leI_total (a b : List Int) : (leI a b || leI b a) = true := by
  unfold leI
  cases q : ltI b a with
  | false => rfl
  | true =>
    cases q2 : ltI a b with
    | false => rfl
    | true => exact absurd (ltI_trans b a b q q2) (by rw [ltI_irrefl]; decide)
theorem leI_anti (a b : List Int) (h1 : leI a b = true) (h2 : leI b a = true) : a = b := by
  unfold leI at *
  rw [Bool.not_eq_true'] at *
  exact ltI_total a b h2 h1

/-! ### sorted lists -/
theorem perm_sorted {α : Type} {le : α → α → Bool} (anti : ∀ a b, le a b = true → le b a = true → a = b) : ∀ {l m : List α}, l.Perm m → l.Pairwise (fun a b => le a b = true) → m.Pairwise (fun a b => le a b = true) → l = m
  | [], m, h, _, _ => (List.perm_nil.mp h.symm).symm
  | a :: r, [], h, _, _ => absurd h.length_eq (by simp)
  | a :: r, b :: t, h, h1, h2 => by
    have e : a = b := by
      by_cases e : a = b
      · exact e
      · have ha : a ∈ b :: t := h.mem_iff.mp List.mem_cons_self
        have hb : b ∈ a :: r := h.mem_iff.mpr List.mem_cons_self
        have ha' : a ∈ t := by
          rcases List.mem_cons.mp ha with q | q
          · exact absurd q e
          · exact q
        have hb' : b ∈ r := by
          rcases List.mem_cons.mp hb with q | q
          · exact absurd q.symm e
          · exact q
        exact anti a b ((List.pairwise_cons.mp h1).1 b hb') ((List.pairwise_cons.mp h2).1 a ha')
    subst e
    rw [perm_sorted anti (h.cons_inv) (List.pairwise_cons.mp h1).2 (List.pairwise_cons.mp h2).2]
abbrev leZ (a b : Int) : Bool := decide (a ≤ b)
theorem leZ_trans (a b c : Int) (h1 : leZ a b = true) (h2 : leZ b c = true) : leZ a c = true := by
  have := of_decide_eq_true h1
  have := of_decide_eq_true h2
  exact decide_eq_true (by omega)
theorem leZ_total (a b : Int) : (leZ a b || leZ b a) = true := by
  by_cases h : a ≤ b
  · simp [leZ, h]
  · simp [leZ]; omega
theorem leZ_anti (a b : Int) (h1 : leZ a b = true) (h2 : leZ b a = true) : a = b := by
  have := of_decide_eq_true h1
  have := of_decide_eq_true h2
  omega
/-- the list, ascending -/
def sZ (l : List Int) : List Int := l.mergeSort leZ
def sR (l : List (List Int)) : List (List Int) := l.mergeSort leI
theorem sZ_perm (l : List Int) : (sZ l).Perm l := List.mergeSort_perm l leZ
theorem sR_perm (l : List (List Int)) : (sR l).Perm l := List.mergeSort_perm l leI
theorem sZ_sorted (l : List Int) : (sZ l).Pairwise (fun a b => leZ a b = true) := List.pairwise_mergeSort leZ_trans leZ_total l
theorem sR_sorted (l : List (List Int)) : (sR l).Pairwise (fun a b => leI a b = true) := List.pairwise_mergeSort leI_trans leI_total l
theorem sZ_eq {l m : List Int} (h : l.Perm m) : sZ l = sZ m := perm_sorted leZ_anti ((sZ_perm l).trans (h.trans (sZ_perm m).symm)) (sZ_sorted l) (sZ_sorted m)
theorem sR_eq {l m : List (List Int)} (h : l.Perm m) : sR l = sR m := perm_sorted leI_anti ((sR_perm l).trans (h.trans (sR_perm m).symm)) (sR_sorted l) (sR_sorted m)
theorem sZ_of {l : List Int} (h : l.Pairwise (fun a b => leZ a b = true)) : sZ l = l := List.mergeSort_of_pairwise h
theorem sR_of {l : List (List Int)} (h : l.Pairwise (fun a b => leI a b = true)) : sR l = l := List.mergeSort_of_pairwise h
end J
namespace J
open PySem PySem.Spec PyProof.Rows L2

abbrev D := PySem.PyData
abbrev VW := List (Option D)
/-- what a cell holds: a list or a dict that may change, or a table of code objects -/
inductive Cell where
  | lst (ds : List D)
  | dct (t : Bool) (es : List (D × D))
  | tbl (q : Str)
abbrev STO := List Cell
/-- the token that stands for a cell -/
def tokD (i : Nat) : D := .dict [(.none, .int i)]
/-- the datum of the script's list -/
def skD (ds : List D) : D := .dict [(.none, .list ds)]
def kD : Key → D
  | .inl i => .int i
  | .inr x => .str x

open Classical in
/-- the heap without what A hides -/
noncomputable def hid (A : Addr → Prop) (H : Hp) : Hp := fun a => if A a then none else H a
theorem hid_eq {A : Addr → Prop} {H : Hp} {a : Addr} {o : HO} : hid A H a = some o ↔ ¬ A a ∧ H a = some o := by
  unfold hid
  by_cases h : A a
  · simp [h]
  · simp [h]

mutual
inductive Rp (K : PySem.W.Frag) (S : List Addr) (H : Hp) : V → D → Prop
  | non : Rp K S H .non .none
  | bl (b : Bool) : Rp K S H (.bl b) (.bool b)
  | int (i : Int) : Rp K S H (.int i) (.int i)
  | str (x : Str) : Rp K S H (.str x) (.str x)
  | lst {a : Addr} {xs : List V} {ds : List D} : Rd H a (.lst xs) → RpA K S H xs ds → Rp K S H (.ref a) (.list ds)
  | tup {a : Addr} {xs : List V} {ds : List D} : H a = some (.tup xs) → RpA K S H xs ds → Rp K S H (.ref a) (.tuple ds)
  | dK {a : Addr} {o : Obj} {kvs : List (Key × V)} {es : List (D × D)} : H a = some (.frz o (.dK kvs)) → RpK K S H kvs es → Rp K S H (.ref a) (.dict es)
  | dT {a : Addr} {o : Obj} {p : List Key × V} {kvs : List (List Key × V)} {es : List (D × D)} : H a = some (.frz o (.dT (p :: kvs))) → RpT K S H (p :: kvs) es → Rp K S H (.ref a) (.dict es)
  | tok {a : Addr} {i : Nat} : S[i]? = some a → Rp K S H (.ref a) (tokD i)
  | sk {a : Addr} {xs : List V} {ds : List D} : SqL K H a xs → RpA K S H xs ds → Rp K S H (.ref a) (skD ds)
inductive RpA (K : PySem.W.Frag) (S : List Addr) (H : Hp) : List V → List D → Prop
  | nil : RpA K S H [] []
  | cons {v : V} {vs : List V} {d : D} {ds : List D} : Rp K S H v d → RpA K S H vs ds → RpA K S H (v :: vs) (d :: ds)
inductive RpK (K : PySem.W.Frag) (S : List Addr) (H : Hp) : List (Key × V) → List (D × D) → Prop
  | nil : RpK K S H [] []
  | cons {k : Key} {v : V} {r : List (Key × V)} {d : D} {es : List (D × D)} : Rp K S H v d → RpK K S H r es → RpK K S H ((k, v) :: r) ((kD k, d) :: es)
inductive RpT (K : PySem.W.Frag) (S : List Addr) (H : Hp) : List (List Key × V) → List (D × D) → Prop
  | nil : RpT K S H [] []
  | cons {k : List Key} {v : V} {r : List (List Key × V)} {d : D} {es : List (D × D)} : Rp K S H v d → RpT K S H r es → RpT K S H ((k, v) :: r) ((.tuple (k.map kD), d) :: es)
end

theorem Rd.le {H H' : Hp} {a : Addr} {u : HO} (e : Same H H') (h : Rd H a u) : Rd H' a u := by
  rcases h with h | ⟨o, h⟩
  · exact .inl (e _ _ h)
  · exact .inr ⟨o, e _ _ h⟩

section
variable {K : PySem.W.Frag} {S : List Addr} {H H' : Hp}
theorem Rp.le (e : Same H H') {v : V} {d : D} (h : Rp K S H v d) : Rp K S H' v d :=
  Rp.rec (motive_1 := fun v d _ => Rp K S H' v d) (motive_2 := fun v d _ => RpA K S H' v d) (motive_3 := fun v d _ => RpK K S H' v d) (motive_4 := fun v d _ => RpT K S H' v d)
    .non .bl .int .str (fun s _ h => .lst (Rd.le e s) h) (fun s _ h => .tup (e _ _ s) h) (fun s _ h => .dK (e _ _ s) h) (fun s _ h => .dT (e _ _ s) h) .tok (fun s _ h => .sk (L2.Same.seq e s) h)
    .nil (fun _ _ a b => .cons a b) .nil (fun _ _ a b => .cons a b) .nil (fun _ _ a b => .cons a b) h
theorem RpA.le (e : Same H H') : ∀ {vs : List V} {ds : List D}, RpA K S H vs ds → RpA K S H' vs ds
  | _, _, .nil => .nil
  | _, _, .cons a b => .cons (a.le e) (b.le e)
theorem RpK.le (e : Same H H') : ∀ {vs : List (Key × V)} {ds : List (D × D)}, RpK K S H vs ds → RpK K S H' vs ds
  | _, _, .nil => .nil
  | _, _, .cons a b => .cons (a.le e) (b.le e)
theorem RpT.le (e : Same H H') : ∀ {vs : List (List Key × V)} {ds : List (D × D)}, RpT K S H vs ds → RpT K S H' vs ds
  | _, _, .nil => .nil
  | _, _, .cons a b => .cons (a.le e) (b.le e)
theorem RpK.key : ∀ {vs : List (Key × V)} {ds : List (D × D)}, RpK K S H vs ds → ∀ p ∈ ds, ∃ k, p.1 = kD k
  | _, _, .nil, _, h => nomatch h
  | _, _, .cons (k := k) a b, p, h => by
    rcases List.mem_cons.mp h with rfl | h
    · exact ⟨k, rfl⟩
    · exact b.key p h
theorem RpT.key : ∀ {vs : List (List Key × V)} {ds : List (D × D)}, RpT K S H vs ds → ∀ p ∈ ds, ∃ k : List Key, p.1 = .tuple (k.map kD)
  | _, _, .nil, _, h => nomatch h
  | _, _, .cons (k := k) a b, p, h => by
    rcases List.mem_cons.mp h with rfl | h
    · exact ⟨k, rfl⟩
    · exact b.key p h
theorem RpA.length : ∀ {vs : List V} {ds : List D}, RpA K S H vs ds → vs.length = ds.length
  | _, _, .nil => rfl
  | _, _, .cons _ b => congrArg (· + 1) b.length
theorem RpA.get : ∀ {vs : List V} {ds : List D} {i : Nat} {d : D}, RpA K S H vs ds → ds[i]? = some d → ∃ v, vs[i]? = some v ∧ Rp K S H v d
  | _, _, _, _, .nil, h => by simp at h
  | _, _, 0, d, .cons a b, h => by simp at h; subst h; exact ⟨_, rfl, a⟩
  | _, _, i + 1, d, .cons a b, h => by
    obtain ⟨v, e, r⟩ := RpA.get (i := i) b (by simpa using h)
    exact ⟨v, by simpa using e, r⟩
theorem RpA.getV : ∀ {vs : List V} {ds : List D} {i : Nat} {v : V}, RpA K S H vs ds → vs[i]? = some v → ∃ d, ds[i]? = some d ∧ Rp K S H v d
  | _, _, _, _, .nil, h => by simp at h
  | _, _, 0, d, .cons a b, h => by simp at h; subst h; exact ⟨_, rfl, a⟩
  | _, _, i + 1, d, .cons a b, h => by
    obtain ⟨v, e, r⟩ := RpA.getV (i := i) b (by simpa using h)
    exact ⟨v, by simpa using e, r⟩
theorem RpA.append : ∀ {vs ws : List V} {ds es : List D}, RpA K S H vs ds → RpA K S H ws es → RpA K S H (vs ++ ws) (ds ++ es)
  | _, _, _, _, .nil, h => h
  | _, _, _, _, .cons a b, h => .cons a (b.append h)
theorem RpA.take : ∀ {vs : List V} {ds : List D} (n : Nat), RpA K S H vs ds → RpA K S H (vs.take n) (ds.take n)
  | _, _, 0, _ => .nil
  | _, _, _ + 1, .nil => .nil
  | _, _, n + 1, .cons a b => .cons a (b.take n)
theorem RpA.drop : ∀ {vs : List V} {ds : List D} (n : Nat), RpA K S H vs ds → RpA K S H (vs.drop n) (ds.drop n)
  | _, _, 0, h => h
  | _, _, _ + 1, .nil => .nil
  | _, _, n + 1, .cons a b => b.drop n
theorem RpA.set {v : V} {d : D} (r : Rp K S H v d) : ∀ {vs : List V} {ds : List D} (n : Nat), RpA K S H vs ds → RpA K S H (vs.set n v) (ds.set n d)
  | _, _, _, .nil => .nil
  | _, _, 0, .cons a b => .cons r b
  | _, _, n + 1, .cons a b => .cons a (b.set r n)
theorem RpA.reverse : ∀ {vs : List V} {ds : List D}, RpA K S H vs ds → RpA K S H vs.reverse ds.reverse
  | _, _, .nil => .nil
  | _, _, .cons a b => by rw [List.reverse_cons, List.reverse_cons]; exact b.reverse.append (.cons a .nil)
theorem RpA.ints : ∀ {vs : List V} {ns : List Int}, RpA K S H vs (ns.map PyData.int) → vs = ns.map V.int
  | _, [], .nil => rfl
  | _, n :: ns, .cons a b => by cases a; rw [b.ints]; rfl
theorem RpA.of_ints : ∀ (ns : List Int), RpA K S H (ns.map V.int) (ns.map PyData.int)
  | [] => .nil
  | n :: ns => .cons (.int n) (RpA.of_ints ns)
end

/-- what the store may not be kept of -/
def Ext (S : List Addr) (H H' : Hp) : Prop := ∀ a o, a ∉ S → H a = some o → H' a = some o
theorem Ext.refl {S : List Addr} {H : Hp} : Ext S H H := fun _ _ _ h => h
theorem Ext.trans {S : List Addr} {H H1 H2 : Hp} (a : Ext S H H1) (b : Ext S H1 H2) : Ext S H H2 := fun c o n h => b c o n (a c o n h)
theorem Ext.of {S : List Addr} {H H' : Hp} (h : Same H H') : Ext S H H' := fun a o _ e => h a o e

mutual
inductive Ow (K : PySem.W.Frag) (S : List Addr) (A : Addr → Prop) (H : Hp) : Nat → V → D → List Addr → Prop
  | sh {v : V} {d : D} : Rp K S (hid A H) v d → Ow K S A H 0 v d []
  | at {k : Nat} {v : V} {d : D} : (∀ ds, d ≠ .list ds) → True → Rp K S (hid A H) v d → Ow K S A H (k + 1) v d []
  | lst {k : Nat} {a : Addr} {vs : List V} {ds : List D} {F : List Addr} : H a = some (.lst vs) → OwA K S A H k vs ds F → Ow K S A H (k + 1) (.ref a) (.list ds) (a :: F)
inductive OwA (K : PySem.W.Frag) (S : List Addr) (A : Addr → Prop) (H : Hp) : Nat → List V → List D → List Addr → Prop
  | nil {k : Nat} : OwA K S A H k [] [] []
  | cons {k : Nat} {v : V} {vs : List V} {d : D} {ds : List D} {F G : List Addr} : Ow K S A H k v d F → OwA K S A H k vs ds G → OwA K S A H k (v :: vs) (d :: ds) (F ++ G)
end

section
variable {K : PySem.W.Frag} {S : List Addr} {A A' : Addr → Prop} {H H' : Hp}
theorem hid_le (h : ∀ a, A' a → A a) : Same (hid A H) (hid A' H) := fun a o e => by
  rw [hid_eq] at e ⊢
  exact ⟨fun z => e.1 (h a z), e.2⟩
mutual
/-- what was owned is given to all -/
theorem Ow.rp : ∀ {k : Nat} {v : V} {d : D} {F : List Addr}, Ow K S A H k v d F → (∀ a, A' a → A a) → (∀ a ∈ F, ¬ A' a) → Rp K S (hid A' H) v d
  | _, _, _, _, .sh r, h, _ => r.le (hid_le h)
  | _, _, _, _, .at _ _ r, h, _ => r.le (hid_le h)
  | _, _, _, _, .lst e t, h, hF => .lst (.inl (hid_eq.mpr ⟨hF _ List.mem_cons_self, e⟩)) (t.rp h fun a ha => hF a (List.mem_cons_of_mem _ ha))
theorem OwA.rp : ∀ {k : Nat} {vs : List V} {ds : List D} {F : List Addr}, OwA K S A H k vs ds F → (∀ a, A' a → A a) → (∀ a ∈ F, ¬ A' a) → RpA K S (hid A' H) vs ds
  | _, _, _, _, .nil, _, _ => .nil
  | _, _, _, _, .cons a b, h, hF => .cons (a.rp h fun a ha => hF a (List.mem_append_left _ ha)) (b.rp h fun a ha => hF a (List.mem_append_right _ ha))
end
theorem hid_move (e : Ext S H H') (hS : ∀ a, a ∈ S → A a) (hA : ∀ a, A' a → A a ∨ H a = none) : Same (hid A H) (hid A' H') := fun a o q => by
  rw [hid_eq] at q ⊢
  refine ⟨fun z => ?_, e a o (fun z => q.1 (hS a z)) q.2⟩
  rcases hA a z with z | z
  · exact q.1 z
  · rw [z] at q; exact nomatch q.2
mutual
/-- the heap went on -/
theorem Ow.mv (hs : Same (hid A H) (hid A' H')) : ∀ {k : Nat} {v : V} {d : D} {F : List Addr}, Ow K S A H k v d F → (∀ a ∈ F, ∀ o, H a = some o → H' a = some o) → Ow K S A' H' k v d F
  | _, _, _, _, .sh r, _ => .sh (r.le hs)
  | _, _, _, _, .at h1 h2 r, _ => .at h1 h2 (r.le hs)
  | _, _, _, _, .lst q t, h => .lst (h _ List.mem_cons_self _ q) (t.mv hs fun a ha => h a (List.mem_cons_of_mem _ ha))
theorem OwA.mv (hs : Same (hid A H) (hid A' H')) : ∀ {k : Nat} {v : List V} {d : List D} {F : List Addr}, OwA K S A H k v d F → (∀ a ∈ F, ∀ o, H a = some o → H' a = some o) → OwA K S A' H' k v d F
  | _, _, _, _, .nil, _ => .nil
  | _, _, _, _, .cons a b, h => .cons (a.mv hs fun a ha => h a (List.mem_append_left _ ha)) (b.mv hs fun a ha => h a (List.mem_append_right _ ha))
end
theorem Ow.move (e : Ext S H H') (hS : ∀ a, a ∈ S → A a) (hA : ∀ a, A' a → A a ∨ H a = none) {k : Nat} {v : V} {d : D} {F : List Addr} (o : Ow K S A H k v d F) (h : ∀ a ∈ F, a ∉ S) : Ow K S A' H' k v d F :=
  o.mv (hid_move e hS hA) fun a ha o q => e a o (h a ha) q
theorem OwA.move (e : Ext S H H') (hS : ∀ a, a ∈ S → A a) (hA : ∀ a, A' a → A a ∨ H a = none) {k : Nat} {v : List V} {d : List D} {F : List Addr} (o : OwA K S A H k v d F) (h : ∀ a ∈ F, a ∉ S) : OwA K S A' H' k v d F :=
  o.mv (hid_move e hS hA) fun a ha o q => e a o (h a ha) q
theorem OwA.length : ∀ {k : Nat} {vs : List V} {ds : List D} {F : List Addr}, OwA K S A H k vs ds F → vs.length = ds.length
  | _, _, _, _, .nil => rfl
  | _, _, _, _, .cons _ b => congrArg (· + 1) b.length
theorem OwA.append : ∀ {k : Nat} {vs ws : List V} {ds es : List D} {F G : List Addr}, OwA K S A H k vs ds F → OwA K S A H k ws es G → OwA K S A H k (vs ++ ws) (ds ++ es) (F ++ G)
  | _, _, _, _, _, _, _, .nil, h => h
  | _, _, _, _, _, _, _, .cons a b, h => by rw [List.append_assoc]; exact .cons a (b.append h)
theorem OwA.zero : ∀ {vs : List V} {ds : List D}, RpA K S (hid A H) vs ds → OwA K S A H 0 vs ds []
  | _, _, .nil => .nil
  | _, _, .cons a b => .cons (F := []) (.sh a) (OwA.zero b)
mutual
/-- owned less deep -/
theorem Ow.weak : ∀ {k : Nat} {v : V} {d : D} {F : List Addr} (j : Nat), Ow K S A H k v d F → j ≤ k → F.Nodup → ∃ F', F'.Sublist F ∧ ∀ A', (∀ a, A' a → A a) → (∀ a ∈ F, A' a → a ∈ F') → Ow K S A' H j v d F'
  | _, _, _, F, 0, o, _, _ => ⟨[], List.nil_sublist _, fun A' h1 h2 => .sh (o.rp h1 fun a ha z => by simpa using h2 a ha z)⟩
  | _, _, _, _, j + 1, .at h1 h2 r, _, _ => ⟨[], List.nil_sublist _, fun A' q _ => .at h1 h2 (r.le (hid_le q))⟩
  | _, _, _, _, j + 1, .lst (a := a) e t, hk, nd => by
    obtain ⟨F', s, h⟩ := t.weak j (Nat.le_of_succ_le_succ hk) (List.nodup_cons.mp nd).2
    refine ⟨a :: F', s.cons_cons a, fun A' q1 q2 => .lst e (h A' q1 fun b hb z => ?_)⟩
    rcases List.mem_cons.mp (q2 b (List.mem_cons_of_mem _ hb) z) with rfl | w
    · exact absurd hb (List.nodup_cons.mp nd).1
    · exact w
theorem OwA.weak : ∀ {k : Nat} {v : List V} {d : List D} {F : List Addr} (j : Nat), OwA K S A H k v d F → j ≤ k → F.Nodup → ∃ F', F'.Sublist F ∧ ∀ A', (∀ a, A' a → A a) → (∀ a ∈ F, A' a → a ∈ F') → OwA K S A' H j v d F'
  | _, _, _, _, _, .nil, _, _ => ⟨[], List.Sublist.refl _, fun A' _ _ => .nil⟩
  | _, _, _, _, j, .cons (F := F) (G := G) a b, hk, nd => by
    obtain ⟨n1, n2, n3⟩ := List.nodup_append.mp nd
    obtain ⟨F1, s1, h1⟩ := a.weak j hk n1
    obtain ⟨F2, s2, h2⟩ := b.weak j hk n2
    refine ⟨F1 ++ F2, s1.append s2, fun A' q1 q2 => .cons (h1 A' q1 fun x hx z => ?_) (h2 A' q1 fun x hx z => ?_)⟩
    · rcases List.mem_append.mp (q2 x (List.mem_append_left _ hx) z) with w | w
      · exact w
      · exact absurd rfl (n3 x hx x (s2.subset w))
    · rcases List.mem_append.mp (q2 x (List.mem_append_right _ hx) z) with w | w
      · exact absurd rfl (n3 x (s1.subset w) x hx)
      · exact w
end
end
end J
namespace J
open PySem PySem.Spec PyProof.Rows L2

abbrev Ev := VW → STO → Option (D × STO)
abbrev EvA := VW → STO → Option (List D × STO)
abbrev EvT := VW → STO → Option (Bool × STO)
abbrev Sg := L2.St

def isScal : D → Bool
  | .none => true
  | .bool _ => true
  | .int _ => true
  | .str _ => true
  | _ => false
theorem scal_rp {K : PySem.W.Frag} {S S' : List Addr} {H H' : Hp} {v : V} {d : D} (h : isScal d = true) (p : Rp K S H v d) : Rp K S' H' v d := by
  cases p with
  | non => exact .non
  | bl b => exact .bl b
  | int i => exact .int i
  | str x => exact .str x
  | _ => exact absurd h (by simp [isScal, tokD, skD])
theorem scal_rpa {K : PySem.W.Frag} {S S' : List Addr} {H H' : Hp} : ∀ {v : List V} {d : List D}, (∀ x ∈ d, isScal x = true) → RpA K S H v d → RpA K S' H' v d
  | _, _, _, .nil => .nil
  | _, _, h, .cons a b => .cons (scal_rp (h _ List.mem_cons_self) a) (scal_rpa (fun x hx => h x (List.mem_cons_of_mem _ hx)) b)
/-- what stands at a cell's address -/
def CellOk (K : PySem.W.Frag) (S : List Addr) (A : Addr → Prop) (H : Hp) (a : Addr) : Cell → Prop
  | .lst ds => ∃ vs, H a = some (.lst vs) ∧ RpA K S (hid A H) vs ds
  | .dct false es => ∃ kvs, H a = some (.dK kvs) ∧ RpK K S (hid A H) kvs es
  | .dct true es => ∃ kvs, H a = some (.dT kvs) ∧ RpT K S (hid A H) kvs es
  | .tbl q => LamX.TabS H a q
/-- the world at a place: what is hidden stands, the cells are told -/
structure Wd (K : PySem.W.Frag) (S : List Addr) (A : Addr → Prop) (H : Hp) (sto : STO) : Prop where
  al : ∀ a, A a → H a ≠ none
  hS : ∀ a, a ∈ S → A a
  nds : S.Nodup
  len : S.length = sto.length
  st : ∀ (i : Nat) (a : Addr) (c : Cell), S[i]? = some a → sto[i]? = some c → CellOk K S A H a c
def RdV (K : PySem.W.Frag) (S : List Addr) (A : Addr → Prop) (σ : Sg) (H : Hp) (vw : VW) : Prop := vw.length ≤ σ.length ∧ ∀ (i : Nat) (d : D), vw[i]? = some (some d) → ∃ v, σ[i]? = some (some v) ∧ Rp K S (hid A H) v d
/-- F more are hidden -/
abbrev plus (F : List Addr) (A : Addr → Prop) : Addr → Prop := fun a => a ∈ F ∨ A a
structure Res (K : PySem.W.Frag) (S : List Addr) (A : Addr → Prop) (H : Hp) (sto : STO) (k : Nat) (H' : Hp) (v : V) (d : D) (F : List Addr) : Prop where
  ext : Ext S H H'
  wd : Wd K S (plus F A) H' sto
  nd : F.Nodup
  fr : ∀ a ∈ F, H a = none
  ow : Ow K S (plus F A) H' k v d F
structure ResA (K : PySem.W.Frag) (S : List Addr) (A : Addr → Prop) (H : Hp) (sto : STO) (k : Nat) (H' : Hp) (v : List V) (d : List D) (F : List Addr) : Prop where
  ext : Ext S H H'
  wd : Wd K S (plus F A) H' sto
  nd : F.Nodup
  fr : ∀ a ∈ F, H a = none
  ow : OwA K S (plus F A) H' k v d F

theorem noF {P : Addr → Prop} : ∀ a ∈ ([] : List Addr), P a := fun _ h => nomatch h
theorem plus_nil {A : Addr → Prop} : plus [] A = A := by funext a; simp [plus]
theorem plus_append {F G : List Addr} {A : Addr → Prop} : plus G (plus F A) = plus (F ++ G) A := by
  funext a; simp only [plus, List.mem_append, eq_iff_iff]
  constructor
  · rintro (h | h | h)
    · exact .inl (.inr h)
    · exact .inl (.inl h)
    · exact .inr h
  · rintro ((h | h) | h)
    · exact .inr (.inl h)
    · exact .inl h
    · exact .inr (.inr h)
section
variable {K : PySem.W.Frag} {S : List Addr} {A A' : Addr → Prop} {H H' : Hp} {sto sto' : STO} {σ : Sg} {vw : VW} {k j : Nat} {v u : V} {d e : D} {F G : List Addr} {a : Addr} {o : HO}
theorem Wd.live (w : Wd K S A H sto) (h : H a = none) : a ∉ S := fun e => w.al a (w.hS a e) h
theorem Wd.cell {i : Nat} {a : Addr} (w : Wd K S A H sto) (h : S[i]? = some a) : ∃ c, sto[i]? = some c ∧ CellOk K S A H a c := by
  have hl := (List.getElem?_eq_some_iff.mp h).1
  have hl2 : i < sto.length := by rw [← w.len]; exact hl
  exact ⟨sto[i], List.getElem?_eq_getElem hl2, w.st i a _ h (List.getElem?_eq_getElem hl2)⟩
theorem codeO_ne {c : Addr} {q : Str} : (∀ vs, LamX.CodeO c q ≠ .lst vs) ∧ (∀ vs, LamX.CodeO c q ≠ .dK vs) ∧ (∀ vs, LamX.CodeO c q ≠ .dT vs) ∧ ∀ vs, LamX.CodeO c q ≠ .tbl vs := by
  unfold LamX.CodeO
  exact ⟨fun vs z => (by cases z), fun vs z => (by cases z), fun vs z => (by cases z), fun vs z => (by cases z)⟩
theorem tab_keep {P : Addr} {q : Str} (t : LamX.TabS H P q) (k : ∀ o, H P = some o → H' P = some o) (kt : ∀ c, H c = some (LamX.CodeO c q) → H' c = some (LamX.CodeO c q)) : LamX.TabS H' P q := by
  obtain ⟨ps, h1, h2, h3⟩ := t
  refine ⟨ps, k _ h1, h2, fun pos cv hc => ?_⟩
  obtain ⟨c, e1, e2⟩ := h3 pos cv hc
  exact ⟨c, e1, kt c e2⟩
theorem CellOk.keep {c : Cell} (h : CellOk K S A H a c) (e : Same (hid A H) (hid A' H')) (k : ∀ o, H a = some o → H' a = some o) (kt : ∀ c q, H c = some (LamX.CodeO c q) → H' c = some (LamX.CodeO c q)) : CellOk K S A' H' a c := by
  cases c with
  | lst ds => obtain ⟨vs, h1, h2⟩ := h; exact ⟨vs, k _ h1, h2.le e⟩
  | dct t es =>
    cases t with
    | false => obtain ⟨kvs, h1, h2⟩ := h; exact ⟨kvs, k _ h1, h2.le e⟩
    | true => obtain ⟨kvs, h1, h2⟩ := h; exact ⟨kvs, k _ h1, h2.le e⟩
  | tbl q => exact tab_keep h k fun c => kt c q
theorem CellOk.notCode {c : Cell} {q : Str} (h : CellOk K S A H a c) : H a ≠ some (LamX.CodeO a q) := fun z => by
  cases c with
  | lst ds => obtain ⟨vs, h1, h2⟩ := h; rw [h1] at z; exact codeO_ne.1 _ (Option.some.inj z).symm
  | dct t es =>
    cases t with
    | false => obtain ⟨kvs, h1, h2⟩ := h; rw [h1] at z; exact codeO_ne.2.1 _ (Option.some.inj z).symm
    | true => obtain ⟨kvs, h1, h2⟩ := h; rw [h1] at z; exact codeO_ne.2.2.1 _ (Option.some.inj z).symm
  | tbl p =>
    obtain ⟨ps, h1, _⟩ := h
    rw [h1] at z; exact codeO_ne.2.2.2 _ (Option.some.inj z).symm
theorem Wd.code {c : Addr} {q : Str} (w : Wd K S A H sto) (h : H c = some (LamX.CodeO c q)) : c ∉ S := fun z => by
  obtain ⟨i, hi, e⟩ := List.getElem_of_mem z
  obtain ⟨cc, _, ok⟩ := w.cell (i := i) (a := c) (by rw [List.getElem?_eq_getElem hi, e])
  exact ok.notCode h
theorem Wd.keeps {K : PySem.W.Frag} (w : Wd K S A H sto) (al : ∀ a, A' a → H' a ≠ none) (hS : ∀ a, a ∈ S → A' a) (e : Same (hid A H) (hid A' H')) (k : ∀ a ∈ S, ∀ o, H a = some o → H' a = some o) (kt : ∀ c q, H c = some (LamX.CodeO c q) → H' c = some (LamX.CodeO c q)) : Wd K S A' H' sto :=
  ⟨al, hS, w.nds, w.len, fun i a c h1 h2 => (w.st i a c h1 h2).keep e (k a (List.mem_of_getElem? h1)) kt⟩
theorem Wd.notA (w : Wd K S A H sto) (h : H a = none) : ¬ A a := fun e => w.al a e h
theorem RdV.move (r : RdV K S A σ H vw) (e : Ext S H H') (hS : ∀ a, a ∈ S → A a) (hA : ∀ a, A' a → A a ∨ H a = none) : RdV K S A' σ H' vw := ⟨r.1, fun i d h => by
  obtain ⟨v, e1, e2⟩ := r.2 i d h
  exact ⟨v, e1, e2.le (hid_move e hS hA)⟩⟩
theorem some_of_same (e : Same H H') (h : H a ≠ none) : H' a ≠ none := fun z => by
  cases q : H a with
  | none => exact h q
  | some o => rw [e a o q] at z; cases z
/-- the heap grew, and so did what is hidden, by new objects -/
theorem Wd.grow (w : Wd K S A H sto) (e : Same H H') (hA : ∀ a, A' a → A a ∨ (H a = none ∧ H' a ≠ none)) (hA2 : ∀ a, A a → A' a) : Wd K S A' H' sto := by
  refine w.keeps (fun a ha => ?_) (fun a h => hA2 a (w.hS a h)) (hid_move (Ext.of e) w.hS fun a h => (hA a h).imp id (·.1)) (fun a _ o h => e a o h) fun c q h => e _ _ h
  rcases hA a ha with z | z
  · exact some_of_same e (w.al a z)
  · exact z.2
/-- a hidden object was changed -/
theorem hid_upd {D : Addr} (h : A D) : hid A (upd H D o) = hid A H := by
  funext a
  unfold hid
  by_cases z : A a
  · rw [if_pos z, if_pos z]
  · rw [if_neg z, if_neg z]
    exact upd_ne fun e => z (e ▸ h)
theorem Wd.upd {D : Addr} (w : Wd K S A H sto) (h : A D) (hS : D ∉ S) (hL : ∃ vs, H D = some (.lst vs)) : Wd K S A (upd H D o) sto := by
  refine w.keeps (fun a ha => ?_) w.hS (by rw [hid_upd h]; exact fun _ _ h => h) (fun a ha x hx => ?_) fun c q hc => ?_
  · by_cases e : a = D
    · rw [e, upd_same]; exact fun z => nomatch z
    · rw [upd_ne e]; exact w.al a ha
  · rw [upd_ne (fun e : a = D => hS (e ▸ ha))]; exact hx
  · rw [upd_ne (fun e => ?_)]
    · exact hc
    · obtain ⟨vs, hv⟩ := hL
      rw [e] at hc
      rw [hv] at hc
      exact codeO_ne.1 _ (Option.some.inj hc).symm
theorem same_upd (h : H a = none) : Same H (upd H a o) := fun b x e => by
  rw [upd_ne (ne_of_none e h)]
  exact e
/-- less is hidden -/
theorem Wd.less (w : Wd K S A H sto) (h : ∀ a, A' a → A a) (hS : ∀ a, a ∈ S → A' a) : Wd K S A' H sto := by
  exact w.keeps (fun a ha => w.al a (h a ha)) hS (hid_le h) (fun _ _ _ h => h) fun _ _ h => h
theorem Res.live (w : Wd K S A H sto) (r : Res K S A H sto' k H' v d F) : ∀ a ∈ F, a ∉ S := fun a ha => w.live (r.fr a ha)
theorem Res.rp (w : Wd K S A H sto) (r : Res K S A H sto' k H' v d F) : Rp K S (hid A H') v d := r.ow.rp (fun a h => .inr h) fun a ha => w.notA (r.fr a ha)
theorem ResA.rp {v : List V} {d : List D} (w : Wd K S A H sto) (r : ResA K S A H sto' k H' v d F) : RpA K S (hid A H') v d := r.ow.rp (fun a h => .inr h) fun a ha => w.notA (r.fr a ha)
/-- the freed result -/
theorem Res.zero (w : Wd K S A H sto) (r : Res K S A H sto' k H' v d F) : Res K S A H sto' 0 H' v d [] :=
  ⟨r.ext, by rw [plus_nil]; exact r.wd.less (fun a h => .inr h) w.hS, .nil, noF, .sh (by rw [plus_nil]; exact r.rp w)⟩
theorem Res.weak (w : Wd K S A H sto) (r : Res K S A H sto' k H' v d F) (h : j ≤ k) : ∃ G, Res K S A H sto' j H' v d G := by
  obtain ⟨G, s, q⟩ := r.ow.weak j h r.nd
  refine ⟨G, r.ext, r.wd.less (fun a h => h.imp (fun z => s.subset z) id) fun a e => .inr (w.hS a e), r.nd.sublist s, fun a ha => r.fr a (s.subset ha), ?_⟩
  refine q _ (fun a h => h.imp (fun z => s.subset z) id) fun a ha z => ?_
  rcases z with z | z
  · exact z
  · exact absurd z (w.notA (r.fr a ha))
/-- data that bear nothing that may change -/
def atomic (d : D) : Prop := (∀ ds, d ≠ .list ds) ∧ True
theorem atomic_dict (es : List (D × D)) : atomic (.dict es) := ⟨(fun _ h => nomatch h), trivial⟩
theorem Ow.atom (h : atomic d) (r : Rp K S (hid A H) v d) : Ow K S A H k v d [] := by
  cases k with
  | zero => exact .sh r
  | succ k => exact .at h.1 h.2 r
theorem Res.atom (w : Wd K S A H sto) (h : atomic d) (r : Rp K S (hid A H) v d) : Res K S A H sto k H v d [] :=
  ⟨Ext.refl, by rw [plus_nil]; exact w, .nil, noF, by rw [plus_nil]; exact .atom h r⟩
theorem Res.shared (w : Wd K S A H sto) (r : Rp K S (hid A H) v d) : Res K S A H sto 0 H v d [] :=
  ⟨Ext.refl, by rw [plus_nil]; exact w, .nil, noF, by rw [plus_nil]; exact .sh r⟩
/-- one more step behind -/
theorem Res.after {H1 : Hp} (e : Ext S H H1) (r : Res K S A H1 sto' k H' v d F) (hn : ∀ a ∈ F, H a = none) : Res K S A H sto' k H' v d F := ⟨e.trans r.ext, r.wd, r.nd, hn, r.ow⟩
theorem none_of_ext (e : Ext S H H') (hS : a ∉ S) (h : H' a = none) : H a = none := by
  cases q : H a with
  | none => rfl
  | some o => rw [e a o hS q] at h; cases h
theorem atomic_int (i : Int) : atomic (.int i) := ⟨(fun _ h => nomatch h), trivial⟩
theorem atomic_bool (b : Bool) : atomic (.bool b) := ⟨(fun _ h => nomatch h), trivial⟩
theorem atomic_none : atomic .none := ⟨(fun _ h => nomatch h), trivial⟩
theorem atomic_str (x : Str) : atomic (.str x) := ⟨(fun _ h => nomatch h), trivial⟩
theorem atomic_tuple (xs : List D) : atomic (.tuple xs) := ⟨(fun _ h => nomatch h), trivial⟩
/-- a new list of owned things -/
theorem Res.lst {vs : List V} {ds : List D} {p : Addr} {H0 : Hp} {sto0 : STO} (w : Wd K S A H0 sto0) (r : ResA K S A H0 sto k H vs ds F) (hp : H p = none) : Res K S A H0 sto (k + 1) (upd H p (.lst vs)) (.ref p) (.list ds) (p :: F) := by
  have hpF : p ∉ F := fun h => r.wd.al p (.inl h) hp
  have sm : Same H (upd H p (.lst vs)) := same_upd hp
  have hp0 : H0 p = none := by
    cases q : H0 p with
    | none => rfl
    | some o =>
      by_cases z : p ∈ S
      · exact absurd hp (r.wd.al p (.inr (w.hS p z)))
      · rw [r.ext p o z q] at hp; cases hp
  refine ⟨r.ext.trans (Ext.of sm), r.wd.grow sm (fun a h => ?_) (fun a h => h.imp (List.mem_cons_of_mem _) id), List.nodup_cons.mpr ⟨hpF, r.nd⟩, fun a ha => ?_, .lst upd_same (r.ow.move (Ext.of sm) r.wd.hS (fun a h => ?_) fun a ha => w.live (r.fr a ha))⟩
  · rcases h with h | h
    · rcases List.mem_cons.mp h with rfl | h
      · exact .inr ⟨hp, by rw [upd_same]; exact fun z => nomatch z⟩
      · exact .inl (.inl h)
    · exact .inl (.inr h)
  · rcases List.mem_cons.mp ha with rfl | ha
    · exact hp0
    · exact r.fr a ha
  · rcases h with h | h
    · rcases List.mem_cons.mp h with rfl | h
      · exact .inr hp
      · exact .inl (.inl h)
    · exact .inl (.inr h)
/-- a new tuple of things that are given to all -/
theorem Res.tup {vs : List V} {ds : List D} {p : Addr} {H0 : Hp} {sto0 : STO} (w : Wd K S A H0 sto0) (r : ResA K S A H0 sto 0 H vs ds F) (hp : H p = none) : Res K S A H0 sto k (upd H p (.tup vs)) (.ref p) (.tuple ds) [] := by
  have sm : Same H (upd H p (.tup vs)) := same_upd hp
  have w1 : Wd K S A H sto := r.wd.less (fun a h => .inr h) w.hS
  refine ⟨r.ext.trans (Ext.of sm), by rw [plus_nil]; exact w1.grow sm (fun a h => .inl h) (fun a h => h), .nil, noF, ?_⟩
  rw [plus_nil]
  refine .atom (atomic_tuple ds) (.tup (hid_eq.mpr ⟨w1.notA hp, upd_same⟩) ((r.rp w).le (hid_move (Ext.of sm) w.hS fun a h => .inl h)))
theorem ResA.nil (w : Wd K S A H sto) : ResA K S A H sto k H [] [] [] := ⟨Ext.refl, by rw [plus_nil]; exact w, .nil, noF, .nil⟩
/-- given to all: a list of things -/
theorem ResA.shared {vs : List V} {ds : List D} (w : Wd K S A H sto) (r : RpA K S (hid A H) vs ds) : ResA K S A H sto 0 H vs ds [] := ⟨Ext.refl, by rw [plus_nil]; exact w, .nil, noF, by rw [plus_nil]; exact .zero r⟩
theorem ResA.zero {v : List V} {d : List D} (w : Wd K S A H sto) (r : ResA K S A H sto' k H' v d F) : ResA K S A H sto' 0 H' v d [] :=
  ⟨r.ext, by rw [plus_nil]; exact r.wd.less (fun a h => .inr h) w.hS, .nil, noF, by rw [plus_nil]; exact .zero (r.rp w)⟩
/-- two results, one behind the other -/
theorem ResA.cons {sto1 sto2 : STO} {H1 H2 : Hp} {vs : List V} {ds : List D} (w : Wd K S A H sto) (r : Res K S A H sto1 k H1 v d F) (q : ResA K S (plus F A) H1 sto2 k H2 vs ds G) : ResA K S A H sto2 k H2 (v :: vs) (d :: ds) (F ++ G) := by
  have hlive : ∀ a ∈ G, a ∉ S := fun a ha => r.wd.live (q.fr a ha)
  refine ⟨r.ext.trans q.ext, by rw [← plus_append]; exact q.wd, List.nodup_append.mpr ⟨r.nd, q.nd, fun x hx y hy e => ?_⟩, fun a ha => ?_, ?_⟩
  · subst e
    exact r.wd.al x (.inl hx) (q.fr x hy)
  · rcases List.mem_append.mp ha with h | h
    · exact r.fr a h
    · exact none_of_ext r.ext (hlive a h) (q.fr a h)
  · rw [← plus_append]
    refine .cons (r.ow.move q.ext r.wd.hS (fun a h => ?_) (r.live w)) q.ow
    rcases h with h | h
    · exact .inr (q.fr a h)
    · exact .inl h
end

/-! ### the judgements -/
section
/-- an expression's own reading, the widest -/
def wpE (X : Cx) (e : Expr) : TE := fun σ H Q => ∀ pins s, Inv X pins σ H s → wpAny (model X.prog X.w) X.A (eval e X.env) (EP X pins σ Q) X.xe s
theorem wpE_pe {X : Cx} {e : Expr} : PE X e (wpE X e) := ⟨fun pins s σ H Q I h => h pins s I⟩
def wpT (X : Cx) (e : Expr) : TT := fun σ H Q => ∀ pins s, Inv X pins σ H s → wpAny (model X.prog X.w) X.A (isTrue e X.env (eval e X.env)) (TP X pins σ Q) X.xe s
theorem wpT_pt {X : Cx} {e : Expr} : PT X e (wpT X e) := ⟨fun pins s σ H Q I h => h pins s I⟩
def wpW (X : Cx) (e : Expr) : TT := fun σ H Q => ∀ whole pins s, Inv X pins σ H s → wpAny (model X.prog X.w) X.A (isTrue e X.env whole) (TP X pins σ Q) X.xe s
theorem wpW_pw {X : Cx} {e : Expr} : PW X e (wpW X e) := ⟨fun whole pins s σ H Q I h => h whole pins s I⟩
def wpA (X : Cx) (es : List Expr) : TA := fun σ H Q => ∀ pos pins s, Inv X pins σ H s → wpAny (model X.prog X.w) X.A (spliced (backTo pos (starEach es X.env))) (AP X pins σ Q) X.xe s
theorem wpA_pa {X : Cx} {es : List Expr} : PA X es (wpA X es) := ⟨fun pos pins s σ H Q I h => h pos pins s I⟩
def wpS (X : Cx) (st : Stmt) : TS := fun D σ H => ∀ pins s, Inv X pins σ H s → wpAny (model X.prog X.w) X.A (exec st X.env) (SP X pins D) X.xe s
theorem wpS_ps {X : Cx} {st : Stmt} : PS X st (wpS X st) := ⟨fun pins s σ H D I h => h pins s I⟩
def wpSs (X : Cx) (st : List Stmt) : TS := fun D σ H => ∀ pins s, Inv X pins σ H s → wpAny (model X.prog X.w) X.A (execs st X.env) (SP X pins D) X.xe s
theorem wpSs_pss {X : Cx} {st : List Stmt} : PSs X st (wpSs X st) := ⟨fun pins s σ H D I h => h pins s I⟩
/-- by a rule of the layer -/
theorem wpE.by {X : Cx} {e : Expr} {t : TE} (h : PE X e t) {σ : Sg} {H : Hp} {Q : VK} (q : t σ H Q) : wpE X e σ H Q := fun pins s I => h.run pins s σ H Q I q
theorem wpT.by {X : Cx} {e : Expr} {t : TT} (h : PT X e t) {σ : Sg} {H : Hp} {Q : Bool → Hp → Prop} (q : t σ H Q) : wpT X e σ H Q := fun pins s I => h.run pins s σ H Q I q
theorem wpW.by {X : Cx} {e : Expr} {t : TT} (h : PW X e t) {σ : Sg} {H : Hp} {Q : Bool → Hp → Prop} (q : t σ H Q) : wpW X e σ H Q := fun wh pins s I => h.run wh pins s σ H Q I q
theorem wpA.by {X : Cx} {e : List Expr} {t : TA} (h : PA X e t) {σ : Sg} {H : Hp} {Q : List V → Hp → Prop} (q : t σ H Q) : wpA X e σ H Q := fun pos pins s I => h.run pos pins s σ H Q I q
theorem wpS.by {X : Cx} {e : Stmt} {t : TS} (h : PS X e t) {σ : Sg} {H : Hp} {D : Ends} (q : t D σ H) : wpS X e D σ H := fun pins s I => h.run pins s σ H D I q
theorem wpSs.by {X : Cx} {e : List Stmt} {t : TS} (h : PSs X e t) {σ : Sg} {H : Hp} {D : Ends} (q : t D σ H) : wpSs X e D σ H := fun pins s I => h.run pins s σ H D I q

/-- e is told by f: its value, owned to depth k -/
def JP (X : Cx) (e : Expr) (f : Ev) (k : Nat) : Prop := ∀ A S σ H vw sto d sto' (Q : VK), Wd X.K S A H sto → RdV X.K S A σ H vw → f vw sto = some (d, sto') →
  (∀ v H' F, Res X.K S A H sto' k H' v d F → Q v H') → wpE X e σ H Q
def JA (X : Cx) (es : List Expr) (f : EvA) (k : Nat) : Prop := ∀ A S σ H vw sto d sto' (Q : List V → Hp → Prop), Wd X.K S A H sto → RdV X.K S A σ H vw → f vw sto = some (d, sto') →
  (∀ v H' F, ResA X.K S A H sto' k H' v d F → Q v H') → wpA X es σ H Q
def JT (X : Cx) (e : Expr) (f : EvT) : Prop := ∀ A S σ H vw sto b sto' (Q : Bool → Hp → Prop), Wd X.K S A H sto → RdV X.K S A σ H vw → f vw sto = some (b, sto') →
  (∀ H', Ext S H H' → Wd X.K S A H' sto' → Q b H') → wpT X e σ H Q
def JW (X : Cx) (e : Expr) (f : EvT) : Prop := ∀ A S σ H vw sto b sto' (Q : Bool → Hp → Prop), Wd X.K S A H sto → RdV X.K S A σ H vw → f vw sto = some (b, sto') →
  (∀ H', Ext S H H' → Wd X.K S A H' sto' → Q b H') → wpW X e σ H Q
variable {X : Cx} {e a b : Expr} {es : List Expr} {f g : Ev} {fs : EvA} {k j : Nat}
theorem JP.weak (h : JP X e f k) (hj : j ≤ k) : JP X e f j := fun A S σ H vw sto d sto' Q w r q z => h A S σ H vw sto d sto' Q w r q fun v H' F rs => by
  obtain ⟨G, rs'⟩ := rs.weak w hj
  exact z v H' G rs'
theorem JP.zero (h : JP X e f k) : JP X e f 0 := h.weak (Nat.zero_le _)
/-- its value given to all -/
theorem JP.use (h : JP X e f k) {A : Addr → Prop} {S : List Addr} {σ : Sg} {H : Hp} {vw : VW} {sto sto' : STO} {d : D} {Q : VK} (w : Wd X.K S A H sto) (r : RdV X.K S A σ H vw) (q : f vw sto = some (d, sto'))
    (z : ∀ v H', Ext S H H' → Wd X.K S A H' sto' → RdV X.K S A σ H' vw → Rp X.K S (hid A H') v d → Q v H') : wpE X e σ H Q := h A S σ H vw sto d sto' Q w r q fun v H' F rs =>
  z v H' rs.ext (rs.wd.less (fun a h => .inr h) w.hS) (r.move rs.ext w.hS fun a h => .inl h) (rs.rp w)
theorem JA.use (h : JA X es fs k) {A : Addr → Prop} {S : List Addr} {σ : Sg} {H : Hp} {vw : VW} {sto sto' : STO} {d : List D} {Q : List V → Hp → Prop} (w : Wd X.K S A H sto) (r : RdV X.K S A σ H vw) (q : fs vw sto = some (d, sto'))
    (z : ∀ v H', Ext S H H' → Wd X.K S A H' sto' → RdV X.K S A σ H' vw → RpA X.K S (hid A H') v d → Q v H') : wpA X es σ H Q := h A S σ H vw sto d sto' Q w r q fun v H' F rs =>
  z v H' rs.ext (rs.wd.less (fun a h => .inr h) w.hS) (r.move rs.ext w.hS fun a h => .inl h) (rs.rp w)
end
end J
namespace J
open PySem PySem.Spec PyProof.Rows L2

/-- ints that a product, a power, a quotient may meet -/
def small (i : Int) : Bool := decide (i.natAbs < 2 ^ 4000)
theorem small_log {i : Int} (h : small i = true) : i.natAbs.log2 < 4000 := PySem.Flt.log2_lt_of (by decide) (of_decide_eq_true h)

section
variable {K : PySem.W.Frag} {S : List Addr} {A A' : Addr → Prop} {H H' : Hp} {sto sto' : STO} {x y : V} {d e : D}
/-! ### what stands for a datum -/
theorem Rp.intI {i : Int} (h : Rp K S H x (.int i)) : x = .int i := by cases h; rfl
theorem Rp.strI {i : Str} (h : Rp K S H x (.str i)) : x = .str i := by cases h; rfl
theorem Rp.blI {i : Bool} (h : Rp K S H x (.bool i)) : x = .bl i := by cases h; rfl
theorem Rp.nonI (h : Rp K S H x .none) : x = .non := by cases h; rfl
theorem Rp.lstI {ds : List D} (h : Rp K S H x (.list ds)) : ∃ a xs, x = .ref a ∧ Rd H a (.lst xs) ∧ RpA K S H xs ds := by
  cases h with
  | lst h1 h2 => exact ⟨_, _, rfl, h1, h2⟩
theorem Rp.tupI {ds : List D} (h : Rp K S H x (.tuple ds)) : ∃ a xs, x = .ref a ∧ Rd H a (.tup xs) ∧ RpA K S H xs ds := by
  cases h with
  | tup h1 h2 => exact ⟨_, _, rfl, .inl h1, h2⟩
theorem Rp.tupI' {ds : List D} (h : Rp K S H x (.tuple ds)) : ∃ a xs, x = .ref a ∧ H a = some (.tup xs) ∧ RpA K S H xs ds := by
  cases h with
  | tup h1 h2 => exact ⟨_, _, rfl, h1, h2⟩
theorem same_hid : Same (hid A H) H := fun a o e => (hid_eq.mp e).2
theorem Rp.out (h : Rp K S (hid A H) x d) : Rp K S H x d := h.le same_hid
theorem RpA.out {x : List V} {d : List D} (h : RpA K S (hid A H) x d) : RpA K S H x d := h.le same_hid
theorem _root_.L2.Rd.out {a : Addr} {u : HO} (h : Rd (hid A H) a u) : Rd H a u := Rd.le same_hid h
/-- without dicts it is data of the layer -/
theorem Rp.dp (h : Rp K S H x d) : d.canLay0 = true → Dp K H x d :=
  Rp.rec (motive_1 := fun v d _ => d.canLay0 = true → Dp K H v d) (motive_2 := fun v d _ => PyData.canLayAll0 d = true → DpAll K H v d) (motive_3 := fun _ _ _ => True) (motive_4 := fun _ _ _ => True)
    (fun _ => .non) (fun b _ => .bl b) (fun i _ => .int i) (fun x _ => .str x) (fun s _ h c => .lst (.inl s) (h (by simpa [PyData.canLay0] using c))) (fun s _ h c => .tup (.inl (.inl s)) (h (by simpa [PyData.canLay0] using c)))
    (fun _ _ _ c => absurd c (by simp [PyData.canLay0])) (fun _ _ _ c => absurd c (by simp [PyData.canLay0])) (fun _ c => by unfold tokD at c; simp [PyData.canLay0] at c) (fun _ _ _ c => by unfold skD at c; simp [PyData.canLay0] at c)
    (fun _ => .nil) (fun _ _ a b c => by
      have c' := Bool.and_eq_true_iff.mp (by simpa [PyData.canLayAll0] using c)
      exact .cons (a c'.1) (b c'.2)) trivial (fun _ _ _ _ => trivial) trivial (fun _ _ _ _ => trivial) h
theorem shaped_lay (h : SeqAt.shaped d = true) : d.canLay0 = true := SeqAt.canLay_of_shaped h
end

/-! ### two-place operations -/
/-- the operation F is told by op -/
def OpJ (X : Cx) (F : Value → Value → Sem Value) (op : D → D → Option D) (k : Nat) : Prop := ∀ d1 d2 d, op d1 d2 = some d → ∃ r, OpR X F r ∧ ∀ A S H sto x y Q, Wd X.K S A H sto → Rp X.K S (hid A H) x d1 → Rp X.K S (hid A H) y d2 →
  (∀ v H' F', Res X.K S A H sto k H' v d F' → Q v H') → r x y H Q
def UnJ (X : Cx) (F : Value → Sem Value) (op : D → Option D) (k : Nat) : Prop := ∀ d1 d, op d1 = some d → ∃ r, UnR X F r ∧ ∀ A S H sto x Q, Wd X.K S A H sto → Rp X.K S (hid A H) x d1 →
  (∀ v H' F', Res X.K S A H sto k H' v d F' → Q v H') → r x H Q
def eVar (i : Nat) : Ev := fun vw s => match vw[i]? with
  | some (some d) => some (d, s)
  | _ => none
def eC (d : D) : Ev := fun _ s => some (d, s)
def eBin (op : D → D → Option D) (f g : Ev) : Ev := fun vw s => (f vw s).bind fun p => (g vw p.2).bind fun q => (op p.1 q.1).map fun r => (r, q.2)
def eUn (op : D → Option D) (f : Ev) : Ev := fun vw s => (f vw s).bind fun p => (op p.1).map fun r => (r, p.2)
theorem eBin_some {op : D → D → Option D} {f g : Ev} {vw : VW} {s s' : STO} {d : D} (h : eBin op f g vw s = some (d, s')) : ∃ x s1 y, f vw s = some (x, s1) ∧ g vw s1 = some (y, s') ∧ op x y = some d := by
  unfold eBin at h
  cases e1 : f vw s with
  | none => rw [e1] at h; cases h
  | some p =>
    rw [e1, Option.bind_some] at h
    cases e2 : g vw p.2 with
    | none => rw [e2] at h; cases h
    | some q =>
      rw [e2, Option.bind_some] at h
      cases e3 : op p.1 q.1 with
      | none => rw [e3] at h; cases h
      | some r =>
        rw [e3] at h
        cases h
        exact ⟨p.1, p.2, q.1, rfl, e2, e3⟩
theorem eUn_some {op : D → Option D} {f : Ev} {vw : VW} {s s' : STO} {d : D} (h : eUn op f vw s = some (d, s')) : ∃ x, f vw s = some (x, s') ∧ op x = some d := by
  unfold eUn at h
  cases e1 : f vw s with
  | none => rw [e1] at h; cases h
  | some p =>
    rw [e1, Option.bind_some] at h
    cases e3 : op p.1 with
    | none => rw [e3] at h; cases h
    | some r =>
      rw [e3] at h
      cases h
      exact ⟨p.1, rfl, e3⟩
section
variable {X : Cx} {e a b c : Expr} {es : List Expr} {f g : Ev} {fs : EvA} {k j : Nat} {pos p : Pos} {op : D → D → Option D}
/-- a then b, both given to all -/
theorem JP.use2 {k j : Nat} (ha : JP X a f k) (hb : JP X b g j) {A : Addr → Prop} {S : List Addr} {σ : Sg} {H : Hp} {vw : VW} {sto s1 s2 : STO} {x y : D} {R : V → V → Hp → Prop} (w : Wd X.K S A H sto) (r : RdV X.K S A σ H vw)
    (e1 : f vw sto = some (x, s1)) (e2 : g vw s1 = some (y, s2))
    (z : ∀ v u H', Ext S H H' → Wd X.K S A H' s2 → RdV X.K S A σ H' vw → Rp X.K S (hid A H') v x → Rp X.K S (hid A H') u y → R v u H') : wpE X a σ H fun v H1 => wpE X b σ H1 fun u H2 => R v u H2 :=
  ha.use w r e1 fun v H1 x1 w1 r1 p1 => hb.use w1 r1 e2 fun u H2 x2 w2 r2 p2 => z v u H2 (x1.trans x2) w2 r2 (p1.le (hid_move x2 w1.hS fun a h => .inl h)) p2
theorem jp_bin {o : Operator} (ho : OpJ X (binaryOp o) op k) (ha : JP X a f 0) (hb : JP X b g 0) : JP X (.BinOp a o b pos) (eBin op f g) k := fun A S σ H vw sto d sto' Q w r q z => by
  obtain ⟨x, s1, y, e1, e2, e3⟩ := eBin_some q
  obtain ⟨rr, h1, h2⟩ := ho x y d e3
  refine wpE.by (pe_op h1 wpE_pe wpE_pe) (ha.use2 hb w r e1 e2 fun v u H' x' w' r' p1 p2 => h2 A S H' sto' v u Q w' p1 p2 fun v' H2 F' rs => z v' H2 F' (rs.after x' fun a ha => none_of_ext x' (w'.live (rs.fr a ha)) (rs.fr a ha)))
theorem jp_un {o : UnaryOp} {op : D → Option D} (ho : UnJ X (unaryOp o) op k) (ha : JP X a f 0) : JP X (.UnaryOp o a pos) (eUn op f) k := fun A S σ H vw sto d sto' Q w r q z => by
  obtain ⟨x, e1, e3⟩ := eUn_some q
  obtain ⟨rr, h1, h2⟩ := ho x d e3
  refine wpE.by (pe_un h1 wpE_pe) (ha.use w r e1 fun v H' x' w' r' p1 => h2 A S H' sto' v Q w' p1 fun v' H2 F' rs => z v' H2 F' (rs.after x' fun a ha => none_of_ext x' (w'.live (rs.fr a ha)) (rs.fr a ha)))
/-- a comparison -/
theorem jp_cmp {o : CmpOp} (ho : OpJ X (compareOp o) op k) (ha : JP X a f 0) (hb : JP X b g 0) (hm : behindInMarks o b = false) : JP X (.Compare a [o] [b] pos) (eBin op f g) k := fun A S σ H vw sto d sto' Q w r q z => by
  obtain ⟨x, s1, y, e1, e2, e3⟩ := eBin_some q
  obtain ⟨rr, h1, h2⟩ := ho x y d e3
  refine wpE.by (pe_cmpR h1 wpE_pe wpE_pe hm) (ha.use2 hb w r e1 e2 fun v u H' x' w' r' p1 p2 => h2 A S H' sto' v u Q w' p1 p2 fun v' H2 F' rs => z v' H2 F' (rs.after x' fun a ha => none_of_ext x' (w'.live (rs.fr a ha)) (rs.fr a ha)))
theorem jp_int {i j} : JP X (.Constant (.int i) j pos) (eC (.int i)) k := fun A S σ H vw sto d sto' Q w r q z => by
  cases q
  exact wpE.by pe_int (z _ _ [] (.atom w (atomic_int i) (.int i)))
theorem jp_bl {b j} : JP X (.Constant (.bool b) j pos) (eC (.bool b)) k := fun A S σ H vw sto d sto' Q w r q z => by
  cases q
  exact wpE.by pe_bl (z _ _ [] (.atom w (atomic_bool b) (.bl b)))
theorem jp_non {j} : JP X (.Constant .none j pos) (eC .none) k := fun A S σ H vw sto d sto' Q w r q z => by
  cases q
  exact wpE.by pe_non (z _ _ [] (.atom w atomic_none .non))
theorem jp_str {x j} : JP X (.Constant (.str x) j pos) (eC (.str x)) k := fun A S σ H vw sto d sto' Q w r q z => by
  cases q
  exact wpE.by pe_str (z _ _ [] (.atom w (atomic_str x) (.str x)))
theorem jp_var {i : Nat} {x : Str} (hN : X.N[i]? = some x) (hv : Vis X.env.scope x) (hd : (x == ("__debug__" : Str)) = false := by decide) (hcd : (x == ("__classdict__" : Str)) = false := by decide) : JP X (.Name x pos) (eVar i) 0 := fun A S σ H vw sto d sto' Q w r q z => by
  unfold eVar at q
  split at q
  · rename_i d' e
    cases q
    obtain ⟨v, e1, e2⟩ := r.2 i _ e
    exact wpE.by (pe_var hN hv hd hcd) ⟨v, e1, z v H [] (.shared w e2)⟩
  · cases q
/-- a module's constant -/
theorem jp_glob {x : Str} {i : Int} {t : Tok} (hg : Gl X x) (hm : X.mg x = some (.int i t)) (hd : (x == ("__debug__" : Str)) = false := by decide) : JP X (.Name x pos) (eC (.int i)) k := fun A S σ H vw sto d sto' Q w r q z => by
  cases q
  exact wpE.by (pe_glob (v := .int i) hg hm ⟨_, rfl⟩ hd) (z _ _ [] (.atom w (atomic_int i) (.int i)))
theorem jp_globS {x : Str} {i : Str} {t : Tok} (hg : Gl X x) (hm : X.mg x = some (.str i t)) (hd : (x == ("__debug__" : Str)) = false := by decide) : JP X (.Name x pos) (eC (.str i)) k := fun A S σ H vw sto d sto' Q w r q z => by
  cases q
  exact wpE.by (pe_glob (v := .str i) hg hm ⟨_, rfl⟩ hd) (z _ _ [] (.atom w (atomic_str i) (.str i)))
end

/-! ### the operators -/
section
variable {X : Cx} {k : Nat}
def dAdd : D → D → Option D
  | .int i, .int j => some (.int (i + j))
  | .str x, .str y => if x.length + y.length ≤ 16777216 then some (.str (x ++ y)) else none
  | .list xs, .list ys => if xs.length + ys.length ≤ 16777216 then some (.list (xs ++ ys)) else none
  | _, _ => none
def rCatR : R2 := fun x y H Q => ∃ l b xs zs, x = .ref l ∧ y = .ref b ∧ Rd H l (.lst xs) ∧ Rd H b (.lst zs) ∧ xs.length + zs.length ≤ sizeLine ∧ ∀ p, H p = none → Q (.ref p) (upd H p (.lst (xs ++ zs)))
theorem lstR {pins : List (Addr × Obj)} {σ : Sg} {H : Hp} {s : Shared} {l : Addr} {xs : List V} (I : Inv X pins σ H s) (hH : Rd H l (.lst xs)) : xs.length ≤ sizeLine ∧ ∃ (its : List Value) (n : Nat), Vals xs its ∧ xs.length = its.length ∧ s.heap.get? l = some { cls := .type "list", data := .seq its.toArray n } := by
  obtain ⟨z, its, n, r, e⟩ := Rd.ok hH I.hok
  exact ⟨z, its, n, r, r.length, e⟩
theorem op_catR : OpR X (binaryOp .Add) rCatR := by
  intro pins s σ H x y v u Q I rx ry h
  obtain ⟨l, b, xs, zs, rfl, rfl, hH, hB, hz, q⟩ := h
  cases rx
  cases ry
  obtain ⟨z, its, n, r, hl, e⟩ := lstR I hH
  obtain ⟨z2, its2, n2, r2, hl2, e2⟩ := lstR I hB
  refine PySem.P.add_list e e2 ?_ (by rw [List.size_toArray, List.size_toArray]; omega)
  have ea : its.toArray ++ its2.toArray = (its ++ its2).toArray := by simp
  rw [ea]
  exact ⟨.ref _, _, I.lnew (t' := s.toks) (r.append r2) (by rw [List.length_append]; omega), rfl, q _ I.fresh⟩
theorem oj_add : OpJ X (binaryOp .Add) dAdd 1 := fun d1 d2 d h => by
  unfold dAdd at h
  split at h
  · cases h
    exact ⟨_, op_add, fun A S H sto x y Q w p1 p2 z => ⟨_, _, p1.intI, p2.intI, z _ _ [] (.atom w (atomic_int _) (.int _))⟩⟩
  · split at h
    · rename_i hl
      cases h
      exact ⟨_, op_add_str, fun A S H sto x y Q w p1 p2 z => ⟨_, _, p1.strI, p2.strI, by rw [sizeLine_eq]; exact hl, z _ _ [] (.atom w (atomic_str _) (.str _))⟩⟩
    · cases h
  · split at h
    · rename_i hl
      cases h
      refine ⟨_, op_catR, fun A S H sto x y Q w p1 p2 z => ?_⟩
      obtain ⟨a, xs, rfl, r1, q1⟩ := p1.lstI
      obtain ⟨b, ys, rfl, r2, q2⟩ := p2.lstI
      exact ⟨a, b, xs, ys, rfl, rfl, r1.out, r2.out, by rw [q1.length, q2.length, sizeLine_eq]; exact hl, fun p hp => z _ _ [p] (Res.lst w (.shared w (q1.append q2)) hp)⟩
    · cases h
  · cases h
def dSub : D → D → Option D
  | .int i, .int j => some (.int (i - j))
  | _, _ => none
theorem oj_sub : OpJ X (binaryOp .Sub) dSub k := fun d1 d2 d h => by
  unfold dSub at h
  split at h
  · cases h
    exact ⟨_, op_sub, fun A S H sto x y Q w p1 p2 z => ⟨_, _, p1.intI, p2.intI, z _ _ [] (.atom w (atomic_int _) (.int _))⟩⟩
  · cases h
def dMul : D → D → Option D
  | .int i, .int j => if small i = true ∧ small j = true then some (.int (i * j)) else none
  | .list xs, .int j => if j ≤ 16777216 ∧ -16777216 ≤ j ∧ xs.length * j.toNat ≤ 16777216 then some (.list (List.replicate j.toNat xs).flatten) else none
  | _, _ => none
def rRepR : R2 := fun x y H Q => ∃ l k xs, x = .ref l ∧ y = .int k ∧ Rd H l (.lst xs) ∧ -(2 ^ 63) ≤ k ∧ k < 2 ^ 63 ∧ xs.length * k.toNat ≤ sizeLine ∧
  ∀ p, H p = none → Q (.ref p) (upd H p (.lst (List.replicate k.toNat xs).flatten))
theorem op_repR : OpR X (binaryOp .Mult) rRepR := by
  intro pins s σ H x y v u Q I rx ry h
  obtain ⟨l, k, xs, rfl, rfl, hH, h1, h2, hz, q⟩ := h
  cases rx
  obtain ⟨t, rfl⟩ := ry
  obtain ⟨z, its, n, r, hl, e⟩ := lstR I hH
  have hlen : its.toArray.size * k.toNat ≤ sizeLine := by rw [List.size_toArray, ← hl]; exact hz
  have hcap : ¬ its.toArray.size * k.toNat > (2 ^ 63 - 1) / 8 := by
    have : (sizeLine : Nat) ≤ (2 ^ 63 - 1) / 8 := by decide
    omega
  have hfit : ¬ (!Builtin.List.listFitsIndex k) = true := by
    rw [fitsIndex_both h1 h2]
    exact Bool.false_ne_true
  have hlong : ¬ Builtin.List.listTooLong (its.toArray.size * k.toNat) = true := by
    rw [notLongL hlen]
    exact Bool.false_ne_true
  have hnew : List.foldl (fun x1 x2 => x1 ++ x2) #[] (List.replicate (if its.toArray.isEmpty = true then 0 else k.toNat) its.toArray) = (List.replicate k.toNat its).flatten.toArray := by
    have f0 : ∀ m : Nat, List.foldl (fun x1 x2 => x1 ++ x2) #[] (List.replicate m its.toArray) = (List.replicate m its).flatten.toArray := fun m => by
      have := foldl_rep its m []
      rw [List.nil_append] at this
      exact this
    rw [f0]
    cases its with
    | nil => simp
    | cons a r' => rw [if_neg (by simp)]
  refine wpAny_binaryOp_repeat_ref (T := "list") (U := "int") (by decide) ⟨_, e, rfl⟩ (fun s' => typeIs_int s' k t) noFill_list_mul PySem.F.fills_int_mul PySem.F.slot_int_rmul repeat_list PySem.F.slot_int_index.lookup
    (call_meets PySem.F.slot_int_rmul (typeIs_int s k t) PySem.F.entry_int_rmul (PySem.F.args_int_rmul_2 _ _) (int___rmul___int_list k t l its.toArray n)
      ⟨e, rfl, ⟨_, e, rfl⟩, call_meets PySem.F.slot_list_mul ⟨_, e, rfl⟩ PySem.F.entry_list_mul (PySem.F.args_list_mul_2 _ _) (AutoListH.list___mul___list_int_3 l its.toArray n k t hfit hcap hlong) ⟨e, ?_⟩⟩)
  rw [hnew]
  exact ⟨.ref _, _, I.lnew (t' := s.toks) (r.rep k.toNat) (by rw [PyProof.Rows.lm_len_rep_flat, Nat.mul_comm]; exact hz), rfl, q _ I.fresh⟩
theorem RpA.rep {K : PySem.W.Frag} {S : List Addr} {H : Hp} {vs : List V} {ds : List D} (h : RpA K S H vs ds) : ∀ n : Nat, RpA K S H (List.replicate n vs).flatten (List.replicate n ds).flatten
  | 0 => .nil
  | n + 1 => by
    rw [List.replicate_succ, List.replicate_succ, List.flatten_cons, List.flatten_cons]
    exact h.append (h.rep n)
theorem oj_mul : OpJ X (binaryOp .Mult) dMul 1 := fun d1 d2 d h => by
  unfold dMul at h
  split at h
  · split at h
    · rename_i hs
      cases h
      refine ⟨_, op_mulW, fun A S H sto x y Q w p1 p2 z => ⟨_, _, p1.intI, p2.intI, ?_, z _ _ [] (.atom w (atomic_int _) (.int _))⟩⟩
      have h1 := small_log hs.1
      have h2 := small_log hs.2
      unfold CMulW
      omega
    · cases h
  · split at h
    · rename_i hl
      cases h
      refine ⟨_, op_repR, fun A S H sto x y Q w p1 p2 z => ?_⟩
      obtain ⟨a, xs, rfl, r1, q1⟩ := p1.lstI
      exact ⟨a, _, xs, rfl, p2.intI, r1.out, by omega, by omega, by rw [q1.length, sizeLine_eq]; exact hl.2.2, fun p hp => z _ _ [p] (Res.lst w (.shared w (q1.rep _)) hp)⟩
    · cases h
  · cases h
def dFdiv : D → D → Option D
  | .int i, .int j => if 0 < j ∧ small j = true then some (.int (i / j)) else none
  | _, _ => none
theorem oj_fdiv : OpJ X (binaryOp .FloorDiv) dFdiv k := fun d1 d2 d h => by
  unfold dFdiv at h
  split at h
  · split at h
    · rename_i hs
      cases h
      refine ⟨_, op_fdivW, fun A S H sto x y Q w p1 p2 z => ⟨_, _, p1.intI, p2.intI, ⟨hs.1, ?_⟩, z _ _ [] (.atom w (atomic_int _) (.int _))⟩⟩
      have h2 := small_log hs.2
      omega
    · cases h
  · cases h
def dMod : D → D → Option D
  | .int i, .int j => if 0 < j then some (.int (i % j)) else none
  | _, _ => none
theorem oj_mod : OpJ X (binaryOp .Mod) dMod k := fun d1 d2 d h => by
  unfold dMod at h
  split at h
  · split at h
    · rename_i i j hs
      cases h
      refine ⟨_, op_modN, fun A S H sto x y Q w p1 p2 z => ⟨_, _, p1.intI, p2.intI, by omega, ?_⟩⟩
      show Q (V.int (i.fmod j)) H
      rw [Int.fmod_eq_emod_of_nonneg i (show (0 : Int) ≤ j by omega)]
      exact z _ _ [] (.atom w (atomic_int _) (.int _))
    · cases h
  · cases h
def dPow : D → D → Option D
  | .int i, .int j => if 0 ≤ j ∧ j ≤ 300 ∧ small i = true then some (.int (i ^ j.toNat)) else none
  | _, _ => none
theorem op_powW : OpR X (binaryOp .Pow) (rI (fun i j => 0 ≤ j ∧ j ≤ 300 ∧ small i = true) fun i j => .int (i ^ j.toNat)) := opI fun i j _ _ _ _ _ hc q => pow_int hc.1 (by
  have h1 := small_log hc.2.2
  have b : Builtin.Int.intBits i ≤ i.natAbs.log2 + 1 := by
    unfold Builtin.Int.intBits
    split <;> omega
  have h2 : (Builtin.Int.intBits i : Int) ≤ 4000 := by omega
  have h3 : (Builtin.Int.intBits i : Int) * j ≤ 4000 * 300 := by
    refine Int.le_trans (Int.mul_le_mul_of_nonneg_right h2 hc.1) (Int.mul_le_mul_of_nonneg_left hc.2.1 (by decide))
  exact Int.le_trans h3 (by decide)) q
theorem oj_pow : OpJ X (binaryOp .Pow) dPow k := fun d1 d2 d h => by
  unfold dPow at h
  split at h
  · split at h
    · rename_i hs
      cases h
      exact ⟨_, op_powW, fun A S H sto x y Q w p1 p2 z => ⟨_, _, p1.intI, p2.intI, hs, z _ _ [] (.atom w (atomic_int _) (.int _))⟩⟩
    · cases h
  · cases h
def dShl : D → D → Option D
  | .int i, .int j => if 0 ≤ j ∧ j ≤ 10000 ∧ i.natAbs < 18446744073709551616 then some (.int (i * 2 ^ j.toNat)) else none
  | _, _ => none
theorem oj_shl : OpJ X (binaryOp .LShift) dShl k := fun d1 d2 d h => by
  unfold dShl at h
  split at h
  · split at h
    · rename_i hs
      cases h
      exact ⟨_, op_shl, fun A S H sto x y Q w p1 p2 z => ⟨_, _, p1.intI, p2.intI, ⟨hs.1, by omega, by simpa using hs.2.2⟩, z _ _ [] (.atom w (atomic_int _) (.int _))⟩⟩
    · cases h
  · cases h
def dShr : D → D → Option D
  | .int i, .int j => if 0 ≤ j then some (.int (i / 2 ^ j.toNat)) else none
  | _, _ => none
theorem oj_shr : OpJ X (binaryOp .RShift) dShr k := fun d1 d2 d h => by
  unfold dShr at h
  split at h
  · split at h
    · rename_i hs
      cases h
      exact ⟨_, op_shr, fun A S H sto x y Q w p1 p2 z => ⟨_, _, p1.intI, p2.intI, hs, z _ _ [] (.atom w (atomic_int _) (.int _))⟩⟩
    · cases h
  · cases h
def dNeg : D → Option D
  | .int i => some (.int (-i))
  | _ => none
theorem uj_neg : UnJ X (unaryOp .USub) dNeg k := fun d1 d h => by
  unfold dNeg at h
  split at h
  · cases h
    exact ⟨_, un_neg, fun A S H sto x Q w p1 z => ⟨_, p1.intI, z _ _ [] (.atom w (atomic_int _) (.int _))⟩⟩
  · cases h

/-! ### comparisons -/
def dEq : D → D → Option D
  | .str x, .str y => some (.bool (x == y))
  | x, y => if SeqAt.shaped x = true ∧ SeqAt.shaped y = true then some (.bool (PyData.eqv x y)) else none
def dNe : D → D → Option D
  | .str x, .str y => some (.bool (!(x == y)))
  | x, y => if SeqAt.shaped x = true ∧ SeqAt.shaped y = true then some (.bool (!PyData.eqv x y)) else none
theorem oj_eq (hu : X.A.units + 64 < cLine) : OpJ X (compareOp .Eq) dEq k := fun d1 d2 d h => by
  unfold dEq at h
  split at h
  · cases h
    exact ⟨_, op_eq, fun A S H sto x y Q w p1 p2 z => by rw [p1.strI, p2.strI]; exact ⟨rfl, by rw [dec_str]; exact z _ _ [] (.atom w (atomic_bool _) (.bl _))⟩⟩
  · split at h
    · rename_i hs
      cases h
      exact ⟨_, op_eqD hu, fun A S H sto x y Q w p1 p2 z => ⟨_, _, p1.out.dp (shaped_lay hs.1), p2.out.dp (shaped_lay hs.2), hs.1, hs.2, z _ _ [] (.atom w (atomic_bool _) (.bl _))⟩⟩
    · cases h
theorem oj_ne (hu : X.A.units + 64 < cLine) : OpJ X (compareOp .NotEq) dNe k := fun d1 d2 d h => by
  unfold dNe at h
  split at h
  · cases h
    exact ⟨_, op_ne, fun A S H sto x y Q w p1 p2 z => by rw [p1.strI, p2.strI]; exact ⟨rfl, by rw [dec_str]; exact z _ _ [] (.atom w (atomic_bool _) (.bl _))⟩⟩
  · split at h
    · rename_i hs
      cases h
      exact ⟨_, op_neD hu, fun A S H sto x y Q w p1 p2 z => ⟨_, _, p1.out.dp (shaped_lay hs.1), p2.out.dp (shaped_lay hs.2), hs.1, hs.2, z _ _ [] (.atom w (atomic_bool _) (.bl _))⟩⟩
    · cases h
/-- a < b of alike data -/
def notNone : D → Bool
  | .none => false
  | _ => true
def dLt : D → D → Option D
  | .int i, .int j => some (.bool (decide (i < j)))
  | x, y => if PySem.W.alike x y = true ∧ SeqAt.shaped x = true ∧ SeqAt.shaped y = true ∧ notNone x = true then some (.bool (PySem.W.dataLt x y)) else none
def rLtD (K : PySem.W.Frag) : R2 := fun x y H Q => ∃ d e, Dp K H x d ∧ Dp K H y e ∧ SeqAt.shaped d = true ∧ SeqAt.shaped e = true ∧ PySem.W.alike d e = true ∧ notNone d = true ∧ Q (.bl (PySem.W.dataLt d e)) H
theorem op_ltD (hu : X.A.units + 64 < cLine) : OpR X (compareOp .Lt) (rLtD X.K) := by
  intro pins s σ H x y v u Q I rx ry h
  obtain ⟨d, e, hd, he, sd, se, al, nn, q⟩ := h
  obtain ⟨as, r1⟩ := Dp.reads I d x v hd rx
  obtain ⟨bs, r2⟩ := Dp.reads I e y u he ry
  exact PySem.W.rcLt_alike d e X.A s v u as bs r1 r2 al (fun z => by rw [z] at nn; exact absurd nn (by decide)) (SeqAt.room_of_shaped sd hu) X.prog X.w X.xe _ ⟨.bl _, H, I, rfl, q⟩
theorem oj_lt (hu : X.A.units + 64 < cLine) : OpJ X (compareOp .Lt) dLt k := fun d1 d2 d h => by
  unfold dLt at h
  split at h
  · cases h
    exact ⟨_, op_lt, fun A S H sto x y Q w p1 p2 z => ⟨_, _, p1.intI, p2.intI, z _ _ [] (.atom w (atomic_bool _) (.bl _))⟩⟩
  · split at h
    · rename_i hs
      cases h
      exact ⟨_, op_ltD hu, fun A S H sto x y Q w p1 p2 z => ⟨_, _, p1.out.dp (shaped_lay hs.2.1), p2.out.dp (shaped_lay hs.2.2.1), hs.2.1, hs.2.2.1, hs.1, hs.2.2.2, z _ _ [] (.atom w (atomic_bool _) (.bl _))⟩⟩
    · cases h
def dLe : D → D → Option D
  | .int i, .int j => some (.bool (decide (i ≤ j)))
  | _, _ => none
theorem oj_le : OpJ X (compareOp .LtE) dLe k := fun d1 d2 d h => by
  unfold dLe at h
  split at h
  · cases h
    exact ⟨_, op_le, fun A S H sto x y Q w p1 p2 z => ⟨_, _, p1.intI, p2.intI, z _ _ [] (.atom w (atomic_bool _) (.bl _))⟩⟩
  · cases h
def dGt : D → D → Option D
  | .int i, .int j => some (.bool (decide (j < i)))
  | _, _ => none
theorem oj_gt : OpJ X (compareOp .Gt) dGt k := fun d1 d2 d h => by
  unfold dGt at h
  split at h
  · cases h
    refine ⟨_, op_gt, fun A S H sto x y Q w p1 p2 z => ⟨_, _, p1.intI, p2.intI, z _ _ [] (.atom w (atomic_bool _) (.bl _))⟩⟩
  · cases h
def dGe : D → D → Option D
  | .int i, .int j => some (.bool (decide (j ≤ i)))
  | _, _ => none
theorem oj_ge : OpJ X (compareOp .GtE) dGe k := fun d1 d2 d h => by
  unfold dGe at h
  split at h
  · cases h
    refine ⟨_, op_ge, fun A S H sto x y Q w p1 p2 z => ⟨_, _, p1.intI, p2.intI, z _ _ [] (.atom w (atomic_bool _) (.bl _))⟩⟩
  · cases h
def hasD (d : D) (ds : List D) : Bool := ds.any fun z => PyData.eqv z d
def dIn : D → D → Option D
  | d, .list ds => if SeqAt.shaped d = true ∧ SeqAt.shaped (.list ds) = true then some (.bool (hasD d ds)) else none
  | d, .tuple ds => if SeqAt.shaped d = true ∧ SeqAt.shaped (.tuple ds) = true then some (.bool (hasD d ds)) else none
  | _, _ => none
def dNotIn : D → D → Option D
  | d, .list ds => if SeqAt.shaped d = true ∧ SeqAt.shaped (.list ds) = true then some (.bool (!hasD d ds)) else none
  | d, .tuple ds => if SeqAt.shaped d = true ∧ SeqAt.shaped (.tuple ds) = true then some (.bool (!hasD d ds)) else none
  | _, _ => none
def rInT (K : PySem.W.Frag) : R2 := fun x y H Q => ∃ d ds, Dp K H x d ∧ Dp K H y (.tuple ds) ∧ SeqAt.shaped d = true ∧ SeqAt.shaped (.tuple ds) = true ∧ Q (.bl (ds.any fun z => PyData.eqv z d)) H
def rNotInT (K : PySem.W.Frag) : R2 := fun x y H Q => ∃ d ds, Dp K H x d ∧ Dp K H y (.tuple ds) ∧ SeqAt.shaped d = true ∧ SeqAt.shaped (.tuple ds) = true ∧ Q (.bl (!ds.any fun z => PyData.eqv z d)) H
theorem room_in {A : Around} {d : D} {xs : List D} (h : SeqAt.shaped d = true) (hu : A.units + 65 < cLine) : A.units + 1 + min (PyData.depthAll xs) d.depth < cLine := by
  have h1 := SeqAt.depth_of_shaped h
  have h2 : min (PyData.depthAll xs) d.depth ≤ d.depth := Nat.min_le_right _ _
  omega
theorem op_inT (hu : X.A.units + 65 < cLine) : OpR X (compareOp .In) (rInT X.K) := by
  intro pins s σ H x y v u Q I rx ry h
  obtain ⟨d, ds, hd, he, sd, se, q⟩ := h
  obtain ⟨as, r1⟩ := Dp.reads I d x v hd rx
  obtain ⟨bs, r2⟩ := Dp.reads I (.tuple ds) y u he ry
  exact SeqAt.in_tuple_reads r2 r1 (by simpa [PyData.canLay0] using SeqAt.canLay_of_shaped se) (SeqAt.canLay_of_shaped sd) (room_in sd hu) ⟨.bl _, H, I, rfl, q⟩
theorem op_notInT (hu : X.A.units + 65 < cLine) : OpR X (compareOp .NotIn) (rNotInT X.K) := by
  intro pins s σ H x y v u Q I rx ry h
  obtain ⟨d, ds, hd, he, sd, se, q⟩ := h
  obtain ⟨as, r1⟩ := Dp.reads I d x v hd rx
  obtain ⟨bs, r2⟩ := Dp.reads I (.tuple ds) y u he ry
  exact SeqAt.notIn_tuple_reads r2 r1 (by simpa [PyData.canLay0] using SeqAt.canLay_of_shaped se) (SeqAt.canLay_of_shaped sd) (room_in sd hu) ⟨.bl _, H, I, rfl, q⟩
theorem oj_in (hu : X.A.units + 65 < cLine) : OpJ X (compareOp .In) dIn k := fun d1 d2 d h => by
  unfold dIn at h
  split at h
  · split at h
    · rename_i hs
      cases h
      exact ⟨_, op_inD hu, fun A S H sto x y Q w p1 p2 z => ⟨_, _, p1.out.dp (shaped_lay hs.1), p2.out.dp (shaped_lay hs.2), hs.1, hs.2, z _ _ [] (.atom w (atomic_bool _) (.bl _))⟩⟩
    · cases h
  · split at h
    · rename_i hs
      cases h
      exact ⟨_, op_inT hu, fun A S H sto x y Q w p1 p2 z => ⟨_, _, p1.out.dp (shaped_lay hs.1), p2.out.dp (shaped_lay hs.2), hs.1, hs.2, z _ _ [] (.atom w (atomic_bool _) (.bl _))⟩⟩
    · cases h
  · cases h
theorem oj_notIn (hu : X.A.units + 65 < cLine) : OpJ X (compareOp .NotIn) dNotIn k := fun d1 d2 d h => by
  unfold dNotIn at h
  split at h
  · split at h
    · rename_i hs
      cases h
      exact ⟨_, op_notInD hu, fun A S H sto x y Q w p1 p2 z => ⟨_, _, p1.out.dp (shaped_lay hs.1), p2.out.dp (shaped_lay hs.2), hs.1, hs.2, z _ _ [] (.atom w (atomic_bool _) (.bl _))⟩⟩
    · cases h
  · split at h
    · rename_i hs
      cases h
      exact ⟨_, op_notInT hu, fun A S H sto x y Q w p1 p2 z => ⟨_, _, p1.out.dp (shaped_lay hs.1), p2.out.dp (shaped_lay hs.2), hs.1, hs.2, z _ _ [] (.atom w (atomic_bool _) (.bl _))⟩⟩
    · cases h
  · cases h
/-- is, is not: of None, of a bool by a bool -/
def isNoneD : D → Bool
  | .none => true
  | _ => false
def dIs : D → D → Option D
  | x, .none => some (.bool (isNoneD x))
  | .bool a, .bool b => some (.bool (decide (a = b)))
  | _, _ => none
def dIsNot : D → D → Option D
  | x, .none => some (.bool (!isNoneD x))
  | .bool a, .bool b => some (.bool (!decide (a = b)))
  | _, _ => none
theorem isNone_v {K : PySem.W.Frag} {S : List Addr} {H : Hp} {x : V} {d : D} (p : Rp K S H x d) : decide (x = V.non) = isNoneD d := by
  cases p <;> first | rfl | (simp [isNoneD, tokD])
theorem oj_is : OpJ X (compareOp .Is) dIs k := fun d1 d2 d h => by
  unfold dIs at h
  split at h
  · cases h
    refine ⟨_, op_isN, fun A S H sto x y Q w p1 p2 z => ⟨p2.nonI, ?_⟩⟩
    rw [isNone_v p1]
    exact z _ _ [] (.atom w (atomic_bool _) (.bl _))
  · cases h
    exact ⟨_, op_isBl, fun A S H sto x y Q w p1 p2 z => ⟨_, _, p1.blI, p2.blI, z _ _ [] (.atom w (atomic_bool _) (.bl _))⟩⟩
  · cases h
theorem oj_isNot : OpJ X (compareOp .IsNot) dIsNot k := fun d1 d2 d h => by
  unfold dIsNot at h
  split at h
  · cases h
    refine ⟨_, op_notN, fun A S H sto x y Q w p1 p2 z => ⟨p2.nonI, ?_⟩⟩
    rw [isNone_v p1]
    exact z _ _ [] (.atom w (atomic_bool _) (.bl _))
  · cases h
    exact ⟨_, op_notBl, fun A S H sto x y Q w p1 p2 z => ⟨_, _, p1.blI, p2.blI, z _ _ [] (.atom w (atomic_bool _) (.bl _))⟩⟩
  · cases h
end

/-! ### chains, and, or, not, if else -/
def eChain (o1 o2 : D → D → Option D) (f g h : Ev) : Ev := fun vw s => (f vw s).bind fun p => (g vw p.2).bind fun q => (o1 p.1 q.1).bind fun c => match c with
  | .bool true => (h vw q.2).bind fun r => (o2 q.1 r.1).map fun z => (z, r.2)
  | .bool false => some (.bool false, q.2)
  | _ => none
theorem bind_some' {α β : Type} {x : Option α} {f : α → Option β} {b : β} (h : x.bind f = some b) : ∃ a, x = some a ∧ f a = some b := by
  cases x with
  | none => cases h
  | some a => exact ⟨a, rfl, h⟩
theorem map_some' {α β : Type} {x : Option α} {f : α → β} {b : β} (h : x.map f = some b) : ∃ a, x = some a ∧ f a = b := by
  cases x with
  | none => cases h
  | some a => exact ⟨a, rfl, Option.some.inj h⟩
section
variable {X : Cx} {e a b c : Expr} {es rest : List Expr} {f g h : Ev} {fs : EvA} {k j : Nat} {pos p : Pos} {o1 o2 : D → D → Option D}
theorem chain_read {c1 c2 : CmpOp} (h1 : OpJ X (compareOp c1) o1 0) (h2 : OpJ X (compareOp c2) o2 k) (ha : JP X a f 0) (hb : JP X b g 0) (hc : JP X c h 0)
    {A : Addr → Prop} {S : List Addr} {σ : Sg} {H : Hp} {vw : VW} {sto sto' : STO} {d : D} (w : Wd X.K S A H sto) (r : RdV X.K S A σ H vw) (q : eChain o1 o2 f g h vw sto = some (d, sto')) :
    ∃ r1 r2, OpR X (compareOp c1) r1 ∧ OpR X (compareOp c2) r2 ∧ ∀ Q : VK, (∀ v H' F, Res X.K S A H sto' k H' v d F → Q v H') → tChain r1 r2 (wpE X a) (wpE X b) (wpE X c) σ H Q := by
  unfold eChain at q
  obtain ⟨⟨x, s1⟩, e1, q⟩ := bind_some' q
  obtain ⟨⟨y, s2⟩, e2, q⟩ := bind_some' q
  obtain ⟨cc, e3, q⟩ := bind_some' q
  obtain ⟨r1, ho1, q1⟩ := h1 x y cc e3
  -- the second operation, where it is asked
  have k2 : ∃ r2, OpR X (compareOp c2) r2 ∧ (cc = .bool true → ∃ t s3, h vw s2 = some (t, s3) ∧ s3 = sto' ∧ ∀ A S H sto x' y' Q, Wd X.K S A H sto → Rp X.K S (hid A H) x' y → Rp X.K S (hid A H) y' t → (∀ v H' F', Res X.K S A H sto k H' v d F' → Q v H') → r2 x' y' H Q) := by
    split at q
    · obtain ⟨⟨t, s3⟩, e4, q⟩ := bind_some' q
      obtain ⟨zz, e5, q⟩ := map_some' q
      cases q
      obtain ⟨r2, ho2, q2⟩ := h2 y t _ e5
      exact ⟨r2, ho2, fun _ => ⟨t, s3, e4, rfl, q2⟩⟩
    · exact ⟨fun _ _ _ _ => False, fun _ _ _ _ _ _ _ _ _ _ _ _ z => z.elim, fun z => by cases z⟩
    · cases q
  obtain ⟨r2, ho2, q2⟩ := k2
  refine ⟨r1, r2, ho1, ho2, fun Q z => ha.use2 hb w r e1 e2 fun v u H' x' w' r' p1 p2 => q1 A S H' s2 v u _ w' p1 p2 fun v' H2 F' rs => ?_⟩
  have w2 := rs.wd.less (A' := A) (fun a h => .inr h) w'.hS
  have r3 := r'.move rs.ext w'.hS (A' := A) fun a h => .inl h
  have pc := rs.rp w'
  split at q
  · have ev := pc.blI
    refine ⟨true, ev, ?_⟩
    rw [if_pos rfl]
    obtain ⟨t, s3, e4, e5, qq⟩ := q2 rfl
    subst e5
    refine hc.use w2 r3 e4 fun t' H3 x3 w3 r4 p4 => qq A S H3 s3 u t' Q w3 (p2.le (hid_move (rs.ext.trans x3) w'.hS fun a h => .inl h)) p4 fun v'' H4 F4 rs4 => ?_
    have ex := x'.trans (rs.ext.trans x3)
    exact z v'' H4 F4 (rs4.after ex fun a ha => none_of_ext ex (w3.live (rs4.fr a ha)) (rs4.fr a ha))
  · have ev := pc.blI
    cases q
    refine ⟨false, ev, ?_⟩
    rw [if_neg Bool.false_ne_true]
    exact z _ _ [] ((Res.atom w2 (atomic_bool _) (.bl _)).after (x'.trans rs.ext) noF)
  · cases q
theorem jp_chain {c1 c2 : CmpOp} (h1 : OpJ X (compareOp c1) o1 0) (h2 : OpJ X (compareOp c2) o2 k) (ha : JP X a f 0) (hb : JP X b g 0) (hc : JP X c h 0)
    (hm : lastMarks [c1, c2] [b, c] = false) : JP X (.Compare a [c1, c2] [b, c] pos) (eChain o1 o2 f g h) k := fun A S σ H vw sto d sto' Q w r q z => by
  obtain ⟨r1, r2, ho1, ho2, hh⟩ := chain_read h1 h2 ha hb hc w r q
  exact wpE.by (pe_chain ho1 ho2 wpE_pe wpE_pe wpE_pe hm) (hh Q z)
/-- a and b, a or b, as values, all but the last a bool -/
def eAnd (f g : Ev) : Ev := fun vw s => (f vw s).bind fun p => match p.1 with
  | .bool true => g vw p.2
  | .bool false => some (.bool false, p.2)
  | _ => none
def eOr (f g : Ev) : Ev := fun vw s => (f vw s).bind fun p => match p.1 with
  | .bool true => some (.bool true, p.2)
  | .bool false => g vw p.2
  | _ => none
def dNot : D → Option D
  | .bool b => some (.bool (!b))
  | _ => none
theorem jp_one {o} (ha : JP X a f k) : JP X (.BoolOp o [a] pos) f k := fun A S σ H vw sto d sto' Q w r q z => wpE.by (pe_one wpE_pe) (ha A S σ H vw sto d sto' Q w r q z)
theorem Res.later {K : PySem.W.Frag} {S : List Addr} {A : Addr → Prop} {H H1 H' : Hp} {sto1 sto' : STO} {k : Nat} {v : V} {d : D} {F : List Addr} (x : Ext S H H1) (w1 : Wd K S A H1 sto1) (r : Res K S A H1 sto' k H' v d F) : Res K S A H sto' k H' v d F :=
  r.after x fun a ha => none_of_ext x (w1.live (r.fr a ha)) (r.fr a ha)
theorem jp_and (ha : JP X a f 0) (hb : JP X (.BoolOp .And (b :: rest) pos) g k) : JP X (.BoolOp .And (a :: b :: rest) pos) (eAnd f g) k := fun A S σ H vw sto d sto' Q w r q z => by
  unfold eAnd at q
  obtain ⟨⟨x, s1⟩, e1, q⟩ := bind_some' q
  refine wpE.by (pe_and wpE_pe wpE_pe) (ha.use w r e1 fun v H1 x1 w1 r1 p1 => ?_)
  simp only at q
  split at q
  · refine ⟨true, p1.blI, ?_⟩
    rw [if_pos rfl]
    exact hb A S σ H1 vw s1 d sto' Q w1 r1 q fun v' H' F rs => z v' H' F (rs.later x1 w1)
  · cases q
    refine ⟨false, p1.blI, ?_⟩
    rw [if_neg Bool.false_ne_true]
    exact z _ _ [] ((Res.atom w1 (atomic_bool _) (.bl _)).after x1 noF)
  · cases q
theorem jp_or (ha : JP X a f 0) (hb : JP X (.BoolOp .Or (b :: rest) pos) g k) : JP X (.BoolOp .Or (a :: b :: rest) pos) (eOr f g) k := fun A S σ H vw sto d sto' Q w r q z => by
  unfold eOr at q
  obtain ⟨⟨x, s1⟩, e1, q⟩ := bind_some' q
  refine wpE.by (pe_or wpE_pe wpE_pe) (ha.use w r e1 fun v H1 x1 w1 r1 p1 => ?_)
  simp only at q
  split at q
  · cases q
    refine ⟨true, p1.blI, ?_⟩
    rw [if_pos rfl]
    exact z _ _ [] ((Res.atom w1 (atomic_bool _) (.bl _)).after x1 noF)
  · refine ⟨false, p1.blI, ?_⟩
    rw [if_neg Bool.false_ne_true]
    exact hb A S σ H1 vw s1 d sto' Q w1 r1 q fun v' H' F rs => z v' H' F (rs.later x1 w1)
  · cases q
theorem jp_not (ha : JP X a f 0) : JP X (.UnaryOp .Not a pos) (eUn dNot f) k := fun A S σ H vw sto d sto' Q w r q z => by
  obtain ⟨x, e1, e3⟩ := eUn_some q
  refine wpE.by (pe_not wpE_pe) (ha.use w r e1 fun v H1 x1 w1 r1 p1 => ?_)
  unfold dNot at e3
  split at e3
  · cases e3
    exact ⟨_, p1.blI, z _ _ [] ((Res.atom w1 (atomic_bool _) (.bl _)).after x1 noF)⟩
  · cases e3

/-! ### tests -/
def bT (f : Ev) : EvT := fun vw s => (f vw s).bind fun p => match p.1 with
  | .bool b => some (b, p.2)
  | _ => none
def aT (f g : EvT) : EvT := fun vw s => (f vw s).bind fun p => if p.1 = true then g vw p.2 else some (false, p.2)
def oT (f g : EvT) : EvT := fun vw s => (f vw s).bind fun p => if p.1 = true then some (true, p.2) else g vw p.2
def nT (f : EvT) : EvT := fun vw s => (f vw s).map fun p => (!p.1, p.2)
variable {ft gt : EvT}
theorem jt_val (ha : JP X a f 0) (he : ∀ whole, isTrue a X.env whole = (do let v ← whole; standAt a.pos; holding [v] (truthy v))) : JT X a (bT f) := fun A S σ H vw sto b sto' Q w r q z => by
  unfold bT at q
  obtain ⟨⟨x, s1⟩, e1, q⟩ := bind_some' q
  refine wpT.by (pt_val wpE_pe he) (ha.use w r e1 fun v H1 x1 w1 r1 p1 => ?_)
  simp only at q
  split at q
  · cases q
    exact ⟨_, p1.blI, z H1 x1 w1⟩
  · cases q
theorem jt_cmp {o : CmpOp} (ho : OpJ X (compareOp o) o1 0) (ha : JP X a f 0) (hb : JP X b g 0) (hm : behindInMarks o b = false) : JT X (.Compare a [o] [b] pos) (bT (eBin o1 f g)) := fun A S σ H vw sto bb sto' Q w r q z => by
  unfold bT at q
  obtain ⟨⟨t, s1⟩, e0, q⟩ := bind_some' q
  obtain ⟨x, s2, y, e1, e2, e3⟩ := eBin_some e0
  obtain ⟨rr, h1, h2⟩ := ho x y t e3
  refine wpT.by (pt_cmpR h1 wpE_pe wpE_pe hm) (ha.use2 hb w r e1 e2 fun v u H' x' w' r' p1 p2 => h2 A S H' s1 v u _ w' p1 p2 fun v' H2 F' rs => ?_)
  simp only at q
  split at q
  · cases q
    exact ⟨_, (rs.rp w').blI, z _ (x'.trans rs.ext) (rs.wd.less (fun a h => .inr h) w'.hS)⟩
  · cases q
theorem jt_chain {c1 c2 : CmpOp} {o2 : D → D → Option D} (h1 : OpJ X (compareOp c1) o1 0) (h2 : OpJ X (compareOp c2) o2 0) (ha : JP X a f 0) (hb : JP X b g 0) (hc : JP X c h 0)
    (hm : lastMarks [c1, c2] [b, c] = false) : JT X (.Compare a [c1, c2] [b, c] pos) (bT (eChain o1 o2 f g h)) := fun A S σ H vw sto bb sto' Q w r q z => by
  unfold bT at q
  obtain ⟨⟨t, s1⟩, e0, q⟩ := bind_some' q
  obtain ⟨r1, r2, ho1, ho2, hh⟩ := chain_read h1 h2 ha hb hc w r e0
  refine wpT.by (pt_chain ho1 ho2 wpE_pe wpE_pe wpE_pe hm) (hh _ fun v' H2 F' rs => ?_)
  simp only at q
  split at q
  · cases q
    exact ⟨_, (rs.rp w).blI, z _ rs.ext (rs.wd.less (fun a h => .inr h) w.hS)⟩
  · cases q
theorem jt_pw (h : JW X a ft) : JT X a ft := fun A S σ H vw sto b sto' Q w r q z => fun pins s I => h A S σ H vw sto b sto' Q w r q z _ pins s I
theorem jw_and1 (h : JT X a ft) : JW X (.BoolOp .And [a] pos) ft := fun A S σ H vw sto b sto' Q w r q z => wpW.by (pw_and1 wpT_pt) (h A S σ H vw sto b sto' Q w r q z)
theorem jw_or1 (h : JT X a ft) : JW X (.BoolOp .Or [a] pos) ft := fun A S σ H vw sto b sto' Q w r q z => wpW.by (pw_or1 wpT_pt) (h A S σ H vw sto b sto' Q w r q z)
theorem JT.use (h : JT X a ft) {A : Addr → Prop} {S : List Addr} {σ : Sg} {H : Hp} {vw : VW} {sto sto' : STO} {b : Bool} {Q : Bool → Hp → Prop} (w : Wd X.K S A H sto) (r : RdV X.K S A σ H vw) (q : ft vw sto = some (b, sto'))
    (z : ∀ H', Ext S H H' → Wd X.K S A H' sto' → RdV X.K S A σ H' vw → Q b H') : wpT X a σ H Q := h A S σ H vw sto b sto' Q w r q fun H' x' w' => z H' x' w' (r.move x' w.hS fun a h => .inl h)
theorem jw_and (ha : JT X a ft) (hb : JW X (.BoolOp .And (b :: rest) pos) gt) : JW X (.BoolOp .And (a :: b :: rest) pos) (aT ft gt) := fun A S σ H vw sto bb sto' Q w r q z => by
  unfold aT at q
  obtain ⟨⟨x, s1⟩, e1, q⟩ := bind_some' q
  refine wpW.by (pw_and wpT_pt wpW_pw) (ha.use w r e1 fun H1 x1 w1 r1 => ?_)
  simp only at q
  split at q
  · rename_i hx
    rw [if_pos hx]
    exact hb A S σ H1 vw s1 bb sto' Q w1 r1 q fun H' x' w' => z H' (x1.trans x') w'
  · rename_i hx
    rw [if_neg hx]
    cases q
    exact z H1 x1 w1
theorem jw_or (ha : JT X a ft) (hb : JW X (.BoolOp .Or (b :: rest) pos) gt) : JW X (.BoolOp .Or (a :: b :: rest) pos) (oT ft gt) := fun A S σ H vw sto bb sto' Q w r q z => by
  unfold oT at q
  obtain ⟨⟨x, s1⟩, e1, q⟩ := bind_some' q
  refine wpW.by (pw_or wpT_pt wpW_pw) (ha.use w r e1 fun H1 x1 w1 r1 => ?_)
  simp only at q
  split at q
  · rename_i hx
    rw [if_pos hx]
    cases q
    exact z H1 x1 w1
  · rename_i hx
    rw [if_neg hx]
    exact hb A S σ H1 vw s1 bb sto' Q w1 r1 q fun H' x' w' => z H' (x1.trans x') w'
theorem jt_not (ha : JT X a ft) : JT X (.UnaryOp .Not a pos) (nT ft) := fun A S σ H vw sto b sto' Q w r q z => by
  unfold nT at q
  obtain ⟨⟨x, s1⟩, e1, q⟩ := map_some' q
  cases q
  exact wpT.by (pt_not wpT_pt) (ha.use w r e1 fun H1 x1 w1 r1 => z H1 x1 w1)
def eIf (t : EvT) (f g : Ev) : Ev := fun vw s => (t vw s).bind fun p => if p.1 = true then f vw p.2 else g vw p.2
theorem jp_if (ht : JT X c ft) (ha : JP X a f k) (hb : JP X b g k) : JP X (.IfExp c a b pos) (eIf ft f g) k := fun A S σ H vw sto d sto' Q w r q z => by
  unfold eIf at q
  obtain ⟨⟨x, s1⟩, e1, q⟩ := bind_some' q
  refine wpE.by (pe_ifExp wpT_pt wpE_pe wpE_pe) (ht.use w r e1 fun H1 x1 w1 r1 => ?_)
  simp only at q
  split at q
  · rename_i hx
    rw [if_pos hx]
    exact ha A S σ H1 vw s1 d sto' Q w1 r1 q fun v' H' F rs => z v' H' F (rs.later x1 w1)
  · rename_i hx
    rw [if_neg hx]
    exact hb A S σ H1 vw s1 d sto' Q w1 r1 q fun v' H' F rs => z v' H' F (rs.later x1 w1)

/-! ### argument lists, displays -/
def aN : EvA := fun _ s => some ([], s)
def aC (f : Ev) (g : EvA) : EvA := fun vw s => (f vw s).bind fun p => (g vw p.2).map fun q => (p.1 :: q.1, q.2)
theorem ja_nil : JA X [] aN k := fun A S σ H vw sto d sto' Q w r q z => by
  cases q
  exact wpA.by pa_nil (z [] H [] (.nil w))
theorem ja_cons {gs : EvA} (ha : JP X a f k) (hr : JA X es gs k) (hs : starEach (a :: es) X.env = (false, eval a X.env) :: starEach es X.env := by rfl) : JA X (a :: es) (aC f gs) k := fun A S σ H vw sto d sto' Q w r q z => by
  unfold aC at q
  obtain ⟨⟨x, s1⟩, e1, q⟩ := bind_some' q
  obtain ⟨⟨ys, s2⟩, e2, q⟩ := map_some' q
  cases q
  refine wpA.by (pa_cons wpE_pe wpA_pa hs) (ha A S σ H vw sto x s1 _ w r e1 fun v H1 F rs => ?_)
  refine hr (plus F A) S σ H1 vw s1 ys s2 _ rs.wd (r.move rs.ext w.hS fun a h => ?_) e2 fun vs H2 G qs => z (v :: vs) H2 (F ++ G) (.cons w rs qs)
  rcases h with h | h
  · exact .inr (rs.fr a h)
  · exact .inl h
def eLst (f : EvA) : Ev := fun vw s => (f vw s).bind fun p => if p.1.length ≤ 16777216 then some (.list p.1, p.2) else none
def eTup (f : EvA) : Ev := fun vw s => (f vw s).bind fun p => if p.1.length ≤ 16777216 then some (.tuple p.1, p.2) else none
theorem jp_lst (h : JA X es fs k) : JP X (.List es pos) (eLst fs) (k + 1) := fun A S σ H vw sto d sto' Q w r q z => by
  unfold eLst at q
  obtain ⟨⟨x, s1⟩, e1, q⟩ := bind_some' q
  simp only at q
  split at q
  · rename_i hl
    cases q
    exact wpE.by (pe_lst wpA_pa) (h A S σ H vw sto x _ _ w r e1 fun vs H1 F rs => ⟨by rw [rs.ow.length, sizeLine_eq]; exact hl, fun p hp => z _ _ _ (Res.lst w rs hp)⟩)
  · cases q
theorem jp_tup {x1} (h : JA X es fs 0) : JP X (.Tuple es x1 pos) (eTup fs) k := fun A S σ H vw sto d sto' Q w r q z => by
  unfold eTup at q
  obtain ⟨⟨x, s1⟩, e1, q⟩ := bind_some' q
  simp only at q
  split at q
  · rename_i hl
    cases q
    exact wpE.by (pe_tup wpA_pa) (h A S σ H vw sto x _ _ w r e1 fun vs H1 F rs => ⟨by rw [rs.ow.length, sizeLine_eq]; exact hl, fun p hp => z _ _ _ (Res.tup w rs hp)⟩)
  · cases q
end
end J
namespace J
open PySem PySem.Spec PyProof.Rows L2

/-! ### an item -/
/-- a datum that stands for another thing -/
def isMk : D → Bool
  | .dict ((.none, _) :: _) => true
  | .dict ((.tuple _, _) :: _) => true
  | _ => false
theorem Rp.skI {K : PySem.W.Frag} {S : List Addr} {H : Hp} {v : V} {ds : List D} (h : Rp K S H v (.dict [(.none, .list ds)])) : ∃ a xs, v = .ref a ∧ SqL K H a xs ∧ RpA K S H xs ds := by
  cases h with
  | sk h1 h2 => exact ⟨_, _, rfl, h1, h2⟩
  | dK h1 h2 =>
    obtain ⟨k, e⟩ := h2.key _ List.mem_cons_self
    cases k <;> cases e
  | dT h1 h2 =>
    obtain ⟨k, e⟩ := h2.key _ List.mem_cons_self
    cases e
theorem _root_.L2.SqL.out {K : PySem.W.Frag} {A : Addr → Prop} {H : Hp} {a : Addr} {xs : List V} (h : SqL K (hid A H) a xs) : SqL K H a xs := L2.Same.seq same_hid h
def isTok : D → Option Nat
  | .dict [(.none, .int i)] => if 0 ≤ i then some i.toNat else none
  | _ => none
theorem isTok_tok (i : Nat) : isTok (tokD i) = some i := by
  show (if (0 : Int) ≤ (i : Int) then some (i : Int).toNat else none) = _
  rw [if_pos (by omega)]
  rfl
theorem isTok_eq {d : D} {i : Nat} (h : isTok d = some i) : d = tokD i := by
  unfold isTok at h
  split at h
  · split at h
    · rename_i j hj
      cases h
      show PyData.dict [(.none, .int j)] = .dict [(.none, .int (j.toNat : Nat))]
      rw [show ((j.toNat : Nat) : Int) = j by omega]
    · cases h
  · cases h
/-- the items of a cell that holds a list -/
def cellL (s : STO) (i : Nat) : Option (List D) := match s[i]? with
  | some (.lst ds) => some ds
  | _ => none
def dIdx (s : STO) : D → D → Option D
  | .list ds, .int i => atI ds i
  | .tuple ds, .int i => atI ds i
  | .str z, .int i => if z.length ≤ 16777216 then (atI z.cps.toList i).map fun c => .str ⟨#[c]⟩ else none
  | .dict [(.none, .int j)], .int i => (isTok (.dict [(.none, .int j)])).bind fun k => (cellL s k).bind fun ds => atI ds i
  | .dict [(.none, .list ds)], .int i => atI ds i
  | _, _ => none
theorem Rp.tokI {K : PySem.W.Frag} {S : List Addr} {H : Hp} {v : V} {i : Nat} (h : Rp K S H v (tokD i)) : ∃ l, v = .ref l ∧ S[i]? = some l := by
  unfold tokD at h
  generalize e0 : PyData.dict [(.none, .int (i : Nat))] = d at h
  cases h with
  | @tok _ j h =>
    unfold tokD at e0
    injection e0 with e0
    injection e0 with e0 _
    injection e0 with _ e0
    injection e0 with e0
    have : i = j := by omega
    subst this
    exact ⟨_, rfl, h⟩
  | dK h1 h2 =>
    injection e0 with e0
    subst e0
    obtain ⟨k, e⟩ := h2.key _ List.mem_cons_self
    cases k <;> cases e
  | dT h1 h2 =>
    injection e0 with e0
    subst e0
    obtain ⟨k, e⟩ := h2.key _ List.mem_cons_self
    cases e
  | sk h1 h2 =>
    unfold skD at e0
    injection e0 with e0
    injection e0 with e0 _
    injection e0 with _ e0
    cases e0
  | _ => cases e0
theorem Wd.cellL {K : PySem.W.Frag} {S : List Addr} {A : Addr → Prop} {H : Hp} {sto : STO} {i : Nat} {l : Addr} {ds : List D} (w : Wd K S A H sto) (hS : S[i]? = some l) (h : cellL sto i = some ds) : ∃ vs, H l = some (.lst vs) ∧ RpA K S (hid A H) vs ds := by
  unfold J.cellL at h
  split at h
  · rename_i ds' hc
    cases h
    exact w.st i l _ hS hc
  · cases h
def eIdx (f g : Ev) : Ev := fun vw s => (f vw s).bind fun p => (g vw p.2).bind fun q => (dIdx q.2 p.1 q.1).map fun r => (r, q.2)
section
variable {K : PySem.W.Frag} {S : List Addr} {H : Hp}
theorem RpA.atI {vs : List V} {ds : List D} {i : Int} {d : D} (h : RpA K S H vs ds) (e : L2.atI ds i = some d) : ∃ v, L2.atI vs i = some v ∧ Rp K S H v d := by
  unfold L2.atI at e ⊢
  rw [h.length]
  cases q : ixN ds.length i with
  | none => rw [q] at e; cases e
  | some j =>
    rw [q] at e
    exact h.get (i := j) e
end
section
variable {X : Cx} {e a b c : Expr} {es rest : List Expr} {f g h : Ev} {fs : EvA} {k j : Nat} {pos p p2 cpos apos : Pos}
theorem jp_idx (ha : JP X a f 0) (hb : JP X b g 0) (hs : PlainIx b) : JP X (.Subscript a b pos) (eIdx f g) 0 := fun A S σ H vw sto d sto' Q w r q z => by
  unfold eIdx at q
  obtain ⟨⟨x, s1⟩, e1, q⟩ := bind_some' q
  obtain ⟨⟨y, s2⟩, e2, q⟩ := bind_some' q
  obtain ⟨t, e3, q⟩ := map_some' q
  cases q
  simp only at e2 e3
  unfold dIdx at e3
  split at e3
  · refine wpE.by (pe_ix ix_list wpE_pe wpE_pe hs) (ha.use2 hb w r e1 e2 fun v u H' x' w' r' p1 p2 => ?_)
    obtain ⟨l, xs, rfl, r1, q1⟩ := p1.lstI
    obtain ⟨t', e4, p4⟩ := q1.atI e3
    exact ⟨l, xs, _, t', rfl, p2.intI, .inl r1.out, e4, z t' H' [] ((Res.shared w' p4).after x' noF)⟩
  · refine wpE.by (pe_ix ix_tup wpE_pe wpE_pe hs) (ha.use2 hb w r e1 e2 fun v u H' x' w' r' p1 p2 => ?_)
    obtain ⟨l, xs, rfl, r1, q1⟩ := p1.tupI
    obtain ⟨t', e4, p4⟩ := q1.atI e3
    exact ⟨l, xs, _, t', rfl, p2.intI, .inl r1.out, e4, z t' H' [] ((Res.shared w' p4).after x' noF)⟩
  · split at e3
    · rename_i hl
      obtain ⟨c, e4, e5⟩ := map_some' e3
      refine wpE.by (pe_ix ix_str wpE_pe wpE_pe hs) (ha.use2 hb w r e1 e2 fun v u H' x' w' r' p1 p2 => ?_)
      cases e5
      exact ⟨_, _, c, p1.strI, p2.intI, by rw [sizeLine_eq]; exact hl, e4, z _ H' [] ((Res.atom w' (atomic_str _) (.str _)).after x' noF)⟩
    · cases e3
  · obtain ⟨kk, e3, e4⟩ := bind_some' e3
    have e6 := isTok_eq e3
    obtain ⟨ds, e4, e5⟩ := bind_some' e4
    refine wpE.by (pe_ix ix_list wpE_pe wpE_pe hs) (ha.use2 hb w r e1 e2 fun v u H' x' w' r' p1 p2 => ?_)
    rw [e6] at p1
    obtain ⟨l, rfl, hS⟩ := p1.tokI
    obtain ⟨vs', h4, h5⟩ := w'.cellL hS e4
    obtain ⟨t', e6, p6⟩ := h5.atI e5
    exact ⟨l, vs', _, t', rfl, p2.intI, .of h4, e6, z t' H' [] ((Res.shared w' p6).after x' noF)⟩
  · refine wpE.by (pe_ix ix_list wpE_pe wpE_pe hs) (ha.use2 hb w r e1 e2 fun v u H' x' w' r' p1 p2 => ?_)
    obtain ⟨l, xs, rfl, r1, q1⟩ := p1.skI
    obtain ⟨t', e4, p4⟩ := q1.atI e3
    exact ⟨l, xs, _, t', rfl, p2.intI, r1.out, e4, z t' H' [] ((Res.shared w' p4).after x' noF)⟩
  · cases e3

/-! ### slices -/
def JO (X : Cx) (e : Option Expr) (f : VW → STO → Option (Option Int × STO)) : Prop := ∃ t, PO X e t ∧ ∀ A S σ H vw sto o sto' (Q : Option Int → Hp → Prop), Wd X.K S A H sto → RdV X.K S A σ H vw → f vw sto = some (o, sto') →
  (∀ H', Ext S H H' → Wd X.K S A H' sto' → RdV X.K S A σ H' vw → Q o H') → t σ H Q
def oN : VW → STO → Option (Option Int × STO) := fun _ s => some (none, s)
def oS (f : Ev) : VW → STO → Option (Option Int × STO) := fun vw s => (f vw s).bind fun p => match p.1 with
  | .int i => some (some i, p.2)
  | _ => none
theorem jo_none : JO X none oN := ⟨_, po_none, fun A S σ H vw sto o sto' Q w r q z => by
  cases q
  exact z H Ext.refl w r⟩
theorem jo_some (ha : JP X a f 0) : JO X (some a) (oS f) := ⟨_, po_some wpE_pe, fun A S σ H vw sto o sto' Q w r q z => by
  unfold oS at q
  obtain ⟨⟨x, s1⟩, e1, q⟩ := bind_some' q
  refine ha.use w r e1 fun v H1 x1 w1 r1 p1 => ?_
  simp only at q
  split at q
  · cases q
    exact ⟨_, p1.intI, z H1 x1 w1 r1⟩
  · cases q⟩
def cutL {α : Type} (xs : List α) (lo hi : Option Int) : List α := (xs.drop (HT.sIx xs.length 0 lo)).take (HT.sIx xs.length xs.length hi - HT.sIx xs.length 0 lo)
def dSl : D → Option Int → Option Int → Option D
  | .list ds, lo, hi => some (.list (cutL ds lo hi))
  | .str z, lo, hi => if z.length ≤ 16777216 then some (.str (cutS z lo hi)) else none
  | _, _, _ => none
def eSl (f : Ev) (lo hi : VW → STO → Option (Option Int × STO)) : Ev := fun vw s => (f vw s).bind fun p => (lo vw p.2).bind fun q => (hi vw q.2).bind fun u => (dSl p.1 q.1 u.1).map fun d => (d, u.2)
theorem RpA.cut {K : PySem.W.Frag} {S : List Addr} {H : Hp} {vs : List V} {ds : List D} (h : RpA K S H vs ds) (lo hi : Option Int) : RpA K S H (cutV vs lo hi) (cutL ds lo hi) := by
  unfold cutV cutL
  rw [h.length]
  exact (h.drop _).take _
theorem jp_slice {lo hi : Option Expr} {fl fh : VW → STO → Option (Option Int × STO)} (ha : JP X a f 0) (hl : JO X lo fl) (hh : JO X hi fh) : JP X (.Subscript a (.Slice lo hi none p2) pos) (eSl f fl fh) 1 := fun A S σ H vw sto d sto' Q w r q z => by
  unfold eSl at q
  obtain ⟨⟨x, s1⟩, e1, q⟩ := bind_some' q
  obtain ⟨⟨o1, s2⟩, e2, q⟩ := bind_some' q
  obtain ⟨⟨o2, s3⟩, e3, q⟩ := bind_some' q
  obtain ⟨t, e4, q⟩ := map_some' q
  cases q
  simp only at e2 e3 e4
  obtain ⟨tl, hl, jl⟩ := hl
  obtain ⟨th, hh, jh⟩ := hh
  unfold dSl at e4
  split at e4
  · cases e4
    refine wpE.by (pe_slice sl_list wpE_pe hl hh) (ha.use w r e1 fun v H1 x1 w1 r1 p1 => jl A S σ H1 vw s1 o1 s2 _ w1 r1 e2 fun H2 x2 w2 r2 => jh A S σ H2 vw s2 o2 s3 _ w2 r2 e3 fun H3 x3 w3 r3 => ?_)
    have p3 := p1.le (hid_move (x2.trans x3) w1.hS (A' := A) fun a h => .inl h)
    obtain ⟨l, xs, rfl, r4, q4⟩ := p3.lstI
    exact ⟨l, xs, rfl, .inl r4.out, fun p hp => z _ _ [p] ((Res.lst w3 (.shared w3 (q4.cut _ _)) hp).later (x1.trans (x2.trans x3)) w3)⟩
  · split at e4
    · rename_i hl'
      cases e4
      refine wpE.by (pe_slice sl_str wpE_pe hl hh) (ha.use w r e1 fun v H1 x1 w1 r1 p1 => jl A S σ H1 vw s1 o1 s2 _ w1 r1 e2 fun H2 x2 w2 r2 => jh A S σ H2 vw s2 o2 s3 _ w2 r2 e3 fun H3 x3 w3 r3 => ?_)
      have ev := p1.strI
      subst ev
      exact ⟨_, rfl, by rw [sizeLine_eq]; exact hl', z _ _ [] ((Res.atom w3 (atomic_str _) (.str _)).after (x1.trans (x2.trans x3)) noF)⟩
    · cases e4
  · cases e4

/-! ### built-ins by their names -/
def CallJ (X : Cx) (fv : Value) (op : List D → Option D) (k : Nat) : Prop := ∀ ds d, op ds = some d → ∃ r, CallR X fv r ∧ ∀ A S H sto vs Q, Wd X.K S A H sto → RpA X.K S (hid A H) vs ds →
  (∀ v H' F', Res X.K S A H sto k H' v d F' → Q v H') → r vs H Q
def eOp (op : List D → Option D) (fs : EvA) : Ev := fun vw s => (fs vw s).bind fun p => (op p.1).map fun d => (d, p.2)
theorem jp_callB {x : Str} {id : String} {op : List D → Option D} (hc : CallJ X (.builtin id) op k) (hg : Gl X x) (hm : X.mg x = none) (hv : bootBuiltins x = some (.builtin id)) (ha : JA X (e :: es) fs 0) (hn : x ≠ "__name__" := by decide) (hdb : (x == ("__debug__" : Str)) = false := by decide)
    (he : starEach (e :: es) X.env = (false, eval e X.env) :: starEach es X.env := by rfl) (hpl : (backTo pos (starEach es X.env)).any (·.1) = false := by rfl) : JP X (.Call (.Name x p) (e :: es) [] pos) (eOp op fs) k := fun A S σ H vw sto d sto' Q w r q z => by
  unfold eOp at q
  obtain ⟨⟨xs, s1⟩, e1, q⟩ := bind_some' q
  obtain ⟨t, e2, q⟩ := map_some' q
  cases q
  obtain ⟨rr, h1, h2⟩ := hc xs _ e2
  exact wpE.by (pe_callB h1 hg hm hv wpA_pa hn hdb he hpl) (ha.use w r e1 fun vs H1 x1 w1 r1 p1 => h2 A S H1 s1 vs Q w1 p1 fun v H2 F' rs => z v H2 F' (rs.later x1 w1))
theorem jp_callTy {x : Str} {T : String} {op : List D → Option D} (hc : CallJ X (.type T) op k) (hg : Gl X x) (hm : X.mg x = none) (hv : bootBuiltins x = some (.type T)) (ha : JA X (e :: es) fs 0) (hn : x ≠ "__name__" := by decide) (hdb : (x == ("__debug__" : Str)) = false := by decide)
    (he : starEach (e :: es) X.env = (false, eval e X.env) :: starEach es X.env := by rfl) (hpl : (backTo pos (starEach es X.env)).any (·.1) = false := by rfl) : JP X (.Call (.Name x p) (e :: es) [] pos) (eOp op fs) k := fun A S σ H vw sto d sto' Q w r q z => by
  unfold eOp at q
  obtain ⟨⟨xs, s1⟩, e1, q⟩ := bind_some' q
  obtain ⟨t, e2, q⟩ := map_some' q
  cases q
  obtain ⟨rr, h1, h2⟩ := hc xs _ e2
  exact wpE.by (pe_callTy h1 hg hm hv wpA_pa hn hdb he hpl) (ha.use w r e1 fun vs H1 x1 w1 r1 p1 => h2 A S H1 s1 vs Q w1 p1 fun v H2 F' rs => z v H2 F' (rs.later x1 w1))
end

section
variable {X : Cx} {k : Nat}
variable {K : PySem.W.Frag} {S : List Addr} {H : Hp}
theorem RpA.one {vs : List V} {d : D} (h : RpA K S H vs [d]) : ∃ v, vs = [v] ∧ Rp K S H v d := by
  cases h with
  | cons a b => cases b; exact ⟨_, rfl, a⟩
theorem RpA.two {vs : List V} {d e : D} (h : RpA K S H vs [d, e]) : ∃ v u, vs = [v, u] ∧ Rp K S H v d ∧ Rp K S H u e := by
  cases h with
  | cons a b =>
    obtain ⟨u, rfl, q⟩ := b.one
    exact ⟨_, u, rfl, a, q⟩
def cLen : List D → Option D
  | [.list ds] => some (.int ds.length)
  | [.tuple ds] => some (.int ds.length)
  | [.dict [(.none, .list ds)]] => some (.int ds.length)
  | [.str z] => if z.length ≤ 16777216 then some (.int z.length) else none
  | _ => none
theorem cj_len : CallJ X (.builtin "len") cLen k := fun ds d h => by
  unfold cLen at h
  split at h
  · cases h
    refine ⟨_, call_len_seq, fun A S H sto vs Q w p z => ?_⟩
    obtain ⟨v, ev, p1⟩ := p.one; subst ev
    obtain ⟨l, xs, rfl, r1, q1⟩ := p1.lstI
    refine ⟨l, xs, rfl, .inl (.inl r1.out), ?_⟩
    rw [q1.length]
    exact z _ _ [] (.atom w (atomic_int _) (.int _))
  · cases h
    refine ⟨_, call_len_seq, fun A S H sto vs Q w p z => ?_⟩
    obtain ⟨v, ev, p1⟩ := p.one; subst ev
    obtain ⟨l, xs, rfl, r1, q1⟩ := p1.tupI
    refine ⟨l, xs, rfl, .inr (.inl r1.out), ?_⟩
    rw [q1.length]
    exact z _ _ [] (.atom w (atomic_int _) (.int _))
  · cases h
    refine ⟨_, call_len_seq, fun A S H sto vs Q w p z => ?_⟩
    obtain ⟨v, ev, p1⟩ := p.one; subst ev
    obtain ⟨l, xs, rfl, r1, q1⟩ := p1.skI
    refine ⟨l, xs, rfl, .inl r1.out, ?_⟩
    rw [q1.length]
    exact z _ _ [] (.atom w (atomic_int _) (.int _))
  · split at h
    · rename_i hl
      cases h
      refine ⟨_, call_len, fun A S H sto vs Q w p z => ?_⟩
      obtain ⟨v, ev, p1⟩ := p.one; subst ev
      have e := p1.strI
      subst e
      exact ⟨_, _, rfl, ⟨by rw [sizeLine_eq]; exact hl, rfl⟩, z _ _ [] (.atom w (atomic_int _) (.int _))⟩
    · cases h
  · cases h
def cAbs : List D → Option D
  | [.int i] => some (.int (if i < 0 then -i else i))
  | _ => none
theorem cj_abs : CallJ X (.builtin "abs") cAbs k := fun ds d h => by
  unfold cAbs at h
  split at h
  · cases h
    refine ⟨_, call_abs, fun A S H sto vs Q w p z => ?_⟩
    obtain ⟨v, ev, p1⟩ := p.one; subst ev
    exact ⟨_, by rw [p1.intI], z _ _ [] (.atom w (atomic_int _) (.int _))⟩
  · cases h
def cInt : List D → Option D
  | [.int i] => some (.int i)
  | [.bool b] => some (.int (if b then 1 else 0))
  | _ => none
theorem cj_int : CallJ X (.type "int") cInt k := fun ds d h => by
  unfold cInt at h
  split at h
  · cases h
    refine ⟨_, call_int1, fun A S H sto vs Q w p z => ?_⟩
    obtain ⟨v, ev, p1⟩ := p.one; subst ev
    exact .inl ⟨_, by rw [p1.intI], z _ _ [] (.atom w (atomic_int _) (.int _))⟩
  · cases h
    refine ⟨_, call_int1, fun A S H sto vs Q w p z => ?_⟩
    obtain ⟨v, ev, p1⟩ := p.one; subst ev
    exact .inr ⟨_, by rw [p1.blI], z _ _ [] (.atom w (atomic_int _) (.int _))⟩
  · cases h
def isInts : List D → Option (List Int)
  | [] => some []
  | .int i :: r => (isInts r).map (i :: ·)
  | _ => none
theorem isInts_some : ∀ {ds : List D} {ns : List Int}, isInts ds = some ns → ds = ns.map PyData.int
  | [], ns, h => by cases h; rfl
  | .int i :: r, ns, h => by
    unfold isInts at h
    obtain ⟨ms, e, q⟩ := map_some' h
    subst q
    rw [isInts_some e]
    rfl
  | .none :: _, _, h => by cases h
  | .bool _ :: _, _, h => by cases h
  | .str _ :: _, _, h => by cases h
  | .list _ :: _, _, h => by cases h
  | .tuple _ :: _, _, h => by cases h
  | .dict _ :: _, _, h => by cases h
theorem isInts_map : ∀ (ns : List Int), isInts (ns.map PyData.int) = some ns
  | [] => rfl
  | n :: ns => by
    show (isInts (ns.map PyData.int)).map (n :: ·) = _
    rw [isInts_map ns]
    rfl
def isBls : List D → Option (List Bool)
  | [] => some []
  | .bool i :: r => (isBls r).map (i :: ·)
  | _ => none
theorem isBls_some : ∀ {ds : List D} {ns : List Bool}, isBls ds = some ns → ds = ns.map PyData.bool
  | [], ns, h => by cases h; rfl
  | .bool i :: r, ns, h => by
    unfold isBls at h
    obtain ⟨ms, e, q⟩ := map_some' h
    subst q
    rw [isBls_some e]
    rfl
  | .none :: _, _, h => by cases h
  | .int _ :: _, _, h => by cases h
  | .str _ :: _, _, h => by cases h
  | .list _ :: _, _, h => by cases h
  | .tuple _ :: _, _, h => by cases h
  | .dict _ :: _, _, h => by cases h
theorem isBls_map : ∀ (ns : List Bool), isBls (ns.map PyData.bool) = some ns
  | [] => rfl
  | n :: ns => by
    show (isBls (ns.map PyData.bool)).map (n :: ·) = _
    rw [isBls_map ns]
    rfl
theorem RpA.bls : ∀ {vs : List V} {ns : List Bool}, RpA K S H vs (ns.map PyData.bool) → vs = ns.map V.bl
  | _, [], .nil => rfl
  | _, n :: ns, .cons a b => by cases a; rw [b.bls]; rfl
def cSum : List D → Option D
  | [.list ds] => (isInts ds).map fun ns => .int ns.sum
  | _ => none
theorem cj_sum (hc : X.calm = true) : CallJ X (.builtin "sum") cSum k := fun ds d h => by
  unfold cSum at h
  split at h
  · obtain ⟨ns, e, q⟩ := map_some' h
    cases q
    have e' := isInts_some e
    subst e'
    refine ⟨_, cr_sum hc, fun A S H sto vs Q w p z => ?_⟩
    obtain ⟨v, ev, p1⟩ := p.one; subst ev
    obtain ⟨l, xs, rfl, r1, q1⟩ := p1.lstI
    rw [q1.ints] at r1
    exact ⟨l, ns, rfl, .inl r1.out, z _ _ [] (.atom w (atomic_int _) (.int _))⟩
  · cases h
def cAll : List D → Option D
  | [.list ds] => (isBls ds).map fun ns => .bool (ns.all id)
  | _ => none
def cAny : List D → Option D
  | [.list ds] => (isBls ds).map fun ns => .bool (ns.any id)
  | _ => none
theorem cj_all (hc : X.calm = true) : CallJ X (.builtin "all") cAll k := fun ds d h => by
  unfold cAll at h
  split at h
  · obtain ⟨ns, e, q⟩ := map_some' h
    cases q
    have e' := isBls_some e
    subst e'
    refine ⟨_, cr_all hc, fun A S H sto vs Q w p z => ?_⟩
    obtain ⟨v, ev, p1⟩ := p.one; subst ev
    obtain ⟨l, xs, rfl, r1, q1⟩ := p1.lstI
    rw [q1.bls] at r1
    exact ⟨l, ns, rfl, .inl r1.out, z _ _ [] (.atom w (atomic_bool _) (.bl _))⟩
  · cases h
theorem cj_any (hc : X.calm = true) : CallJ X (.builtin "any") cAny k := fun ds d h => by
  unfold cAny at h
  split at h
  · obtain ⟨ns, e, q⟩ := map_some' h
    cases q
    have e' := isBls_some e
    subst e'
    refine ⟨_, cr_any hc, fun A S H sto vs Q w p z => ?_⟩
    obtain ⟨v, ev, p1⟩ := p.one; subst ev
    obtain ⟨l, xs, rfl, r1, q1⟩ := p1.lstI
    rw [q1.bls] at r1
    exact ⟨l, ns, rfl, .inl r1.out, z _ _ [] (.atom w (atomic_bool _) (.bl _))⟩
  · cases h
/-- the least, the greatest of a list of ints, of two ints -/
def minL : List Int → Int
  | [] => 0
  | x :: r => r.foldl (fun a b => if b < a then b else a) x
def maxL : List Int → Int
  | [] => 0
  | x :: r => r.foldl (fun a b => if a < b then b else a) x
theorem foldl_min : ∀ (r : List Int) (x m : Int), (m = x ∨ m ∈ r) → m ≤ x → (∀ y ∈ r, m ≤ y) → r.foldl (fun a b => if b < a then b else a) x = m
  | [], x, m, h, _, _ => by
    rcases h with h | h
    · exact h.symm
    · exact absurd h (by simp)
  | y :: r, x, m, h, h1, h2 => by
    rw [List.foldl_cons]
    have hy := h2 y List.mem_cons_self
    by_cases c : y < x
    · rw [if_pos c]
      refine foldl_min r y m ?_ hy fun z hz => h2 z (List.mem_cons_of_mem _ hz)
      rcases h with h | h
      · omega
      · exact (List.mem_cons.mp h)
    · rw [if_neg c]
      refine foldl_min r x m ?_ h1 fun z hz => h2 z (List.mem_cons_of_mem _ hz)
      rcases h with h | h
      · exact .inl h
      · rcases List.mem_cons.mp h with h | h
        · left; omega
        · exact .inr h
theorem foldl_max : ∀ (r : List Int) (x m : Int), (m = x ∨ m ∈ r) → x ≤ m → (∀ y ∈ r, y ≤ m) → r.foldl (fun a b => if a < b then b else a) x = m
  | [], x, m, h, _, _ => by
    rcases h with h | h
    · exact h.symm
    · exact absurd h (by simp)
  | y :: r, x, m, h, h1, h2 => by
    rw [List.foldl_cons]
    have hy := h2 y List.mem_cons_self
    by_cases c : x < y
    · rw [if_pos c]
      refine foldl_max r y m ?_ hy fun z hz => h2 z (List.mem_cons_of_mem _ hz)
      rcases h with h | h
      · omega
      · exact (List.mem_cons.mp h)
    · rw [if_neg c]
      refine foldl_max r x m ?_ h1 fun z hz => h2 z (List.mem_cons_of_mem _ hz)
      rcases h with h | h
      · exact .inl h
      · rcases List.mem_cons.mp h with h | h
        · left; omega
        · exact .inr h
theorem minL_of {ns : List Int} {m : Int} (h : m ∈ ns) (h2 : ∀ y ∈ ns, m ≤ y) : minL ns = m := by
  cases ns with
  | nil => exact absurd h (by simp)
  | cons x r => exact foldl_min r x m (List.mem_cons.mp h) (h2 x List.mem_cons_self) fun y hy => h2 y (List.mem_cons_of_mem _ hy)
theorem maxL_of {ns : List Int} {m : Int} (h : m ∈ ns) (h2 : ∀ y ∈ ns, y ≤ m) : maxL ns = m := by
  cases ns with
  | nil => exact absurd h (by simp)
  | cons x r => exact foldl_max r x m (List.mem_cons.mp h) (h2 x List.mem_cons_self) fun y hy => h2 y (List.mem_cons_of_mem _ hy)
def cMin : List D → Option D
  | [.int i, .int j] => some (.int (if j < i then j else i))
  | [.list ds] => (isInts ds).bind fun ns => if ns = [] then none else some (.int (minL ns))
  | _ => none
def cMax : List D → Option D
  | [.int i, .int j] => some (.int (if j > i then j else i))
  | [.list ds] => (isInts ds).bind fun ns => if ns = [] then none else some (.int (maxL ns))
  | _ => none
theorem cj_min (hc : X.calm = true) : CallJ X (.builtin "min") cMin k := fun ds d h => by
  unfold cMin at h
  split at h
  · cases h
    refine ⟨_, call_min2 hc, fun A S H sto vs Q w p z => ?_⟩
    obtain ⟨v, u, ev, p1, p2⟩ := p.two; subst ev
    exact ⟨_, _, by rw [p1.intI, p2.intI], z _ _ [] (.atom w (atomic_int _) (.int _))⟩
  · obtain ⟨ns, e, q⟩ := bind_some' h
    have e' := isInts_some e
    subst e'
    split at q
    · cases q
    · rename_i hne
      cases q
      refine ⟨_, cr_min hc, fun A S H sto vs Q w p z => ?_⟩
      obtain ⟨v, ev, p1⟩ := p.one; subst ev
      obtain ⟨l, xs, rfl, r1, q1⟩ := p1.lstI
      rw [q1.ints] at r1
      refine ⟨l, ns, rfl, .inl r1.out, List.length_pos_iff.mpr hne, fun m h1 h2 => ?_⟩
      rw [← minL_of h1 h2]
      exact z _ _ [] (.atom w (atomic_int _) (.int _))
  · cases h
theorem cj_max (hc : X.calm = true) : CallJ X (.builtin "max") cMax k := fun ds d h => by
  unfold cMax at h
  split at h
  · cases h
    refine ⟨_, call_max2 hc, fun A S H sto vs Q w p z => ?_⟩
    obtain ⟨v, u, ev, p1, p2⟩ := p.two; subst ev
    exact ⟨_, _, by rw [p1.intI, p2.intI], z _ _ [] (.atom w (atomic_int _) (.int _))⟩
  · obtain ⟨ns, e, q⟩ := bind_some' h
    have e' := isInts_some e
    subst e'
    split at q
    · cases q
    · rename_i hne
      cases q
      refine ⟨_, cr_max hc, fun A S H sto vs Q w p z => ?_⟩
      obtain ⟨v, ev, p1⟩ := p.one; subst ev
      obtain ⟨l, xs, rfl, r1, q1⟩ := p1.lstI
      rw [q1.ints] at r1
      refine ⟨l, ns, rfl, .inl r1.out, List.length_pos_iff.mpr hne, fun m h1 h2 => ?_⟩
      rw [← maxL_of h1 h2]
      exact z _ _ [] (.atom w (atomic_int _) (.int _))
  · cases h
/-- list(xs), tuple(xs) -/
def cList : List D → Option D
  | [.list ds] => some (.list ds)
  | [.tuple ds] => some (.list ds)
  | _ => none
theorem cj_list : CallJ X (.type "list") cList 1 := fun ds d h => by
  unfold cList at h
  split at h
  · cases h
    refine ⟨_, call_list_of, fun A S H sto vs Q w p z => ?_⟩
    obtain ⟨v, ev, p1⟩ := p.one; subst ev
    obtain ⟨l, xs, rfl, r1, q1⟩ := p1.lstI
    exact ⟨l, xs, rfl, .inl (.inl r1.out), fun p hp => z _ _ [p] (Res.lst w (.shared w q1) hp)⟩
  · cases h
    refine ⟨_, call_list_of, fun A S H sto vs Q w p z => ?_⟩
    obtain ⟨v, ev, p1⟩ := p.one; subst ev
    obtain ⟨l, xs, rfl, r1, q1⟩ := p1.tupI
    exact ⟨l, xs, rfl, .inr (.inl r1.out), fun p hp => z _ _ [p] (Res.lst w (.shared w q1) hp)⟩
  · cases h
def cTuple : List D → Option D
  | [.list ds] => some (.tuple ds)
  | [.tuple ds] => some (.tuple ds)
  | _ => none
theorem cj_tuple : CallJ X (.type "tuple") cTuple k := fun ds d h => by
  unfold cTuple at h
  split at h
  · cases h
    refine ⟨_, call_tuple_of, fun A S H sto vs Q w p z => ?_⟩
    obtain ⟨v, ev, p1⟩ := p.one; subst ev
    obtain ⟨l, xs, rfl, r1, q1⟩ := p1.lstI
    exact ⟨l, xs, rfl, .inl ⟨.inl r1.out, fun p hp => z _ _ [] (Res.tup w (.shared w q1) hp)⟩⟩
  · cases h
    refine ⟨_, call_tuple_of, fun A S H sto vs Q w p z => ?_⟩
    obtain ⟨v, ev, p1⟩ := p.one; subst ev
    obtain ⟨l, xs, rfl, r1, q1⟩ := p1.tupI'
    exact ⟨l, xs, rfl, .inr ⟨.inl (Rd.out (.inl r1)), z _ _ [] (Res.atom w (atomic_tuple _) (.tup r1 q1))⟩⟩
  · cases h
end

/-! ### isinstance -/
def typD : D → String
  | .none => "NoneType"
  | .bool _ => "bool"
  | .int _ => "int"
  | .str _ => "str"
  | .list _ => "list"
  | .tuple _ => "tuple"
  | .dict _ => "dict"
def isiB (T t : String) : Bool := t == T || (T == "int" && t == "bool")
def IsT (T : String) : Prop := ∀ t ∈ ["NoneType", "bool", "int", "str", "list", "tuple", "dict"], kitB t T = some (isiB T t)
theorem ist_list : IsT "list" := by unfold IsT; decide +kernel
theorem ist_int : IsT "int" := by unfold IsT; decide +kernel
theorem ist_bool : IsT "bool" := by unfold IsT; decide +kernel
theorem ist_tuple : IsT "tuple" := by unfold IsT; decide +kernel
theorem ist_str : IsT "str" := by unfold IsT; decide +kernel
theorem ist_dict : IsT "dict" := by unfold IsT; decide +kernel
theorem typD_mem (d : D) : typD d ∈ ["NoneType", "bool", "int", "str", "list", "tuple", "dict"] := by cases d <;> simp [typD]
def dIsi (T : String) (d : D) : Option D := if isMk d = true then none else some (.bool (isiB T (typD d)))
theorem Rp.tyx {K : PySem.W.Frag} {S : List Addr} {H : Hp} {v : V} {d : D} (p : Rp K S H v d) (h : isMk d = false) : TyX K H v (.type (typD d)) := by
  cases p with
  | non => exact .base .non
  | bl b => exact .base (.bl b)
  | int i => exact .base (.int i)
  | str x => exact .base (.str x)
  | lst r _ =>
    rcases r with r | ⟨o, r⟩
    · exact .base (.lst r)
    · exact .base (.frz r)
  | tup r _ => exact .base (.tup r)
  | dK e _ => exact .fDict e
  | dT e r =>
    cases r with
    | cons a b => exact nomatch h
  | tok e => exact absurd h (fun z => nomatch z)
  | sk e _ => exact absurd h (fun z => nomatch z)
theorem TyX.out {K : PySem.W.Frag} {S : List Addr} {A : Addr → Prop} {H : Hp} {v : V} {d : D} (p : Rp K S (hid A H) v d) (h : isMk d = false) : TyX K H v (.type (typD d)) := p.out.tyx h
section
variable {X : Cx} {e a b c : Expr} {es rest : List Expr} {f g h : Ev} {fs : EvA} {k j : Nat} {pos p q1 : Pos}
theorem jp_isi {T : Str} {T' : String} (hT : IsT T') (ha : JP X a f 0) (hg : Gl X "isinstance") (hm : X.mg "isinstance" = none) (gT : Gl X T) (mT : X.mg T = none) (bT : bootBuiltins T = some (.type T'))
    (he : starEach [a, .Name T q1] X.env = (false, eval a X.env) :: starEach [.Name T q1] X.env := by rfl) (hs : starEach [.Name T q1] X.env = (false, eval (.Name T q1) X.env) :: starEach [] X.env := by rfl)
    (hpl : (backTo pos (starEach [.Name T q1] X.env)).any (·.1) = false := by rfl) (hn : T ≠ "__name__" := by decide) (hdb : (T == ("__debug__" : Str)) = false := by decide) : JP X (.Call (.Name "isinstance" p) [a, .Name T q1] [] pos) (eUn (dIsi T') f) k := fun A S σ H vw sto d sto' Q w r q z => by
  obtain ⟨x, e1, e3⟩ := eUn_some q
  unfold dIsi at e3
  split at e3
  · cases e3
  · rename_i ht
    cases e3
    refine wpE.by (pe_callB call_isi hg hm (by decide +kernel) (pa_cons wpE_pe (pa_cons (pe_bltn (v := .ty T') gT mT bT rfl hn hdb) pa_nil hs) he) (by decide) (by decide) he hpl) ?_
    refine ha.use w r e1 fun v H1 x1 w1 r1 p1 => ?_
    have hk := hT (typD x) (typD_mem x)
    exact ⟨v, .ty T', _, _, _, rfl, .ty T', p1.out.tyx (by simpa using ht), kit_ty hk, z _ _ [] ((Res.atom w1 (atomic_bool _) (.bl _)).after x1 noF)⟩
def dIsi2 (T U : String) (d : D) : Option D := if isMk d = true then none else some (.bool (isiB T (typD d) || isiB U (typD d)))
theorem jp_isi2 {T U : Str} {T' U' : String} {x1 : Nat} {q2 q3 : Pos} (hT : IsT T') (hU : IsT U') (ha : JP X a f 0) (hg : Gl X "isinstance") (hm : X.mg "isinstance" = none) (gT : Gl X T) (mT : X.mg T = none) (bT : bootBuiltins T = some (.type T')) (gU : Gl X U) (mU : X.mg U = none) (bU : bootBuiltins U = some (.type U'))
    (he : starEach [a, .Tuple [.Name T q1, .Name U q2] x1 q3] X.env = (false, eval a X.env) :: starEach [.Tuple [.Name T q1, .Name U q2] x1 q3] X.env := by rfl) (hs : starEach [.Tuple [.Name T q1, .Name U q2] x1 q3] X.env = (false, eval (.Tuple [.Name T q1, .Name U q2] x1 q3) X.env) :: starEach [] X.env := by rfl)
    (hs1 : starEach [.Name T q1, .Name U q2] X.env = (false, eval (.Name T q1) X.env) :: starEach [.Name U q2] X.env := by rfl) (hs2 : starEach [.Name U q2] X.env = (false, eval (.Name U q2) X.env) :: starEach [] X.env := by rfl)
    (hpl : (backTo pos (starEach [.Tuple [.Name T q1, .Name U q2] x1 q3] X.env)).any (·.1) = false := by rfl) (hn : T ≠ "__name__" := by decide) (hdb : (T == ("__debug__" : Str)) = false := by decide) (hn2 : U ≠ "__name__" := by decide) (hdb2 : (U == ("__debug__" : Str)) = false := by decide) :
    JP X (.Call (.Name "isinstance" p) [a, .Tuple [.Name T q1, .Name U q2] x1 q3] [] pos) (eUn (dIsi2 T' U') f) k := fun A S σ H vw sto d sto' Q w r q z => by
  obtain ⟨x, e1, e3⟩ := eUn_some q
  unfold dIsi2 at e3
  split at e3
  · cases e3
  · rename_i ht
    cases e3
    refine wpE.by (pe_callB call_isiT hg hm (by decide +kernel) (pa_cons wpE_pe (pa_cons (pe_tup (pa_cons (pe_bltn (v := .ty T') gT mT bT rfl hn hdb) (pa_cons (pe_bltn (v := .ty U') gU mU bU rfl hn2 hdb2) pa_nil hs2) hs1)) pa_nil hs) he) (by decide) (by decide) he hpl) ?_
    refine ha.use w r e1 fun v H1 x1 w1 r1 p1 => ⟨by rw [sizeLine_eq]; simp, fun tp htp => ?_⟩
    have hk := hT (typD x) (typD_mem x)
    have hk2 := hU (typD x) (typD_mem x)
    have sm : Same H1 (upd H1 tp (.tup [.ty T', .ty U'])) := same_upd htp
    refine ⟨v, tp, [.ty T', .ty U'], _, [.type T', .type U'], _, rfl, upd_same, .cons (.ty T') (.cons (.ty U') .nil), (p1.out.le sm).tyx (by simpa using ht), kitAny_cons (r := isiB T' (typD x) || isiB U' (typD x)) (kit_ty hk) (fun h => kitAny_cons (kit_ty hk2) (fun h2 => ?_) (fun h2 => ?_)) (fun h => ?_), z _ _ [] ((Res.atom ?_ (atomic_bool _) (.bl _)).after (x1.trans (Ext.of sm)) noF)⟩
    · rw [h, h2]; rfl
    · rw [h2, Bool.or_true]
    · rw [h, Bool.true_or]
    · exact w1.grow sm (fun a h => .inl h) fun a h => h
end
end J
namespace J
open PySem PySem.Spec PyProof.Rows L2

/-! ### what is walked -/
abbrev EvI := EvA
def YD (K : PySem.W.Frag) (S : List Addr) (A : Addr → Prop) (H0 : Hp) (ds : List D) : Nat → Hp → V → Hp → Prop := fun i H1 x H2 => ∃ d, ds[i]? = some d ∧ (H2 = H1 ∨ ∃ T o, H1 T = none ∧ H2 = upd H1 T o) ∧
  ∀ A2, Same (hid A H0) (hid A2 H1) → (∀ a, A2 a → H1 a ≠ none) → Rp K S (hid A2 H2) x d
def wpI (X : Cx) (tg iter : Expr) : TI := fun σ H R => ∀ pins s, Inv X pins σ H s → wpAny (model X.prog X.w) X.A (eval iter X.env) (fun v s1 => wpAny (model X.prog X.w) X.A (pyIter v) (PIE X pins σ tg R) X.xe s1) X.xe s
theorem wpI_pi {X : Cx} {tg iter : Expr} : PI X tg iter (wpI X tg iter) := ⟨fun pins s σ H R I h => h pins s I⟩
theorem wpI.by {X : Cx} {tg iter : Expr} {t : TI} (h : PI X tg iter t) {σ : Sg} {H : Hp} {R : It → Hp → Prop} (q : t σ H R) : wpI X tg iter σ H R := fun pins s I => h.run pins s σ H R I q
def JI (X : Cx) (tg it : Expr) (fi : EvI) : Prop := ∀ A S σ H vw sto ds sto' (R : It → Hp → Prop), Wd X.K S A H sto → RdV X.K S A σ H vw → fi vw sto = some (ds, sto') →
  (∀ J H', Ext S H H' → Wd X.K S A H' sto' → Walk J ds.length (fun H1 => Same (hid A H') H1) (YD X.K S A H' ds) → R J H') → wpI X tg it σ H R
section
variable {K : PySem.W.Frag} {S : List Addr} {A : Addr → Prop} {H : Hp}
theorem walk_dl {l : Addr} {xs : List V} {ds : List D} (r : Rd (hid A H) l (.lst xs)) (q : RpA K S (hid A H) xs ds) : Walk (Itl K l) ds.length (fun H1 => Same (hid A H) H1) (YD K S A H ds) := by
  rw [← q.length]
  refine (walk_list (xs := xs)).mono (fun H1 h => .inl (Rd.le h r)) fun i H1 x H2 hi h y => ?_
  obtain ⟨rfl, e⟩ := y
  obtain ⟨d, e1, p⟩ := q.getV e
  exact ⟨d, e1, .inl rfl, fun A2 h2 _ => p.le h2⟩
theorem walk_dt {l : Addr} {xs : List V} {ds : List D} (r : Rd (hid A H) l (.tup xs)) (q : RpA K S (hid A H) xs ds) : Walk (Itt K l) ds.length (fun H1 => Same (hid A H) H1) (YD K S A H ds) := by
  rw [← q.length]
  refine (walk_tup (xs := xs)).mono (fun H1 h => .inl (Rd.le h r)) fun i H1 x H2 hi h y => ?_
  obtain ⟨rfl, e⟩ := y
  obtain ⟨d, e1, p⟩ := q.getV e
  exact ⟨d, e1, .inl rfl, fun A2 h2 _ => p.le h2⟩
/-- the ints lo, lo + c, .. -/
def rgD (lo c : Int) (n : Nat) : List D := (List.range n).map fun i => .int (lo + (i : Nat) * c)
theorem rgD_len (lo c : Int) (n : Nat) : (rgD lo c n).length = n := by unfold rgD; rw [List.length_map, List.length_range]
theorem rgD_get {lo c : Int} {n i : Nat} (h : i < n) : (rgD lo c n)[i]? = some (.int (lo + (i : Nat) * c)) := by
  unfold rgD
  rw [List.getElem?_map, List.getElem?_range h]
  rfl
theorem walk_dr {lo : Int} {n : Nat} : Walk (Itr lo n) (rgD lo 1 n).length (fun H1 => Same (hid A H) H1) (YD K S A H (rgD lo 1 n)) := by
  rw [rgD_len]
  refine walk_range.mono (fun H1 h => trivial) fun i H1 x H2 hi h y => ?_
  obtain ⟨rfl, rfl⟩ := y
  exact ⟨_, rgD_get hi, .inl rfl, fun A2 h2 _ => by rw [Int.mul_one]; exact .int _⟩
theorem walk_drc {lo c : Int} {n : Nat} : Walk (Itc lo c n) (rgD lo c n).length (fun H1 => Same (hid A H) H1) (YD K S A H (rgD lo c n)) := by
  rw [rgD_len]
  refine walk_rangeC.mono (fun H1 h => trivial) fun i H1 x H2 hi h y => ?_
  obtain ⟨rfl, rfl⟩ := y
  exact ⟨_, rgD_get hi, .inl rfl, fun A2 h2 _ => .int _⟩
/-- a new pair -/
theorem yd_pair {A2 : Addr → Prop} {H1 : Hp} {T : Addr} {x y : V} {d e : D} (hT : H1 T = none) (p : Rp K S (hid A2 H1) x d) (q : Rp K S (hid A2 H1) y e) (al : ∀ a, A2 a → H1 a ≠ none) : Rp K S (hid A2 (upd H1 T (.tup [x, y]))) (.ref T) (.tuple [d, e]) := by
  have sm : Same (hid A2 H1) (hid A2 (upd H1 T (.tup [x, y]))) := fun a o h => by
    rw [hid_eq] at h ⊢
    exact ⟨h.1, by rw [upd_ne (ne_of_none h.2 hT)]; exact h.2⟩
  exact .tup (hid_eq.mpr ⟨fun z => al T z hT, upd_same⟩) (.cons (p.le sm) (.cons (q.le sm) .nil))
def enD (ds : List D) (n : Nat) : List D := match ds with
  | [] => []
  | d :: r => .tuple [.int n, d] :: enD r (n + 1)
theorem enD_len : ∀ (ds : List D) (n : Nat), (enD ds n).length = ds.length
  | [], _ => rfl
  | d :: r, n => congrArg (· + 1) (enD_len r (n + 1))
theorem enD_get : ∀ (ds : List D) (n i : Nat) (d : D), ds[i]? = some d → (enD ds n)[i]? = some (.tuple [.int ((n + i : Nat) : Int), d])
  | [], _, _, _, h => by simp at h
  | d :: r, n, 0, d', h => by simp at h; subst h; rfl
  | d :: r, n, i + 1, d', h => by
    have := enD_get r (n + 1) i d' (by simpa using h)
    rw [show n + 1 + i = n + (i + 1) by omega] at this
    simpa [enD] using this
theorem walk_de {l : Addr} {xs : List V} {ds : List D} (r : Rd (hid A H) l (.lst xs)) (q : RpA K S (hid A H) xs ds) : Walk (Ite K l) (enD ds 0).length (fun H1 => Same (hid A H) H1) (YD K S A H (enD ds 0)) := by
  rw [enD_len, ← q.length]
  refine (walk_enum (xs := xs)).mono (fun H1 h => .inl (Rd.le h r)) fun i H1 v H2 hi h y => ?_
  obtain ⟨T, x, y, rfl, hT, rfl, e1, e2⟩ := y
  obtain ⟨d, e3, p⟩ := q.getV e2
  cases e1
  refine ⟨_, enD_get ds 0 i d e3, .inr ⟨T, _, hT, rfl⟩, fun A2 h2 al => ?_⟩
  rw [Nat.zero_add]
  exact yd_pair hT (.int _) (p.le h2) al
def ziD : List D → List D → List D
  | d :: r, e :: s => .tuple [d, e] :: ziD r s
  | _, _ => []
theorem ziD_len : ∀ (ds es : List D), (ziD ds es).length = min ds.length es.length
  | [], es => by simp [ziD]
  | d :: r, [] => by simp [ziD]
  | d :: r, e :: s => by simp only [ziD, List.length_cons, ziD_len r s]; omega
theorem ziD_get : ∀ (ds es : List D) (i : Nat) (d e : D), ds[i]? = some d → es[i]? = some e → (ziD ds es)[i]? = some (.tuple [d, e])
  | [], _, _, _, _, h, _ => by simp at h
  | d :: r, [], _, _, _, _, h => by simp at h
  | d :: r, e :: s, 0, _, _, h, h' => by simp at h h'; subst h; subst h'; rfl
  | d :: r, e :: s, i + 1, d', e', h, h' => by simpa [ziD] using ziD_get r s i d' e' (by simpa using h) (by simpa using h')
theorem walk_dz {l m : Addr} {xs ys : List V} {ds es : List D} (r : Rd (hid A H) l (.lst xs)) (q : RpA K S (hid A H) xs ds) (r' : Rd (hid A H) m (.lst ys)) (q' : RpA K S (hid A H) ys es) : Walk (Itz K l m) (ziD ds es).length (fun H1 => Same (hid A H) H1) (YD K S A H (ziD ds es)) := by
  rw [ziD_len, ← q.length, ← q'.length]
  refine (walk_zip (xs := xs) (ys := ys) rfl).mono (fun H1 h => ⟨.inl (Rd.le h r), .inl (Rd.le h r')⟩) fun i H1 v H2 hi h y => ?_
  obtain ⟨T, x, y, rfl, hT, rfl, e1, e2⟩ := y
  obtain ⟨d, e3, p⟩ := q.getV e1
  obtain ⟨e, e4, p'⟩ := q'.getV e2
  exact ⟨_, ziD_get ds es i d e e3 e4, .inr ⟨T, _, hT, rfl⟩, fun A2 h2 al => yd_pair hT (p.le h2) (p'.le h2) al⟩
theorem walk_drev {l : Addr} {xs : List V} {ds : List D} (r : Rd (hid A H) l (.lst xs)) (q : RpA K S (hid A H) xs ds) : Walk (Itv K l xs.length) ds.reverse.length (fun H1 => Same (hid A H) H1) (YD K S A H ds.reverse) := by
  rw [List.length_reverse, ← q.length]
  refine (walk_rev (xs := xs)).mono (fun H1 h => .inl (Rd.le h r)) fun i H1 x H2 hi h y => ?_
  obtain ⟨rfl, e⟩ := y
  obtain ⟨d, e1, p⟩ := q.getV e
  refine ⟨d, ?_, .inl rfl, fun A2 h2 _ => p.le h2⟩
  rw [List.getElem?_reverse (by rw [← q.length]; exact hi), ← q.length]
  exact e1
def chD (z : Str) : List D := z.cps.toList.map fun c => .str ⟨#[c]⟩
theorem walk_ds {z : Str} : Walk (Its z) (chD z).length (fun H1 => Same (hid A H) H1) (YD K S A H (chD z)) := by
  have e : (chD z).length = z.cps.size := by unfold chD; rw [List.length_map, Array.length_toList]
  rw [e]
  refine walk_str.mono (fun H1 h => trivial) fun i H1 x H2 hi h y => ?_
  obtain ⟨rfl, c, hc, rfl⟩ := y
  refine ⟨.str ⟨#[c]⟩, ?_, .inl rfl, fun A2 h2 _ => .str _⟩
  unfold chD
  rw [List.getElem?_map, Array.getElem?_toList, hc]
  rfl
end
section
variable {X : Cx} {tg e a b c : Expr} {es rest : List Expr} {f g h : Ev} {fs : EvA} {k j : Nat} {pos p p2 cpos apos tpos : Pos} {elts : List Expr} {kk : Nat}
/-- over a value: a list, a tuple, a text -/
def iVal (f : Ev) : EvI := fun vw s => (f vw s).bind fun p => match p.1 with
  | .list ds => some (ds, p.2)
  | .tuple ds => some (ds, p.2)
  | .str z => some (chD z, p.2)
  | _ => none
theorem ji_val (ha : JP X a f 0) : JI X tg a (iVal f) := fun A S σ H vw sto ds sto' R w r q z => by
  unfold iVal at q
  obtain ⟨⟨x, s1⟩, e1, q⟩ := bind_some' q
  simp only at q
  split at q
  · cases q
    refine wpI.by (pi_list wpE_pe) (ha.use w r e1 fun v H1 x1 w1 r1 p1 => ?_)
    obtain ⟨l, xs, rfl, r2, q2⟩ := p1.lstI
    exact ⟨l, rfl, ⟨xs, .inl r2.out⟩, z _ H1 x1 w1 (walk_dl r2 q2)⟩
  · cases q
    refine wpI.by (pi_tup wpE_pe) (ha.use w r e1 fun v H1 x1 w1 r1 p1 => ?_)
    obtain ⟨l, xs, rfl, r2, q2⟩ := p1.tupI
    exact ⟨l, rfl, ⟨xs, .inl r2.out⟩, z _ H1 x1 w1 (walk_dt r2 q2)⟩
  · cases q
    refine wpI.by (pi_str wpE_pe) (ha.use w r e1 fun v H1 x1 w1 r1 p1 => ?_)
    exact ⟨_, p1.strI, z _ H1 x1 w1 walk_ds⟩
  · cases q
def inRg (i : Int) : Bool := decide (-(2 ^ 62) ≤ i) && decide (i < 2 ^ 62)
theorem inRg_iff {i : Int} (h : inRg i = true) : -(2 ^ 62) ≤ i ∧ i < 2 ^ 62 := by
  unfold inRg at h
  rw [Bool.and_eq_true] at h
  exact ⟨of_decide_eq_true h.1, of_decide_eq_true h.2⟩
def iU (op : D → Option (List D)) (f : Ev) : EvI := fun vw s => (f vw s).bind fun p => (op p.1).map fun d => (d, p.2)
def iB (op : D → D → Option (List D)) (f g : Ev) : EvI := fun vw s => (f vw s).bind fun p => (g vw p.2).bind fun q => (op p.1 q.1).map fun d => (d, q.2)
def rg1 : D → Option (List D)
  | .int j => if inRg j = true then some (rgD 0 1 j.toNat) else none
  | _ => none
def rg2 : D → D → Option (List D)
  | .int i, .int j => if inRg i = true ∧ inRg j = true then some (rgD i 1 (j - i).toNat) else none
  | _, _ => none
theorem iU_some {op : D → Option (List D)} {vw : VW} {s s' : STO} {d : List D} (h : iU op f vw s = some (d, s')) : ∃ x, f vw s = some (x, s') ∧ op x = some d := by
  unfold iU at h
  obtain ⟨⟨x, s1⟩, e1, q⟩ := bind_some' h
  obtain ⟨t, e2, q⟩ := map_some' q
  cases q
  exact ⟨x, e1, e2⟩
theorem iB_some {op : D → D → Option (List D)} {vw : VW} {s s' : STO} {d : List D} (h : iB op f g vw s = some (d, s')) : ∃ x s1 y, f vw s = some (x, s1) ∧ g vw s1 = some (y, s') ∧ op x y = some d := by
  unfold iB at h
  obtain ⟨⟨x, s1⟩, e1, q⟩ := bind_some' h
  obtain ⟨⟨y, s2⟩, e2, q⟩ := bind_some' q
  obtain ⟨t, e3, q⟩ := map_some' q
  cases q
  exact ⟨x, s1, y, e1, e2, e3⟩
theorem rg1_some {x : D} {ds : List D} (h : rg1 x = some ds) : ∃ j : Int, x = .int j ∧ (-(2 ^ 62) ≤ j ∧ j < 2 ^ 62) ∧ ds = rgD 0 1 j.toNat := by
  unfold rg1 at h
  split at h
  · split at h
    · rename_i hj
      cases h
      exact ⟨_, rfl, inRg_iff hj, rfl⟩
    · cases h
  · cases h
theorem rg2_some {x y : D} {ds : List D} (h : rg2 x y = some ds) : ∃ i j : Int, x = .int i ∧ y = .int j ∧ (-(2 ^ 62) ≤ i ∧ i < 2 ^ 62) ∧ (-(2 ^ 62) ≤ j ∧ j < 2 ^ 62) ∧ ds = rgD i 1 (j - i).toNat := by
  unfold rg2 at h
  split at h
  · split at h
    · rename_i hj
      cases h
      exact ⟨_, _, rfl, rfl, inRg_iff hj.1, inRg_iff hj.2, rfl⟩
    · cases h
  · cases h
theorem ji_range1 (ha : JP X a f 0) (hg : Gl X "range") (hm : X.mg "range" = none) (hs : starEach [a] X.env = [(false, eval a X.env)] := by rfl) : JI X tg (.Call (.Name "range" p) [a] [] pos) (iU rg1 f) := fun A S σ H vw sto ds sto' R w r q z => by
  obtain ⟨x, e1, e2⟩ := iU_some q
  obtain ⟨j, rfl, ⟨b1, b2⟩, rfl⟩ := rg1_some e2
  refine wpI.by (pi_range1 hg hm (pa_cons wpE_pe pa_nil hs) hs) (ha.use w r e1 fun v H1 x1 w1 r1 p1 => ?_)
  exact ⟨j, by rw [p1.intI], b1, b2, z _ H1 x1 w1 walk_dr⟩
theorem ji_range2 (ha : JP X a f 0) (hb : JP X b g 0) (hg : Gl X "range") (hm : X.mg "range" = none) (hs : starEach [a, b] X.env = [(false, eval a X.env), (false, eval b X.env)] := by rfl) (hs2 : starEach [b] X.env = [(false, eval b X.env)] := by rfl)
    (hs' : starEach [a, b] X.env = (false, eval a X.env) :: starEach [b] X.env := by rfl) : JI X tg (.Call (.Name "range" p) [a, b] [] pos) (iB rg2 f g) := fun A S σ H vw sto ds sto' R w r q z => by
  obtain ⟨x, s1, y, e1, e2, e3⟩ := iB_some q
  obtain ⟨i, j, rfl, rfl, ⟨b1, b2⟩, ⟨b3, b4⟩, rfl⟩ := rg2_some e3
  refine wpI.by (pi_range2 hg hm (pa_cons wpE_pe (pa_cons wpE_pe pa_nil hs2) hs') hs hs2) (ha.use2 hb w r e1 e2 fun v u H1 x1 w1 r1 p1 p2 => ?_)
  exact ⟨i, j, by rw [p1.intI, p2.intI], ⟨b1, b2, b3, b4⟩, z _ H1 x1 w1 walk_dr⟩
/-- range(a, b, -1) and the like: a written step -/
def rg3 (c : Int) : D → D → Option (List D)
  | .int i, .int j => if inRg i = true ∧ inRg j = true then some (rgD i c (if 0 < c then ((j - i + c - 1) / c).toNat else ((i - j - c - 1) / (-c)).toNat)) else none
  | _, _ => none
/-- reversed(range(..)) -/
def JRg (X : Cx) (e : Expr) (f : VW → STO → Option ((Int × Int) × STO)) : Prop := ∃ t, PRg X e t ∧ ∀ A S σ H vw sto ab sto' (Q : Int → Int → Hp → Prop), Wd X.K S A H sto → RdV X.K S A σ H vw → f vw sto = some (ab, sto') →
  (∀ H', Ext S H H' → Wd X.K S A H' sto' → Q ab.1 ab.2 H') → t σ H Q
def r1 (f : Ev) : VW → STO → Option ((Int × Int) × STO) := fun vw s => (f vw s).bind fun p => match p.1 with
  | .int j => if inRg j = true then some ((0, j), p.2) else none
  | _ => none
def r2 (f g : Ev) : VW → STO → Option ((Int × Int) × STO) := fun vw s => (f vw s).bind fun p => (g vw p.2).bind fun q => match p.1, q.1 with
  | .int i, .int j => if inRg i = true ∧ inRg j = true then some ((i, j), q.2) else none
  | _, _ => none
theorem r1_some {vw : VW} {s s' : STO} {ab : Int × Int} (h : r1 f vw s = some (ab, s')) : ∃ j, f vw s = some (.int j, s') ∧ (-(2 ^ 62) ≤ j ∧ j < 2 ^ 62) ∧ ab = (0, j) := by
  unfold r1 at h
  obtain ⟨⟨x, s1⟩, e1, q⟩ := bind_some' h
  simp only at q
  split at q
  · split at q
    · rename_i hj
      cases q
      exact ⟨_, e1, inRg_iff hj, rfl⟩
    · cases q
  · cases q
theorem r2_some {vw : VW} {s s' : STO} {ab : Int × Int} (h : r2 f g vw s = some (ab, s')) : ∃ i s1 j, f vw s = some (.int i, s1) ∧ g vw s1 = some (.int j, s') ∧ (-(2 ^ 62) ≤ i ∧ i < 2 ^ 62) ∧ (-(2 ^ 62) ≤ j ∧ j < 2 ^ 62) ∧ ab = (i, j) := by
  unfold r2 at h
  obtain ⟨⟨x, s1⟩, e1, q⟩ := bind_some' h
  obtain ⟨⟨y, s2⟩, e2, q⟩ := bind_some' q
  simp only at q
  split at q
  · split at q
    · rename_i hj
      cases q
      exact ⟨_, _, _, e1, e2, inRg_iff hj.1, inRg_iff hj.2, rfl⟩
    · cases q
  · cases q
theorem jrg_1 (ha : JP X a f 0) (hg : Gl X "range") (hm : X.mg "range" = none) (na : starEach [a] X.env = (false, eval a X.env) :: starEach [] X.env := by rfl) : JRg X (.Call (.Name "range" p) [a] [] pos) (r1 f) := ⟨_, prg_1 hg hm wpE_pe na, fun A S σ H vw sto ab sto' Q w r q z => by
  obtain ⟨j, e1, _, rfl⟩ := r1_some q
  exact ha.use w r e1 fun v H1 x1 w1 r1 p1 => ⟨j, p1.intI, z H1 x1 w1⟩⟩
theorem jrg_2 (ha : JP X a f 0) (hb : JP X b g 0) (hg : Gl X "range") (hm : X.mg "range" = none) (na : starEach [a, b] X.env = (false, eval a X.env) :: starEach [b] X.env := by rfl)
    (nb : starEach [b] X.env = (false, eval b X.env) :: starEach [] X.env := by rfl) (hp : (backTo pos (starEach [b] X.env)).any (·.1) = false := by rfl) : JRg X (.Call (.Name "range" p) [a, b] [] pos) (r2 f g) := ⟨_, prg_2 hg hm wpE_pe wpE_pe na nb hp, fun A S σ H vw sto ab sto' Q w r q z => by
  obtain ⟨i, s1, j, e1, e2, _, _, rfl⟩ := r2_some q
  exact ha.use2 hb w r e1 e2 fun v u H1 x1 w1 r1 p1 p2 => ⟨i, j, p1.intI, p2.intI, z H1 x1 w1⟩⟩
variable {fr : VW → STO → Option ((Int × Int) × STO)}
/-- list(range(..)) -/
def eLRg (fr : VW → STO → Option ((Int × Int) × STO)) : Ev := fun vw s => (fr vw s).bind fun p => if -16777216 ≤ p.1.1 ∧ p.1.1 ≤ 16777216 ∧ -16777216 ≤ p.1.2 ∧ p.1.2 ≤ 16777216 ∧ (p.1.2 - p.1.1).toNat ≤ 16777216 then some (.list (rgD p.1.1 1 (p.1.2 - p.1.1).toNat), p.2) else none
theorem rg_rp {K : PySem.W.Frag} {S : List Addr} {H : Hp} (a b : Int) : RpA K S H (rgV a b) (rgD a 1 (b - a).toNat) := by
  unfold rgV rgD
  induction List.range (b - a).toNat with
  | nil => exact .nil
  | cons n l ih => exact .cons (by show Rp K S H (V.int (a + (n : Nat))) (PyData.int (a + (n : Nat) * 1)); rw [Int.mul_one]; exact .int _) ih
theorem jp_listRg {er : Expr} (he : JRg X er fr) (hc : X.calm = true) (hg : Gl X "list") (hm : X.mg "list" = none) (na : starEach [er] X.env = (false, eval er X.env) :: starEach [] X.env := by rfl) : JP X (.Call (.Name "list" p) [er] [] pos) (eLRg fr) 1 := fun A S σ H vw sto d sto' Q w r q z => by
  unfold eLRg at q
  obtain ⟨⟨⟨lo, hi⟩, s1⟩, e1, q⟩ := bind_some' q
  simp only at q
  split at q
  · rename_i hb
    cases q
    obtain ⟨t, ht, hq⟩ := he
    refine wpE.by (pe_listRg hc hg hm ht na) (hq A S σ H vw sto _ _ _ w r e1 fun H1 x1 w1 => ⟨⟨by omega, by omega, by omega, by omega, by omega⟩, fun l hl => z _ _ [l] ((Res.lst w1 (.shared w1 (rg_rp lo hi)) hl).later x1 w1)⟩)
  · cases q
def eTRg (fr : VW → STO → Option ((Int × Int) × STO)) : Ev := fun vw s => (fr vw s).bind fun p => if -16777216 ≤ p.1.1 ∧ p.1.1 ≤ 16777216 ∧ -16777216 ≤ p.1.2 ∧ p.1.2 ≤ 16777216 ∧ (p.1.2 - p.1.1).toNat ≤ 16777216 then some (.tuple (rgD p.1.1 1 (p.1.2 - p.1.1).toNat), p.2) else none
theorem jp_tupRg {er : Expr} (he : JRg X er fr) (hc : X.calm = true) (hg : Gl X "tuple") (hm : X.mg "tuple" = none) (na : starEach [er] X.env = (false, eval er X.env) :: starEach [] X.env := by rfl) : JP X (.Call (.Name "tuple" p) [er] [] pos) (eTRg fr) k := fun A S σ H vw sto d sto' Q w r q z => by
  unfold eTRg at q
  obtain ⟨⟨⟨lo, hi⟩, s1⟩, e1, q⟩ := bind_some' q
  simp only at q
  split at q
  · rename_i hb
    cases q
    obtain ⟨t, ht, hq⟩ := he
    refine wpE.by (pe_tupRg hc hg hm ht na) (hq A S σ H vw sto _ _ _ w r e1 fun H1 x1 w1 => ⟨⟨by omega, by omega, by omega, by omega, by omega⟩, fun l hl => z _ _ [] ((Res.tup w1 (.shared w1 (rg_rp lo hi)) hl).later x1 w1)⟩)
  · cases q
def iRevRg (fr : VW → STO → Option ((Int × Int) × STO)) : EvI := fun vw s => (fr vw s).bind fun p => if inRg p.1.1 = true ∧ inRg p.1.2 = true then some (rgD (p.1.1 + (((p.1.2 - p.1.1).toNat : Nat) : Int) - 1) (-1) (p.1.2 - p.1.1).toNat, p.2) else none
theorem ji_revRg {er : Expr} (he : JRg X er fr) (hg : Gl X "reversed") (hm : X.mg "reversed" = none) (hs : starEach [er] X.env = (false, eval er X.env) :: starEach [] X.env := by rfl) : JI X tg (.Call (.Name "reversed" p) [er] [] pos) (iRevRg fr) := fun A S σ H vw sto ds sto' R w r q z => by
  unfold iRevRg at q
  obtain ⟨⟨⟨lo, hi⟩, s1⟩, e1, q⟩ := bind_some' q
  simp only at q
  split at q
  · rename_i hb
    cases q
    obtain ⟨t, ht, hq⟩ := he
    obtain ⟨b1, b2⟩ := inRg_iff hb.1
    obtain ⟨b3, b4⟩ := inRg_iff hb.2
    exact wpI.by (pi_revR hg hm ht hs) (hq A S σ H vw sto _ _ _ w r e1 fun H1 x1 w1 => ⟨b1, b2, b3, b4, z _ H1 x1 w1 walk_drc⟩)
  · cases q
def isLst : D → Option (List D)
  | .list ds => some ds
  | _ => none
theorem isLst_some {x : D} {ds : List D} (h : isLst x = some ds) : x = .list ds := by
  unfold isLst at h
  split at h
  · cases h; rfl
  · cases h
theorem ji_rev (ha : JP X a f 0) (hg : Gl X "reversed") (hm : X.mg "reversed" = none) (hs : starEach [a] X.env = [(false, eval a X.env)] := by rfl) : JI X tg (.Call (.Name "reversed" p) [a] [] pos) (iU (fun d => (isLst d).map List.reverse) f) := fun A S σ H vw sto ds sto' R w r q z => by
  obtain ⟨x, e1, e2⟩ := iU_some q
  obtain ⟨es, e3, rfl⟩ := map_some' e2
  have e4 := isLst_some e3
  subst e4
  refine wpI.by (pi_reversed hg hm (pa_cons wpE_pe pa_nil hs) hs) (ha.use w r e1 fun v H1 x1 w1 r1 p1 => ?_)
  obtain ⟨l, xs, rfl, r2, q2⟩ := p1.lstI
  exact ⟨l, xs, rfl, .inl r2.out, z _ H1 x1 w1 (walk_drev r2 q2)⟩
theorem ji_enum (ha : JP X a f 0) (hg : Gl X "enumerate") (hm : X.mg "enumerate" = none) (hs : starEach [a] X.env = [(false, eval a X.env)] := by rfl) : JI X (.Tuple elts kk tpos) (.Call (.Name "enumerate" p) [a] [] pos) (iU (fun d => (isLst d).map fun ds => enD ds 0) f) := fun A S σ H vw sto ds sto' R w r q z => by
  obtain ⟨x, e1, e2⟩ := iU_some q
  obtain ⟨es, e3, rfl⟩ := map_some' e2
  have e4 := isLst_some e3
  subst e4
  refine wpI.by (pi_enum hg hm (pa_cons wpE_pe pa_nil hs) hs) (ha.use w r e1 fun v H1 x1 w1 r1 p1 => ?_)
  obtain ⟨l, xs, rfl, r2, q2⟩ := p1.lstI
  exact ⟨l, xs, rfl, .inl r2.out, z _ H1 x1 w1 (walk_de r2 q2)⟩
theorem ji_zip (ha : JP X a f 0) (hb : JP X b g 0) (hg : Gl X "zip") (hm : X.mg "zip" = none) (hs : starEach [a, b] X.env = (false, eval a X.env) :: starEach [b] X.env := by rfl) (hs2 : starEach [b] X.env = (false, eval b X.env) :: starEach [] X.env := by rfl) (hpl : (backTo pos (starEach [b] X.env)).any (·.1) = false := by rfl) :
    JI X (.Tuple elts kk tpos) (.Call (.Name "zip" p) [a, b] [] pos) (iB (fun x y => (isLst x).bind fun ds => (isLst y).map fun es => ziD ds es) f g) := fun A S σ H vw sto ds sto' R w r q z => by
  obtain ⟨x, s1, y, e1, e2, e3⟩ := iB_some q
  obtain ⟨ds1, e4, e3⟩ := bind_some' e3
  obtain ⟨es, e5, rfl⟩ := map_some' e3
  have e6 := isLst_some e4
  have e7 := isLst_some e5
  subst e6; subst e7
  refine wpI.by (pi_zip hg hm (pa_cons wpE_pe (pa_cons wpE_pe pa_nil hs2) hs) hs hpl) (ha.use2 hb w r e1 e2 fun v u H1 x1 w1 r1 p1 p2 => ?_)
  obtain ⟨l, xs, rfl, r2, q2⟩ := p1.lstI
  obtain ⟨m, ys, rfl, r3, q3⟩ := p2.lstI
  exact ⟨l, m, xs, ys, rfl, .inl r2.out, .inl r3.out, z _ H1 x1 w1 (walk_dz r2 q2 r3 q3)⟩

/-! ### targets -/
abbrev Bd := D → Option (List (Nat × D))
def bN (i : Nat) : Bd := fun d => some [(i, d)]
def bT2 (i j : Nat) : Bd
  | .tuple [x, y] => some [(i, x), (j, y)]
  | _ => none
def setS (σ : Sg) : List (Nat × V) → Sg
  | [] => σ
  | (i, v) :: r => setS (σ.set i (some v)) r
def setV (vw : VW) : List (Nat × D) → VW
  | [] => vw
  | (i, d) :: r => setV (vw.set i (some d)) r
abbrev SlotsR (K : PySem.W.Frag) (S : List Addr) (H : Hp) : List (Nat × V) → List (Nat × D) → Prop := Paired fun p q => p.1 = q.1 ∧ Rp K S H p.2 q.2
def gSpec (K : PySem.W.Frag) (g : TG) (bd : Bd) : Prop := ∀ S σ H H0 v d l (Q : Sg → Hp → Prop), Same H H0 → Rp K S H v d → bd d = some l → (∀ vl, SlotsR K S H vl l → Q (setS σ vl) H0) → g v σ H0 Q
theorem gspec_name {K : PySem.W.Frag} {i : Nat} : gSpec K (gName i) (bN i) := fun S σ H H0 v d l Q sm p e z => by
  cases e
  exact z [(i, v)] (.cons ⟨rfl, p⟩ .nil)
theorem gspec_tup2 {K : PySem.W.Frag} {i j : Nat} : gSpec K (gTup K 2 (gCons (gName i) (gCons (gName j) gNil))) (bT2 i j) := fun S σ H H0 v d l Q sm p e z => by
  unfold bT2 at e
  split at e
  · cases e
    obtain ⟨a, xs, rfl, r, q⟩ := p.tupI
    obtain ⟨x, y, rfl, p1, p2⟩ := q.two
    exact ⟨a, [x, y], rfl, .inl (Rd.le sm r), rfl, x, [y], rfl, y, [], rfl, rfl, z [(i, x), (j, y)] (.cons ⟨rfl, p1⟩ (.cons ⟨rfl, p2⟩ .nil))⟩
  · cases e
theorem setS_len : ∀ (l : List (Nat × V)) (σ : Sg), (setS σ l).length = σ.length
  | [], σ => rfl
  | (i, v) :: r, σ => by rw [setS, setS_len r, List.length_set]
theorem setV_len : ∀ (l : List (Nat × D)) (σ : VW), (setV σ l).length = σ.length
  | [], σ => rfl
  | (i, v) :: r, σ => by rw [setV, setV_len r, List.length_set]
theorem SlotsR.rd {K : PySem.W.Frag} {S : List Addr} {H : Hp} {A : Addr → Prop} : ∀ {vl : List (Nat × V)} {l : List (Nat × D)} {σ : Sg} {vw : VW}, SlotsR K S (hid A H) vl l → RdV K S A σ H vw → RdV K S A (setS σ vl) H (setV vw l)
  | _, _, σ, vw, .nil, h => h
  | _, _, σ, vw, .cons (a := (i, v)) (b := (j, d)) e r, h => by
    obtain ⟨rfl, p⟩ := e
    show RdV K S A (setS (σ.set i (some v)) _) H (setV (vw.set i (some d)) _)
    refine SlotsR.rd r ⟨by rw [List.length_set, List.length_set]; exact h.1, fun n d' hd => ?_⟩
    by_cases hn : i = n
    · subst hn
      rw [List.getElem?_set] at hd
      rw [if_pos rfl] at hd
      split at hd
      · rename_i hlt
        have hd' : d = d' := by simpa using hd
        subst hd'
        refine ⟨v, ?_, p⟩
        rw [List.getElem?_set, if_pos rfl, if_pos (by have := h.1; show i < σ.length; omega)]
      · cases hd
    · rw [List.getElem?_set_ne hn] at hd
      obtain ⟨v', e1, e2⟩ := h.2 n d' hd
      exact ⟨v', by rw [List.getElem?_set_ne hn]; exact e1, e2⟩
end
end J
namespace J
open PySem PySem.Spec PyProof.Rows L2

/-! ### comprehensions -/
def wipeV (vw : VW) : List Nat → VW
  | [] => vw
  | v :: vs => (wipeV vw vs).set v none
theorem wipeV_len (vw : VW) : ∀ vs : List Nat, (wipeV vw vs).length = vw.length
  | [] => rfl
  | v :: vs => by unfold wipeV; rw [List.length_set, wipeV_len vw vs]
theorem wipe_get {α : Type} : ∀ (vs : List Nat) (f : List (Option α) → List Nat → List (Option α)) (h0 : ∀ s, f s [] = s) (h1 : ∀ s v r, f s (v :: r) = (f s r).set v none) (s : List (Option α)) (i : Nat), (f s vs)[i]? = if i ∈ vs ∧ i < s.length then some none else s[i]?
  | [], f, h0, h1, s, i => by rw [h0]; simp
  | v :: r, f, h0, h1, s, i => by
    have ih := wipe_get r f h0 h1 s i
    have hlen : ∀ r, (f s r).length = s.length := fun r => by
      induction r with
      | nil => rw [h0]
      | cons a r ih => rw [h1, List.length_set, ih]
    rw [h1, List.getElem?_set]
    by_cases e : v = i
    · subst e
      rw [if_pos rfl, hlen]
      by_cases hl : v < s.length
      · rw [if_pos hl, if_pos ⟨List.mem_cons_self, hl⟩]
      · rw [if_neg hl, if_neg (fun z => hl z.2), List.getElem?_eq_none (by omega)]
    · rw [if_neg e, ih]
      have : (i ∈ v :: r) ↔ i ∈ r := by
        constructor
        · intro h
          rcases List.mem_cons.mp h with h | h
          · exact absurd h.symm e
          · exact h
        · exact List.mem_cons_of_mem _
      simp only [this]
theorem wipeS_get (σ : Sg) (vs : List Nat) (i : Nat) : (wipe σ vs)[i]? = if i ∈ vs ∧ i < σ.length then some none else σ[i]? := wipe_get vs wipe (fun _ => rfl) (fun _ _ _ => rfl) σ i
theorem wipeV_get (σ : VW) (vs : List Nat) (i : Nat) : (wipeV σ vs)[i]? = if i ∈ vs ∧ i < σ.length then some none else σ[i]? := wipe_get vs wipeV (fun _ => rfl) (fun _ _ _ => rfl) σ i
theorem setS_get : ∀ (l : List (Nat × V)) (σ : Sg) (i : Nat), (∀ p ∈ l, p.1 ≠ i) → (setS σ l)[i]? = σ[i]?
  | [], σ, i, _ => rfl
  | (j, v) :: r, σ, i, h => by
    rw [setS, setS_get r _ i fun p hp => h p (List.mem_cons_of_mem _ hp), List.getElem?_set_ne (h (j, v) List.mem_cons_self)]
theorem wipe_set {σ : Sg} {vs : List Nat} {l : List (Nat × V)} (h : ∀ p ∈ l, p.1 ∈ vs) : wipe (setS (wipe σ vs) l) vs = wipe σ vs := by
  apply List.ext_getElem?
  intro i
  rw [wipeS_get, setS_len, wipe_length]
  by_cases c : i ∈ vs ∧ i < σ.length
  · rw [if_pos c, wipeS_get, if_pos c]
  · rw [if_neg c]
    by_cases d : i ∈ vs
    · have hi : σ.length ≤ i := Nat.le_of_not_lt fun z => c ⟨d, z⟩
      rw [List.getElem?_eq_none (by rw [setS_len, wipe_length]; exact hi), List.getElem?_eq_none (by rw [wipe_length]; exact hi)]
    · rw [setS_get l _ i fun p hp e => d (e ▸ h p hp)]
theorem RdV.wipe {K : PySem.W.Frag} {S : List Addr} {A : Addr → Prop} {σ : Sg} {H : Hp} {vw : VW} (r : RdV K S A σ H vw) (vs : List Nat) : RdV K S A (L2.wipe σ vs) H (wipeV vw vs) := by
  refine ⟨by rw [wipe_length, wipeV_len]; exact r.1, fun i d h => ?_⟩
  rw [wipeV_get] at h
  split at h
  · cases h
  · rename_i c
    obtain ⟨v, e1, e2⟩ := r.2 i d h
    have hl : i < vw.length := (List.getElem?_eq_some_iff.mp h).1
    refine ⟨v, ?_, e2⟩
    rw [wipeS_get, if_neg (fun z => c ⟨z.1, hl⟩)]
    exact e1
theorem SlotsR.mem {K : PySem.W.Frag} {S : List Addr} {H : Hp} {P : Nat → Prop} : ∀ {vl : List (Nat × V)} {l : List (Nat × D)}, SlotsR K S H vl l → (∀ p ∈ l, P p.1) → ∀ p ∈ vl, P p.1
  | _, _, .nil, _, p, h => nomatch h
  | _, _, .cons (a := a) (b := b) e r, h, p, hp => by
    rcases List.mem_cons.mp hp with rfl | hp
    · rw [e.1]; exact h b List.mem_cons_self
    · exact SlotsR.mem r (fun q hq => h q (List.mem_cons_of_mem _ hq)) p hp

abbrev blkX (X : Cx) (scope : Scope) (s : Shared) (H : Hp) (C : Addr) (cl : List (Str × Addr)) (fp : List Addr) : Cx := X.blk s H scope (compEnvC scope cl C X.env) fp
def JPB (X : Cx) (scope : Scope) (e : Expr) (f : Ev) (k : Nat) : Prop := ∀ s H C cl fp, JP (blkX X scope s H C cl fp) e f k
def JTB (X : Cx) (scope : Scope) (e : Expr) (f : EvT) : Prop := ∀ s H C cl fp, JT (blkX X scope s H C cl fp) e f
def wpEB (X : Cx) (scope : Scope) (e : Expr) : TE := fun σ H Q => ∀ s H0 C cl fp, wpE (blkX X scope s H0 C cl fp) e σ H Q
def wpTB (X : Cx) (scope : Scope) (e : Expr) : TT := fun σ H Q => ∀ s H0 C cl fp, wpT (blkX X scope s H0 C cl fp) e σ H Q
theorem wpEB_pe {X : Cx} {scope : Scope} {e : Expr} : ∀ (s : Shared) (H : Hp) (C : Addr) (cl : List (Str × Addr)) (fp : List Addr), PE (X.blk s H scope (compEnvC scope cl C X.env) fp) e (wpEB X scope e) :=
  fun s H C cl fp => ⟨fun pins s' σ H' Q I h => h s H C cl fp pins s' I⟩
theorem wpTB_pt {X : Cx} {scope : Scope} {e : Expr} : ∀ (s : Shared) (H : Hp) (C : Addr) (cl : List (Str × Addr)) (fp : List Addr), PT (X.blk s H scope (compEnvC scope cl C X.env) fp) e (wpTB X scope e) :=
  fun s H C cl fp => ⟨fun pins s' σ H' Q I h => h s H C cl fp pins s' I⟩
/-- the tests of a comprehension: none, one -/
def JTs (X : Cx) (scope : Scope) (ifs : List Expr) (f : EvT) : Prop := ∃ t, (∀ (s : Shared) (H : Hp) (C : Addr) (cl : List (Str × Addr)) (fp : List Addr), PTs (X.blk s H scope (compEnvC scope cl C X.env) fp) ifs t) ∧
  ∀ A S σ H vw sto b sto' (Q : Bool → Hp → Prop), Wd X.K S A H sto → RdV X.K S A σ H vw → f vw sto = some (b, sto') → (∀ H', Ext S H H' → Wd X.K S A H' sto' → Q b H') → t σ H Q
def tY : EvT := fun _ s => some (true, s)
theorem jts_nil {X : Cx} {scope : Scope} : JTs X scope [] tY := ⟨tYes, fun _ _ _ _ _ => pts_nil, fun A S σ H vw sto b sto' Q w r q z => by
  cases q
  exact z H Ext.refl w⟩
theorem jts_one {X : Cx} {scope : Scope} {e : Expr} {f : EvT} (h : JTB X scope e f) : JTs X scope [e] f := ⟨_, fun s H C cl fp => pts_one (wpTB_pt s H C cl fp), fun A S σ H vw sto b sto' Q w r q z => fun s H0 C cl fp => h s H0 C cl fp A S σ H vw sto b sto' Q w r q z⟩
def JG (X : Cx) (scope : Scope) (tg : Expr) (bd : Bd) : Prop := ∃ g, (∀ (s : Shared) (H : Hp) (C : Addr) (cl : List (Str × Addr)) (fp : List Addr), PG (X.blk s H scope (compEnvC scope cl C X.env) fp) tg g) ∧ gSpec X.K g bd

def compL (bd : Bd) (fc : EvT) (fe : Ev) (own : List Nat) (vw : VW) : List D → STO → Option (List D × STO)
  | [], s => some ([], s)
  | d :: r, s => (bd d).bind fun l => (fc (setV (wipeV vw own) l) s).bind fun p =>
    if p.1 = true then (fe (setV (wipeV vw own) l) p.2).bind fun q => (compL bd fc fe own vw r q.2).map fun u => (q.1 :: u.1, u.2) else compL bd fc fe own vw r p.2
def eComp (fi : EvI) (bd : Bd) (fc : EvT) (fe : Ev) (own : List Nat) : Ev := fun vw s => (fi vw s).bind fun p => if p.1.length ≤ 16777216 then (compL bd fc fe own vw p.1 p.2).map fun q => (.list q.1, q.2) else none
theorem hid_ext {S : List Addr} {A : Addr → Prop} {H H' : Hp} (e : Ext S H H') (hS : ∀ a, a ∈ S → A a) : Same (hid A H) H' := fun a o q => by
  rw [hid_eq] at q
  exact e a o (fun z => q.1 (hS a z)) q.2
theorem comp_read {X : Cx} {tg it elt : Expr} {scope : Scope} {own : List Nat} {fi : EvI} {bd : Bd} {fc : EvT} {fe : Ev} {k : Nat} {g : TG} {tt : TT}
    (hi : JI X tg it fi) (hg : gSpec X.K g bd)
    (ht : ∀ A S σ H vw sto b sto' (Q : Bool → Hp → Prop), Wd X.K S A H sto → RdV X.K S A σ H vw → fc vw sto = some (b, sto') → (∀ H', Ext S H H' → Wd X.K S A H' sto' → Q b H') → tt σ H Q)
    (he : JPB X scope elt fe k) (hown : ∀ d l, bd d = some l → ∀ p ∈ l, p.1 ∈ own)
    {A : Addr → Prop} {S : List Addr} {σ : Sg} {H : Hp} {vw : VW} {sto sto' : STO} {d : D} {Q : VK} (w : Wd X.K S A H sto) (r : RdV X.K S A σ H vw) (q : eComp fi bd fc fe own vw sto = some (d, sto'))
    (z : ∀ v H' F, Res X.K S A H sto' (k + 1) H' v d F → Q v H') : tLc (wpI X tg it) g tt (wpEB X scope elt) own σ H Q := by
  unfold eComp at q
  obtain ⟨⟨ds, s1⟩, e1, q⟩ := bind_some' q
  simp only at q
  split at q
  case isFalse => cases q
  rename_i hlen
  obtain ⟨⟨ys, s2⟩, e2, q⟩ := map_some' q
  obtain ⟨rfl, rfl⟩ : PyData.list ys = d ∧ s2 = sto' := by cases q; exact ⟨rfl, rfl⟩
  clear q
  refine hi A S σ H vw sto ds s1 _ w r e1 fun J H1 x1 w1 wk => fun D hD => ?_
  have hSD : D ∉ S := w1.live hD
  have hDA : ¬ A D := w1.notA hD
  refine lc_it wk (fun i Hi => ∃ acc ds' F si rest, compL bd fc fe own vw (ds.drop i) si = some (rest, s2) ∧ ds' ++ rest = ys ∧ acc.length ≤ i ∧ Hi D = some (.lst acc) ∧ Ext S H1 Hi ∧ Wd X.K S (plus F (plus [D] A)) Hi si ∧
    F.Nodup ∧ D ∉ F ∧ (∀ a ∈ F, H1 a = none) ∧ OwA X.K S (plus F (plus [D] A)) Hi k acc ds' F) ?_ ?_ ?_ ?_
  · refine ⟨[], [], [], s1, ys, by simpa using e2, rfl, Nat.le_refl _, upd_same, Ext.of (same_upd hD), ?_, .nil, by simp, noF, .nil⟩
    rw [plus_nil]
    refine w1.grow (same_upd hD) (fun a h => ?_) fun a h => .inr h
    rcases h with h | h
    · have e : a = D := by simpa using h
      subst e
      exact .inr ⟨hD, by rw [upd_same]; exact fun z => nomatch z⟩
    · exact .inl h
  · rintro i Hi _ ⟨acc, ds', F, si, rest, _, _, _, _, ex, _, _, _, _, _⟩
    exact hid_ext ex w1.hS
  · rintro i x Hi H' hi' ⟨acc, ds', F, si, rest, c1, c2, c3, c4, ex, wi, nd, hDF, fr, ow⟩ ⟨dx, e3, hH', rp⟩
    have hdrop : ds.drop i = dx :: ds.drop (i + 1) := by
      obtain ⟨hlt, e⟩ := List.getElem?_eq_some_iff.mp e3
      rw [List.drop_eq_getElem_cons hlt, e]
    rw [hdrop] at c1
    unfold compL at c1
    obtain ⟨l, el, c1⟩ := bind_some' c1
    obtain ⟨⟨b, sb⟩, eb, c1⟩ := bind_some' c1
    have smi : Same Hi H' := by
      rcases hH' with rfl | ⟨T, o, hT, rfl⟩
      · exact fun _ _ h => h
      · exact same_upd hT
    have w2 : Wd X.K S (plus F (plus [D] A)) H' si := wi.grow smi (fun a h => .inl h) fun a h => h
    have hA2 : ∀ a, plus F (plus [D] A) a → A a ∨ H1 a = none := fun a h => by
      rcases h with h | h | h
      · exact .inr (fr a h)
      · have e : a = D := by simpa using h
        subst e
        exact .inr hD
      · exact .inl h
    have px : Rp X.K S (hid (plus F (plus [D] A)) H') x dx := rp _ (hid_move ex w1.hS hA2) wi.al
    have ext2 : Ext S H1 H' := ex.trans (Ext.of smi)
    refine hg S _ _ H' x dx l _ same_hid px el fun vl sl => ?_
    refine ⟨wipe_set (sl.mem fun p hp => hown dx l el p hp), ?_⟩
    have r2 : RdV X.K S (plus F (plus [D] A)) (setS (wipe σ own) vl) H' (setV (wipeV vw own) l) := sl.rd (((r.move x1 w.hS fun a h => .inl h).move ext2 w1.hS hA2).wipe own)
    refine ht _ S _ H' _ si b sb _ w2 r2 eb fun H3 x3 w3 => ?_
    have hD3 : H3 D = some (.lst acc) := x3 D _ hSD (smi _ _ c4)
    have ext3 : Ext S H1 H3 := ext2.trans x3
    simp only at c1
    cases b with
    | true =>
      rw [if_pos rfl] at c1 ⊢
      obtain ⟨⟨y, sy⟩, ey, c1⟩ := bind_some' c1
      obtain ⟨⟨us, su⟩, eu, c1⟩ := map_some' c1
      cases c1
      intro s0 H0 C cl fp
      refine he s0 H0 C cl fp _ S _ H3 _ sb y sy _ w3 (r2.move x3 w2.hS fun a h => .inl h) ey fun v H4 F' rs => ?_
      have rs : Res X.K S (plus F (plus [D] A)) H3 sy k H4 v y F' := rs
      have hD4 : H4 D = some (.lst acc) := rs.ext D _ hSD hD3
      have ext4 : Ext S H1 H4 := ext3.trans rs.ext
      have frF' : ∀ a ∈ F', H1 a = none := fun a ha => none_of_ext ext3 (w3.live (rs.fr a ha)) (rs.fr a ha)
      have hDF' : D ∉ F' := fun h => by
        have := rs.fr D h
        rw [hD3] at this
        cases this
      have hF4 : ∀ a ∈ F, a ∉ F' := fun a ha h => by
        have h1 := rs.fr a h
        exact w3.al a (.inl ha) h1
      refine ⟨acc, hD4, by rw [sizeLine_eq]; omega, acc ++ [v], ds' ++ [y], F ++ F', sy, us, eu, by rw [List.append_assoc]; exact c2, by rw [List.length_append, List.length_singleton]; omega, upd_same, ?_, ?_, ?_, ?_, ?_, ?_⟩
      · intro a o hS h
        by_cases e : a = D
        · subst e; rw [hD] at h; cases h
        · rw [upd_ne e]; exact ext4 a o hS h
      · rw [← plus_append]
        exact rs.wd.upd (.inr (.inr (.inl (by simp)))) hSD ⟨acc, hD4⟩
      · exact List.nodup_append.mpr ⟨nd, rs.nd, fun a ha b hb e => hF4 a ha (e ▸ hb)⟩
      · intro h
        rcases List.mem_append.mp h with h | h
        · exact hDF h
        · exact hDF' h
      · intro a ha
        rcases List.mem_append.mp ha with h | h
        · exact fr a h
        · exact frF' a h
      · rw [← plus_append]
        have hidD : hid (plus F' (plus F (plus [D] A))) (upd H4 D (.lst (acc ++ [v]))) = hid (plus F' (plus F (plus [D] A))) H4 := hid_upd (.inr (.inr (.inl (by simp))))
        have o1 : OwA X.K S (plus F' (plus F (plus [D] A))) (upd H4 D (.lst (acc ++ [v]))) k acc ds' F := by
          refine ow.mv ?_ fun a ha o ho => ?_
          · rw [hidD]
            exact hid_move ((Ext.of smi).trans (x3.trans rs.ext)) wi.hS fun a h => by
              rcases h with h | h
              · exact .inr (none_of_ext ((Ext.of smi).trans x3) (w3.live (rs.fr a h)) (rs.fr a h))
              · exact .inl h
          · rw [upd_ne (fun e : a = D => hDF (e ▸ ha))]
            exact rs.ext a o (w1.live (fr a ha)) (x3 a o (w1.live (fr a ha)) (smi a o ho))
        have o2 : Ow X.K S (plus F' (plus F (plus [D] A))) (upd H4 D (.lst (acc ++ [v]))) k v y F' := by
          refine rs.ow.mv (by rw [hidD]; exact fun _ _ h => h) fun a ha o ho => ?_
          rw [upd_ne (fun e : a = D => hDF' (e ▸ ha))]
          exact ho
        have := o1.append (.cons o2 .nil)
        rwa [List.append_nil] at this
    | false =>
      rw [if_neg Bool.false_ne_true] at c1 ⊢
      refine ⟨acc, ds', F, sb, rest, c1, c2, by omega, hD3, ext3, w3, nd, hDF, fr, ?_⟩
      exact ow.move ((Ext.of smi).trans x3) wi.hS (fun a h => .inl h) fun a ha => w1.live (fr a ha)
  · rintro Hn ⟨acc, ds', F, si, rest, c1, c2, c3, c4, ex, wi, nd, hDF, fr, ow⟩
    rw [List.drop_length] at c1
    cases c1
    rw [List.append_nil] at c2
    subst c2
    have eP : plus F (plus [D] A) = plus (D :: F) A := plus_append
    rw [eP] at wi ow
    refine z (.ref D) Hn (D :: F) ⟨x1.trans ex, wi, List.nodup_cons.mpr ⟨hDF, nd⟩, fun a ha => ?_, .lst c4 ow⟩
    rcases List.mem_cons.mp ha with rfl | ha
    · exact none_of_ext x1 hSD hD
    · exact none_of_ext x1 (w1.live (fr a ha)) (fr a ha)
theorem jp_comp {X : Cx} {tg it elt : Expr} {ifs : List Expr} {scope : Scope} {own : List (Str × Nat)} {pos : Pos} {fi : EvI} {bd : Bd} {fc : EvT} {fe : Ev} {k : Nat} (hc : X.calm = true) (hN : X.N.Nodup)
    (hi : JI X tg it fi) (ok : BlkOk X.N X.env.scope scope own) (hg : JG X scope tg bd) (ht : JTs X scope ifs fc) (he : JPB X scope elt fe k) (hown : ∀ d l, bd d = some l → ∀ p ∈ l, p.1 ∈ own.map (·.2))
    (hs : ∀ x, foldedSetIterable it X.env x = pure x) : JP X (.ListComp elt [⟨tg, it, ifs, 0⟩] scope pos) (eComp fi bd fc fe (own.map (·.2))) (k + 1) := fun A S σ H vw sto d sto' Q w r q z => by
  obtain ⟨g, hg1, hg2⟩ := hg
  obtain ⟨t, ht1, ht2⟩ := ht
  exact wpE.by (pe_lc hc hN wpI_pi ok hg1 ht1 wpEB_pe hs) (comp_read hi hg2 ht2 he hown w r q z)
end J
namespace J
open PySem PySem.Spec PyProof.Rows L2

/-! ### a def's promise where no repr runs around it -/
abbrev SpG := List V → Hp → VK → Prop
structure FnG (P : Program) (w : World) (K : PySem.W.Frag) (mg : Str → Option Value) (base : Heap) (k : Nat) (f : Addr) (fd : FuncData) (ps : List Str) (sp : SpG) : Prop where
  len : ∀ vs H Q, sp vs H Q → vs.length = ps.length
  run : ∀ (A : Around) (outer : List Env) (s : Shared) (H : Hp) (args : Args) (us : List Value) (vs : List V) (Q : VK), Room k A → A.guards = some [] → Env0 P w K mg base A outer s H → BindsTo s fd args (ps.zip us) → Vals vs us → sp vs H Q →
    codeAny (model P w) A (.call (.ref f) args) (CR CX0 outer P w H s Q E0) s
theorem FnG.mono {P : Program} {w : World} {K : PySem.W.Frag} {mg : Str → Option Value} {base : Heap} {j k : Nat} {f : Addr} {fd : FuncData} {ps : List Str} {sp : SpG} (F : FnG P w K mg base j f fd ps sp) (h : j ≤ k) : FnG P w K mg base k f fd ps sp :=
  ⟨F.len, fun A outer s H args us vs Q hr => F.run A outer s H args us vs Q (hr.mono h)⟩
/-- a def by its body -/
theorem FnG.of {P : Program} {w : World} {K : PySem.W.Frag} {mg : Str → Option Value} {base : Heap} {k : Nat} {x qual : Str} {st : Stmt} {f : Addr} {fd : FuncData} {N ps : List Str} {sp : SpG}
    (F : Fun K x qual st f fd) (S : FnScope N ps (defScope st)) (len : ∀ vs H Q, sp vs H Q → vs.length = ps.length)
    (hbody : ∀ (cdv : Value) (A : Around) (outer : List Env) (s : Shared) (H : Hp) (vs : List V) (Q : VK), Room k (A.deeper (envOfC qual (defScope st) s.heap.objs.size f cdv)) → A.guards = some [] → sp vs H Q →
      wpSs (cxOf CX0 P w K mg base N qual (defScope st) f cdv A outer s H E0).nox (defBody st) { nx := fun _ H' => Q .non H', rt := Q } (start N vs) H) :
    FnG P w K mg base (k + 1) f fd ps sp := by
  obtain ⟨oc, od, kV, doc, pm, an, cdv, ct, osl, rfl, lk, hcd⟩ := F.ex
  refine ⟨len, fun A outer s H args us vs Q hr hg e0 hb r hsp => ?_⟩
  have hl := len _ _ _ hsp
  have KX : K.In s.heap := e0.mod.kin.keeps fun b o e => (e0.bs b o e).1
  have lim : s.heap.NoLimit := e0.mod.nolimit.keeps fun b o e => (e0.bs b o e).1
  have places : ∀ y ∈ ps.zip us, (defScope st).names.lookup y.1 = some .local ∨ ((defScope st).names.lookup y.1 = some .cell ∧ ((cellsFrom (s.heap.objs.size + 1) (defScope st).names []).lookup y.1).isSome = true) := by
    rintro ⟨n, v⟩ hy
    exact (S.par n (List.of_mem_zip hy).1).imp id fun q => ⟨q, PySem.W.cellsFrom_some _ _ _ (.inl q)⟩
  refine codeAny_call_function hr.depth (KX _ _ lk) rfl S.co S.gen rfl (PySem.W.codeRec_of KX hcd) (hb _ _ _ _ (wpAny_newFunctionEnv_cells S.kind places fun env he s1 x => ?_))
  subst he
  refine ⟨lim.keeps x.toInCall.keep, codeAny_func ?_⟩
  have I := inv_start (CX := CX0) (E := E0) S hr.hd e0 hl r x
  have q := hbody cdv A outer s H vs Q (hr.deeper _) hg hsp [] s1 (I.wish _)
  refine wpAny_mono q (fun fl s' hs => ?_) fun e s' hs => False.elim hs
  have hs := SP.unwish hs
  cases fl with
  | ret u =>
    obtain ⟨v, σ', H', J, rv, q⟩ := hs
    exact ⟨v, H', J.os, J.bare, J.base, J.hok, rv, q⟩
  | next =>
    obtain ⟨σ', H', J, q⟩ := hs
    exact ⟨.non, H', J.os, J.bare, J.base, J.hok, rfl, q⟩
  | brk =>
    obtain ⟨_, _, _, q⟩ := hs
    exact False.elim q
  | cont =>
    obtain ⟨_, _, _, q⟩ := hs
    exact False.elim q
theorem run_fg {X : Cx} {k : Nat} {f : Addr} {fd : FuncData} {ps ks : List Str} {sp : SpG} {pins : List (Addr × Obj)} {σ : Sg} {H : Hp} {s : Shared} {Q : VK} {us ws : List Value} {vs zs : List V} {n : Nat} {g : List Value → List Value → List Value} {gV : List V → List V → List V}
    (F : FnG X.prog X.w X.K X.mg X.base k f fd ps sp) (hr : Room k X.A) (hg : X.A.guards = some []) (hb : KBn X.K fd ps n ks g gV) (I : Inv X pins σ H s) (r : Vals vs us) (rz : Vals zs ws) (l1 : vs.length = n) (l2 : zs.length = ks.length) (h : sp (gV vs zs) H Q) :
    wpAny (model X.prog X.w) X.A (call (.ref f) us (ks.zip ws)) (EP X pins σ Q) X.xe s := by
  refine wpAny_call (codeAny_mono (F.run X.A X.stack s H ⟨us, ks.zip ws⟩ (g us ws) (gV vs zs) Q hr hg I.env0 (hb.to s us ws I.kIn (r.length.symm.trans l1) (rz.length.symm.trans l2)) (hb.rel r rz) h) fun res s' hq => ?_)
  cases res with
  | error e => exact False.elim hq
  | ok fl =>
    cases fl with
    | ret u => exact I.after hq
    | next => exact False.elim hq
    | brk => exact False.elim hq
    | cont => exact False.elim hq

/-! ### a def that is told by a function on data -/
abbrev FnD := List D → STO → Option (D × STO)
def spD (K : PySem.W.Frag) (n : Nat) (F : FnD) (k : Nat) : SpG := fun vs H Q => ∃ A S ds sto d sto', ds.length = n ∧ Wd K S A H sto ∧ RpA K S (hid A H) vs ds ∧ F ds sto = some (d, sto') ∧ ∀ v H' F', Res K S A H sto' k H' v d F' → Q v H'
/-- how arguments, positional and by keyword, come to their places -/
def pick {α : Type} (e : α) (perm : List Nat) (xs : List α) : List α := perm.map fun i => xs.getD i e
theorem vals_pick {xs : List V} {us : List Value} (h : Vals xs us) (perm : List Nat) : Vals (pick V.non perm xs) (pick Value.none perm us) := by
  unfold pick
  induction perm with
  | nil => exact .nil
  | cons i r ih =>
    refine .cons ?_ ih
    show RelV (xs.getD i .non) (us.getD i .none)
    rw [List.getD_eq_getElem?_getD, List.getD_eq_getElem?_getD]
    cases e : xs[i]? with
    | none => rw [h.none_of e]; exact rfl
    | some x =>
      obtain ⟨u, e1, r⟩ := h.get e
      rw [e1]
      exact r
theorem rpa_pick {K : PySem.W.Frag} {S : List Addr} {H : Hp} {xs : List V} {ds : List D} (h : RpA K S H xs ds) (perm : List Nat) : RpA K S H (pick V.non perm xs) (pick PyData.none perm ds) := by
  unfold pick
  induction perm with
  | nil => exact .nil
  | cons i r ih =>
    refine .cons ?_ ih
    show Rp K S H (xs.getD i .non) (ds.getD i .none)
    rw [List.getD_eq_getElem?_getD, List.getD_eq_getElem?_getD]
    cases e : ds[i]? with
    | none =>
      have e2 : xs[i]? = none := by
        have := h.length
        rw [List.getElem?_eq_none_iff] at e ⊢
        omega
      rw [e2]; exact .non
    | some x =>
      obtain ⟨u, e1, r⟩ := h.get e
      rw [e1]
      exact r
/-- the binding of n positional arguments and the keywords ks: the places perm of all of them, one behind the other -/
theorem kbn_of {K : PySem.W.Frag} {x qual : Str} {st : Stmt} {f : Addr} {fd : FuncData} {ps ks : List Str} {n : Nat} (perm : List Nat) (F : Fun K x qual st f fd)
    (h : ∀ (kV doc pm : Value) (an : Option Addr) (cdv ct : Value) (us ws : List Value), us.length = n → ws.length = ks.length → bindArgs (PySem.W.fnOf x qual (defArgs st) (defBody st) (defScope st) .none kV doc pm an cdv ct) ⟨us, ks.zip ws⟩ = pure (ps.zip (pick Value.none perm (us ++ ws)))) :
    KBn K fd ps n ks (fun us ws => pick Value.none perm (us ++ ws)) (fun vs zs => pick V.non perm (vs ++ zs)) := by
  obtain ⟨oc, od, kV, doc, pm, an, cdv, ct, osl, rfl, lk, hcd⟩ := F.ex
  exact ⟨fun s us ws _ l1 l2 => .of_eq (h kV doc pm an cdv ct us ws l1 l2), fun r rz => vals_pick (r.append rz) perm⟩
section
variable {X : Cx} {e a b c : Expr} {es rest : List Expr} {f g h : Ev} {fs gs : EvA} {k j n : Nat} {pos p : Pos} {kws : List Keyword}
def eCall (F : FnD) (perm : List Nat) (fs : EvA) : Ev := fun vw s => (fs vw s).bind fun p => F (pick PyData.none perm p.1) p.2
def aApp (fs gs : EvA) : EvA := fun vw s => (fs vw s).bind fun p => (gs vw p.2).map fun q => (p.1 ++ q.1, q.2)
/-- keyword arguments -/
def wpK (X : Cx) (kws : List Keyword) : TA := fun σ H Q => ∀ pos pins s, Inv X pins σ H s → wpAny (model X.prog X.w) X.A (evalAll ((backToKw pos (keywordEach kws X.env)).map (·.2))) (AP X pins σ Q) X.xe s
theorem wpK_pk : PK X kws (wpK X kws) := ⟨fun pos pins s σ H Q I h => h pos pins s I⟩
theorem wpK.by {t : TA} (h : PK X kws t) {σ : Sg} {H : Hp} {Q : List V → Hp → Prop} (q : t σ H Q) : wpK X kws σ H Q := fun pos pins s I => h.run pos pins s σ H Q I q
def JK (X : Cx) (kws : List Keyword) (f : EvA) : Prop := ∀ A S σ H vw sto d sto' (Q : List V → Hp → Prop), Wd X.K S A H sto → RdV X.K S A σ H vw → f vw sto = some (d, sto') →
  (∀ v H', Ext S H H' → Wd X.K S A H' sto' → RpA X.K S (hid A H') v d → Q v H') → wpK X kws σ H Q
theorem jk_nil : JK X [] aN := fun A S σ H vw sto d sto' Q w r q z => by
  cases q
  exact wpK.by pk_nil (z [] H Ext.refl w .nil)
theorem jk_cons {nm : Option Str} {kpos : Pos} (ha : JP X a f 0) (hr : JK X kws gs) : JK X (⟨nm, a, kpos⟩ :: kws) (aC f gs) := fun A S σ H vw sto d sto' Q w r q z => by
  unfold aC at q
  obtain ⟨⟨x, s1⟩, e1, q⟩ := bind_some' q
  obtain ⟨⟨ys, s2⟩, e2, q⟩ := map_some' q
  cases q
  exact wpK.by (pk_cons wpE_pe wpK_pk) (ha.use w r e1 fun v H1 x1 w1 r1 p1 => hr A S σ H1 vw s1 ys _ _ w1 r1 e2 fun vs H2 x2 w2 p2 =>
    z (v :: vs) H2 (x1.trans x2) w2 (.cons (p1.le (hid_move x2 w1.hS fun a h => .inl h)) p2))
/-- f(e, .., k = v, ..) -/
theorem jp_call {x : Str} {fa : Addr} {fd : FuncData} {ps ks : List Str} {F : FnD} {perm : List Nat} (hF : FnG X.prog X.w X.K X.mg X.base j fa fd ps (spD X.K ps.length F k)) (hr : Room j X.A) (hgu : X.A.guards = some []) (hg : Gl X x) (hm : X.mg x = some (.ref fa)) (hk : PySem.W.keepIn X.K (.ref fa) = true)
    (hb : KBn X.K fd ps n ks (fun us ws => pick Value.none perm (us ++ ws)) (fun vs zs => pick V.non perm (vs ++ zs))) (hn : (e :: es).length = n) (hkn : kws.length = ks.length) (hpl' : perm.length = ps.length)
    (ha : JA X (e :: es) fs 0) (hkw : JK X kws gs) (hfl : ∀ vw s d s', fs vw s = some (d, s') → d.length = n) (hgl : ∀ vw s d s', gs vw s = some (d, s') → d.length = ks.length)
    (hall : (backToKw pos (keywordEach kws X.env)).all (·.1.isSome) = true := by rfl) (hks : (backToKw pos (keywordEach kws X.env)).filterMap (·.1) = ks := by rfl)
    (hdb : (x == ("__debug__" : Str)) = false := by decide) (he : starEach (e :: es) X.env = (false, eval e X.env) :: starEach es X.env := by rfl)
    (hpl : ((backTo pos (starEach (e :: es) X.env)).any (·.1) || (backToKw pos (keywordEach kws X.env)).any (·.1.isNone)) = false := by rfl) :
    JP X (.Call (.Name x p) (e :: es) kws pos) (eCall F perm (aApp fs gs)) k := fun A S σ H vw sto d sto' Q w r q z => by
  unfold eCall aApp at q
  obtain ⟨⟨xs, s1⟩, e1, q⟩ := bind_some' q
  obtain ⟨⟨x1, s2⟩, e2, e1⟩ := bind_some' e1
  obtain ⟨⟨x2, s3⟩, e3, e1⟩ := map_some' e1
  cases e1
  intro pins s I
  refine wpAny_Call_Name_kw (ld_glob I hg hm ?_ hdb)
  refine PySem.W.callWith_KW (h₀ := X.base) I.ok.mod.kin hk hall (thn (ha.use (Q := fun vs H1 => Ext S H H1 ∧ Wd X.K S A H1 s2 ∧ RdV X.K S A σ H1 vw ∧ RpA X.K S (hid A H1) vs x1) w r e2 (fun vs H1 x1 w1 r1 p1 => ⟨x1, w1, r1, p1⟩) pos pins s I) fun us t1 hq => ?_) hpl he
  obtain ⟨vs, H1, I1, rv, y1, w1, r1, p1⟩ := hq
  refine thn (hkw A S σ H1 vw s2 x2 _ (fun zs H2 => Ext S H1 H2 ∧ Wd X.K S A H2 s3 ∧ RpA X.K S (hid A H2) zs x2) w1 r1 e3 (fun zs H2 y2 w2 p2 => ⟨y2, w2, p2⟩) pos pins t1 I1) fun ws t2 hq => ?_
  obtain ⟨zs, H2, I2, rz, y2, w2, p2⟩ := hq
  refine ⟨I2.kIn, ?_⟩
  rw [hks]
  have l1 : vs.length = n := by rw [p1.length]; exact hfl _ _ _ _ e2
  have l2 : zs.length = ks.length := by rw [p2.length]; exact hgl _ _ _ _ e3
  have pp : RpA X.K S (hid A H2) (vs ++ zs) (x1 ++ x2) := (p1.le (hid_move y2 w1.hS fun a h => .inl h)).append p2
  exact run_fg hF hr hgu hb I2 rv rz l1 l2 ⟨A, S, _, s3, d, sto', by unfold pick; rw [List.length_map]; exact hpl', w2, rpa_pick pp perm, q, fun v H' F' rs => z v H' F' (rs.later (y1.trans y2) w2)⟩
/-- f(k = v, ..) and f() -/
theorem jp_call0 {x : Str} {fa : Addr} {fd : FuncData} {ps ks : List Str} {F : FnD} {perm : List Nat} (hF : FnG X.prog X.w X.K X.mg X.base j fa fd ps (spD X.K ps.length F k)) (hr : Room j X.A) (hgu : X.A.guards = some []) (hg : Gl X x) (hm : X.mg x = some (.ref fa)) (hk : PySem.W.keepIn X.K (.ref fa) = true)
    (hb : KBn X.K fd ps 0 ks (fun us ws => pick Value.none perm (us ++ ws)) (fun vs zs => pick V.non perm (vs ++ zs))) (hkn : kws.length = ks.length) (hpl' : perm.length = ps.length)
    (hkw : JK X kws gs) (hgl : ∀ vw s d s', gs vw s = some (d, s') → d.length = ks.length)
    (hall : (backToKw pos (keywordEach kws X.env)).all (·.1.isSome) = true := by rfl) (hks : (backToKw pos (keywordEach kws X.env)).filterMap (·.1) = ks := by rfl)
    (hdb : (x == ("__debug__" : Str)) = false := by decide)
    (hpl : ((backTo pos (starEach [] X.env)).any (·.1) || (backToKw pos (keywordEach kws X.env)).any (·.1.isNone)) = false := by rfl) :
    JP X (.Call (.Name x p) [] kws pos) (eCall F perm gs) k := fun A S σ H vw sto d sto' Q w r q z => by
  unfold eCall at q
  obtain ⟨⟨x2, s3⟩, e3, q⟩ := bind_some' q
  intro pins s I
  refine wpAny_Call_Name_kw (ld_glob I hg hm ?_ hdb)
  refine PySem.W.callWith_KW0 (h₀ := X.base) I.ok.mod.kin hk hall ?_ hpl
  refine thn (hkw A S σ H vw sto x2 _ (fun zs H2 => Ext S H H2 ∧ Wd X.K S A H2 s3 ∧ RpA X.K S (hid A H2) zs x2) w r e3 (fun zs H2 y2 w2 p2 => ⟨y2, w2, p2⟩) pos pins s I) fun ws t2 hq => ?_
  obtain ⟨zs, H2, I2, rz, y2, w2, p2⟩ := hq
  refine ⟨I2.kIn, ?_⟩
  rw [hks]
  have l2 : zs.length = ks.length := by rw [p2.length]; exact hgl _ _ _ _ e3
  exact run_fg (vs := []) (us := []) hF hr hgu hb I2 .nil rz rfl l2 ⟨A, S, _, s3, d, sto', by unfold pick; rw [List.length_map]; exact hpl', w2, rpa_pick (by rw [List.nil_append]; exact p2) perm, q, fun v H' F' rs => z v H' F' (rs.later y2 w2)⟩
theorem len_aN : ∀ vw s d s', aN vw s = some (d, s') → d.length = 0 := fun vw s d s' h => by cases h; rfl
theorem len_aC {n : Nat} (hg : ∀ vw s d s', gs vw s = some (d, s') → d.length = n) : ∀ vw s d s', aC f gs vw s = some (d, s') → d.length = n + 1 := fun vw s d s' h => by
  unfold aC at h
  obtain ⟨⟨x, s1⟩, e1, h⟩ := bind_some' h
  obtain ⟨⟨ys, s2⟩, e2, h⟩ := map_some' h
  cases h
  exact congrArg (· + 1) (hg _ _ _ _ e2)

/-! ### sorted -/
theorem dp_le {K : PySem.W.Frag} {H H' : Hp} (e : Same H H') : ∀ (d : D) (v : V), Rp K [] H v d → Rp K [] H' v d := fun d v h => h.le e
def allAlike (ds : List D) : Bool := ds.all fun x => ds.all fun y => PySem.W.alike x y
def notTup : D → Bool
  | .none => false
  | .tuple _ => false
  | _ => true
def headTup : D → Bool
  | .tuple (_ :: _) => true
  | _ => false
def sortOk (ds : List D) : Bool := allAlike ds && (ds.all notTup || ds.all headTup) && SeqAt.shaped (.list ds)
def srt (ds : List D) : List D := ds.mergeSort (PySem.W.dataLe false id)
def dSorted : D → Option D
  | .list ds => if sortOk ds = true ∧ ds.length ≤ 16777216 then some (.list (srt ds)) else none
  | .tuple ds => if sortOk ds = true ∧ ds.length ≤ 16777216 then none else none
  | _ => none
end
end J
namespace J
open PySem PySem.Spec PyProof.Rows L2

/-! ### slots -/
inductive Slot where
  | no
  | sh (d : D)
  | ow (k : Nat) (d : D)
abbrev Env := List Slot
theorem scal_atomic {d : D} (h : isScal d = true) : atomic d := by
  cases d with
  | none => exact atomic_none
  | bool b => exact atomic_bool b
  | int i => exact atomic_int i
  | str x => exact atomic_str x
  | _ => exact absurd h (by simp [isScal])
/-- what an expression sees that names the slots M -/
def seeS (m : Bool) : Slot → Option D
  | .no => none
  | .sh d => some d
  | .ow _ d => if m = true then some d else none
def seeI (M : List Nat) : Nat → Env → VW
  | _, [] => []
  | n, s :: r => seeS (M.contains n) s :: seeI M (n + 1) r
def see (M : List Nat) (env : Env) : VW := seeI M 0 env
theorem seeI_len (M : List Nat) : ∀ (n : Nat) (env : Env), (seeI M n env).length = env.length
  | _, [] => rfl
  | n, s :: r => congrArg (· + 1) (seeI_len M (n + 1) r)
theorem seeI_get (M : List Nat) : ∀ (n : Nat) (env : Env) (i : Nat), (seeI M n env)[i]? = (env[i]?).map (seeS (M.contains (n + i)))
  | _, [], i => by simp [seeI]
  | n, s :: r, 0 => by simp [seeI]
  | n, s :: r, i + 1 => by
    have := seeI_get M (n + 1) r i
    rw [show n + 1 + i = n + (i + 1) by omega] at this
    simpa [seeI] using this
theorem see_get (M : List Nat) (env : Env) (i : Nat) : (see M env)[i]? = (env[i]?).map (seeS (M.contains i)) := by
  have := seeI_get M 0 env i
  rwa [Nat.zero_add] at this
/-- what was owned by the slots M is given to all -/
def fzS (m : Bool) : Slot → Slot
  | .ow k d => if m = true then .sh d else .ow k d
  | s => s
def fzI (M : List Nat) : Nat → Env → Env
  | _, [] => []
  | n, s :: r => fzS (M.contains n) s :: fzI M (n + 1) r
def fz (M : List Nat) (env : Env) : Env := fzI M 0 env
theorem fzI_len (M : List Nat) : ∀ (n : Nat) (env : Env), (fzI M n env).length = env.length
  | _, [] => rfl
  | n, s :: r => congrArg (· + 1) (fzI_len M (n + 1) r)
theorem fzI_get (M : List Nat) : ∀ (n : Nat) (env : Env) (i : Nat), (fzI M n env)[i]? = (env[i]?).map (fzS (M.contains (n + i)))
  | _, [], i => by simp [fzI]
  | n, s :: r, 0 => by simp [fzI]
  | n, s :: r, i + 1 => by
    have := fzI_get M (n + 1) r i
    rw [show n + 1 + i = n + (i + 1) by omega] at this
    simpa [fzI] using this
theorem fz_get (M : List Nat) (env : Env) (i : Nat) : (fz M env)[i]? = (env[i]?).map (fzS (M.contains i)) := by
  have := fzI_get M 0 env i
  rwa [Nat.zero_add] at this

abbrev hd (S : List Addr) (Fs : Nat → List Addr) (A0 : Addr → Prop) : Addr → Prop := fun a => (∃ i, a ∈ Fs i) ∨ A0 a ∨ a ∈ S
/-- hidden while an expression is run that names the slots M -/
abbrev hdM (S : List Addr) (M : List Nat) (Fs : Nat → List Addr) (A0 : Addr → Prop) : Addr → Prop := fun a => (∃ i, M.contains i = false ∧ a ∈ Fs i) ∨ A0 a ∨ a ∈ S
def SlotOk (K : PySem.W.Frag) (S : List Addr) (A : Addr → Prop) (H : Hp) (v : Option (Option V)) (F : List Addr) : Slot → Prop
  | .no => True
  | .sh d => F = [] ∧ ∃ u, v = some (some u) ∧ Rp K S (hid A H) u d
  | .ow k d => ∃ u, v = some (some u) ∧ Ow K S A H k u d F
structure Sr (K : PySem.W.Frag) (C : Hp) (S0 S : List Addr) (A0 : Addr → Prop) (H0 : Hp) (σ : Sg) (H : Hp) (env : Env) (sto : STO) (Fs : Nat → List Addr) : Prop where
  len : env.length = σ.length
  s0 : ∃ S1, S = S0 ++ S1 ∧ ∀ a ∈ S1, H0 a = none
  al0 : ∀ a, A0 a → H0 a ≠ none
  a0S : ∀ a, a ∈ S0 → A0 a
  ext : Ext S0 H0 H
  wd : Wd K S (hd S Fs A0) H sto
  nd : ∀ i, (Fs i).Nodup
  dj : ∀ i j a, a ∈ Fs i → a ∈ Fs j → i = j
  fr : ∀ i a, a ∈ Fs i → H0 a = none
  ns : ∀ i a, a ∈ Fs i → a ∉ S
  sl : ∀ i s, env[i]? = some s → SlotOk K S (hd S Fs A0) H σ[i]? (Fs i) s
  out : ∀ i, env[i]? = none → Fs i = []
  pub : Same C (hid (hd S Fs A0) H)

section
variable {K : PySem.W.Frag} {C : Hp} {S0 S : List Addr} {A0 : Addr → Prop} {H0 H H' : Hp} {σ : Sg} {env : Env} {sto sto' : STO} {Fs : Nat → List Addr} {M : List Nat} {k : Nat} {v : V} {d : D} {F : List Addr}
theorem Sr.ext' (r : Sr K C S0 S A0 H0 σ H env sto Fs) (e : Ext S H H') : Ext S0 H0 H' := fun a o hS h => by
  refine e a o (fun z => ?_) (r.ext a o hS h)
  obtain ⟨S1, q, q2⟩ := r.s0
  rw [q] at z
  rcases List.mem_append.mp z with z | z
  · exact hS z
  · rw [q2 a z] at h; cases h
theorem Sr.notM (r : Sr K C S0 S A0 H0 σ H env sto Fs) {i : Nat} (h : M.contains i = true) : ∀ a ∈ Fs i, ¬ hdM S M Fs A0 a := fun a ha z => by
  rcases z with ⟨j, hj, q⟩ | q | q
  · have := r.dj i j a ha q
    subst this
    rw [h] at hj; cases hj
  · exact r.al0 a q (r.fr i a ha)
  · exact r.ns i a ha q
theorem hdM_le : ∀ a, hdM S M Fs A0 a → hd S Fs A0 a := fun a h => by
  rcases h with ⟨i, _, h⟩ | h
  · exact .inl ⟨i, h⟩
  · exact .inr h
theorem Sr.wdM (r : Sr K C S0 S A0 H0 σ H env sto Fs) (M : List Nat) : Wd K S (hdM S M Fs A0) H sto := r.wd.less hdM_le fun a e => .inr (.inr e)
theorem Sr.rdM (r : Sr K C S0 S A0 H0 σ H env sto Fs) (M : List Nat) : RdV K S (hdM S M Fs A0) σ H (see M env) := by
  refine ⟨by unfold see; rw [seeI_len, r.len]; exact Nat.le_refl _, fun i d h => ?_⟩
  rw [see_get] at h
  cases e : env[i]? with
  | none => rw [e] at h; cases h
  | some s =>
    rw [e] at h
    have h' : seeS (M.contains i) s = some d := Option.some.inj h
    have q := r.sl i s e
    cases s with
    | no => cases h'
    | sh d' =>
      cases h'
      obtain ⟨_, u, e1, e2⟩ := q
      exact ⟨u, e1, e2.le (hid_le hdM_le)⟩
    | ow k d' =>
      have h' : (if M.contains i = true then some d' else none) = some d := h'
      split at h'
      · rename_i hm
        cases h'
        obtain ⟨u, e1, e2⟩ := q
        exact ⟨u, e1, e2.rp hdM_le (r.notM hm)⟩
      · cases h'
/-- the slots M frozen -/
def fzF (M : List Nat) (Fs : Nat → List Addr) : Nat → List Addr := fun i => if M.contains i = true then [] else Fs i
theorem hd_fz : hd S (fzF M Fs) A0 = hdM S M Fs A0 := by
  funext a
  simp only [eq_iff_iff]
  constructor
  · rintro (⟨i, h⟩ | h)
    · unfold fzF at h
      split at h
      · exact nomatch h
      · rename_i hm
        exact .inl ⟨i, by simpa using hm, h⟩
    · exact .inr h
  · rintro (⟨i, hm, h⟩ | h)
    · exact .inl ⟨i, by unfold fzF; rw [if_neg (by rw [hm]; decide)]; exact h⟩
    · exact .inr h
theorem Sr.freeze (r : Sr K C S0 S A0 H0 σ H env sto Fs) (M : List Nat) : Sr K C S0 S A0 H0 σ H (fz M env) sto (fzF M Fs) := by
  have sub : ∀ i a, a ∈ fzF M Fs i → a ∈ Fs i := fun i a h => by
    unfold fzF at h
    split at h
    · exact nomatch h
    · exact h
  refine ⟨by unfold fz; rw [fzI_len]; exact r.len, r.s0, r.al0, r.a0S, r.ext, by rw [hd_fz]; exact r.wdM M, fun i => ?_, fun i j a h1 h2 => r.dj i j a (sub i a h1) (sub j a h2), fun i a h => r.fr i a (sub i a h), fun i a h => r.ns i a (sub i a h), fun i s h => ?_, fun i h => ?_, fun a o h => by rw [hd_fz]; exact hid_le hdM_le a o (r.pub a o h)⟩
  · unfold fzF
    split
    · exact .nil
    · exact r.nd i
  · rw [hd_fz]
    rw [fz_get] at h
    cases e : env[i]? with
    | none => rw [e] at h; cases h
    | some t =>
      rw [e] at h
      have h' : fzS (M.contains i) t = s := Option.some.inj h
      have q := r.sl i t e
      cases t with
      | no =>
        cases h'
        exact trivial
      | sh d' =>
        cases h'
        obtain ⟨q1, u, e1, e2⟩ := q
        refine ⟨?_, u, e1, e2.le (hid_le hdM_le)⟩
        unfold fzF
        split
        · rfl
        · exact q1
      | ow k d' =>
        have h' : (if M.contains i = true then Slot.sh d' else .ow k d') = s := h'
        obtain ⟨u, e1, e2⟩ := q
        split at h'
        · rename_i hm
          subst h'
          exact ⟨by unfold fzF; rw [if_pos hm], u, e1, e2.rp hdM_le (r.notM hm)⟩
        · rename_i hm
          subst h'
          refine ⟨u, e1, ?_⟩
          have ef : fzF M Fs i = Fs i := by unfold fzF; rw [if_neg hm]
          rw [ef]
          exact e2.mv (hid_le hdM_le) fun a _ o ho => ho
  · have e : env[i]? = none := by
      rw [fz_get] at h
      cases e : env[i]? with
      | none => rfl
      | some t => rw [e] at h; cases h
    unfold fzF
    split
    · rfl
    · exact r.out i e
/-- the heap went on behind an expression: the slots stand -/
theorem Sr.go (r : Sr K C S0 S A0 H0 σ H env sto Fs) (e : Ext S H H') (w : Wd K S (hd S Fs A0) H' sto') : Sr K C S0 S A0 H0 σ H' env sto' Fs := by
  refine ⟨r.len, r.s0, r.al0, r.a0S, r.ext' e, w, r.nd, r.dj, r.fr, r.ns, fun i s h => ?_, r.out, fun a o h => hid_move e r.wd.hS (fun a h => .inl h) a o (r.pub a o h)⟩
  have q := r.sl i s h
  cases s with
  | no => exact q
  | sh d' =>
    obtain ⟨q1, u, e1, e2⟩ := q
    exact ⟨q1, u, e1, e2.le (hid_move e r.wd.hS fun a h => .inl h)⟩
  | ow k d' =>
    obtain ⟨u, e1, e2⟩ := q
    exact ⟨u, e1, e2.move e r.wd.hS (fun a h => .inl h) fun a ha => r.ns i a ha⟩
/-- a slot takes a result -/
def setF (Fs : Nat → List Addr) (i : Nat) (F : List Addr) : Nat → List Addr := fun j => if j = i then F else Fs j
def mkS (k : Nat) (d : D) : Slot := match k with
  | 0 => .sh d
  | k + 1 => if isScal d = true then .sh d else .ow (k + 1) d
end
end J
namespace J
open PySem PySem.Spec PyProof.Rows L2

/-! ### results that bear nothing but themselves -/
def full : Nat → D → Bool
  | k + 1, .list ds => ds.all (full k)
  | _, d => isScal d
theorem full_zero {d : D} : full 0 d = isScal d := by cases d <;> rfl
theorem full_at {k : Nat} {d : D} (h1 : ∀ ds, d ≠ .list ds) (h : full k d = true) : isScal d = true := by
  cases k with
  | zero => rwa [full_zero] at h
  | succ k =>
    cases d with
    | list ds => exact absurd rfl (h1 ds)
    | _ => exact h
section
variable {K : PySem.W.Frag} {S S' : List Addr} {A A' : Addr → Prop} {H H' : Hp}
mutual
theorem Ow.full : ∀ {k : Nat} {v : V} {d : D} {F : List Addr}, Ow K S A H k v d F → J.full k d = true → Ow K S' A' H k v d F
  | _, _, _, _, .sh r, h => .sh (scal_rp (by rw [full_zero] at h; exact h) r)
  | _, _, _, _, .at h1 h2 r, h => .at h1 h2 (scal_rp (full_at h1 h) r)
  | _, _, _, _, .lst e t, h => .lst e (t.full (by unfold J.full at h; exact h))
theorem OwA.full : ∀ {k : Nat} {vs : List V} {ds : List D} {F : List Addr}, OwA K S A H k vs ds F → ds.all (J.full k) = true → OwA K S' A' H k vs ds F
  | _, _, _, _, .nil, _ => .nil
  | _, _, _, _, .cons a b, h => by
    rw [List.all_cons, Bool.and_eq_true] at h
    exact .cons (a.full h.1) (b.full h.2)
end
theorem scal_full : ∀ {k : Nat} {d : D}, isScal d = true → J.full k d = true
  | 0, d, h => by rw [full_zero]; exact h
  | k + 1, d, h => by
    cases d with
    | list ds => exact nomatch h
    | _ => exact h
theorem Ow.noF {k : Nat} {v : V} {d : D} {F : List Addr} (h : Ow K S A H k v d F) (hs : isScal d = true) : F = [] := by
  cases h with
  | sh r => rfl
  | «at» h1 h2 r => rfl
  | lst e t => exact nomatch hs
theorem Ow.scal {k : Nat} {v : V} {d : D} {F : List Addr} (h : Ow K S A H k v d F) (hs : isScal d = true) : Rp K S' H' v d := by
  cases h with
  | sh r => exact scal_rp hs r
  | «at» h1 h2 r => exact scal_rp hs r
  | lst e t => exact nomatch hs
def scalCell : Cell → Bool
  | .lst ds => ds.all isScal
  | .dct _ es => es.all fun p => isScal p.2
  | .tbl _ => true
def okM (M : List Nat) (s : STO) : Bool := M.isEmpty || s.all scalCell
theorem okM_nil (s : STO) : okM [] s = true := rfl
theorem scal_rpk {K : PySem.W.Frag} {S S' : List Addr} {H H' : Hp} : ∀ {kvs : List (Key × V)} {es : List (D × D)}, (∀ p ∈ es, isScal p.2 = true) → RpK K S H kvs es → RpK K S' H' kvs es
  | _, _, _, .nil => .nil
  | _, _, h, .cons a b => .cons (scal_rp (h _ List.mem_cons_self) a) (scal_rpk (fun x hx => h x (List.mem_cons_of_mem _ hx)) b)
theorem scal_rpt {K : PySem.W.Frag} {S S' : List Addr} {H H' : Hp} : ∀ {kvs : List (List Key × V)} {es : List (D × D)}, (∀ p ∈ es, isScal p.2 = true) → RpT K S H kvs es → RpT K S' H' kvs es
  | _, _, _, .nil => .nil
  | _, _, h, .cons a b => .cons (scal_rp (h _ List.mem_cons_self) a) (scal_rpt (fun x hx => h x (List.mem_cons_of_mem _ hx)) b)
/-- more is hidden behind a step that did not -/
theorem Wd.wide {A2 : Addr → Prop} {sto sto' : STO} (w2 : Wd K S A2 H sto) (x : Ext S H H') (w : Wd K S A H' sto') (g : A2 = A ∨ sto'.all scalCell = true) : Wd K S A2 H' sto' := by
  rcases g with rfl | g
  · exact w
  · refine ⟨fun a ha => ?_, w2.hS, w.nds, w.len, fun i a c h1 h2 => ?_⟩
    · by_cases e : a ∈ S
      · exact w.al a (w.hS a e)
      · cases q : H a with
        | none => exact absurd q (w2.al a ha)
        | some o => rw [x a o e q]; exact fun z => nomatch z
    · have ok := w.st i a c h1 h2
      have hc : scalCell c = true := List.all_eq_true.mp g c (List.mem_of_getElem? h2)
      cases c with
      | lst ds => obtain ⟨vs, q1, q2⟩ := ok; exact ⟨vs, q1, scal_rpa (fun x hx => List.all_eq_true.mp hc x hx) q2⟩
      | dct t es =>
        cases t with
        | false => obtain ⟨kvs, q1, q2⟩ := ok; exact ⟨kvs, q1, scal_rpk (fun x hx => List.all_eq_true.mp hc x hx) q2⟩
        | true => obtain ⟨kvs, q1, q2⟩ := ok; exact ⟨kvs, q1, scal_rpt (fun x hx => List.all_eq_true.mp hc x hx) q2⟩
      | tbl q => exact ok
theorem Res.full {sto sto' : STO} {k : Nat} {v : V} {d : D} {F : List Addr} {A2 : Addr → Prop} (h : J.full k d = true) (r : Res K S A H sto' k H' v d F) (w2 : Wd K S A2 H sto) (g : A2 = A ∨ sto'.all scalCell = true) : Res K S A2 H sto' k H' v d F := by
  rcases g with rfl | g
  · exact r
  · refine ⟨r.ext, ⟨fun a ha => ?_, fun a e => .inr (w2.hS a e), r.wd.nds, r.wd.len, fun i a c h1 h2 => ?_⟩, r.nd, r.fr, r.ow.full h⟩
    · rcases ha with ha | ha
      · exact r.wd.al a (.inl ha)
      · by_cases e : a ∈ S
        · exact r.wd.al a (r.wd.hS a e)
        · cases q : H a with
          | none => exact absurd q (w2.al a ha)
          | some o => rw [r.ext a o e q]; exact fun z => nomatch z
    · have ok := r.wd.st i a c h1 h2
      have hc : scalCell c = true := List.all_eq_true.mp g c (List.mem_of_getElem? h2)
      cases c with
      | lst ds => obtain ⟨vs, q1, q2⟩ := ok; exact ⟨vs, q1, scal_rpa (fun x hx => List.all_eq_true.mp hc x hx) q2⟩
      | dct t es =>
        cases t with
        | false => obtain ⟨kvs, q1, q2⟩ := ok; exact ⟨kvs, q1, scal_rpk (fun x hx => List.all_eq_true.mp hc x hx) q2⟩
        | true => obtain ⟨kvs, q1, q2⟩ := ok; exact ⟨kvs, q1, scal_rpt (fun x hx => List.all_eq_true.mp hc x hx) q2⟩
      | tbl q => exact ok
end

/-! ### a slot is set -/
section
variable {K : PySem.W.Frag} {C : Hp} {S0 S : List Addr} {A0 : Addr → Prop} {H0 H H' : Hp} {σ : Sg} {env : Env} {sto sto' : STO} {Fs : Nat → List Addr} {M : List Nat} {k : Nat} {v : V} {d : D} {F : List Addr} {i : Nat}
theorem Sr.old (r : Sr K C S0 S A0 H0 σ H env sto Fs) {a : Addr} (h : H a = none) : H0 a = none := by
  refine none_of_ext r.ext (fun e => ?_) h
  obtain ⟨S1, q, _⟩ := r.s0
  exact r.wd.al a (.inr (.inr (by rw [q]; exact List.mem_append_left _ e))) h
theorem Sr.inS0 (r : Sr K C S0 S A0 H0 σ H env sto Fs) {b : Addr} {o : HO} (z : b ∈ S) (hbo : H0 b = some o) : b ∈ S0 := by
  obtain ⟨S1, q, q2⟩ := r.s0
  rw [q] at z
  rcases List.mem_append.mp z with z | z
  · exact z
  · rw [q2 b z] at hbo; cases hbo
theorem hd_set (r : Sr K C S0 S A0 H0 σ H env sto Fs) : ∀ a, hd S (setF Fs i F) A0 a → a ∈ F ∨ hd S Fs A0 a := fun a h => by
  rcases h with ⟨j, h⟩ | h
  · unfold setF at h
    split at h
    · exact .inl h
    · exact .inr (.inl ⟨j, h⟩)
  · exact .inr (.inr h)
/-- what a slot takes: the general step; what it owned before may have been changed -/
theorem Sr.mut (r : Sr K C S0 S A0 H0 σ H env sto Fs) (hi : i < env.length) (e : ∀ b o, b ∉ S → b ∉ Fs i → H b = some o → H' b = some o) (w : Wd K S (plus F (hd S Fs A0)) H' sto') (nd : F.Nodup) (fr : ∀ a ∈ F, H a = none ∨ a ∈ Fs i) {s : Slot} {ov : Option V}
    (hs : SlotOk K S (hd S (setF Fs i F) A0) H' (some ov) F s) : Sr K C S0 S A0 H0 (σ.set i ov) H' (env.set i s) sto' (setF Fs i F) := by
  have hiσ : i < σ.length := by rw [← r.len]; exact hi
  have hnew : ∀ a, hd S (setF Fs i F) A0 a → hd S Fs A0 a ∨ H a = none := fun a h => by
    rcases hd_set r a h with h | h
    · rcases fr a h with h | h
      · exact .inr h
      · exact .inl (.inl ⟨i, h⟩)
    · exact .inl h
  have hm : Same (hid (hd S Fs A0) H) (hid (hd S (setF Fs i F) A0) H') := fun a o q => by
    rw [hid_eq] at q ⊢
    refine ⟨fun z => ?_, e a o (fun z => q.1 (.inr (.inr z))) (fun z => q.1 (.inl ⟨i, z⟩)) q.2⟩
    rcases hnew a z with z | z
    · exact q.1 z
    · rw [z] at q; exact nomatch q.2
  have hx : Ext S0 H0 H' := fun b o hb hbo => by
    refine e b o (fun z => ?_) (fun z => ?_) (r.ext b o hb hbo)
    · exact hb (r.inS0 z hbo)
    · rw [r.fr i b z] at hbo; cases hbo
  refine ⟨by rw [List.length_set, List.length_set]; exact r.len, r.s0, r.al0, r.a0S, hx, w.less (hd_set r) (fun a e => .inr (.inr e)), fun j => ?_, fun j l a h1 h2 => ?_, fun j a h => ?_, fun j a h => ?_, fun j t h => ?_, fun j h => ?_, fun a o h => hm a o (r.pub a o h)⟩
  · unfold setF
    split
    · exact nd
    · exact r.nd j
  · unfold setF at h1 h2
    split at h1 <;> split at h2
    · rename_i e1 e2; rw [e1, e2]
    · rename_i e1 e2
      rcases fr a h1 with h | h
      · exact absurd h (r.wd.al a (.inl ⟨l, h2⟩))
      · exact e1.trans (r.dj i l a h h2)
    · rename_i e1 e2
      rcases fr a h2 with h | h
      · exact absurd h (r.wd.al a (.inl ⟨j, h1⟩))
      · exact (r.dj j i a h1 h).trans e2.symm
    · exact r.dj j l a h1 h2
  · unfold setF at h
    split at h
    · rcases fr a h with h | h
      · exact r.old h
      · exact r.fr i a h
    · exact r.fr j a h
  · unfold setF at h
    split at h
    · rcases fr a h with h | h
      · exact r.wd.live h
      · exact r.ns i a h
    · exact r.ns j a h
  · by_cases c : j = i
    · subst c
      rw [List.getElem?_set, if_pos rfl, if_pos hi] at h
      cases h
      rw [List.getElem?_set, if_pos rfl, if_pos hiσ]
      have : setF Fs j F j = F := by unfold setF; rw [if_pos rfl]
      rw [this]
      exact hs
    · rw [List.getElem?_set_ne (Ne.symm c)] at h ⊢
      have : setF Fs i F j = Fs j := by unfold setF; rw [if_neg c]
      rw [this]
      have q := r.sl j t h
      cases t with
      | no => exact q
      | sh d' =>
        obtain ⟨q1, u, e1, e2⟩ := q
        exact ⟨q1, u, e1, e2.le hm⟩
      | ow k d' =>
        obtain ⟨u, e1, e2⟩ := q
        exact ⟨u, e1, e2.mv hm fun a ha o q => e a o (r.ns j a ha) (fun z => c (r.dj j i a ha z)) q⟩
  · rw [List.getElem?_eq_none_iff, List.length_set] at h
    have c : j ≠ i := by omega
    unfold setF
    rw [if_neg c]
    exact r.out j (List.getElem?_eq_none h)
/-- a slot takes what is new -/
theorem Sr.take (r : Sr K C S0 S A0 H0 σ H env sto Fs) (hi : i < env.length) (e : Ext S H H') (w : Wd K S (plus F (hd S Fs A0)) H' sto') (nd : F.Nodup) (fr : ∀ a ∈ F, H a = none) {s : Slot} {ov : Option V}
    (hs : SlotOk K S (hd S (setF Fs i F) A0) H' (some ov) F s) : Sr K C S0 S A0 H0 (σ.set i ov) H' (env.set i s) sto' (setF Fs i F) :=
  r.mut hi (fun b o h _ q => e b o h q) w nd (fun a h => .inl (fr a h)) hs
/-- a slot takes a result -/
theorem Sr.put (r : Sr K C S0 S A0 H0 σ H env sto Fs) (hi : i < env.length) (rs : Res K S (hd S Fs A0) H sto' k H' v d F) : Sr K C S0 S A0 H0 (σ.set i (some v)) H' (env.set i (mkS k d)) sto' (setF Fs i F) := by
  refine r.take hi rs.ext rs.wd rs.nd rs.fr ?_
  have le : Same (hid (plus F (hd S Fs A0)) H') (hid (hd S (setF Fs i F) A0) H') := hid_le (hd_set r)
  have ow := rs.ow
  cases k with
  | zero =>
    cases ow with
    | sh q => exact ⟨rfl, v, rfl, q.le le⟩
  | succ k =>
    by_cases h : isScal d = true
    · rw [show mkS (k + 1) d = .sh d from if_pos h]
      exact ⟨ow.noF h, v, rfl, ow.scal h⟩
    · rw [show mkS (k + 1) d = .ow (k + 1) d from if_neg h]
      exact ⟨v, rfl, ow.mv le fun a _ o q => q⟩
/-- a slot takes what is given to all -/
theorem Sr.putS (r : Sr K C S0 S A0 H0 σ H env sto Fs) (hi : i < env.length) (p : Rp K S (hid (hd S Fs A0) H) v d) : Sr K C S0 S A0 H0 (σ.set i (some v)) H (env.set i (.sh d)) sto (setF Fs i []) :=
  r.put (k := 0) hi ⟨Ext.refl, by rw [plus_nil]; exact r.wd, .nil, noF, .sh (by rw [plus_nil]; exact p)⟩
/-- a slot is not looked at any more -/
theorem Sr.drop (r : Sr K C S0 S A0 H0 σ H env sto Fs) (hi : i < env.length) (ov : Option V) : Sr K C S0 S A0 H0 (σ.set i ov) H (env.set i .no) sto (setF Fs i []) :=
  r.take hi Ext.refl (by rw [plus_nil]; exact r.wd) .nil noF trivial
def setE (env : Env) : List (Nat × D) → Env
  | [] => env
  | (i, d) :: r => setE (env.set i (.sh d)) r
theorem setE_len : ∀ (l : List (Nat × D)) (env : Env), (setE env l).length = env.length
  | [], σ => rfl
  | (i, v) :: r, σ => by rw [setE, setE_len r, List.length_set]
def allLt (n : Nat) (l : List (Nat × D)) : Bool := l.all fun p => decide (p.1 < n)
theorem Sr.putL : ∀ {l : List (Nat × D)} {vl : List (Nat × V)} {σ : Sg} {env : Env} {Fs : Nat → List Addr}, Sr K C S0 S A0 H0 σ H env sto Fs → allLt env.length l = true → SlotsR K S (hid (hd S Fs A0) H) vl l → ∃ Fs', Sr K C S0 S A0 H0 (setS σ vl) H (setE env l) sto Fs' ∧ ∀ a, hd S Fs' A0 a → hd S Fs A0 a
  | [], _, σ, env, Fs, r, _, .nil => ⟨Fs, r, fun _ h => h⟩
  | (j, d) :: l, _, σ, env, Fs, r, hl, .cons (a := (i, v)) e t => by
    obtain ⟨rfl, p⟩ := e
    rw [allLt, List.all_cons, Bool.and_eq_true] at hl
    have r1 := r.putS (of_decide_eq_true hl.1) p
    have sub : ∀ a, hd S (setF Fs i []) A0 a → hd S Fs A0 a := fun a h => by
      rcases h with ⟨j, h⟩ | h
      · unfold setF at h
        split at h
        · exact nomatch h
        · exact .inl ⟨j, h⟩
      · exact .inr h
    have mono : ∀ {vl : List (Nat × V)} {l : List (Nat × D)}, SlotsR K S (hid (hd S Fs A0) H) vl l → SlotsR K S (hid (hd S (setF Fs i []) A0) H) vl l := fun h => by
      induction h with
      | nil => exact .nil
      | cons e t ih => exact .cons ⟨e.1, e.2.le (hid_le sub)⟩ ih
    obtain ⟨Fs', r2, s2⟩ := Sr.putL (l := l) r1 (by rw [allLt, List.length_set]; exact hl.2) (mono t)
    exact ⟨Fs', r2, fun a h => sub a (s2 a h)⟩

/-! ### an expression within a statement -/
def fzIf (k : Nat) (d : D) (M : List Nat) (s : STO) (env : Env) : Env := if (full k d && okM M s) = true then env else fz M env
/-- the same behind a test -/
def fzT (M : List Nat) (s : STO) (env : Env) : Env := if okM M s = true then env else fz M env
theorem fzIf_len (k : Nat) (d : D) (M : List Nat) (s : STO) (env : Env) : (fzIf k d M s env).length = env.length := by
  unfold fzIf
  split
  · rfl
  · unfold fz; rw [fzI_len]
theorem fzT_len (M : List Nat) (s : STO) (env : Env) : (fzT M s env).length = env.length := by
  unfold fzT
  split
  · rfl
  · unfold fz; rw [fzI_len]
theorem okM_g {M : List Nat} {s : STO} (h : okM M s = true) : hd S Fs A0 = hdM S M Fs A0 ∨ s.all scalCell = true := by
  unfold okM at h
  rw [Bool.or_eq_true] at h
  rcases h with h | h
  · left
    have : M = [] := List.isEmpty_iff.mp h
    subst this
    funext a
    simp only [eq_iff_iff]
    constructor
    · rintro (⟨i, h⟩ | h)
      · exact .inl ⟨i, rfl, h⟩
      · exact .inr h
    · exact hdM_le a
  · exact .inr h
theorem Sr.evalR (r : Sr K C S0 S A0 H0 σ H env sto Fs) (rs : Res K S (hdM S M Fs A0) H sto' k H' v d F) : ∃ Fs', Sr K C S0 S A0 H0 σ H (fzIf k d M sto' env) sto Fs' ∧ Res K S (hd S Fs' A0) H sto' k H' v d F := by
  by_cases h : (full k d && okM M sto') = true
  · have h' := h
    rw [Bool.and_eq_true] at h'
    exact ⟨Fs, by unfold fzIf; rw [if_pos h]; exact r, rs.full h'.1 r.wd (okM_g h'.2)⟩
  · exact ⟨fzF M Fs, by unfold fzIf; rw [if_neg h]; exact r.freeze M, by rw [hd_fz]; exact rs⟩
theorem Sr.eval {X : Cx} {e : Expr} {f : Ev} {Q : VK} (r : Sr X.K C S0 S A0 H0 σ H env sto Fs) (h : JP X e f k) (q : f (see M env) sto = some (d, sto'))
    (z : ∀ v H' F Fs', Sr X.K C S0 S A0 H0 σ H (fzIf k d M sto' env) sto Fs' → Res X.K S (hd S Fs' A0) H sto' k H' v d F → Q v H') : wpE X e σ H Q :=
  h _ S σ H _ sto d sto' Q (r.wdM M) (r.rdM M) q fun v H' F rs => by
    obtain ⟨Fs', r2, rs2⟩ := r.evalR rs
    exact z v H' F Fs' r2 rs2
/-- the store behind a reading -/
theorem Sr.goM (r : Sr K C S0 S A0 H0 σ H env sto Fs) (x : Ext S H H') (w : Wd K S (hdM S M Fs A0) H' sto') : ∃ Fs', Sr K C S0 S A0 H0 σ H' (fzT M sto' env) sto' Fs' := by
  by_cases h : okM M sto' = true
  · exact ⟨Fs, by unfold fzT; rw [if_pos h]; exact r.go x (r.wd.wide x w (okM_g h))⟩
  · exact ⟨fzF M Fs, by unfold fzT; rw [if_neg h]; exact (r.freeze M).go x (by rw [hd_fz]; exact w)⟩
theorem Sr.test {X : Cx} {e : Expr} {f : EvT} {b : Bool} {Q : Bool → Hp → Prop} (r : Sr X.K C S0 S A0 H0 σ H env sto Fs) (h : JT X e f) (q : f (see M env) sto = some (b, sto'))
    (z : ∀ H' Fs', Sr X.K C S0 S A0 H0 σ H' (fzT M sto' env) sto' Fs' → Q b H') : wpT X e σ H Q :=
  h _ S σ H _ sto b sto' Q (r.wdM M) (r.rdM M) q fun H' x w => by
    obtain ⟨Fs', r2⟩ := r.goM x w
    exact z H' Fs' r2

/-! ### statements -/
inductive Out where
  | nx
  | rt (d : D)
  | bk
  | ct
abbrev Sv := Env → STO → Option (Out × Env × STO)
/-- what is known behind a return -/
def RtR (K : PySem.W.Frag) (S0 : List Addr) (A0 : Addr → Prop) (H0 H' : Hp) (k : Nat) (v : V) (d : D) (sto' : STO) : Prop :=
  ∃ S F, (∃ S1, S = S0 ++ S1 ∧ ∀ a ∈ S1, H0 a = none) ∧ Ext S0 H0 H' ∧ (∀ a, A0 a → H0 a ≠ none) ∧ (∀ a, a ∈ S0 → A0 a) ∧ Wd K S (fun a => a ∈ F ∨ A0 a ∨ a ∈ S) H' sto' ∧ F.Nodup ∧ (∀ a ∈ F, H0 a = none) ∧ (∀ a ∈ F, a ∉ S) ∧ Ow K S (fun a => a ∈ F ∨ A0 a ∨ a ∈ S) H' k v d F
def OutOk (K : PySem.W.Frag) (C : Hp) (S0 : List Addr) (A0 : Addr → Prop) (H0 : Hp) (k : Nat) (E : Ends) : Out → Env → STO → Prop
  | .nx, env, sto => ∀ S σ H Fs, Sr K C S0 S A0 H0 σ H env sto Fs → E.nx σ H
  | .bk, env, sto => ∀ S σ H Fs, Sr K C S0 S A0 H0 σ H env sto Fs → E.bk σ H
  | .ct, env, sto => ∀ S σ H Fs, Sr K C S0 S A0 H0 σ H env sto Fs → E.ct σ H
  | .rt d, _, sto => ∀ v H, RtR K S0 A0 H0 H k v d sto → E.rt v H
def JS (Z : List Addr → Prop) (X : Cx) (st : Stmt) (g : Sv) (k : Nat) : Prop := ∀ C S0 S A0 H0 σ H env sto Fs o env' sto' (E : Ends), Z S0 → Sr X.K C S0 S A0 H0 σ H env sto Fs → g env sto = some (o, env', sto') → OutOk X.K C S0 A0 H0 k E o env' sto' → wpS X st E σ H
def JSs (Z : List Addr → Prop) (X : Cx) (sts : List Stmt) (g : Sv) (k : Nat) : Prop := ∀ C S0 S A0 H0 σ H env sto Fs o env' sto' (E : Ends), Z S0 → Sr X.K C S0 S A0 H0 σ H env sto Fs → g env sto = some (o, env', sto') → OutOk X.K C S0 A0 H0 k E o env' sto' → wpSs X sts E σ H
def sNil : Sv := fun env s => some (.nx, env, s)
def sSeq (g h : Sv) : Sv := fun env s => (g env s).bind fun p => match p.1 with
  | .nx => h p.2.1 p.2.2
  | o => some (o, p.2)
def sNever : Sv := fun _ _ => none
end
section
variable {Z : List Addr → Prop} {X : Cx} {st : Stmt} {rest body orelse : List Stmt} {e c : Expr} {f : Ev} {g h : Sv} {t : EvT} {j k n i : Nat} {pos p p2 : Pos} {x : Str}
theorem jss_nil : JSs Z X [] sNil k := fun C S0 S A0 H0 σ H env sto Fs o env' sto' E hZ r q z => by
  cases q
  exact wpSs.by pss_nil (z S σ H Fs r)
theorem jss_cons (h1 : JS Z X st g k) (h2 : JSs Z X rest h k) : JSs Z X (st :: rest) (sSeq g h) k := fun C S0 S A0 H0 σ H env sto Fs o env' sto' E hZ r q z => by
  unfold sSeq at q
  obtain ⟨⟨o1, e1, s1⟩, q1, q⟩ := bind_some' q
  refine wpSs.by (pss_cons wpS_ps wpSs_pss) (h1 C S0 S A0 H0 σ H env sto Fs o1 e1 s1 _ hZ r q1 ?_)
  cases o1 with
  | nx => exact fun S' σ' H' Fs' r' => h2 C S0 S' A0 H0 σ' H' e1 s1 Fs' o env' sto' E hZ r' q z
  | rt d => cases q; exact z
  | bk => cases q; exact z
  | ct => cases q; exact z
theorem js_never : JS Z X st sNever k := fun C S0 S A0 H0 σ H env sto Fs o env' sto' E hZ r q z => nomatch q
theorem js_pass : JS Z X (.Pass pos) sNil k := fun C S0 S A0 H0 σ H env sto Fs o env' sto' E hZ r q z => by
  cases q
  exact wpS.by ps_pass (z S σ H Fs r)
def sBrk : Sv := fun env s => some (.bk, env, s)
def sCnt : Sv := fun env s => some (.ct, env, s)
theorem js_break : JS Z X (.Break pos) sBrk k := fun C S0 S A0 H0 σ H env sto Fs o env' sto' E hZ r q z => by
  cases q
  exact wpS.by ps_break (z S σ H Fs r)
theorem js_continue : JS Z X (.Continue pos) sCnt k := fun C S0 S A0 H0 σ H env sto Fs o env' sto' E hZ r q z => by
  cases q
  exact wpS.by ps_continue (z S σ H Fs r)
/-- name = e -/
def sSet (i k : Nat) (M : List Nat) (f : Ev) : Sv := fun env s => if i < env.length then (f (see M env) s).map fun p => (.nx, (fzIf k p.1 M p.2 env).set i (mkS k p.1), p.2) else none
theorem js_set {M : List Nat} (he : JP X e f j) (hN : X.N.Nodup) (hi : X.N[i]? = some x) (hx : Loc X.env.scope x) (hs : swapsWith e (some (.Name x p)) pos.line X.env = pure false := by rfl) (hf : X.fn x = true ∨ X.env.scope.names.lookup x = some .local := by first | exact .inl rfl | exact .inr rfl | assumption) :
    JS Z X (.Assign [.Name x p] e pos) (sSet i j M f) k := fun C S0 S A0 H0 σ H env sto Fs o env' sto' E hZ r q z => by
  unfold sSet at q
  split at q
  case isFalse => cases q
  rename_i hlt
  obtain ⟨⟨d, s1⟩, q1, q⟩ := map_some' q
  cases q
  refine wpS.by (ps_set hN hi hx wpE_pe hs hf) (r.eval he q1 fun v H' F Fs' r2 rs => ?_)
  exact z S _ _ _ (r2.put (by rw [fzIf_len]; exact hlt) rs)
/-- name = [e for ..] -/
theorem js_comp {M : List Nat} {tg it elt : Expr} {ifs : List Expr} {scope : Scope} {own : List (Str × Nat)} {cpos : Pos} {fi : EvI} {bd : Bd} {fc : EvT} {fe : Ev} (hc : X.calm = true) (hN : X.N.Nodup) (hy : X.N[i]? = some x) (hyl : X.env.scope.names.lookup x = some .local)
    (hsw : swapsWith (.ListComp elt [⟨tg, it, ifs, 0⟩] scope cpos) (some (.Name x p)) pos.line X.env = pure true)
    (hi : JI X tg it fi) (ok : BlkOk X.N X.env.scope scope own) (hg : JG X scope tg bd) (ht : JTs X scope ifs fc) (he : JPB X scope elt fe j) (hown : ∀ d l, bd d = some l → ∀ p ∈ l, p.1 ∈ own.map (·.2))
    (hs : ∀ x, foldedSetIterable it X.env x = pure x) : JS Z X (.Assign [.Name x p] (.ListComp elt [⟨tg, it, ifs, 0⟩] scope cpos) pos) (sSet i (j + 1) M (eComp fi bd fc fe (own.map (·.2)))) k := fun C S0 S A0 H0 σ H env sto Fs o env' sto' E hZ r q z => by
  obtain ⟨g, hg1, hg2⟩ := hg
  obtain ⟨t, ht1, ht2⟩ := ht
  unfold sSet at q
  split at q
  case isFalse => cases q
  rename_i hlt
  obtain ⟨⟨d, s1⟩, q1, q⟩ := map_some' q
  cases q
  refine wpS.by (ps_setLc hc hN hy hyl hsw wpI_pi ok hg1 ht1 wpEB_pe hs) ?_
  refine comp_read hi hg2 ht2 he hown (r.wdM M) (r.rdM M) q1 fun v H' F rs => ?_
  obtain ⟨Fs', r2, rs2⟩ := r.evalR rs
  exact z S _ _ _ (r2.put (by rw [fzIf_len]; exact hlt) rs2)
/-- the same, to be shared -/
theorem js_comp0 {M : List Nat} {tg it elt : Expr} {ifs : List Expr} {scope : Scope} {own : List (Str × Nat)} {cpos : Pos} {fi : EvI} {bd : Bd} {fc : EvT} {fe : Ev} (hc : X.calm = true) (hN : X.N.Nodup) (hy : X.N[i]? = some x) (hyl : X.env.scope.names.lookup x = some .local)
    (hsw : swapsWith (.ListComp elt [⟨tg, it, ifs, 0⟩] scope cpos) (some (.Name x p)) pos.line X.env = pure true)
    (hi : JI X tg it fi) (ok : BlkOk X.N X.env.scope scope own) (hg : JG X scope tg bd) (ht : JTs X scope ifs fc) (he : JPB X scope elt fe j) (hown : ∀ d l, bd d = some l → ∀ p ∈ l, p.1 ∈ own.map (·.2))
    (hs : ∀ x, foldedSetIterable it X.env x = pure x) : JS Z X (.Assign [.Name x p] (.ListComp elt [⟨tg, it, ifs, 0⟩] scope cpos) pos) (sSet i 0 M (eComp fi bd fc fe (own.map (·.2)))) k := fun C S0 S A0 H0 σ H env sto Fs o env' sto' E hZ r q z => by
  obtain ⟨g, hg1, hg2⟩ := hg
  obtain ⟨t, ht1, ht2⟩ := ht
  unfold sSet at q
  split at q
  case isFalse => cases q
  rename_i hlt
  obtain ⟨⟨d, s1⟩, q1, q⟩ := map_some' q
  cases q
  refine wpS.by (ps_setLc hc hN hy hyl hsw wpI_pi ok hg1 ht1 wpEB_pe hs) ?_
  refine comp_read hi hg2 ht2 he hown (r.wdM M) (r.rdM M) q1 fun v H' F rs0 => ?_
  have rs := rs0.zero (r.wdM M)
  obtain ⟨Fs', r2, rs2⟩ := r.evalR rs
  exact z S _ _ _ (r2.put (by rw [fzIf_len]; exact hlt) rs2)
/-- an expression whose value is dropped -/
def sEx (M : List Nat) (f : Ev) : Sv := fun env s => (f (see M env) s).map fun p => (.nx, fzT M p.2 env, p.2)
/-- return e -/
def sRet (M : List Nat) (f : Ev) : Sv := fun env s => (f (see M env) s).map fun p => (.rt p.1, env, p.2)
theorem js_ret {M : List Nat} (he : JP X e f k) : JS Z X (.Return (some e) pos) (sRet M f) k := fun C S0 S A0 H0 σ H env sto Fs o env' sto' E hZ r q z => by
  unfold sRet at q
  obtain ⟨⟨d, s1⟩, q1, q⟩ := map_some' q
  cases q
  refine wpS.by (ps_ret wpE_pe) (r.eval he q1 fun v H' F Fs' r2 rs => z v H' ?_)
  have le : ∀ a, (a ∈ F ∨ A0 a ∨ a ∈ S) → plus F (hd S Fs' A0) a := fun a h => h.imp id .inr
  exact ⟨S, F, r2.s0, r2.ext' rs.ext, r.al0, r.a0S, rs.wd.less le fun a e => .inr (.inr e), rs.nd, fun a ha => r2.old (rs.fr a ha), fun a ha => r2.wd.live (rs.fr a ha), rs.ow.mv (hid_le le) fun a _ o q => q⟩
def sRetN : Sv := fun env s => some (.rt .none, env, s)
theorem js_retN : JS Z X (.Return none pos) sRetN k := fun C S0 S A0 H0 σ H env sto Fs o env' sto' E hZ r q z => by
  cases q
  refine wpS.by ps_retN (z .non H ?_)
  have le : ∀ a, (a ∈ ([] : List Addr) ∨ A0 a ∨ a ∈ S) → hd S Fs A0 a := fun a h => by
    rcases h with h | h
    · exact nomatch h
    · exact .inr h
  exact ⟨S, [], r.s0, r.ext, r.al0, r.a0S, r.wd.less le fun a e => .inr (.inr e), .nil, noF, noF, .atom atomic_none .non⟩
/-- return name, owned -/
def sRetM (i k : Nat) : Sv := fun env s => match env[i]? with
  | some (.ow j d) => if j = k then some (.rt d, env, s) else none
  | _ => none
theorem js_retM (he : X.N[i]? = some x) (hx : Vis X.env.scope x) (hdb : (x == Str.ofString "__debug__") = false := by decide) (hcd : (x == Str.ofString "__classdict__") = false := by decide) : JS Z X (.Return (some (.Name x p)) pos) (sRetM i k) k := fun C S0 S A0 H0 σ H env sto Fs o env' sto' E hZ r q z => by
  unfold sRetM at q
  split at q
  case h_2 => cases q
  rename_i j d he1
  split at q
  case isFalse => cases q
  rename_i hjk
  subst hjk
  cases q
  obtain ⟨u, e1, e2⟩ := r.sl i _ he1
  refine wpS.by (ps_ret (pe_var he hx hdb hcd)) ⟨u, e1, z u H ?_⟩
  have le : ∀ a, (a ∈ Fs i ∨ A0 a ∨ a ∈ S) → hd S Fs A0 a := fun a h => h.imp (fun h => ⟨i, h⟩) id
  exact ⟨S, Fs i, r.s0, r.ext, r.al0, r.a0S, r.wd.less le fun a e => .inr (.inr e), r.nd i, fun a ha => r.fr i a ha, fun a ha => r.ns i a ha, e2.mv (hid_le le) fun a _ o q => q⟩
/-- if -/
def sIf (M : List Nat) (t : EvT) (g h : Sv) : Sv := fun env s => (t (see M env) s).bind fun p => if p.1 = true then g (fzT M p.2 env) p.2 else h (fzT M p.2 env) p.2
theorem js_if {M : List Nat} (hc : JT X c t) (ha : JSs Z X body g k) (hb : JSs Z X orelse h k) : JS Z X (.If c body orelse pos) (sIf M t g h) k := fun C S0 S A0 H0 σ H env sto Fs o env' sto' E hZ r q z => by
  unfold sIf at q
  obtain ⟨⟨b, s1⟩, q1, q⟩ := bind_some' q
  refine wpS.by (ps_if wpT_pt wpSs_pss wpSs_pss) (r.test hc q1 fun H' Fs2 r2 => ?_)
  cases b with
  | true =>
    rw [if_pos rfl]
    exact ha C S0 S A0 H0 σ H' _ s1 Fs2 o env' sto' E hZ r2 (by simpa using q) z
  | false =>
    rw [if_neg Bool.false_ne_true]
    exact hb C S0 S A0 H0 σ H' _ s1 Fs2 o env' sto' E hZ r2 (by simpa using q) z
end
end J
namespace J
open PySem PySem.Spec PyProof.Rows L2

/-! ### data without the token -/
mutual
def noTok : D → Bool
  | .list ds => noTokA ds
  | .tuple ds => noTokA ds
  | .dict es => (match es with
    | [(.none, .int _)] => false
    | _ => true) && noTokE es
  | _ => true
def noTokA : List D → Bool
  | [] => true
  | d :: r => noTok d && noTokA r
def noTokE : List (D × D) → Bool
  | [] => true
  | (_, d) :: r => noTok d && noTokE r
end
section
variable {K : PySem.W.Frag} {S S' : List Addr} {H : Hp}
theorem Rp.retok {v : V} {d : D} (h : Rp K S H v d) : noTok d = true → Rp K S' H v d :=
  Rp.rec (motive_1 := fun v d _ => noTok d = true → Rp K S' H v d) (motive_2 := fun v d _ => noTokA d = true → RpA K S' H v d) (motive_3 := fun v d _ => noTokE d = true → RpK K S' H v d) (motive_4 := fun v d _ => noTokE d = true → RpT K S' H v d)
    (fun _ => .non) (fun b _ => .bl b) (fun i _ => .int i) (fun x _ => .str x) (fun s _ h e => .lst s (h (by rw [noTok] at e; exact e))) (fun s _ h e => .tup s (h (by rw [noTok] at e; exact e)))
    (fun s _ h e => .dK s (h (by simp only [noTok, Bool.and_eq_true] at e; exact e.2))) (fun s _ h e => .dT s (h (by simp only [noTok, Bool.and_eq_true] at e; exact e.2))) (fun s e => by rw [tokD, noTok] at e; simp at e) (fun s _ h e => .sk s (h (by simp only [skD, noTok, noTokE, Bool.and_eq_true] at e; exact e.2.1)))
    (fun _ => .nil) (fun _ _ a b e => by rw [noTokA, Bool.and_eq_true] at e; exact .cons (a e.1) (b e.2)) (fun _ => .nil) (fun _ _ a b e => by rw [noTokE, Bool.and_eq_true] at e; exact .cons (a e.1) (b e.2)) (fun _ => .nil) (fun _ _ a b e => by rw [noTokE, Bool.and_eq_true] at e; exact .cons (a e.1) (b e.2)) h
end

section
variable {K : PySem.W.Frag} {C C' : Hp} {S0 S : List Addr} {A0 A A2 : Addr → Prop} {H0 H H' : Hp} {σ : Sg} {env : Env} {sto sto' : STO} {Fs : Nat → List Addr} {M : List Nat} {k j k1 k2 : Nat} {v w : V} {d e : D} {F G : List Addr} {i : Nat}
theorem Sr.back (r : Sr K C' S0 S A0 H0 σ H env sto Fs) (h : Same C C') : Sr K C S0 S A0 H0 σ H env sto Fs := { r with pub := fun a o q => r.pub a o (h a o q) }
theorem Sr.chk (r : Sr K C S0 S A0 H0 σ H env sto Fs) : Sr K (hid (hd S Fs A0) H) S0 S A0 H0 σ H env sto Fs := { r with pub := fun _ _ h => h }

/-! ### for -/
def forL (bd : Bd) (body : Sv) : List D → Sv
  | [], env, s => some (.nx, env, s)
  | d :: r, env, s => (bd d).bind fun l => if allLt env.length l = true ∧ noTok d = true then (body (setE env l) s).bind fun p => match p.1 with
      | .nx => forL bd body r p.2.1 p.2.2
      | .ct => forL bd body r p.2.1 p.2.2
      | .bk => some (.nx, p.2)
      | .rt d => some (.rt d, p.2)
    else none
theorem forL_walk {X : Cx} {Z : List Addr → Prop} {bd : Bd} {body : List Stmt} {gb : Sv} {g : TG} {ds : List D} {J : It} {o : Out} {env' : Env} {E : Ends} (hZ : Z S0)
    (r : Sr X.K C S0 S A0 H0 σ H env sto Fs) (wk : Walk J ds.length (fun H1 => Same (hid (hd S Fs A0) H) H1) (YD X.K S (hd S Fs A0) H ds)) (hg : gSpec X.K g bd) (hb : JSs Z X body gb k)
    (q : forL bd gb ds env sto = some (o, env', sto')) (z : OutOk X.K C S0 A0 H0 k E o env' sto') :
    ∃ W : Nat → Nat → L2.St → Hp → Prop, (∃ m, W 0 m σ H) ∧ ∀ i m σ H, W i m σ H →
      (J.stop i H ∧ E.nx σ H) ∨ (J.go i H ∧ ∃ N : L2.St → Hp → Prop, (∀ σ' H', N σ' H' → ∃ m', m' < m ∧ W (i + 1) m' σ' H') ∧ ∀ x H', J.yld i H x H' → g x σ H' fun σ2 H2 => wpSs X body { E with nx := N, ct := N, bk := E.nx } σ2 H2) := by
  have r0 := r.chk
  refine for_it wk (tb := wpSs X body) (D := E) (fun i σ Hi => ∃ env1 s1 S1 Fs1, Sr X.K (hid (hd S Fs A0) H) S0 S1 A0 H0 σ Hi env1 s1 Fs1 ∧ forL bd gb (ds.drop i) env1 s1 = some (o, env', sto')) ⟨env, sto, S, Fs, r0, by simpa using q⟩ ?_ ?_ ?_
  · rintro i σ1 Hi _ ⟨env1, s1, S1, Fs1, r1, _⟩
    exact fun a o q => same_hid a o (r1.pub a o q)
  · rintro i x σ1 Hi H' hi ⟨env1, s1, S1, Fs1, r1, q1⟩ ⟨dx, e3, hH', rp⟩
    have hdrop : ds.drop i = dx :: ds.drop (i + 1) := by
      obtain ⟨hlt, e⟩ := List.getElem?_eq_some_iff.mp e3
      rw [List.drop_eq_getElem_cons hlt, e]
    rw [hdrop] at q1
    unfold forL at q1
    obtain ⟨l, el, q1⟩ := bind_some' q1
    split at q1
    case isFalse => cases q1
    rename_i hc
    obtain ⟨⟨o1, e1, s2⟩, eb, q1⟩ := bind_some' q1
    have smi : Same Hi H' := by
      rcases hH' with rfl | ⟨T, o, hT, rfl⟩
      · exact fun _ _ h => h
      · exact same_upd hT
    have px : Rp X.K S1 (hid (hd S1 Fs1 A0) H') x dx := (rp _ r1.pub r1.wd.al).retok hc.2
    have r2 : Sr X.K (hid (hd S Fs A0) H) S0 S1 A0 H0 σ1 H' env1 s1 Fs1 := r1.go (Ext.of smi) (r1.wd.grow smi (fun a h => .inl h) fun a h => h)
    refine hg S1 σ1 _ H' x dx l _ same_hid px el fun vl sl => ?_
    obtain ⟨Fs2, r3, _⟩ := r2.putL hc.1 sl
    refine hb _ S0 S1 A0 H0 _ H' _ s1 Fs2 o1 e1 s2 _ hZ r3 eb ?_
    cases o1 with
    | nx => exact fun S' σ' H' Fs' r' => ⟨e1, s2, S', Fs', r', q1⟩
    | ct => exact fun S' σ' H' Fs' r' => ⟨e1, s2, S', Fs', r', q1⟩
    | rt d => cases q1; exact z
    | bk => cases q1; exact fun S' σ' H' Fs' r' => z S' σ' H' Fs' (r'.back r.pub)
  · rintro σ1 Hi ⟨env1, s1, S1, Fs1, r1, q1⟩
    rw [List.drop_length] at q1
    cases q1
    exact z S1 σ1 Hi Fs1 (r1.back r.pub)
def sFor (M : List Nat) (fi : EvI) (bd : Bd) (body : Sv) : Sv := fun env s => (fi (see M env) s).bind fun p => forL bd body p.1 (fz M env) p.2
def sFor0 (M : List Nat) (fi : EvI) (bd : Bd) (body : Sv) : Sv := fun env s => (fi (see M env) s).bind fun p => if okM M p.2 = true then forL bd body p.1 env p.2 else none
/-- a walk over what no slot's change can touch -/
def JI0 (X : Cx) (tg it : Expr) (fi : EvI) : Prop := ∀ A A2 S σ H vw sto ds sto' (R : It → Hp → Prop), (∀ a, A a → A2 a) → Wd X.K S A2 H sto → Wd X.K S A H sto → RdV X.K S A σ H vw → fi vw sto = some (ds, sto') → (A2 = A ∨ sto'.all scalCell = true) →
  (∀ J H', Ext S H H' → Wd X.K S A2 H' sto' → Walk J ds.length (fun H1 => Same (hid A2 H') H1) (YD X.K S A2 H' ds) → R J H') → wpI X tg it σ H R
end
section
variable {Z : List Addr → Prop} {X : Cx} {st : Stmt} {rest body orelse : List Stmt} {tg it e a b c : Expr} {f g : Ev} {gb : Sv} {gt : TG} {bd : Bd} {fi : EvI} {t : EvT} {j k n i : Nat} {pos p p2 : Pos} {x : Str} {M : List Nat}
theorem js_for (hp : PassesOwn (model X.prog X.w) X.A X.env X.xe) (hc : X.calm = true) (hi : JI X tg it fi) (hg : PG X tg gt) (hgs : gSpec X.K gt bd) (hb : JSs Z X body gb k) (hs : ∀ x, foldedSetIterable it X.env x = pure x := by intro _; rfl) :
    JS Z X (.For tg it body [] pos) (sFor M fi bd gb) k := fun C S0 S A0 H0 σ H env sto Fs o env' sto' E hZ r q z => by
  unfold sFor at q
  obtain ⟨⟨ds, s1⟩, q1, q⟩ := bind_some' q
  refine wpS.by (ps_for hp hc wpI_pi hg wpSs_pss hs) ?_
  have r1 := r.freeze M
  refine hi _ S σ H _ sto ds s1 _ (r.wdM M) (r.rdM M) q1 fun J H1 x1 w1 wk => ?_
  rw [← hd_fz] at w1 wk
  exact forL_walk hZ (r1.go x1 w1) wk hgs hb q z
theorem js_for0 (hp : PassesOwn (model X.prog X.w) X.A X.env X.xe) (hc : X.calm = true) (hi : JI0 X tg it fi) (hg : PG X tg gt) (hgs : gSpec X.K gt bd) (hb : JSs Z X body gb k) (hs : ∀ x, foldedSetIterable it X.env x = pure x := by intro _; rfl) :
    JS Z X (.For tg it body [] pos) (sFor0 M fi bd gb) k := fun C S0 S A0 H0 σ H env sto Fs o env' sto' E hZ r q z => by
  unfold sFor0 at q
  obtain ⟨⟨ds, s1⟩, q1, q⟩ := bind_some' q
  simp only at q
  split at q
  case isFalse => cases q
  rename_i hok
  refine wpS.by (ps_for hp hc wpI_pi hg wpSs_pss hs) ?_
  refine hi _ _ S σ H _ sto ds s1 _ hdM_le r.wd (r.wdM M) (r.rdM M) q1 (okM_g hok) fun J H1 x1 w1 wk => ?_
  exact forL_walk hZ (r.go x1 w1) wk hgs hb q z
/-- over a new list of plain things -/
def iVal0 (k : Nat) (f : Ev) : EvI := fun vw s => (f vw s).bind fun p => match p.1 with
  | .list ds => if full k (.list ds) = true then some (ds, p.2) else none
  | _ => none
theorem ji0_val (ha : JP X a f k) : JI0 X tg a (iVal0 k f) := fun A A2 S σ H vw sto ds sto' R hA w2 w r q g2 z => by
  unfold iVal0 at q
  obtain ⟨⟨x, s1⟩, e1, q⟩ := bind_some' q
  simp only at q
  split at q
  · split at q
    · rename_i hf
      cases q
      refine wpI.by (pi_list wpE_pe) (ha A S σ H vw sto _ _ _ w r e1 fun v H1 F rs => ?_)
      have rs2 := rs.full hf w2 g2
      have p1 := rs2.rp w2
      obtain ⟨l, xs, rfl, r2, q2⟩ := p1.lstI
      exact ⟨l, rfl, ⟨xs, .inl r2.out⟩, z _ H1 rs2.ext (rs2.wd.less (fun a h => .inr h) w2.hS) (walk_dl r2 q2)⟩
    · cases q
  · cases q
theorem ji0_range1 (ha : JP X a f 0) (hg : Gl X "range") (hm : X.mg "range" = none) (hs : starEach [a] X.env = [(false, eval a X.env)] := by rfl) : JI0 X tg (.Call (.Name "range" p) [a] [] pos) (iU rg1 f) := fun A A2 S σ H vw sto ds sto' R hA w2 w r q g2 z => by
  obtain ⟨x, e1, e2⟩ := iU_some q
  obtain ⟨j, rfl, ⟨b1, b2⟩, rfl⟩ := rg1_some e2
  refine wpI.by (pi_range1 hg hm (pa_cons wpE_pe pa_nil hs) hs) (ha.use w r e1 fun v H1 x1 w1 r1 p1 => ?_)
  exact ⟨j, by rw [p1.intI], b1, b2, z _ H1 x1 (w2.wide x1 w1 g2) walk_dr⟩
theorem ji0_range2 (ha : JP X a f 0) (hb : JP X b g 0) (hg : Gl X "range") (hm : X.mg "range" = none) (hs : starEach [a, b] X.env = [(false, eval a X.env), (false, eval b X.env)] := by rfl) (hs2 : starEach [b] X.env = [(false, eval b X.env)] := by rfl)
    (hs' : starEach [a, b] X.env = (false, eval a X.env) :: starEach [b] X.env := by rfl) : JI0 X tg (.Call (.Name "range" p) [a, b] [] pos) (iB rg2 f g) := fun A A2 S σ H vw sto ds sto' R hA w2 w r q g2 z => by
  obtain ⟨x, s1, y, e1, e2, e3⟩ := iB_some q
  obtain ⟨i, j, rfl, rfl, ⟨b1, b2⟩, ⟨b3, b4⟩, rfl⟩ := rg2_some e3
  refine wpI.by (pi_range2 hg hm (pa_cons wpE_pe (pa_cons wpE_pe pa_nil hs2) hs') hs hs2) (ha.use2 hb w r e1 e2 fun v u H1 x1 w1 r1 p1 p2 => ?_)
  exact ⟨i, j, by rw [p1.intI, p2.intI], ⟨b1, b2, b3, b4⟩, z _ H1 x1 (w2.wide x1 w1 g2) walk_dr⟩
theorem ji0_revRg {er : Expr} {fr : VW → STO → Option ((Int × Int) × STO)} (he : JRg X er fr) (hg : Gl X "reversed") (hm : X.mg "reversed" = none) (hs : starEach [er] X.env = (false, eval er X.env) :: starEach [] X.env := by rfl) : JI0 X tg (.Call (.Name "reversed" p) [er] [] pos) (iRevRg fr) := fun A A2 S σ H vw sto ds sto' R hA w2 w r q g2 z => by
  unfold iRevRg at q
  obtain ⟨⟨⟨lo, hi⟩, s1⟩, e1, q⟩ := bind_some' q
  simp only at q
  split at q
  · rename_i hb
    cases q
    obtain ⟨t, ht, hq⟩ := he
    obtain ⟨b1, b2⟩ := inRg_iff hb.1
    obtain ⟨b3, b4⟩ := inRg_iff hb.2
    exact wpI.by (pi_revR hg hm ht hs) (hq A S σ H vw sto _ _ _ w r e1 fun H1 x1 w1 => ⟨b1, b2, b3, b4, z _ H1 x1 (w2.wide x1 w1 g2) walk_drc⟩)
  · cases q

/-! ### two values into two names -/
theorem Res.less {K : PySem.W.Frag} {S : List Addr} {A A' : Addr → Prop} {H H' : Hp} {sto' : STO} {k : Nat} {v : V} {d : D} {F : List Addr} (r : Res K S A H sto' k H' v d F) (h : ∀ a, A' a → A a) (hS : ∀ a, a ∈ S → A' a) : Res K S A' H sto' k H' v d F :=
  ⟨r.ext, r.wd.less (fun a ha => ha.imp id (h a)) (fun a e => .inr (hS a e)), r.nd, r.fr, r.ow.mv (hid_le fun a ha => ha.imp id (h a)) fun a _ o q => q⟩
def sPar (i j k1 k2 : Nat) (M1 M2 : List Nat) (f g : Ev) : Sv := fun env s => if i < env.length ∧ j < env.length then
  (f (see M1 env) s).bind fun p => (g (see M2 (fzIf k1 p.1 M1 p.2 env)) p.2).map fun q => (.nx, ((fzIf k2 q.1 M2 q.2 (fzIf k1 p.1 M1 p.2 env)).set i (mkS k1 p.1)).set j (mkS k2 q.1), q.2) else none
theorem js_par {y : Str} {k1 k2 : Nat} {M1 M2 : List Nat} {px py pt : Pos} {kt k3 pt2} (ha : JP X a f k1) (hb : JP X b g k2) (hc : X.calm = true) (hN : X.N.Nodup) (hi : X.N[i]? = some x) (hj : X.N[j]? = some y) (hij : i ≠ j)
    (hx : X.env.scope.names.lookup x = some .local) (hy : X.env.scope.names.lookup y = some .local)
    (hw : swappedStores [.Tuple [.Name x px, .Name y py] kt pt] (.Tuple [a, b] k3 pt2) X.env = pure (some [x, y]))
    (hs : swapsWithSole [.Tuple [.Name x px, .Name y py] kt pt] (.Tuple [a, b] k3 pt2) pos.line X.env = pure false := by rfl)
    (hs1 : starEach [a, b] X.env = (false, eval a X.env) :: starEach [b] X.env := by rfl) (hs2 : starEach [b] X.env = (false, eval b X.env) :: starEach [] X.env := by rfl) :
    JS Z X (.Assign [.Tuple [.Name x px, .Name y py] kt pt] (.Tuple [a, b] k3 pt2) pos) (sPar i j k1 k2 M1 M2 f g) k := fun C S0 S A0 H0 σ H env sto Fs o env' sto' E hZ r q z => by
  unfold sPar at q
  split at q
  case isFalse => cases q
  rename_i hlt
  obtain ⟨⟨d1, s1⟩, q1, q⟩ := bind_some' q
  obtain ⟨⟨d2, s2⟩, q2, q⟩ := map_some' q
  cases q
  simp only at q2
  refine wpS.by (ps_par hc hN hi hj hij hx hy (pa_cons wpE_pe (pa_cons wpE_pe pa_nil hs2) hs1) hw hs) (r.eval ha q1 fun v H1 F Fs' r1 rs1 => ?_)
  have rd2 : RdV X.K S (plus F (hdM S M2 Fs' A0)) σ H1 (see M2 (fzIf k1 d1 M1 s1 env)) := (r1.rdM M2).move rs1.ext (r1.wdM M2).hS fun a h => by
    rcases h with h | h
    · exact .inr (rs1.fr a h)
    · exact .inl h
  have w2 : Wd X.K S (plus F (hdM S M2 Fs' A0)) H1 s1 := rs1.wd.less (fun a h => h.imp id (hdM_le a)) fun a e => .inr (.inr (.inr e))
  refine hb _ S σ H1 _ s1 d2 s2 _ w2 rd2 q2 fun u H2 G rs2 => ?_
  refine ⟨v, u, rfl, ?_⟩
  have fin : ∃ Fs2, Sr X.K C S0 S A0 H0 σ H (fzIf k2 d2 M2 s2 (fzIf k1 d1 M1 s1 env)) sto Fs2 ∧ (∀ a, hd S Fs2 A0 a → hd S Fs' A0 a) ∧ Res X.K S (plus F (hd S Fs2 A0)) H1 s2 k2 H2 u d2 G := by
    by_cases h : (full k2 d2 && okM M2 s2) = true
    · have h' := h
      rw [Bool.and_eq_true] at h'
      refine ⟨Fs', by rw [show fzIf k2 d2 M2 s2 (fzIf k1 d1 M1 s1 env) = fzIf k1 d1 M1 s1 env from if_pos h]; exact r1, fun a h => h, rs2.full h'.1 rs1.wd ?_⟩
      exact (okM_g (S := S) (Fs := Fs') (A0 := A0) h'.2).imp (fun e => by rw [e]) id
    · exact ⟨fzF M2 Fs', by rw [show fzIf k2 d2 M2 s2 (fzIf k1 d1 M1 s1 env) = fz M2 (fzIf k1 d1 M1 s1 env) from if_neg h]; exact r1.freeze M2, by rw [hd_fz]; exact hdM_le, by rw [hd_fz]; exact rs2⟩
  obtain ⟨Fs2, r2, le2, rs3⟩ := fin
  have r3 := r2.put (i := i) (by rw [fzIf_len, fzIf_len]; exact hlt.1) (rs1.less le2 fun a e => .inr (.inr e))
  have rs4 := rs3.less (A' := hd S (setF Fs2 i F) A0) (fun a h => hd_set r2 a h) fun a e => .inr (.inr e)
  have r4 := r3.put (i := j) (by rw [List.length_set, fzIf_len, fzIf_len]; exact hlt.2) rs4
  exact z S _ _ _ r4

/-! ### one value into names -/
def sBind (M : List Nat) (bd : Bd) (f : Ev) : Sv := fun env s => (f (see M env) s).bind fun p => (bd p.1).bind fun l => if allLt env.length l = true then some (.nx, setE (fz M env) l, p.2) else none
theorem js_bind (he : JP X e f 0) (hg : PG X tg gt) (hgs : gSpec X.K gt bd) (hs : swapsWithSole [tg] e pos.line X.env = pure false := by rfl) (hw : swappedStores [tg] e X.env = pure none := by rfl)
    (h1 : (assignEach [tg] X.env).map (·.2) = [assign tg X.env] := by rfl) : JS Z X (.Assign [tg] e pos) (sBind M bd f) k := fun C S0 S A0 H0 σ H env sto Fs o env' sto' E hZ r q z => by
  unfold sBind at q
  obtain ⟨⟨d, s1⟩, q1, q⟩ := bind_some' q
  obtain ⟨l, q2, q⟩ := bind_some' q
  split at q
  case isFalse => cases q
  rename_i hl
  cases q
  refine wpS.by (ps_asg wpE_pe hg hs hw h1) (he.use (r.wdM M) (r.rdM M) q1 fun v H1 x1 w1 r1 p1 => ?_)
  have r2 := r.freeze M
  rw [← hd_fz] at w1 p1
  have r3 := r2.go x1 w1
  refine hgs S σ _ H1 v d l _ same_hid p1 q2 fun vl sl => ?_
  obtain ⟨Fs2, r4, _⟩ := r3.putL (by unfold fz; rw [fzI_len]; exact hl) sl
  exact z S _ _ _ r4
/-- a list of two -/
def bL2 (i j : Nat) : Bd
  | .list [x, y] => some [(i, x), (j, y)]
  | _ => none
theorem gspec_lst2 {K : PySem.W.Frag} {i j : Nat} : gSpec K (gUnl K 2 (gCons (gName i) (gCons (gName j) gNil))) (bL2 i j) := fun S σ H H0 v d l Q sm p e z => by
  unfold bL2 at e
  split at e
  · cases e
    obtain ⟨a, xs, rfl, r, q⟩ := p.lstI
    obtain ⟨x, y, rfl, p1, p2⟩ := q.two
    exact ⟨a, [x, y], rfl, .inl (Rd.le sm r), rfl, x, [y], rfl, y, [], rfl, rfl, z [(i, x), (j, y)] (.cons ⟨rfl, p1⟩ (.cons ⟨rfl, p2⟩ .nil))⟩
  · cases e

/-! ### name += int -/
def sAug (i : Nat) (M : List Nat) (op : Int → Int → Int) (f : Ev) : Sv := fun env s => match env[i]? with
  | some (.sh (.int m)) => (f (see M env) s).bind fun p => match p.1 with
    | .int n => some (.nx, (fzT M p.2 env).set i (.sh (.int (op m n))), p.2)
    | _ => none
  | _ => none
theorem js_aug {op : Operator} {fo : Int → Int → Int} (ho : PIp X op (ipI fo)) (he : JP X e f 0) (hN : X.N.Nodup) (hi : X.N[i]? = some x) (hx : Loc X.env.scope x) (hf : X.fn x = true ∨ X.env.scope.names.lookup x = some .local := by first | exact .inl rfl | exact .inr rfl | assumption) :
    JS Z X (.AugAssign (.Name x p) op e pos) (sAug i M fo f) k := fun C S0 S A0 H0 σ H env sto Fs o env' sto' E hZ r q z => by
  unfold sAug at q
  split at q
  case h_2 => cases q
  rename_i m hm
  obtain ⟨⟨d, s1'⟩, q1, q⟩ := bind_some' q
  simp only at q
  split at q
  case h_2 => cases q
  rename_i n
  cases q
  obtain ⟨_, u, e1, e2⟩ := r.sl i _ hm
  obtain rfl := e2.intI
  refine wpS.by (ps_aug hN hi hx wpE_pe ho hf) ⟨_, e1, r.eval he q1 fun v H' F Fs' r2 rs => ?_⟩
  have hfz : fzIf 0 (.int n) M sto' env = fzT M sto' env := rfl
  rw [hfz] at r2
  obtain rfl := (rs.ow.scal (S' := S) (H' := H') (show isScal (.int n) = true from rfl)).intI
  refine ⟨m, n, rfl, rfl, z S _ _ _ ((r2.go rs.ext (rs.wd.less (fun a h => .inr h) r2.wd.hS)).putS ?_ (.int _))⟩
  obtain ⟨hlt, _⟩ := List.getElem?_eq_some_iff.mp hm
  rw [fzT_len]
  exact hlt

/-! ### store[i] = e -/
/-- the store and a value behind a reading -/
theorem Sr.evalS {K : PySem.W.Frag} {C : Hp} {S0 S : List Addr} {A0 : Addr → Prop} {H0 H H' : Hp} {σ : Sg} {env : Env} {sto sto' : STO} {Fs : Nat → List Addr} {M : List Nat} {v : V} {d : D} (r : Sr K C S0 S A0 H0 σ H env sto Fs) (x : Ext S H H') (w : Wd K S (hdM S M Fs A0) H' sto') (p : Rp K S (hid (hdM S M Fs A0) H') v d) :
    ∃ Fs', Sr K C S0 S A0 H0 σ H' (fzIf 0 d M sto' env) sto' Fs' ∧ Rp K S (hid (hd S Fs' A0) H') v d := by
  by_cases h : (full 0 d && okM M sto') = true
  · have h' := h
    rw [Bool.and_eq_true, full_zero] at h'
    exact ⟨Fs, by unfold fzIf; rw [if_pos h]; exact r.go x (r.wd.wide x w (okM_g h'.2)), scal_rp h'.1 p⟩
  · exact ⟨fzF M Fs, by unfold fzIf; rw [if_neg h]; exact (r.freeze M).go x (by rw [hd_fz]; exact w), by rw [hd_fz]; exact p⟩
def sSto (M : List Nat) (fp fi fv : Ev) : Sv := fun env s => (fv (see M env) s).bind fun p => (fp (see M env) p.2).bind fun q => (isTok q.1).bind fun j => (fi (see M env) q.2).bind fun u => match u.1 with
    | .int n => (cellL u.2 j).bind fun ds => (ixN ds.length n).map fun m => (.nx, fzIf 0 p.1 M u.2 env, u.2.set j (.lst (ds.set m p.1)))
    | _ => none
theorem CellOk.upd {K : PySem.W.Frag} {S : List Addr} {A : Addr → Prop} {H : Hp} {a b : Addr} {o : HO} {c : Cell} (h : CellOk K S A H b c) (ha : A a) (hne : b ≠ a) (hc : ∀ q, H a ≠ some (LamX.CodeO a q)) : CellOk K S A (L2.upd H a o) b c :=
  h.keep (by rw [hid_upd ha]; exact fun _ _ h => h) (fun x hx => by rw [upd_ne hne]; exact hx) fun c q hq => by
    rw [upd_ne (fun e : c = a => hc q (e ▸ hq))]
    exact hq
/-- a cell's object is written -/
theorem Wd.put {K : PySem.W.Frag} {S : List Addr} {A : Addr → Prop} {H : Hp} {sto : STO} {j : Nat} {a : Addr} {o : HO} {c : Cell} (w : Wd K S A H sto) (hS : S[j]? = some a) (hc : CellOk K S A (L2.upd H a o) a c) :
    Ext S H (L2.upd H a o) ∧ Wd K S A (L2.upd H a o) (sto.set j c) := by
  have hm : a ∈ S := List.mem_of_getElem? hS
  obtain ⟨c0, h0, ok0⟩ := w.cell hS
  refine ⟨fun b x hb e => ?_, fun b hb => ?_, w.hS, w.nds, by rw [List.length_set]; exact w.len, fun i b ci h1 h2 => ?_⟩
  · rw [upd_ne (fun e : b = a => hb (e ▸ hm))]; exact e
  · by_cases e : b = a
    · rw [e, upd_same]; exact fun z => nomatch z
    · rw [upd_ne e]; exact w.al b hb
  · by_cases e : j = i
    · subst e
      rw [hS] at h1
      cases h1
      have hl := (List.getElem?_eq_some_iff.mp h0).1
      rw [List.getElem?_set, if_pos rfl, if_pos hl] at h2
      cases h2
      exact hc
    · rw [List.getElem?_set_ne e] at h2
      refine (w.st i b ci h1 h2).upd (w.hS a hm) (fun q => ?_) fun q => ok0.notCode
      subst q
      have l1 := (List.getElem?_eq_some_iff.mp h1).1
      have l2 := (List.getElem?_eq_some_iff.mp hS).1
      have e1 := (List.getElem?_eq_some_iff.mp h1).2
      have e2 := (List.getElem?_eq_some_iff.mp hS).2
      exact e ((List.getElem_inj w.nds).mp (e2.trans e1.symm))
/-- an item of a list in a cell is written -/
theorem Wd.store {K : PySem.W.Frag} {S : List Addr} {A : Addr → Prop} {H : Hp} {sto : STO} {ds : List D} {j : Nat} {a : Addr} (w : Wd K S A H sto) (hS : S[j]? = some a) (hl : J.cellL sto j = some ds) {m : Nat} {v : V} {d : D} (p : Rp K S (hid A H) v d) :
    ∃ vs, H a = some (.lst vs) ∧ vs.length = ds.length ∧ Ext S H (L2.upd H a (.lst (vs.set m v))) ∧ Wd K S A (L2.upd H a (.lst (vs.set m v))) (sto.set j (.lst (ds.set m d))) := by
  obtain ⟨vs, h1, h2⟩ := w.cellL hS hl
  refine ⟨vs, h1, h2.length, w.put hS ⟨_, upd_same, ?_⟩⟩
  rw [hid_upd (w.hS a (List.mem_of_getElem? hS))]
  exact h2.set p m
theorem js_sto {io : Expr} {fp fv : Ev} {tpos : Pos} (hv : JP X e fv 0) (ho : JP X a fp 0) (hi : JP X io f 0) (hs : swapsWithSole [.Subscript a io tpos] e pos.line X.env = pure false := by rfl) (hw : swappedStores [.Subscript a io tpos] e X.env = pure none := by rfl)
    (h1 : (assignEach [.Subscript a io tpos] X.env).map (·.2) = [assign (.Subscript a io tpos) X.env] := by rfl)
    (hg : ∀ {to ti : TE}, PE X a to → PE X io ti → PG X (.Subscript a io tpos) (gSub to ti rSetL)) : JS Z X (.Assign [.Subscript a io tpos] e pos) (sSto M fp f fv) k := fun C S0 S A0 H0 σ H env sto Fs o env' sto' E hZ r q z => by
  unfold sSto at q
  obtain ⟨⟨d, s1⟩, q1, q⟩ := bind_some' q
  obtain ⟨⟨dt, s2⟩, q2, q⟩ := bind_some' q
  obtain ⟨jj, ht, q⟩ := bind_some' q
  obtain ⟨⟨di, s3⟩, q3, q⟩ := bind_some' q
  simp only at q
  split at q
  case h_2 => cases q
  rename_i n
  obtain ⟨ds, q5, q⟩ := bind_some' q
  obtain ⟨m, q4, q⟩ := map_some' q
  cases q
  have ht := isTok_eq ht
  simp only at ht q2 q3
  subst ht
  refine wpS.by (ps_asg wpE_pe (hg wpE_pe wpE_pe) hs hw h1) (hv.use (r.wdM M) (r.rdM M) q1 fun v H1 x1 w1 r1 p1 => ho.use w1 r1 q2 fun vo H2 x2 w2 r2 p2 => hi.use w2 r2 q3 fun vi H3 x3 w3 r3 p3 => ?_)
  obtain ⟨a, rfl, hS⟩ := p2.tokI
  obtain ⟨Fs', r5, p5⟩ := r.evalS ((x1.trans x2).trans x3) w3 (p1.le (hid_move (x2.trans x3) w1.hS fun a h => .inl h))
  obtain ⟨vs, e1, e2, x4, w5⟩ := r5.wd.store hS q5 (m := m) p5
  refine ⟨a, vs, n, m, rfl, p3.intI, e1, by rw [e2]; exact q4, z S _ _ _ (r5.go x4 w5)⟩

/-! ### a list is added to -/
theorem hid_fresh {A : Addr → Prop} {H : Hp} {a : Addr} {o : HO} (h : hid A H a = some o) : H a = some o := (hid_eq.mp h).2
theorem js_ex {M : List Nat} (he : JP X e f 0) (hs : swapsWith e none pos.line X.env = pure false := by rfl) : JS Z X (.Expr e pos) (sEx M f) k := fun C S0 S A0 H0 σ H env sto Fs o env' sto' E hZ r q z => by
  unfold sEx at q
  obtain ⟨⟨d, s1⟩, q1, q⟩ := map_some' q
  cases q
  refine wpS.by (ps_expr wpE_pe hs) (he.use (r.wdM M) (r.rdM M) q1 fun v H1 x1 w1 r1 p1 => by
    obtain ⟨Fs', r2⟩ := r.goM x1 w1
    exact z S _ _ _ r2)
end
end J
namespace J
open PySem PySem.Spec PyProof.Rows L2

section
variable {K : PySem.W.Frag} {S : List Addr} {A : Addr → Prop} {H : Hp}
theorem Ow.lstI {k : Nat} {v : V} {ds : List D} {F : List Addr} (h : Ow K S A H (k + 1) v (.list ds) F) : ∃ a vs F0, v = .ref a ∧ F = a :: F0 ∧ H a = some (.lst vs) ∧ OwA K S A H k vs ds F0 := by
  cases h with
  | «at» h1 h2 r => exact absurd rfl (h1 ds)
  | lst e t => exact ⟨_, _, _, rfl, rfl, e, t⟩
/-- one item of owned ones -/
theorem OwA.split : ∀ {k : Nat} {vs : List V} {ds : List D} {F : List Addr} {j : Nat} {d : D}, OwA K S A H k vs ds F → ds[j]? = some d →
    ∃ v F1 Fj F2, vs[j]? = some v ∧ F = F1 ++ (Fj ++ F2) ∧ OwA K S A H k (vs.take j) (ds.take j) F1 ∧ Ow K S A H k v d Fj ∧ OwA K S A H k (vs.drop (j + 1)) (ds.drop (j + 1)) F2
  | _, _, _, _, _, _, .nil, h => by simp at h
  | k, _, _, _, 0, d, .cons (v := v) (F := F) (G := G) a b, h => by
    simp at h; subst h
    exact ⟨v, [], F, G, rfl, rfl, .nil, a, b⟩
  | k, _, _, _, j + 1, d, .cons (v := v) (vs := vs) (ds := ds) (F := F) (G := G) a b, h => by
    obtain ⟨w, F1, Fj, F2, e1, e2, o1, o2, o3⟩ := OwA.split (j := j) b (by simpa using h)
    refine ⟨w, F ++ F1, Fj, F2, by simpa using e1, by rw [e2, List.append_assoc], ?_, o2, o3⟩
    exact .cons a o1
theorem set_split {α : Type} : ∀ (xs : List α) (j : Nat) (x : α), j < xs.length → xs.set j x = xs.take j ++ (x :: xs.drop (j + 1))
  | [], _, _, h => absurd h (Nat.not_lt_zero _)
  | y :: r, 0, x, _ => rfl
  | y :: r, j + 1, x, h => by
    show y :: r.set j x = y :: (r.take j ++ (x :: r.drop (j + 1)))
    rw [set_split r j x (Nat.lt_of_succ_lt_succ h)]
end

section
variable {Z : List Addr → Prop} {X : Cx} {st : Stmt} {rest body orelse : List Stmt} {tg it e a b c : Expr} {f g : Ev} {gb : Sv} {gt : TG} {bd : Bd} {fi : EvI} {t : EvT} {j k n i l : Nat} {pos p p2 apos cpos : Pos} {x y : Str} {M : List Nat}
/-- name.append(e) -/
def sApp (i : Nat) (M : List Nat) (k : Nat) (g : Ev) : Sv := fun env s => (g (see M env) s).bind fun p => match (fzIf k p.1 M p.2 env)[i]? with
  | some (.ow (k' + 1) (.list ds)) => if k' = k ∧ ds.length < 16777216 then some (.nx, (fzIf k p.1 M p.2 env).set i (.ow (k + 1) (.list (ds ++ [p.1]))), p.2) else none
  | _ => none
theorem js_app (he : JP X e g j) (hi : X.N[i]? = some x) (hx : Vis X.env.scope x) (hdb : (x == Str.ofString "__debug__") = false := by decide) (hcd : (x == Str.ofString "__classdict__") = false := by decide)
    (hbase : attributeBase (.Name x p) "append" X.env (eval (.Name x p) X.env) = eval (.Name x p) X.env := by rfl)
    (hfew : ((backTo cpos (starEach [e] X.env)).all (fun x => !x.1) && (backToKw cpos (keywordEach [] X.env)).all (fun x => x.1.isSome) && decide ([e].length + ([] : List Keyword).length + (if ([] : List Keyword).isEmpty then 0 else 1) < 30)) = true := by rfl)
    (hline : (apos.endLine == cpos.line) = true := by rfl) (hs : starEach [e] X.env = (false, eval e X.env) :: starEach [] X.env := by rfl) (hsw : swapsWith (.Call (.Attribute (.Name x p) "append" apos) [e] [] cpos) none pos.line X.env = pure false := by rfl) :
    JS Z X (.Expr (.Call (.Attribute (.Name x p) "append" apos) [e] [] cpos) pos) (sApp i M j g) k := fun C S0 S A0 H0 σ H env sto Fs o env' sto' E hZ r q z => by
  unfold sApp at q
  obtain ⟨⟨d, s1⟩, q1, q⟩ := bind_some' q
  simp only at q
  split at q
  case h_2 => cases q
  rename_i k' ds hsl
  split at q
  case isFalse => cases q
  rename_i hk
  obtain ⟨rfl, hlen⟩ := hk
  cases q
  have hlt : i < (fzIf k' d M sto' env).length := (List.getElem?_eq_some_iff.mp hsl).1
  -- the receiver
  have hrc : ∃ a0 vs0, σ[i]? = some (some (.ref a0)) ∧ H a0 = some (.lst vs0) := by
    have : ∃ d', env[i]? = some (.ow (k' + 1) d') ∧ d' = .list ds := by
      unfold fzIf at hsl
      split at hsl
      · exact ⟨_, hsl, rfl⟩
      · rw [fz_get] at hsl
        cases e1 : env[i]? with
        | none => rw [e1] at hsl; cases hsl
        | some s =>
          rw [e1] at hsl
          have h' : fzS (M.contains i) s = .ow (k' + 1) (.list ds) := Option.some.inj hsl
          cases s with
          | no => cases h'
          | sh d' => cases h'
          | ow k2 d' =>
            have h' : (if M.contains i = true then Slot.sh d' else .ow k2 d') = .ow (k' + 1) (.list ds) := h'
            split at h'
            · cases h'
            · cases h'; exact ⟨_, rfl, rfl⟩
    obtain ⟨d', e1, rfl⟩ := this
    obtain ⟨u, e2, ow⟩ := r.sl i _ e1
    obtain ⟨a0, vs0, F0, rfl, _, e3, _⟩ := ow.lstI
    exact ⟨a0, vs0, e2, e3⟩
  obtain ⟨a0, vs0, hσ, hH⟩ := hrc
  refine wpS.by (ps_expr (pe_bm PySem.F.plainAttrs_list PySem.F.slot_list_append rfl mt_append (pe_var hi hx hdb hcd) (pa_cons wpE_pe pa_nil hs) hbase hfew hline hs rfl) hsw) ?_
  refine ⟨_, hσ, .inl ⟨rfl, vs0, .of hH⟩, r.eval he q1 fun v H' F Fs' r2 rs => ?_⟩
  obtain ⟨u, e2, ow⟩ := r2.sl i _ hsl
  obtain ⟨a1, vs, F0, rfl, eF, e3, ow0⟩ := ow.lstI
  rw [hσ] at e2
  cases e2
  have ha : a0 ∈ Fs' i := by rw [eF]; exact List.mem_cons_self
  have haS : a0 ∉ S := r2.ns i a0 ha
  have e4 : H' a0 = some (.lst vs) := rs.ext a0 _ haS e3
  have hvl := ow0.length
  refine ⟨a0, vs, v, rfl, rfl, e4, by rw [sizeLine_eq]; omega, ?_⟩
  have hdis : ∀ b ∈ F, b ∉ Fs' i := fun b hb h => r2.wd.al b (.inl ⟨i, h⟩) (rs.fr b hb)
  have nd0 := r2.nd i
  rw [eF] at nd0
  have hF0 : ∀ b ∈ F0, b ∈ Fs' i := fun b hb => by rw [eF]; exact List.mem_cons_of_mem _ hb
  have hA : plus F (hd S Fs' A0) a0 := .inr (.inl ⟨i, ha⟩)
  have r3 := r2.mut (i := i) (F := a0 :: (F0 ++ F)) (ov := some (.ref a0)) (s := .ow (k' + 1) (.list (ds ++ [d]))) (H' := upd H' a0 (.lst (vs ++ [v]))) (sto' := sto') hlt ?_ ?_ ?_ ?_ ?_
  · have eσ : σ.set i (some (.ref a0)) = σ := by
      apply List.ext_getElem?
      intro m
      rw [List.getElem?_set]
      by_cases c : i = m
      · subst c
        rw [if_pos rfl, hσ]
        rw [if_pos (List.getElem?_eq_some_iff.mp hσ).1]
      · rw [if_neg c]
    rw [eσ] at r3
    exact z S _ _ _ r3
  · intro b o hb hn h
    rw [upd_ne (fun c : b = a0 => hn (c ▸ ha))]
    exact rs.ext b o hb h
  · have w1 := rs.wd.upd (o := .lst (vs ++ [v])) hA haS ⟨_, e4⟩
    refine w1.less (fun b h => ?_) (fun a e => .inr (.inr (.inr e)))
    rcases h with h | h
    · rcases List.mem_cons.mp h with rfl | h
      · exact hA
      · rcases List.mem_append.mp h with h | h
        · exact .inr (.inl ⟨i, hF0 b h⟩)
        · exact .inl h
    · exact .inr h
  · refine List.nodup_cons.mpr ⟨fun h => ?_, List.nodup_append.mpr ⟨(List.nodup_cons.mp nd0).2, rs.nd, fun b hb c hc e => hdis c hc (e ▸ hF0 b hb)⟩⟩
    rcases List.mem_append.mp h with h | h
    · exact (List.nodup_cons.mp nd0).1 h
    · exact hdis a0 h ha
  · intro b h
    rcases List.mem_cons.mp h with rfl | h
    · exact .inr ha
    · rcases List.mem_append.mp h with h | h
      · exact .inr (hF0 b h)
      · exact .inl (rs.fr b h)
  · refine ⟨.ref a0, rfl, .lst upd_same ?_⟩
    have sub : ∀ b, hd S (setF Fs' i (a0 :: (F0 ++ F))) A0 b → plus F (hd S Fs' A0) b := fun b h => by
      rcases hd_set r2 b h with h | h
      · rcases List.mem_cons.mp h with rfl | h
        · exact hA
        · rcases List.mem_append.mp h with h | h
          · exact .inr (.inl ⟨i, hF0 b h⟩)
          · exact .inl h
      · exact .inr h
    have hu : hid (plus F (hd S Fs' A0)) (upd H' a0 (.lst (vs ++ [v]))) = hid (plus F (hd S Fs' A0)) H' := hid_upd hA
    have s2 : Same (hid (plus F (hd S Fs' A0)) H') (hid (hd S (setF Fs' i (a0 :: (F0 ++ F))) A0) (upd H' a0 (.lst (vs ++ [v])))) := fun b o q => by rw [← hu] at q; exact hid_le sub b o q
    have s1 : Same (hid (hd S Fs' A0) H) (hid (plus F (hd S Fs' A0)) H') := hid_move rs.ext r2.wd.hS fun b h => by
      rcases h with h | h
      · exact .inr (rs.fr b h)
      · exact .inl h
    have o1 : OwA X.K S (hd S (setF Fs' i (a0 :: (F0 ++ F))) A0) (upd H' a0 (.lst (vs ++ [v]))) k' vs ds F0 := ow0.mv (fun b o q => s2 b o (s1 b o q)) fun b hb o q => by
      rw [upd_ne (fun c : b = a0 => (List.nodup_cons.mp nd0).1 (c ▸ hb))]
      exact rs.ext b o (r2.ns i b (hF0 b hb)) q
    have o2 : Ow X.K S (hd S (setF Fs' i (a0 :: (F0 ++ F))) A0) (upd H' a0 (.lst (vs ++ [v]))) k' v d F := rs.ow.mv s2 fun b hb o q => by
      rw [upd_ne (fun c : b = a0 => hdis b hb (c ▸ ha))]
      exact q
    have := o1.append (.cons o2 .nil)
    rwa [List.append_nil] at this
theorem fzIf_ow {k k' : Nat} {d d' : D} {M : List Nat} {s : STO} {env : Env} {i : Nat} (hsl : (fzIf k d M s env)[i]? = some (.ow k' d')) : env[i]? = some (.ow k' d') := by
  unfold fzIf at hsl
  split at hsl
  · exact hsl
  · rw [fz_get] at hsl
    cases e1 : env[i]? with
    | none => rw [e1] at hsl; cases hsl
    | some s =>
      rw [e1] at hsl
      have h' : fzS (M.contains i) s = .ow k' d' := Option.some.inj hsl
      cases s with
      | no => cases h'
      | sh d' => cases h'
      | ow k2 d2 =>
        have h' : (if M.contains i = true then Slot.sh d2 else .ow k2 d2) = .ow k' d' := h'
        split at h'
        · cases h'
        · rw [h']
theorem set_same {σ : Sg} {i : Nat} {v : Option V} (h : σ[i]? = some v) : σ.set i v = σ := by
  apply List.ext_getElem?
  intro m
  rw [List.getElem?_set]
  by_cases c : i = m
  · subst c
    rw [if_pos rfl, h, if_pos (List.getElem?_eq_some_iff.mp h).1]
  · rw [if_neg c]
/-- name[i].append(e) -/
def sApp1 (i : Nat) (M : List Nat) (k : Nat) (fi g : Ev) : Sv := fun env s => (fi (see [] env) s).bind fun pi => match pi.1 with
  | .int n => (g (see M env) pi.2).bind fun p => match (fzIf k p.1 M p.2 env)[i]? with
    | some (.ow (k' + 2) (.list ds)) => if k' = k then (ixN ds.length n).bind fun m => match ds[m]? with
      | some (.list es) => if es.length < 16777216 then some (.nx, (fzIf k p.1 M p.2 env).set i (.ow (k + 2) (.list (ds.set m (.list (es ++ [p.1]))))), p.2) else none
      | _ => none
      else none
    | _ => none
  | _ => none
theorem js_app1 {spos : Pos} (hix : JP X b f 0) (he : JP X e g j) (hi : X.N[i]? = some x) (hx : Vis X.env.scope x) (hsx : PlainIx b) (hdb : (x == Str.ofString "__debug__") = false := by decide) (hcd : (x == Str.ofString "__classdict__") = false := by decide)
    (hbase : attributeBase (.Subscript (.Name x p) b spos) "append" X.env (eval (.Subscript (.Name x p) b spos) X.env) = eval (.Subscript (.Name x p) b spos) X.env := by rfl)
    (hfew : ((backTo cpos (starEach [e] X.env)).all (fun x => !x.1) && (backToKw cpos (keywordEach [] X.env)).all (fun x => x.1.isSome) && decide ([e].length + ([] : List Keyword).length + (if ([] : List Keyword).isEmpty then 0 else 1) < 30)) = true := by rfl)
    (hline : (apos.endLine == cpos.line) = true := by rfl) (hs : starEach [e] X.env = (false, eval e X.env) :: starEach [] X.env := by rfl) (hsw : swapsWith (.Call (.Attribute (.Subscript (.Name x p) b spos) "append" apos) [e] [] cpos) none pos.line X.env = pure false := by rfl) :
    JS Z X (.Expr (.Call (.Attribute (.Subscript (.Name x p) b spos) "append" apos) [e] [] cpos) pos) (sApp1 i M j f g) k := fun C S0 S A0 H0 σ H env sto Fs o env' sto' E hZ r q z => by
  unfold sApp1 at q
  obtain ⟨⟨di, s1⟩, q0, q⟩ := bind_some' q
  split at q
  case h_2 => cases q
  rename_i n hdi
  obtain rfl : di = .int n := hdi
  obtain ⟨⟨d, s2⟩, q1, q⟩ := bind_some' q
  simp only at q
  split at q
  case h_2 => cases q
  rename_i k' ds hsl
  split at q
  case isFalse => cases q
  rename_i hk
  subst hk
  obtain ⟨m, hm, q⟩ := bind_some' q
  split at q
  case h_2 => cases q
  rename_i es hes
  split at q
  case isFalse => cases q
  rename_i hlen
  cases q
  simp only at q1
  have hlt : i < (fzIf k' d M sto' env).length := (List.getElem?_eq_some_iff.mp hsl).1
  refine wpS.by (ps_expr (pe_bm PySem.F.plainAttrs_list PySem.F.slot_list_append rfl mt_append (pe_ix ix_list (pe_var hi hx hdb hcd) wpE_pe hsx) (pa_cons wpE_pe pa_nil hs) hbase hfew hline hs rfl) hsw) ?_
  have e1 := fzIf_ow hsl
  obtain ⟨u, e2, ow⟩ := r.sl i _ e1
  obtain ⟨a0, vs, F0, rfl, eF, e3, ow0⟩ := ow.lstI
  refine ⟨_, e2, hix.use (r.wdM []) (r.rdM []) q0 fun vi H1 x1 w1 r1 p1 => ?_⟩
  have rr : Sr X.K C S0 S A0 H0 σ H1 env s1 Fs := r.go x1 (r.wd.wide x1 w1 (okM_g (okM_nil _)))
  have haF : a0 ∈ Fs i := by rw [eF]; exact List.mem_cons_self
  have e3' : H1 a0 = some (.lst vs) := x1 a0 _ (r.ns i a0 haF) e3
  obtain ⟨vm, F1, Fj, F2, g1, g2, g3, g4, g5⟩ := ow0.split hes
  obtain ⟨b0, ws0, Fb, rfl, rfl, e5, _⟩ := g4.lstI
  have hat : atI vs n = some (.ref b0) := by unfold atI; rw [ow0.length, hm]; exact g1
  have hbF : b0 ∈ Fs i := by rw [eF, g2]; exact List.mem_cons_of_mem _ (List.mem_append_right _ (List.mem_append_left _ List.mem_cons_self))
  have e5' : H1 b0 = some (.lst ws0) := x1 b0 _ (r.ns i b0 hbF) e5
  refine ⟨a0, vs, n, .ref b0, rfl, p1.intI, .of e3', hat, .inl ⟨rfl, ws0, .of e5'⟩, rr.eval he q1 fun v H' F Fs' r2 rs => ?_⟩
  obtain ⟨u, e2', ow'⟩ := r2.sl i _ hsl
  rw [e2] at e2'
  cases e2'
  obtain ⟨a1, vs', G0, ea, eG, h3, ow1⟩ := ow'.lstI
  cases ea
  rw [e3'] at h3
  cases h3
  obtain ⟨vm', G1, Gj, G2, k1, k2, k3, k4, k5⟩ := ow1.split hes
  rw [g1] at k1
  cases k1
  obtain ⟨b1, ws, Gb, eb, rfl, h5, ow2⟩ := k4.lstI
  cases eb
  subst k2
  have ha : a0 ∈ Fs' i := by rw [eG]; exact List.mem_cons_self
  have hb : b0 ∈ Fs' i := by rw [eG]; exact List.mem_cons_of_mem _ (List.mem_append_right _ (List.mem_append_left _ List.mem_cons_self))
  have hin : ∀ c ∈ G1 ++ ((b0 :: Gb) ++ G2), c ∈ Fs' i := fun c hc => by rw [eG]; exact List.mem_cons_of_mem _ hc
  have hab : a0 ≠ b0 := fun c => by
    have := r2.nd i
    rw [eG] at this
    exact (List.nodup_cons.mp this).1 (by rw [c]; exact List.mem_append_right _ (List.mem_append_left _ List.mem_cons_self))
  have nd0 := r2.nd i
  rw [eG] at nd0
  obtain ⟨nda, nd1⟩ := List.nodup_cons.mp nd0
  obtain ⟨ndG1, ndR, ndx⟩ := List.nodup_append.mp nd1
  obtain ⟨ndb, ndG2, ndy⟩ := List.nodup_append.mp ndR
  obtain ⟨nbG, ndGb⟩ := List.nodup_cons.mp ndb
  have h5' : H' b0 = some (.lst ws) := rs.ext b0 _ (r2.ns i b0 hb) h5
  have h3' : H' a0 = some (.lst vs) := rs.ext a0 _ (r2.ns i a0 ha) e3'
  have hwl := ow2.length
  refine ⟨b0, ws, v, rfl, rfl, h5', by rw [sizeLine_eq]; omega, ?_⟩
  have hdis : ∀ c ∈ F, c ∉ Fs' i := fun c hc h => r2.wd.al c (.inl ⟨i, h⟩) (rs.fr c hc)
  have hB : plus F (hd S Fs' A0) b0 := .inr (.inl ⟨i, hb⟩)
  have mem3 : ∀ c, c ∈ a0 :: (G1 ++ ((b0 :: (Gb ++ F)) ++ G2)) → c ∈ F ∨ c ∈ Fs' i := fun c h => by
    rcases List.mem_cons.mp h with rfl | h
    · exact .inr ha
    · rcases List.mem_append.mp h with h | h
      · exact .inr (hin c (List.mem_append_left _ h))
      · rcases List.mem_append.mp h with h | h
        · rcases List.mem_cons.mp h with rfl | h
          · exact .inr hb
          · rcases List.mem_append.mp h with h | h
            · exact .inr (hin c (List.mem_append_right _ (List.mem_append_left _ (List.mem_cons_of_mem _ h))))
            · exact .inl h
        · exact .inr (hin c (List.mem_append_right _ (List.mem_append_right _ h)))
  have r3 := r2.mut (i := i) (F := a0 :: (G1 ++ ((b0 :: (Gb ++ F)) ++ G2))) (ov := some (.ref a0)) (s := .ow (k' + 2) (.list (ds.set m (.list (es ++ [d]))))) (H' := upd H' b0 (.lst (ws ++ [v]))) (sto' := sto') hlt ?_ ?_ ?_ ?_ ?_
  · rw [set_same e2] at r3
    exact z S _ _ _ r3
  · intro c o hcS hn h
    rw [upd_ne (fun q : c = b0 => hn (q ▸ hb))]
    exact rs.ext c o hcS h
  · have w1 := rs.wd.upd (o := .lst (ws ++ [v])) hB (r2.ns i b0 hb) ⟨_, h5'⟩
    refine w1.less (fun c h => ?_) (fun a e => .inr (.inr (.inr e)))
    rcases h with h | h
    · exact (mem3 c h).imp id fun h => .inl ⟨i, h⟩
    · exact .inr h
  · refine List.nodup_cons.mpr ⟨fun h => ?_, List.nodup_append.mpr ⟨ndG1, List.nodup_append.mpr ⟨List.nodup_cons.mpr ⟨fun h => ?_, List.nodup_append.mpr ⟨ndGb, rs.nd, fun c hc c' hc' e => hdis c' hc' (e ▸ hin c (List.mem_append_right _ (List.mem_append_left _ (List.mem_cons_of_mem _ hc))))⟩⟩, ndG2, fun c hc c' hc' e => ?_⟩, fun c hc c' hc' e => ?_⟩⟩
    · rcases List.mem_append.mp h with h | h
      · exact nda (List.mem_append_left _ h)
      · rcases List.mem_append.mp h with h | h
        · rcases List.mem_cons.mp h with h | h
          · exact hab h
          · rcases List.mem_append.mp h with h | h
            · exact nda (List.mem_append_right _ (List.mem_append_left _ (List.mem_cons_of_mem _ h)))
            · exact hdis a0 h ha
        · exact nda (List.mem_append_right _ (List.mem_append_right _ h))
    · rcases List.mem_append.mp h with h | h
      · exact nbG h
      · exact hdis b0 h hb
    · subst e
      rcases List.mem_cons.mp hc with rfl | hc
      · exact ndy _ List.mem_cons_self _ hc' rfl
      · rcases List.mem_append.mp hc with hc | hc
        · exact ndy c (List.mem_cons_of_mem _ hc) c hc' rfl
        · exact hdis c hc (hin c (List.mem_append_right _ (List.mem_append_right _ hc')))
    · subst e
      rcases List.mem_append.mp hc' with hc' | hc'
      · rcases List.mem_cons.mp hc' with rfl | hc'
        · exact ndx _ hc _ (List.mem_append_left _ List.mem_cons_self) rfl
        · rcases List.mem_append.mp hc' with hc' | hc'
          · exact ndx c hc c (List.mem_append_left _ (List.mem_cons_of_mem _ hc')) rfl
          · exact hdis c hc' (hin c (List.mem_append_left _ hc))
      · exact ndx c hc c (List.mem_append_right _ hc') rfl
  · intro c h
    exact (mem3 c h).symm.imp id id |>.symm.imp (fun h => rs.fr c h) id
  · refine ⟨.ref a0, rfl, ?_⟩
    generalize hF3 : a0 :: (G1 ++ ((b0 :: (Gb ++ F)) ++ G2)) = F3 at mem3
    have sub : ∀ c, hd S (setF Fs' i F3) A0 c → plus F (hd S Fs' A0) c := fun c h => by
      rcases hd_set r2 c h with h | h
      · exact (mem3 c h).imp id fun h => .inl ⟨i, h⟩
      · exact .inr h
    have hu : hid (plus F (hd S Fs' A0)) (upd H' b0 (.lst (ws ++ [v]))) = hid (plus F (hd S Fs' A0)) H' := hid_upd hB
    have s2 : Same (hid (plus F (hd S Fs' A0)) H') (hid (hd S (setF Fs' i F3) A0) (upd H' b0 (.lst (ws ++ [v])))) := fun c o q => by rw [← hu] at q; exact hid_le sub c o q
    have s1 : Same (hid (hd S Fs' A0) H1) (hid (plus F (hd S Fs' A0)) H') := hid_move rs.ext r2.wd.hS fun c h => by
      rcases h with h | h
      · exact .inr (rs.fr c h)
      · exact .inl h
    have s3 : Same (hid (hd S Fs' A0) H1) (hid (hd S (setF Fs' i F3) A0) (upd H' b0 (.lst (ws ++ [v])))) := fun c o q => s2 c o (s1 c o q)
    have keep : ∀ c ∈ Fs' i, c ≠ b0 → ∀ o, H1 c = some o → upd H' b0 (.lst (ws ++ [v])) c = some o := fun c hc hn o q => by
      rw [upd_ne hn]
      exact rs.ext c o (r2.ns i c hc) q
    have o1 := k3.mv s3 fun c hc o q => keep c (hin c (List.mem_append_left _ hc)) (fun e => ndx c hc b0 (List.mem_append_left _ List.mem_cons_self) e) o q
    have o3 := k5.mv s3 fun c hc o q => keep c (hin c (List.mem_append_right _ (List.mem_append_right _ hc))) (fun e => ndy b0 List.mem_cons_self c hc e.symm) o q
    have o2 := ow2.mv s3 fun c hc o q => keep c (hin c (List.mem_append_right _ (List.mem_append_left _ (List.mem_cons_of_mem _ hc)))) (fun e => nbG (e ▸ hc)) o q
    have o4 : Ow X.K S (hd S (setF Fs' i F3) A0) (upd H' b0 (.lst (ws ++ [v]))) k' v d F := rs.ow.mv s2 fun c hc o q => by
      rw [upd_ne (fun e : c = b0 => hdis c hc (e ▸ hb))]
      exact q
    have o5 := o2.append (.cons o4 .nil)
    rw [List.append_nil] at o5
    rw [← hF3]
    refine .lst (vs := vs) (by rw [upd_ne hab]; exact h3') ?_
    have hml : m < ds.length := (List.getElem?_eq_some_iff.mp hes).1
    have hvl := ow1.length
    have ev : vs = vs.take m ++ (.ref b0 :: vs.drop (m + 1)) := by
      have := set_split vs m (.ref b0) (by omega)
      rw [← this]
      apply List.ext_getElem?
      intro l
      rw [List.getElem?_set]
      by_cases c : m = l
      · subst c
        rw [if_pos rfl, g1, if_pos (by omega)]
      · rw [if_neg c]
    rw [set_split ds m _ hml]
    rw [hF3]
    rw [ev] 
    have := o1.append (.cons (.lst upd_same o5) o3)
    rw [← ev]
    rw [← ev] at this
    exact this
end
end J
namespace J
open PySem PySem.Spec PyProof.Rows L2

def lstLt : D → Bool
  | .list ds => decide (ds.length < 16777216)
  | _ => false
section
variable {K : PySem.W.Frag} {S : List Addr} {A : Addr → Prop} {H : Hp}
theorem OwA.lsts : ∀ {k : Nat} {vs : List V} {ds : List D} {F : List Addr}, OwA K S A H (k + 1) vs ds F → ds.all lstLt = true → F.Nodup →
    ∃ bs : List Addr, vs = bs.map V.ref ∧ bs.Nodup ∧ (∀ b ∈ bs, b ∈ F) ∧ ∀ b ∈ bs, ∃ ws, H b = some (.lst ws) ∧ ws.length < 16777216
  | _, _, _, _, .nil, _, _ => ⟨[], rfl, .nil, (fun _ h => nomatch h), fun _ h => nomatch h⟩
  | k, _, _, _, .cons (d := d) (F := F) (G := G) a b, h, nd => by
    rw [List.all_cons, Bool.and_eq_true] at h
    obtain ⟨n1, n2, n3⟩ := List.nodup_append.mp nd
    obtain ⟨bs, e1, e2, e3, e4⟩ := OwA.lsts b h.2 n2
    cases d with
    | list es =>
      obtain ⟨c, ws, F0, rfl, rfl, e5, ow⟩ := a.lstI
      have hl : es.length < 16777216 := of_decide_eq_true h.1
      refine ⟨c :: bs, by rw [e1]; rfl, List.nodup_cons.mpr ⟨fun hc => n3 c List.mem_cons_self c (e3 c hc) rfl, e2⟩, fun x hx => ?_, fun x hx => ?_⟩
      · rcases List.mem_cons.mp hx with rfl | hx
        · exact List.mem_append_left _ List.mem_cons_self
        · exact List.mem_append_right _ (e3 x hx)
      · rcases List.mem_cons.mp hx with rfl | hx
        · exact ⟨ws, e5, by rw [ow.length]; exact hl⟩
        · exact e4 x hx
    | _ => exact absurd h.1 (fun z => nomatch z)
end
theorem OwA.scal {K : PySem.W.Frag} {S S' : List Addr} {A : Addr → Prop} {H H' : Hp} : ∀ {k : Nat} {vs : List V} {ds : List D} {F : List Addr}, OwA K S A H k vs ds F → (∀ d ∈ ds, isScal d = true) → RpA K S' H' vs ds
  | _, _, _, _, .nil, _ => .nil
  | _, _, _, _, .cons a b, h => .cons (a.scal (h _ List.mem_cons_self)) (OwA.scal b fun d hd => h d (List.mem_cons_of_mem _ hd))
section
variable {Z : List Addr → Prop} {X : Cx} {st : Stmt} {rest body orelse : List Stmt} {tg it e a b c : Expr} {f g : Ev} {gb : Sv} {gt : TG} {bd : Bd} {fi : EvI} {t : EvT} {j k n i l : Nat} {pos p p2 apos cpos : Pos} {x y : Str} {M : List Nat}
/-- for y in (an owned list of lists): y.append(e), e plain and the same each time; the list is not looked at any more -/
theorem appAll {C : Hp} {S0 S : List Addr} {A0 : Addr → Prop} {H0 H : Hp} {σ : Sg} {env : Env} {sto : STO} {Fs : Nat → List Addr} {aL : Addr} {vs : List V} {bs : List Addr} {E : Ends} {d : D} {g : TS}
    (r : Sr X.K C S0 S A0 H0 σ H env sto Fs) (hil : i ≠ l) (hi : i < env.length) (hl : l < env.length) (haF : aL ∈ Fs i) (hH : H aL = some (.lst vs)) (evs : vs = bs.map V.ref) (nd : bs.Nodup) (hbF : ∀ b ∈ bs, b ∈ Fs i) (hbN : aL ∉ bs)
    (hb : ∀ b ∈ bs, ∃ ws, H b = some (.lst ws) ∧ ws.length < 16777216) (hsc : isScal d = true)
    (hg : ∀ S1 (σ1 : Sg) H1 env1 sto1 Fs1 b ws (E1 : Ends), Sr X.K (hid (hd S Fs A0) H) S0 S1 A0 H0 σ1 H1 env1 sto1 Fs1 → env1.length = env.length → H1 b = some (.lst ws) → b ∈ Fs1 i → ws.length < 16777216 → σ1[l]? = some (some (.ref b)) →
      (∀ v H2, Ext S1 H1 H2 → Wd X.K S1 (hd S1 Fs1 A0) H2 sto1 → Rp X.K S1 (hid (hd S1 Fs1 A0) H2) v d → E1.nx σ1 (upd H2 b (.lst (ws ++ [v])))) → g E1 σ1 H1)
    (z : ∀ S σ H Fs, Sr X.K C S0 S A0 H0 σ H ((env.set i .no).set l .no) sto Fs → E.nx σ H) :
    ∃ W : Nat → Nat → L2.St → Hp → Prop, (∃ m, W 0 m σ H) ∧ ∀ i m σ H, W i m σ H →
      ((Itl X.K aL).stop i H ∧ E.nx σ H) ∨ ((Itl X.K aL).go i H ∧ ∃ N : L2.St → Hp → Prop, (∀ σ' H', N σ' H' → ∃ m', m' < m ∧ W (i + 1) m' σ' H') ∧ ∀ x H', (Itl X.K aL).yld i H x H' → gName l x σ H' fun σ2 H2 => g { E with nx := N, ct := N, bk := E.nx } σ2 H2) := by
  have hS : aL ∉ S := r.ns i aL haF
  refine for_it (walk_list (xs := vs)) (tb := g) (D := E) (fun m σ1 H1 => ∃ Fs1, Sr X.K (hid (hd S Fs A0) H) S0 S A0 H0 σ1 H1 ((env.set i .no).set l .no) sto Fs1 ∧ Fs1 i = Fs i ∧ H1 aL = some (.lst vs) ∧ ∀ b ∈ bs.drop m, ∃ ws, H1 b = some (.lst ws) ∧ ws.length < 16777216) ?_ ?_ ?_ ?_
  · have r1 := r.chk.mut (i := i) (F := Fs i) (s := .no) (ov := σ.getD i none) (H' := H) (sto' := sto) hi (fun b o _ _ h => h) (r.wd.less (fun b h => by
      rcases h with h | h
      · exact .inl ⟨i, h⟩
      · exact h) fun b e => .inr (.inr (.inr e))) (r.nd i) (fun b h => .inr h) trivial
    have hiσ : i < σ.length := by rw [← r.len]; exact hi
    rw [set_same (by rw [List.getD_eq_getElem?_getD, List.getElem?_eq_getElem hiσ]; rfl)] at r1
    have r2 := r1.drop (i := l) (by rw [List.length_set]; exact hl) (σ.getD l none)
    have hlσ : l < σ.length := by rw [← r.len]; exact hl
    rw [set_same (by rw [List.getD_eq_getElem?_getD, List.getElem?_eq_getElem hlσ]; rfl)] at r2
    refine ⟨_, r2, ?_, hH, fun b h => hb b h⟩
    unfold setF
    rw [if_neg hil, if_pos rfl]
  · rintro m σ1 H1 _ ⟨Fs1, r1, _, h2, _⟩
    exact .inl (.inl h2)
  · rintro m x σ1 H1 H2 hm ⟨Fs1, r1, eF, h2, h3⟩ ⟨rfl, hx⟩
    subst evs
    rw [List.length_map] at hm
    have ex : x = .ref bs[m] := by
      rw [List.getElem?_map, List.getElem?_eq_getElem hm] at hx
      exact (Option.some.inj hx).symm
    subst ex
    have hdrop : bs.drop m = bs[m] :: bs.drop (m + 1) := List.drop_eq_getElem_cons hm
    obtain ⟨ws, h4, h5⟩ := h3 bs[m] (by rw [hdrop]; exact List.mem_cons_self)
    have hmem : bs[m] ∈ bs := List.getElem_mem hm
    have hl1 : l < ((env.set i Slot.no).set l .no).length := by rw [List.length_set, List.length_set]; exact hl
    have r2 := r1.drop (i := l) hl1 (some (.ref bs[m]))
    have hset : (((env.set i Slot.no).set l .no).set l .no) = (env.set i Slot.no).set l .no := by rw [List.set_set]
    rw [hset] at r2
    have eF2 : setF Fs1 l [] i = Fs i := by unfold setF; rw [if_neg hil]; exact eF
    refine hg S _ H2 _ sto _ bs[m] ws _ r2 (by rw [List.length_set, List.length_set]) h4 (by rw [eF2]; exact hbF _ hmem) h5 (by rw [List.getElem?_set, if_pos rfl, if_pos (by rw [← r1.len]; exact hl1)]) fun v H3 x3 w3 p3 => ?_
    have r3 := r2.go x3 w3
    have hbi : bs[m] ∈ setF Fs1 l [] i := by rw [eF2]; exact hbF _ hmem
    have hi3 : i < ((env.set i Slot.no).set l .no).length := by rw [List.length_set, List.length_set]; exact hi
    have hiσ : i < (σ1.set l (some (.ref bs[m]))).length := by rw [← r3.len]; exact hi3
    have r4 := r3.mut (i := i) (F := setF Fs1 l [] i) (s := .no) (ov := (σ1.set l (some (.ref bs[m]))).getD i none) (H' := upd H3 bs[m] (.lst (ws ++ [v]))) (sto' := sto) hi3 (fun b o _ hn h => by rw [upd_ne (fun e : b = bs[m] => hn (e ▸ hbi))]; exact h)
      ((r3.wd.upd (D := bs[m]) (.inl ⟨i, hbi⟩) (r3.ns i _ hbi) ⟨ws, x3 _ _ (r2.ns i _ hbi) h4⟩).less (fun b h => by
        rcases h with h | h
        · exact .inl ⟨i, h⟩
        · exact h) fun b e => .inr (.inr (.inr e))) (r3.nd i) (fun b h => .inr h) trivial
    rw [set_same (by rw [List.getD_eq_getElem?_getD, List.getElem?_eq_getElem hiσ]; rfl)] at r4
    have hset2 : (((env.set i Slot.no).set l .no).set i .no) = (env.set i Slot.no).set l .no := by
      apply List.ext_getElem?
      intro q
      rw [List.getElem?_set]
      by_cases c : i = q
      · subst c
        rw [if_pos rfl, if_pos hi3, List.getElem?_set_ne (Ne.symm hil), List.getElem?_set, if_pos rfl, if_pos hi]
      · rw [if_neg c]
    rw [hset2] at r4
    refine ⟨_, r4, ?_, ?_, fun b h => ?_⟩
    · unfold setF
      rw [if_pos rfl, if_neg hil]
      exact eF
    · rw [upd_ne (fun e : aL = bs[m] => hbN (e ▸ hmem))]
      exact x3 aL _ hS h2
    · obtain ⟨ws', q1, q2⟩ := h3 b (by rw [hdrop]; exact List.mem_cons_of_mem _ h)
      refine ⟨ws', ?_, q2⟩
      have hne : b ≠ bs[m] := fun e => by
        rw [← List.take_append_drop m bs, hdrop] at nd
        have := (List.nodup_cons.mp (List.nodup_append.mp nd).2.1).1
        exact this (e ▸ h)
      rw [upd_ne hne]
      exact x3 b _ (r.ns i b (hbF b (List.mem_of_mem_drop h))) q1
  · rintro σ1 H1 ⟨Fs1, r1, _, _, _⟩
    exact z S σ1 H1 Fs1 (r1.back r.pub)
/-- for y in x: y.append(e) -/
def sAppAll (i l : Nat) : Sv := fun env s => if i ≠ l ∧ l < env.length then match env[i]? with
  | some (.ow (_ + 2) (.list ds)) => if ds.all lstLt = true then some (.nx, (env.set i .no).set l .no, s) else none
  | _ => none
  else none
theorem js_appAll {py : Pos} {p5 p6 : Pos} (hp : PassesOwn (model X.prog X.w) X.A X.env X.xe) (hc : X.calm = true) (hN : X.N.Nodup) {d : D} (he : JP X e f 0) (hf : ∀ s, f [] s = some (d, s)) (hsc : isScal d = true) (hi : X.N[i]? = some x) (hx : Vis X.env.scope x) (hly : X.N[l]? = some y) (hyl : X.env.scope.names.lookup y = some .local)
    (hdb : (x == Str.ofString "__debug__") = false := by decide) (hcd : (x == Str.ofString "__classdict__") = false := by decide) (hdb2 : (y == Str.ofString "__debug__") = false := by decide) (hcd2 : (y == Str.ofString "__classdict__") = false := by decide)
    (hbase : attributeBase (.Name y p) "append" X.env (eval (.Name y p) X.env) = eval (.Name y p) X.env := by rfl)
    (hfew : ((backTo cpos (starEach [e] X.env)).all (fun x => !x.1) && (backToKw cpos (keywordEach [] X.env)).all (fun x => x.1.isSome) && decide ([e].length + ([] : List Keyword).length + (if ([] : List Keyword).isEmpty then 0 else 1) < 30)) = true := by rfl)
    (hline : (apos.endLine == cpos.line) = true := by rfl) (hs : starEach [e] X.env = (false, eval e X.env) :: starEach [] X.env := by rfl) (hsw : swapsWith (.Call (.Attribute (.Name y p) "append" apos) [e] [] cpos) none p6.line X.env = pure false := by rfl)
    (hfs : ∀ z, foldedSetIterable (.Name x p5) X.env z = pure z := by intro _; rfl) :
    JS Z X (.For (.Name y py) (.Name x p5) [.Expr (.Call (.Attribute (.Name y p) "append" apos) [e] [] cpos) p6] [] pos) (sAppAll i l) k := fun C S0 S A0 H0 σ H env sto Fs o env' sto' E hZ r q z => by
  unfold sAppAll at q
  split at q
  case isFalse => cases q
  rename_i hil
  obtain ⟨hil, hl⟩ := hil
  split at q
  case h_2 => cases q
  rename_i k' ds hsl
  split at q
  case isFalse => cases q
  rename_i hds
  cases q
  obtain ⟨u, e2, ow⟩ := r.sl i _ hsl
  obtain ⟨a0, vs, F0, rfl, eF, e3, ow0⟩ := ow.lstI
  have nd0 := r.nd i
  rw [eF] at nd0
  obtain ⟨nd1, nd2⟩ := List.nodup_cons.mp nd0
  obtain ⟨bs, b1, b2, b3, b4⟩ := ow0.lsts hds nd2
  refine wpS.by (ps_for hp hc (pi_list (pe_var hi hx hdb hcd)) (pg_name hN hly (.inl hyl) (.inr hyl)) (pss_one (ps_expr (pe_bm PySem.F.plainAttrs_list PySem.F.slot_list_append rfl mt_append (pe_var hly (.inl hyl) hdb2 hcd2) (pa_cons wpE_pe pa_nil hs) hbase hfew hline hs rfl) hsw)) hfs) ?_
  refine ⟨_, e2, a0, rfl, ⟨vs, .of e3⟩, ?_⟩
  refine appAll (d := d) r hil (List.getElem?_eq_some_iff.mp hsl).1 hl (by rw [eF]; exact List.mem_cons_self) e3 b1 b2 (fun b hb => by rw [eF]; exact List.mem_cons_of_mem _ (b3 b hb)) (fun h => nd1 (b3 _ h)) b4 hsc ?_ z
  intro S1 σ1 H1 env1 sto1 Fs1 b ws E1 r1 hlen h1 h2 h3 h4 h5
  refine ⟨_, h4, .inl ⟨rfl, ws, .of h1⟩, ?_⟩
  have rd : RdV X.K S1 (hd S1 Fs1 A0) σ1 H1 [] := ⟨Nat.zero_le _, fun i d h => by simp at h⟩
  refine he.use r1.wd rd (hf _) fun v H2 x2 w2 _ p2 => ⟨b, ws, v, rfl, rfl, x2 b _ (r1.ns i b h2) h1, by rw [sizeLine_eq]; omega, h5 v H2 x2 w2 p2⟩
/-- for y in x[c]: y.append(e) -/
def sAppAll1 (i l : Nat) (fi : Ev) : Sv := fun env s => if i ≠ l ∧ l < env.length then (fi (see [] env) s).bind fun pi => match pi.1, env[i]? with
  | .int n, some (.ow (_ + 3) (.list es)) => (ixN es.length n).bind fun m => match es[m]? with
    | some (.list ds) => if ds.all lstLt = true then some (.nx, (env.set i .no).set l .no, pi.2) else none
    | _ => none
  | _, _ => none
  else none
theorem js_appAll1 {py : Pos} {p5 p6 p7 : Pos} (hp : PassesOwn (model X.prog X.w) X.A X.env X.xe) (hc : X.calm = true) (hN : X.N.Nodup) (hix : JP X b g 0) (hsx : PlainIx b) {d : D} (he : JP X e f 0) (hf : ∀ s, f [] s = some (d, s)) (hsc : isScal d = true) (hi : X.N[i]? = some x) (hx : Vis X.env.scope x) (hly : X.N[l]? = some y) (hyl : X.env.scope.names.lookup y = some .local)
    (hdb : (x == Str.ofString "__debug__") = false := by decide) (hcd : (x == Str.ofString "__classdict__") = false := by decide) (hdb2 : (y == Str.ofString "__debug__") = false := by decide) (hcd2 : (y == Str.ofString "__classdict__") = false := by decide)
    (hbase : attributeBase (.Name y p) "append" X.env (eval (.Name y p) X.env) = eval (.Name y p) X.env := by rfl)
    (hfew : ((backTo cpos (starEach [e] X.env)).all (fun x => !x.1) && (backToKw cpos (keywordEach [] X.env)).all (fun x => x.1.isSome) && decide ([e].length + ([] : List Keyword).length + (if ([] : List Keyword).isEmpty then 0 else 1) < 30)) = true := by rfl)
    (hline : (apos.endLine == cpos.line) = true := by rfl) (hs : starEach [e] X.env = (false, eval e X.env) :: starEach [] X.env := by rfl) (hsw : swapsWith (.Call (.Attribute (.Name y p) "append" apos) [e] [] cpos) none p6.line X.env = pure false := by rfl)
    (hfs : ∀ z, foldedSetIterable (.Subscript (.Name x p5) b p7) X.env z = pure z := by intro _; rfl) :
    JS Z X (.For (.Name y py) (.Subscript (.Name x p5) b p7) [.Expr (.Call (.Attribute (.Name y p) "append" apos) [e] [] cpos) p6] [] pos) (sAppAll1 i l g) k := fun C S0 S A0 H0 σ H env sto Fs o env' sto' E hZ r q z => by
  unfold sAppAll1 at q
  split at q
  case isFalse => cases q
  rename_i hil
  obtain ⟨hil, hl⟩ := hil
  obtain ⟨⟨di, s1⟩, q0, q⟩ := bind_some' q
  split at q
  case h_2 => cases q
  rename_i n k' es hdi hsl
  obtain rfl : di = .int n := hdi
  obtain ⟨m, hm, q⟩ := bind_some' q
  split at q
  case h_2 => cases q
  rename_i ds hes
  split at q
  case isFalse => cases q
  rename_i hds
  cases q
  refine wpS.by (ps_for hp hc (pi_list (pe_ix ix_list (pe_var hi hx hdb hcd) wpE_pe hsx)) (pg_name hN hly (.inl hyl) (.inr hyl)) (pss_one (ps_expr (pe_bm PySem.F.plainAttrs_list PySem.F.slot_list_append rfl mt_append (pe_var hly (.inl hyl) hdb2 hcd2) (pa_cons wpE_pe pa_nil hs) hbase hfew hline hs rfl) hsw)) hfs) ?_
  obtain ⟨u, e2, ow⟩ := r.sl i _ hsl
  obtain ⟨a0, vs0, F0, rfl, eF, e3, ow0⟩ := ow.lstI
  refine ⟨_, e2, hix.use (r.wdM []) (r.rdM []) q0 fun vi H1 x1 w1 r1 p1 => ?_⟩
  have rr : Sr X.K C S0 S A0 H0 σ H1 env s1 Fs := r.go x1 (r.wd.wide x1 w1 (okM_g (okM_nil _)))
  obtain ⟨u, e2', ow'⟩ := rr.sl i _ hsl
  rw [e2] at e2'
  cases e2'
  obtain ⟨a1, vs1, F1, ea, eF', e3', ow1⟩ := ow'.lstI
  cases ea
  rw [eF] at eF'
  cases eF'
  have haF : a0 ∈ Fs i := by rw [eF]; exact List.mem_cons_self
  obtain ⟨vm, G1, Gj, G2, g1, g2, g3, g4, g5⟩ := ow1.split hes
  obtain ⟨b0, vs, Fb, rfl, rfl, e5, owb⟩ := g4.lstI
  have hat : atI vs1 n = some (.ref b0) := by unfold atI; rw [ow1.length, hm]; exact g1
  have hin : ∀ c ∈ (b0 :: Fb), c ∈ Fs i := fun c hc => by rw [eF, g2]; exact List.mem_cons_of_mem _ (List.mem_append_right _ (List.mem_append_left _ hc))
  have nd0 := r.nd i
  rw [eF, g2] at nd0
  have ndb := (List.nodup_append.mp (List.nodup_append.mp (List.nodup_cons.mp nd0).2).2.1).1
  obtain ⟨nd1, nd2⟩ := List.nodup_cons.mp ndb
  obtain ⟨bs, b1, b2, b3, b4⟩ := owb.lsts hds nd2
  refine ⟨a0, vs1, n, .ref b0, rfl, p1.intI, .of e3', hat, b0, rfl, ⟨vs, .of e5⟩, ?_⟩
  refine appAll (d := d) rr hil (List.getElem?_eq_some_iff.mp hsl).1 hl (hin b0 List.mem_cons_self) e5 b1 b2 (fun b hb => hin b (List.mem_cons_of_mem _ (b3 b hb))) (fun h => nd1 (b3 _ h)) b4 hsc ?_ z
  intro S1 σ1 H1 env1 sto1 Fs1 b ws E1 r1 hlen h1 h2 h3 h4 h5
  refine ⟨_, h4, .inl ⟨rfl, ws, .of h1⟩, ?_⟩
  have rd : RdV X.K S1 (hd S1 Fs1 A0) σ1 H1 [] := ⟨Nat.zero_le _, fun i d h => by simp at h⟩
  refine he.use r1.wd rd (hf _) fun v H2 x2 w2 _ p2 => ⟨b, ws, v, rfl, rfl, x2 b _ (r1.ns i b h2) h1, by rw [sizeLine_eq]; omega, h5 v H2 x2 w2 p2⟩

/-- a slot takes what another one owned -/
theorem Sr.mut2 {K : PySem.W.Frag} {C : Hp} {S0 S : List Addr} {A0 : Addr → Prop} {H0 H H' : Hp} {σ : Sg} {env : Env} {sto sto' : STO} {Fs : Nat → List Addr} {F : List Addr} {i l : Nat} (r : Sr K C S0 S A0 H0 σ H env sto Fs) (hi : i < env.length) (hl : l < env.length) (hil : i ≠ l)
    (e : ∀ b o, b ∉ S → b ∉ Fs i → H b = some o → H' b = some o) (w : Wd K S (hd S Fs A0) H' sto') (nd : F.Nodup) (fr : ∀ a ∈ F, a ∈ Fs i ∨ a ∈ Fs l) {s : Slot} {ov : Option V}
    (hs : SlotOk K S (hd S (setF (setF Fs l []) i F) A0) H' (some ov) F s) : Sr K C S0 S A0 H0 (σ.set i ov) H' ((env.set i s).set l .no) sto' (setF (setF Fs l []) i F) := by
  have hiσ : i < σ.length := by rw [← r.len]; exact hi
  have get : ∀ j, setF (setF Fs l []) i F j = if j = i then F else if j = l then [] else Fs j := fun j => rfl
  have hin : ∀ a, a ∈ F → hd S Fs A0 a := fun a h => (fr a h).elim (fun h => .inl ⟨i, h⟩) fun h => .inl ⟨l, h⟩
  have hnew : ∀ a, hd S (setF (setF Fs l []) i F) A0 a → hd S Fs A0 a := fun a h => by
    rcases h with ⟨j, h⟩ | h
    · rw [get] at h
      split at h
      · exact hin a h
      · split at h
        · exact nomatch h
        · exact .inl ⟨j, h⟩
    · exact .inr h
  have hm : Same (hid (hd S Fs A0) H) (hid (hd S (setF (setF Fs l []) i F) A0) H') := fun a o q => by
    rw [hid_eq] at q ⊢
    exact ⟨fun z => q.1 (hnew a z), e a o (fun z => q.1 (.inr (.inr z))) (fun z => q.1 (.inl ⟨i, z⟩)) q.2⟩
  have hx : Ext S0 H0 H' := fun b o hb hbo => by
    refine e b o (fun z => ?_) (fun z => ?_) (r.ext b o hb hbo)
    · exact hb (r.inS0 z hbo)
    · rw [r.fr i b z] at hbo; cases hbo
  have dj : ∀ j a, j ≠ i → a ∈ F → a ∈ (if j = l then [] else Fs j) → False := fun j a hj h1 h2 => by
    split at h2
    · exact nomatch h2
    · rename_i hjl
      rcases fr a h1 with h | h
      · exact hj (r.dj j i a h2 h)
      · exact hjl (r.dj j l a h2 h)
  have sub : ∀ j a, a ∈ (if j = l then [] else Fs j) → a ∈ Fs j := fun j a h => by
    split at h
    · exact nomatch h
    · exact h
  refine ⟨by rw [List.length_set, List.length_set, List.length_set]; exact r.len, r.s0, r.al0, r.a0S, hx, w.less hnew (fun a e => .inr (.inr e)), fun j => ?_, fun j m a h1 h2 => ?_, fun j a h => ?_, fun j a h => ?_, fun j t h => ?_, fun j h => ?_, fun a o h => hm a o (r.pub a o h)⟩
  · rw [get]
    split
    · exact nd
    · split
      · exact .nil
      · exact r.nd j
  · rw [get] at h1 h2
    by_cases c1 : j = i
    · by_cases c2 : m = i
      · rw [c1, c2]
      · rw [if_pos c1] at h1; rw [if_neg c2] at h2
        exact (dj m a c2 h1 h2).elim
    · by_cases c2 : m = i
      · rw [if_neg c1] at h1; rw [if_pos c2] at h2
        exact (dj j a c1 h2 h1).elim
      · rw [if_neg c1] at h1; rw [if_neg c2] at h2
        exact r.dj j m a (sub j a h1) (sub m a h2)
  · rw [get] at h
    split at h
    · exact (fr a h).elim (r.fr i a) (r.fr l a)
    · exact r.fr j a (sub j a h)
  · rw [get] at h
    split at h
    · exact (fr a h).elim (r.ns i a) (r.ns l a)
    · exact r.ns j a (sub j a h)
  · by_cases c2 : j = l
    · subst c2
      rw [List.getElem?_set, if_pos rfl, if_pos (by rw [List.length_set]; exact hl)] at h
      cases h
      exact trivial
    · rw [List.getElem?_set_ne (Ne.symm c2)] at h
      by_cases c : j = i
      · subst c
        rw [List.getElem?_set, if_pos rfl, if_pos hi] at h
        cases h
        rw [List.getElem?_set, if_pos rfl, if_pos hiσ, get, if_pos rfl]
        exact hs
      · rw [List.getElem?_set_ne (Ne.symm c)] at h ⊢
        rw [get, if_neg c, if_neg c2]
        have q := r.sl j t h
        cases t with
        | no => exact q
        | sh d' =>
          obtain ⟨q1, u, e1, e2⟩ := q
          exact ⟨q1, u, e1, e2.le hm⟩
        | ow k d' =>
          obtain ⟨u, e1, e2⟩ := q
          exact ⟨u, e1, e2.mv hm fun a ha o q => e a o (r.ns j a ha) (fun z => c (r.dj j i a ha z)) q⟩
  · rw [List.getElem?_eq_none_iff, List.length_set, List.length_set] at h
    rw [get, if_neg (by omega), if_neg (by omega)]
    exact r.out j (List.getElem?_eq_none h)
/-- name.append(y), what y owned handed on -/
def sAppM (i l k : Nat) : Sv := fun env s => match env[i]?, env[l]? with
  | some (.ow (k' + 1) (.list ds)), some (.ow j d) => if k' = k ∧ j = k ∧ i ≠ l ∧ ds.length < 16777216 then some (.nx, (env.set i (.ow (k + 1) (.list (ds ++ [d])))).set l .no, s) else none
  | _, _ => none
theorem js_appM {px : Pos} (hi : X.N[i]? = some x) (hx : Vis X.env.scope x) (hly : X.N[l]? = some y) (hy : Vis X.env.scope y) (hdb : (x == Str.ofString "__debug__") = false := by decide) (hcd : (x == Str.ofString "__classdict__") = false := by decide) (hdb2 : (y == Str.ofString "__debug__") = false := by decide) (hcd2 : (y == Str.ofString "__classdict__") = false := by decide)
    (hbase : attributeBase (.Name x p) "append" X.env (eval (.Name x p) X.env) = eval (.Name x p) X.env := by rfl)
    (hfew : ((backTo cpos (starEach [.Name y px] X.env)).all (fun x => !x.1) && (backToKw cpos (keywordEach [] X.env)).all (fun x => x.1.isSome) && decide ([Expr.Name y px].length + ([] : List Keyword).length + (if ([] : List Keyword).isEmpty then 0 else 1) < 30)) = true := by rfl)
    (hline : (apos.endLine == cpos.line) = true := by rfl) (hs : starEach [.Name y px] X.env = (false, eval (.Name y px) X.env) :: starEach [] X.env := by rfl) (hsw : swapsWith (.Call (.Attribute (.Name x p) "append" apos) [.Name y px] [] cpos) none pos.line X.env = pure false := by rfl) :
    JS Z X (.Expr (.Call (.Attribute (.Name x p) "append" apos) [.Name y px] [] cpos) pos) (sAppM i l j) k := fun C S0 S A0 H0 σ H env sto Fs o env' sto' E hZ r q z => by
  unfold sAppM at q
  split at q
  case h_2 => cases q
  rename_i k' ds j' d hsl hsy
  split at q
  case isFalse => cases q
  rename_i hk
  obtain ⟨rfl, rfl, hil, hlen⟩ := hk
  cases q
  have hlt : i < env.length := (List.getElem?_eq_some_iff.mp hsl).1
  have hll : l < env.length := (List.getElem?_eq_some_iff.mp hsy).1
  obtain ⟨u, e2, ow⟩ := r.sl i _ hsl
  obtain ⟨a0, vs, F0, rfl, eF, e3, ow0⟩ := ow.lstI
  obtain ⟨v, e4, owy⟩ := r.sl l _ hsy
  refine wpS.by (ps_expr (pe_bm PySem.F.plainAttrs_list PySem.F.slot_list_append rfl mt_append (pe_var hi hx hdb hcd) (pa_cons (pe_var hly hy hdb2 hcd2) pa_nil hs) hbase hfew hline hs rfl) hsw) ?_
  have hvl := ow0.length
  refine ⟨_, e2, .inl ⟨rfl, vs, .of e3⟩, v, e4, a0, vs, v, rfl, rfl, e3, by rw [sizeLine_eq]; omega, ?_⟩
  have ha : a0 ∈ Fs i := by rw [eF]; exact List.mem_cons_self
  have nd0 := r.nd i
  rw [eF] at nd0
  have hF0 : ∀ b ∈ F0, b ∈ Fs i := fun b hb => by rw [eF]; exact List.mem_cons_of_mem _ hb
  have hA : hd S Fs A0 a0 := .inl ⟨i, ha⟩
  have hdis : ∀ b, b ∈ Fs i → b ∈ Fs l → False := fun b h1 h2 => hil (r.dj i l b h1 h2)
  have r3 := r.mut2 (i := i) (l := l) (F := a0 :: (F0 ++ Fs l)) (ov := some (.ref a0)) (s := .ow (j' + 1) (.list (ds ++ [d]))) (H' := upd H a0 (.lst (vs ++ [v]))) (sto' := sto) hlt hll hil ?_ ?_ ?_ ?_ ?_
  · rw [set_same e2] at r3
    exact z S _ _ _ r3
  · intro b o hb hn h
    rw [upd_ne (fun c : b = a0 => hn (c ▸ ha))]
    exact h
  · exact r.wd.upd hA (r.ns i a0 ha) ⟨_, e3⟩
  · refine List.nodup_cons.mpr ⟨fun h => ?_, List.nodup_append.mpr ⟨(List.nodup_cons.mp nd0).2, r.nd l, fun b hb c hc e => hdis b (hF0 b hb) (e ▸ hc)⟩⟩
    rcases List.mem_append.mp h with h | h
    · exact (List.nodup_cons.mp nd0).1 h
    · exact hdis a0 ha h
  · intro b h
    rcases List.mem_cons.mp h with rfl | h
    · exact .inl ha
    · rcases List.mem_append.mp h with h | h
      · exact .inl (hF0 b h)
      · exact .inr h
  · refine ⟨.ref a0, rfl, .lst upd_same ?_⟩
    generalize hF3 : a0 :: (F0 ++ Fs l) = F3
    have sub : ∀ b, hd S (setF (setF Fs l []) i F3) A0 b → hd S Fs A0 b := fun b h => by
      rcases h with ⟨m, h⟩ | h
      · have h' : b ∈ (if m = i then F3 else if m = l then [] else Fs m) := h
        split at h'
        · rw [← hF3] at h'
          rcases List.mem_cons.mp h' with rfl | h'
          · exact hA
          · rcases List.mem_append.mp h' with h' | h'
            · exact .inl ⟨i, hF0 b h'⟩
            · exact .inl ⟨l, h'⟩
        · split at h'
          · exact nomatch h'
          · exact .inl ⟨m, h'⟩
      · exact .inr h
    have hu : hid (hd S Fs A0) (upd H a0 (.lst (vs ++ [v]))) = hid (hd S Fs A0) H := hid_upd hA
    have s2 : Same (hid (hd S Fs A0) H) (hid (hd S (setF (setF Fs l []) i F3) A0) (upd H a0 (.lst (vs ++ [v])))) := fun b o q => by rw [← hu] at q; exact hid_le sub b o q
    have o1 := ow0.mv s2 fun b hb o q => by
      rw [upd_ne (fun c : b = a0 => (List.nodup_cons.mp nd0).1 (c ▸ hb))]
      exact q
    have o2 := owy.mv s2 fun b hb o q => by
      rw [upd_ne (fun c : b = a0 => hdis a0 ha (c ▸ hb))]
      exact q
    have := o1.append (.cons o2 .nil)
    rwa [List.append_nil] at this

end
/-! ### cells are made -/
mutual
def tokLt (n : Nat) : D → Bool
  | .list ds => tokLtA n ds
  | .tuple ds => tokLtA n ds
  | .dict es => (match es with
    | [(.none, .int i)] => decide (0 ≤ i) && decide (i < n)
    | _ => true) && tokLtE n es
  | _ => true
def tokLtA (n : Nat) : List D → Bool
  | [] => true
  | d :: r => tokLt n d && tokLtA n r
def tokLtE (n : Nat) : List (D × D) → Bool
  | [] => true
  | (_, d) :: r => tokLt n d && tokLtE n r
end
section
variable {K : PySem.W.Frag} {S T : List Addr} {H : Hp}
theorem Rp.grow {v : V} {d : D} (h : Rp K S H v d) : Rp K (S ++ T) H v d :=
  Rp.rec (motive_1 := fun v d _ => Rp K (S ++ T) H v d) (motive_2 := fun v d _ => RpA K (S ++ T) H v d) (motive_3 := fun v d _ => RpK K (S ++ T) H v d) (motive_4 := fun v d _ => RpT K (S ++ T) H v d)
    .non (fun b => .bl b) (fun i => .int i) (fun x => .str x) (fun s _ h => .lst s h) (fun s _ h => .tup s h)
    (fun s _ h => .dK s h) (fun s _ h => .dT s h) (fun s => .tok (by rw [List.getElem?_append_left (List.getElem?_eq_some_iff.mp s).1]; exact s)) (fun s _ h => .sk s h)
    .nil (fun _ _ a b => .cons a b) .nil (fun _ _ a b => .cons a b) .nil (fun _ _ a b => .cons a b) h
theorem RpA.grow : ∀ {vs : List V} {ds : List D}, RpA K S H vs ds → RpA K (S ++ T) H vs ds
  | _, _, .nil => .nil
  | _, _, .cons a b => .cons a.grow b.grow
theorem RpK.grow : ∀ {vs : List (Key × V)} {ds : List (D × D)}, RpK K S H vs ds → RpK K (S ++ T) H vs ds
  | _, _, .nil => .nil
  | _, _, .cons a b => .cons a.grow b.grow
theorem RpT.grow : ∀ {vs : List (List Key × V)} {ds : List (D × D)}, RpT K S H vs ds → RpT K (S ++ T) H vs ds
  | _, _, .nil => .nil
  | _, _, .cons a b => .cons a.grow b.grow
theorem Rp.shrink {v : V} {d : D} (h : Rp K (S ++ T) H v d) : tokLt S.length d = true → Rp K S H v d :=
  Rp.rec (motive_1 := fun v d _ => tokLt S.length d = true → Rp K S H v d) (motive_2 := fun v d _ => tokLtA S.length d = true → RpA K S H v d) (motive_3 := fun v d _ => tokLtE S.length d = true → RpK K S H v d) (motive_4 := fun v d _ => tokLtE S.length d = true → RpT K S H v d)
    (fun _ => .non) (fun b _ => .bl b) (fun i _ => .int i) (fun x _ => .str x) (fun s _ h e => .lst s (h (by rw [tokLt] at e; exact e))) (fun s _ h e => .tup s (h (by rw [tokLt] at e; exact e)))
    (fun s _ h e => .dK s (h (by simp only [tokLt, Bool.and_eq_true] at e; exact e.2))) (fun s _ h e => .dT s (h (by simp only [tokLt, Bool.and_eq_true] at e; exact e.2)))
    (fun {a i} s e => .tok (by
      have e : (decide ((0 : Int) ≤ (i : Int)) && decide ((i : Int) < S.length)) && tokLtE S.length [(.none, .int (i : Nat))] = true := e
      rw [Bool.and_eq_true, Bool.and_eq_true, decide_eq_true_eq, decide_eq_true_eq] at e
      rw [List.getElem?_append_left (by omega)] at s
      exact s))
    (fun s _ h e => .sk s (h (by simp only [skD, tokLt, tokLtE, Bool.and_eq_true] at e; exact e.2.1)))
    (fun _ => .nil) (fun _ _ a b e => by rw [tokLtA, Bool.and_eq_true] at e; exact .cons (a e.1) (b e.2)) (fun _ => .nil) (fun _ _ a b e => by rw [tokLtE, Bool.and_eq_true] at e; exact .cons (a e.1) (b e.2)) (fun _ => .nil) (fun _ _ a b e => by rw [tokLtE, Bool.and_eq_true] at e; exact .cons (a e.1) (b e.2)) h
theorem RpA.shrink : ∀ {vs : List V} {ds : List D}, RpA K (S ++ T) H vs ds → tokLtA S.length ds = true → RpA K S H vs ds
  | _, _, .nil, _ => .nil
  | _, _, .cons a b, e => by rw [tokLtA, Bool.and_eq_true] at e; exact .cons (a.shrink e.1) (b.shrink e.2)
theorem RpK.shrink : ∀ {vs : List (Key × V)} {ds : List (D × D)}, RpK K (S ++ T) H vs ds → tokLtE S.length ds = true → RpK K S H vs ds
  | _, _, .nil, _ => .nil
  | _, _, .cons a b, e => by rw [tokLtE, Bool.and_eq_true] at e; exact .cons (a.shrink e.1) (b.shrink e.2)
theorem RpT.shrink : ∀ {vs : List (List Key × V)} {ds : List (D × D)}, RpT K (S ++ T) H vs ds → tokLtE S.length ds = true → RpT K S H vs ds
  | _, _, .nil, _ => .nil
  | _, _, .cons a b, e => by rw [tokLtE, Bool.and_eq_true] at e; exact .cons (a.shrink e.1) (b.shrink e.2)
variable {A : Addr → Prop}
mutual
theorem Ow.grow : ∀ {k : Nat} {v : V} {d : D} {F : List Addr}, Ow K S A H k v d F → Ow K (S ++ T) A H k v d F
  | _, _, _, _, .sh r => .sh r.grow
  | _, _, _, _, .at h1 h2 r => .at h1 h2 r.grow
  | _, _, _, _, .lst e t => .lst e t.grow
theorem OwA.grow : ∀ {k : Nat} {v : List V} {d : List D} {F : List Addr}, OwA K S A H k v d F → OwA K (S ++ T) A H k v d F
  | _, _, _, _, .nil => .nil
  | _, _, _, _, .cons a b => .cons a.grow b.grow
end
mutual
theorem Ow.shrink : ∀ {k : Nat} {v : V} {d : D} {F : List Addr}, Ow K (S ++ T) A H k v d F → tokLt S.length d = true → Ow K S A H k v d F
  | _, _, _, _, .sh r, e => .sh (r.shrink e)
  | _, _, _, _, .at h1 h2 r, e => .at h1 h2 (r.shrink e)
  | _, _, _, _, .lst q t, e => .lst q (t.shrink (by rw [tokLt] at e; exact e))
theorem OwA.shrink : ∀ {k : Nat} {v : List V} {d : List D} {F : List Addr}, OwA K (S ++ T) A H k v d F → tokLtA S.length d = true → OwA K S A H k v d F
  | _, _, _, _, .nil, _ => .nil
  | _, _, _, _, .cons a b, e => by
    rw [tokLtA, Bool.and_eq_true] at e
    exact .cons (a.shrink e.1) (b.shrink e.2)
end
theorem OwA.zero' : ∀ {v : List V} {d : List D} {F : List Addr}, OwA K S A H 0 v d F → F = [] ∧ RpA K S (hid A H) v d
  | _, _, _, .nil => ⟨rfl, .nil⟩
  | _, _, _, .cons a b => by
    obtain ⟨rfl, h2⟩ := b.zero'
    cases a with
    | sh r => exact ⟨rfl, .cons r h2⟩
def cellLt (n : Nat) : Cell → Bool
  | .lst ds => tokLtA n ds
  | .dct _ es => tokLtE n es
  | .tbl _ => true
theorem CellOk.grow {a : Addr} {c : Cell} (h : CellOk K S A H a c) : CellOk K (S ++ T) A H a c := by
  cases c with
  | lst ds => obtain ⟨vs, h1, h2⟩ := h; exact ⟨vs, h1, h2.grow⟩
  | dct t es =>
    cases t with
    | false => obtain ⟨k, h1, h2⟩ := h; exact ⟨k, h1, h2.grow⟩
    | true => obtain ⟨k, h1, h2⟩ := h; exact ⟨k, h1, h2.grow⟩
  | tbl q => exact h
theorem CellOk.shrink {a : Addr} {c : Cell} (h : CellOk K (S ++ T) A H a c) (e : cellLt S.length c = true) : CellOk K S A H a c := by
  cases c with
  | lst ds => obtain ⟨vs, h1, h2⟩ := h; exact ⟨vs, h1, h2.shrink e⟩
  | dct t es =>
    cases t with
    | false => obtain ⟨k, h1, h2⟩ := h; exact ⟨k, h1, h2.shrink e⟩
    | true => obtain ⟨k, h1, h2⟩ := h; exact ⟨k, h1, h2.shrink e⟩
  | tbl q => exact h
end
section
variable {K : PySem.W.Frag} {C : Hp} {S0 S : List Addr} {A0 : Addr → Prop} {H0 H : Hp} {σ : Sg} {env : Env} {sto : STO} {Fs : Nat → List Addr} {i : Nat}
theorem SlotOk.grow {T : List Addr} {A : Addr → Prop} {v : Option (Option V)} {F : List Addr} {s : Slot} (h : SlotOk K S A H v F s) : SlotOk K (S ++ T) A H v F s := by
  cases s with
  | no => exact trivial
  | sh d => obtain ⟨h1, u, e, r⟩ := h; exact ⟨h1, u, e, r.grow⟩
  | ow k d => obtain ⟨u, e, o⟩ := h; exact ⟨u, e, o.grow⟩
/-- an owned object becomes a cell -/
theorem Sr.toCell {b : Addr} {c : Cell} (r : Sr K C S0 S A0 H0 σ H env sto Fs) (hi : i < env.length) (hF : Fs i = [b]) (hv : σ[i]? = some (some (.ref b))) (hc : CellOk K S (hd S Fs A0) H b c) :
    Sr K C S0 (S ++ [b]) A0 H0 σ H (env.set i (.sh (tokD S.length))) (sto ++ [c]) (setF Fs i []) := by
  have hb : b ∈ Fs i := by rw [hF]; exact List.mem_cons_self
  have eA : hd (S ++ [b]) (setF Fs i []) A0 = hd S Fs A0 := by
    funext a
    simp only [eq_iff_iff]
    constructor
    · rintro (⟨j, h⟩ | h | h)
      · unfold setF at h
        split at h
        · exact nomatch h
        · exact .inl ⟨j, h⟩
      · exact .inr (.inl h)
      · rcases List.mem_append.mp h with h | h
        · exact .inr (.inr h)
        · rw [List.mem_singleton.mp h]; exact .inl ⟨i, hb⟩
    · rintro (⟨j, h⟩ | h | h)
      · by_cases e : j = i
        · subst e
          rw [hF] at h
          exact .inr (.inr (List.mem_append_right _ h))
        · exact .inl ⟨j, by unfold setF; rw [if_neg e]; exact h⟩
      · exact .inr (.inl h)
      · exact .inr (.inr (List.mem_append_left _ h))
  refine ⟨by rw [List.length_set]; exact r.len, ?_, r.al0, r.a0S, r.ext, ?_, fun j => ?_, fun j l a h1 h2 => ?_, fun j a h => ?_, fun j a h => ?_, fun j s h => ?_, fun j h => ?_, ?_⟩
  · obtain ⟨S1, e, h⟩ := r.s0
    refine ⟨S1 ++ [b], by rw [e, List.append_assoc], fun a ha => ?_⟩
    rcases List.mem_append.mp ha with ha | ha
    · exact h a ha
    · rw [List.mem_singleton.mp ha]; exact r.fr i b hb
  · rw [eA]
    refine ⟨r.wd.al, fun a ha => ?_, List.nodup_append.mpr ⟨r.wd.nds, List.nodup_cons.mpr ⟨List.not_mem_nil, List.nodup_nil⟩, fun x hx y hy e => ?_⟩, by rw [List.length_append, List.length_append, r.wd.len]; rfl, fun j a cj h1 h2 => ?_⟩
    · rcases List.mem_append.mp ha with ha | ha
      · exact .inr (.inr ha)
      · rw [List.mem_singleton.mp ha]; exact .inl ⟨i, hb⟩
    · rw [List.mem_singleton.mp hy] at e
      exact r.ns i b hb (e ▸ hx)
    · by_cases hj : j < S.length
      · rw [List.getElem?_append_left hj] at h1
        rw [List.getElem?_append_left (by rw [← r.wd.len]; exact hj)] at h2
        exact (r.wd.st j a cj h1 h2).grow
      · rw [List.getElem?_append_right (by omega)] at h1
        rw [List.getElem?_append_right (by rw [← r.wd.len]; omega)] at h2
        rw [← r.wd.len] at h2
        have : j - S.length = 0 := by
          have := (List.getElem?_eq_some_iff.mp h1).1
          simp at this
          omega
        rw [this] at h1 h2
        cases h1
        cases h2
        exact hc.grow
  · unfold setF; split
    · exact .nil
    · exact r.nd j
  · unfold setF at h1 h2
    split at h1
    · exact nomatch h1
    · split at h2
      · exact nomatch h2
      · exact r.dj j l a h1 h2
  · unfold setF at h; split at h
    · exact nomatch h
    · exact r.fr j a h
  · unfold setF at h; split at h
    · exact nomatch h
    · rename_i e
      intro z
      rcases List.mem_append.mp z with z | z
      · exact r.ns j a h z
      · rw [List.mem_singleton.mp z] at h
        exact e (r.dj j i b h hb)
  · rw [eA]
    by_cases e : i = j
    · subst e
      rw [List.getElem?_set, if_pos rfl, if_pos hi] at h
      cases h
      refine ⟨by unfold setF; rw [if_pos rfl], _, hv, .tok ?_⟩
      rw [List.getElem?_append_right (Nat.le_refl _), Nat.sub_self]
      rfl
    · rw [List.getElem?_set_ne e] at h
      have q := (r.sl j s h).grow (T := [b])
      have : setF Fs i [] j = Fs j := by unfold setF; rw [if_neg (Ne.symm e)]
      rw [this]
      exact q
  · by_cases e : i = j
    · subst e
      unfold setF; rw [if_pos rfl]
    · rw [List.getElem?_set_ne e] at h
      unfold setF; rw [if_neg (Ne.symm e)]
      exact r.out j h
  · rw [eA]; exact r.pub
end
section
variable {Z : List Addr → Prop} {X : Cx} {e : Expr} {f : Ev} {k i : Nat} {pos p : Pos} {x : Str}
/-- an owned list or dict of depth one becomes a cell -/
def sCell (i : Nat) : Sv := fun env s => match env[i]? with
  | some (.ow 1 (.list ds)) => some (.nx, env.set i (.sh (tokD s.length)), s ++ [.lst ds])
  | _ => none
theorem Sr.cell {K : PySem.W.Frag} {C : Hp} {S0 S : List Addr} {A0 : Addr → Prop} {H0 H : Hp} {σ : Sg} {env env' : Env} {sto sto' : STO} {Fs : Nat → List Addr} {o : Out} (r : Sr K C S0 S A0 H0 σ H env sto Fs) (q : sCell i env sto = some (o, env', sto')) : o = .nx ∧ ∃ S' Fs', Sr K C S0 S' A0 H0 σ H env' sto' Fs' := by
  unfold sCell at q
  split at q
  · rename_i ds hs
    cases q
    obtain ⟨u, e1, ow⟩ := r.sl i _ hs
    obtain ⟨b, vs, F0, rfl, hF, h1, h2⟩ := ow.lstI
    obtain ⟨rfl, h3⟩ := h2.zero'
    have := r.toCell (List.getElem?_eq_some_iff.mp hs).1 hF e1 (c := .lst ds) ⟨vs, h1, h3⟩
    rw [r.wd.len] at this
    exact ⟨rfl, _, _, this⟩
  · cases q
/-- name = a new list, in a cell -/
def sNew (i : Nat) (f : Ev) : Sv := sSeq (sSet i 1 [] f) (sCell i)
theorem js_new (he : JP X e f 1) (hN : X.N.Nodup) (hi : X.N[i]? = some x) (hx : Loc X.env.scope x) (hs : swapsWith e (some (.Name x p)) pos.line X.env = pure false := by rfl) (hf : X.fn x = true ∨ X.env.scope.names.lookup x = some .local := by first | exact .inl rfl | exact .inr rfl | assumption) :
    JS Z X (.Assign [.Name x p] e pos) (sNew i f) k := fun C S0 S A0 H0 σ H env sto Fs o env' sto' E hZ r q z => by
  unfold sNew sSeq at q
  obtain ⟨⟨o1, e1, s1⟩, q1, q⟩ := bind_some' q
  have ho : o1 = .nx := by
    unfold sSet at q1
    split at q1
    · obtain ⟨_, _, h⟩ := map_some' q1
      cases h
      rfl
    · cases q1
  subst ho
  refine js_set (k := k) he hN hi hx hs hf C S0 S A0 H0 σ H env sto Fs .nx e1 s1 E hZ r q1 fun S1 σ1 H1 Fs1 r1 => ?_
  obtain ⟨rfl, S2, Fs2, r2⟩ := r1.cell q
  exact z S2 σ1 H1 Fs2 r2
end

/-! ### defs -/
/-- behind a def its own cells are gone -/
def fin (s : STO) (d : D) (s' : STO) : Option (D × STO) :=
  if s'.length = s.length then some (d, s') else if tokLt s.length d = true ∧ (s'.take s.length).all (cellLt s.length) = true then some (d, s'.take s.length) else none
def fnD (N : Nat) (body : Sv) : FnD := fun ds s => (body (ds.map .sh ++ List.replicate (N - ds.length) .no) s).bind fun p => match p.1 with
  | .rt d => fin s d p.2.2
  | .nx => fin s .none p.2.2
  | _ => none
/-- a body from its entry on -/
theorem body_core {X : Cx} {Z : List Addr → Prop} {sts : List Stmt} {g : Sv} {k : Nat} {N : List Str} {vs : List V} {H : Hp} {Q : VK} {A : Addr → Prop} {S : List Addr} {ds : List D} {sto sto' : STO} {d : D} (hZ : Z S) (hb : JSs Z X sts g k)
    (w : Wd X.K S A H sto) (rp : RpA X.K S (hid A H) vs ds) (hf : fnD N.length g ds sto = some (d, sto')) (z : ∀ v H' F', Res X.K S A H sto' k H' v d F' → Q v H') :
    wpSs X sts { nx := fun _ H' => Q .non H', rt := Q } (L2.start N vs) H := by
  unfold fnD at hf
  obtain ⟨⟨o, env', s1⟩, q1, q⟩ := bind_some' hf
  have hvl := rp.length
  have hA : hd S (fun _ => []) A = A := by
    funext a
    simp only [eq_iff_iff]
    constructor
    · rintro (⟨_, h⟩ | h | h)
      · exact nomatch h
      · exact h
      · exact w.hS a h
    · exact fun h => .inr (.inl h)
  have r : Sr X.K (fun _ => none) S S A H (L2.start N vs) H (ds.map .sh ++ List.replicate (N.length - ds.length) .no) sto (fun _ => []) := by
    refine ⟨?_, ⟨[], by simp, fun a h => absurd h List.not_mem_nil⟩, w.al, w.hS, Ext.refl, by rw [hA]; exact w, fun _ => .nil, (fun _ _ _ h => nomatch h), (fun _ _ h => nomatch h), (fun _ _ h => nomatch h), fun i s h => ?_, fun _ _ => rfl, fun _ _ h => nomatch h⟩
    · unfold L2.start
      rw [List.length_append, List.length_append, List.length_map, List.length_map, List.length_replicate, List.length_replicate, hvl]
    · rw [hA]
      unfold L2.start
      by_cases c : i < ds.length
      · rw [List.getElem?_append_left (by rw [List.length_map]; exact c), List.getElem?_map] at h
        rw [List.getElem?_append_left (by rw [List.length_map, hvl]; exact c), List.getElem?_map]
        cases e : ds[i]? with
        | none => rw [e] at h; cases h
        | some d' =>
          rw [e] at h
          cases h
          obtain ⟨v, e1, e2⟩ := rp.get e
          rw [e1]
          exact ⟨rfl, v, rfl, e2⟩
      · rw [List.getElem?_append_right (by rw [List.length_map]; omega)] at h
        have := List.mem_of_getElem? h
        rw [List.eq_of_mem_replicate this]
        exact trivial
  have fin' : ∀ d1, fin sto d1 s1 = some (d, sto') → ∀ v H', RtR X.K S A H H' k v d1 s1 → Q v H' := fun d1 hfin v H' hr => by
    obtain ⟨S', F, ⟨S1, hs, hs1⟩, x, al0, a0S, w', nd, fr, ns, ow⟩ := hr
    subst hs
    have hlS := w.len
    have hlS' := w'.len
    rw [List.length_append] at hlS'
    have hsub : ∀ a, plus F A a → (a ∈ F ∨ A a ∨ a ∈ S ++ S1) := fun a h => h.imp id .inl
    unfold fin at hfin
    split at hfin
    · rename_i hl
      cases hfin
      have : S1 = [] := List.eq_nil_of_length_eq_zero (by omega)
      subst this
      rw [List.append_nil] at *
      have hP : (fun a => a ∈ F ∨ A a ∨ a ∈ S) = plus F A := by
        funext a
        simp only [plus, eq_iff_iff]
        exact ⟨fun h => h.imp id fun h => h.elim id (w.hS a), fun h => h.imp id .inl⟩
      rw [hP] at w' ow
      exact z v H' F ⟨x, w', nd, fr, ow⟩
    · split at hfin
      case isFalse => cases hfin
      rename_i hc
      cases hfin
      obtain ⟨c1, c2⟩ := hc
      rw [← hlS] at c1 c2
      refine z v H' F ⟨x, ⟨fun a h => w'.al a (hsub a h), fun a h => .inr (w.hS a h), (List.nodup_append.mp w'.nds).1, by rw [List.length_take]; omega, fun i a c h1 h2 => ?_⟩, nd, fr, (ow.mv (hid_le hsub) fun a _ o q => q).shrink c1⟩
      have hi := (List.getElem?_eq_some_iff.mp h1).1
      have hcl := List.all_eq_true.mp c2 c (by rw [hlS]; exact List.mem_of_getElem? h2)
      rw [List.getElem?_take, if_pos (by omega)] at h2
      have ok := w'.st i a c (by rw [List.getElem?_append_left hi]; exact h1) h2
      exact (ok.keep (hid_le hsub) (fun _ h => h) fun _ _ h => h).shrink hcl
  refine hb (fun _ => none) S S A H (L2.start N vs) H _ sto (fun _ => []) o env' s1 _ hZ r q1 ?_
  cases o with
  | nx =>
    intro S' σ' H' Fs' r'
    refine fin' .none q .non H' ?_
    have le : ∀ a, (a ∈ ([] : List Addr) ∨ A a ∨ a ∈ S') → hd S' Fs' A a := fun a h => by
      rcases h with h | h
      · exact nomatch h
      · exact .inr h
    exact ⟨S', [], r'.s0, r'.ext, r'.al0, r'.a0S, r'.wd.less le fun a e => .inr (.inr e), .nil, noF, noF, .atom atomic_none .non⟩
  | rt d1 => exact fun v H' hr => fin' d1 q v H' hr
  | bk => cases q
  | ct => cases q
/-- what the promise about a def of n parameters says of its body -/
theorem body_of {X : Cx} {sts : List Stmt} {g : Sv} {n k : Nat} {N : List Str} {vs : List V} {H : Hp} {Q : VK} (hb : JSs (fun _ => True) X sts g k) (h : spD X.K n (fnD N.length g) k vs H Q) :
    wpSs X sts { nx := fun _ H' => Q .non H', rt := Q } (L2.start N vs) H := by
  obtain ⟨A, S, ds, sto, d, sto', hl, w, rp, hf, z⟩ := h
  exact body_core trivial hb w rp hf z
end J
namespace J
open PySem PySem.Spec PyProof.Rows L2

/-! ### sorted -/
abbrev Pc := V × D × List Addr
def pcLe (a b : Pc) : Bool := PySem.W.dataLe false (fun p : Pc => p.2.1) a b
theorem pc_srt (ps : List Pc) : (ps.mergeSort pcLe).map (fun p => p.2.1) = srt (ps.map fun p => p.2.1) := PySem.W.sort_maps (fun p : Pc => p.2.1) fun _ _ _ _ => rfl
def rSortedD (K : PySem.W.Frag) : List V → Hp → VK → Prop := fun vs H Q => ∃ l, ∃ ps : List Pc, vs = [.ref l] ∧ Rd H l (.lst (ps.map (·.1))) ∧ (∀ p ∈ ps, Dp K H p.1 p.2.1) ∧ sortOk (ps.map fun p => p.2.1) = true ∧ ps.length ≤ 16777216 ∧
  ∀ a, H a = none → Q (.ref a) (upd H a (.lst ((ps.mergeSort pcLe).map (·.1))))
theorem alike_of {ds : List D} (h : allAlike ds = true) : PySem.W.AllAlike ds := fun d hd d' hd' => List.all_eq_true.mp (List.all_eq_true.mp h d hd) d' hd'
theorem sortable_of {ds : List D} (h : (ds.all notTup || ds.all headTup) = true) : PySem.W.Sortable ds := by
  rw [Bool.or_eq_true] at h
  rcases h with h | h
  · refine .inr fun d hd => ?_
    have := List.all_eq_true.mp h d hd
    cases d with
    | none => cases this
    | tuple _ => cases this
    | _ => exact ⟨(fun z => nomatch z), fun _ z => nomatch z⟩
  · refine .inl fun d hd => ?_
    have := List.all_eq_true.mp h d hd
    cases d with
    | tuple xs =>
      cases xs with
      | nil => cases this
      | cons x r => exact ⟨x, r, rfl⟩
    | _ => cases this
theorem depth_mem {ds : List D} {d : D} (h : d ∈ ds) : d.depth ≤ PyData.depthAll ds := by
  induction ds with
  | nil => cases h
  | cons x r ih =>
    rw [PyData.depthAll]
    rcases List.mem_cons.mp h with rfl | h
    · exact Nat.le_max_left _ _
    · exact Nat.le_trans (ih h) (Nat.le_max_right _ _)
theorem canLay_mem {ds : List D} {d : D} (h : d ∈ ds) (hc : PyData.canLayAll0 ds = true) : d.canLay0 = true := by
  induction ds with
  | nil => cases h
  | cons x r ih =>
    rw [PyData.canLayAll0, Bool.and_eq_true] at hc
    rcases List.mem_cons.mp h with rfl | h
    · exact hc.1
    · exact ih h hc.2
theorem each_pcs {ps : List Pc} {us : List Value} (r : Vals (ps.map (·.1)) us) : PySem.W.EachIs (fun (v : Value) (p : Pc) => RelV p.1 v) us ps := by
  induction ps generalizing us with
  | nil => cases r; exact .nil
  | cons p ps ih =>
    cases r with
    | cons a b => exact .cons a (ih b)
theorem each_vals {ps : List Pc} {us : List Value} (r : PySem.W.EachIs (fun (v : Value) (p : Pc) => RelV p.1 v) us ps) : Vals (ps.map (·.1)) us := by
  induction r with
  | nil => exact .nil
  | cons a b ih => exact .cons a ih
theorem each_reads {X : Cx} {pins : List (Addr × Obj)} {σ : Sg} {H : Hp} {s : Shared} (I : Inv X pins σ H s) {ps : List Pc} {us : List Value} (r : Vals (ps.map (·.1)) us) (h : ∀ p ∈ ps, Dp X.K H p.1 p.2.1) :
    PySem.W.EachIs (fun (v : Value) (p : Pc) => ∃ as, Reads s.heap v p.2.1 as) us ps := by
  induction ps generalizing us with
  | nil => cases r; exact .nil
  | cons p ps ih =>
    cases r with
    | cons a b => exact .cons (Dp.reads I _ _ _ (h p List.mem_cons_self) a) (ih b fun q hq => h q (List.mem_cons_of_mem _ hq))
theorem cr_sortedD {X : Cx} (hu : X.A.units + 66 < cLine) : CallR X (.builtin "sorted") (rSortedD X.K) := by
  intro pins s σ H vs us Q I r h
  obtain ⟨a, ps, rfl, hs, hd, hok, hln, q⟩ := h
  obtain ⟨its, rv, hl, hz⟩ := I.list (.inl hs)
  rw [Vals.ref1 r]
  unfold sortOk at hok
  rw [Bool.and_eq_true, Bool.and_eq_true] at hok
  obtain ⟨⟨h1, h2⟩, h3⟩ := hok
  have hdep := SeqAt.depth_of_shaped h3
  rw [PyData.depth] at hdep
  refine PySem.W.sorted_data (enc := fun p : Pc => p.2.1) (R := fun (v : Value) (p : Pc) => RelV p.1 v) hl.isList (each_pcs rv) (each_reads I rv hd) (alike_of h1) (sortable_of h2) (by rw [sizeLine_eq]; exact hln) (fun b hb => ?_) fun out ho eo => ?_
  · have := depth_mem (List.mem_map.mpr ⟨b, hb, rfl⟩ : b.2.1 ∈ ps.map fun p => p.2.1)
    show X.A.units + 2 + b.2.1.depth < cLine
    omega
  · obtain ⟨ep, he'⟩ := PyProof.Rows.sortedAll_at s.heap its out.toArray
    have hlen : ((ps.mergeSort pcLe).map (·.1)).length ≤ sizeLine := by
      rw [List.length_map, List.length_mergeSort, sizeLine_eq]
      exact hln
    exact ⟨.ref _, upd H (s.heap.objs.size + 1) (.lst ((ps.mergeSort pcLe).map (·.1))), I.laid (t' := s.toks) (fun _ _ => PyProof.Rows.sortedAll_old) (Nat.le_succ _) ⟨hlen, out, ep, each_vals eo, he'⟩, rfl, q _ (I.hok.fresh (Nat.le_succ _))⟩

section
variable {K : PySem.W.Frag} {S : List Addr} {A : Addr → Prop} {H : Hp}
theorem OwA.pieces : ∀ {k : Nat} {vs : List V} {ds : List D} {F : List Addr}, OwA K S A H k vs ds F → ∃ ps : List Pc, ps.map (·.1) = vs ∧ ps.map (fun p => p.2.1) = ds ∧ (ps.map fun p => p.2.2).flatten = F ∧ ∀ p ∈ ps, Ow K S A H k p.1 p.2.1 p.2.2
  | _, _, _, _, .nil => ⟨[], rfl, rfl, rfl, fun _ h => nomatch h⟩
  | _, _, _, _, .cons (v := v) (d := d) (F := F) a b => by
    obtain ⟨ps, e1, e2, e3, h⟩ := OwA.pieces b
    refine ⟨(v, d, F) :: ps, by rw [List.map_cons, e1], by rw [List.map_cons, e2], by rw [List.map_cons, List.flatten_cons, e3], fun p hp => ?_⟩
    rcases List.mem_cons.mp hp with rfl | hp
    · exact a
    · exact h p hp
theorem OwA.of_pieces {k : Nat} : ∀ {ps : List Pc}, (∀ p ∈ ps, Ow K S A H k p.1 p.2.1 p.2.2) → OwA K S A H k (ps.map (·.1)) (ps.map fun p => p.2.1) (ps.map fun p => p.2.2).flatten
  | [], _ => .nil
  | p :: ps, h => .cons (h p List.mem_cons_self) (OwA.of_pieces fun q hq => h q (List.mem_cons_of_mem _ hq))
theorem perm_flat {α : Type} {xs ys : List (List α)} (h : xs.Perm ys) : xs.flatten.Perm ys.flatten := h.flatten
/-- the owned items of a list, sorted into a new one -/
theorem OwA.sorted {k : Nat} {vs : List V} {ds : List D} {F : List Addr} (h : OwA K S A H k vs ds F) (hok : sortOk ds = true) :
    ∃ ps : List Pc, ps.map (·.1) = vs ∧ ps.map (fun p => p.2.1) = ds ∧ ((ps.mergeSort pcLe).map fun p => p.2.2).flatten.Perm F ∧ OwA K S A H k ((ps.mergeSort pcLe).map (·.1)) (srt ds) ((ps.mergeSort pcLe).map fun p => p.2.2).flatten := by
  obtain ⟨ps, e1, e2, e3, h4⟩ := h.pieces
  refine ⟨ps, e1, e2, ?_, ?_⟩
  · rw [← e3]
    exact ((List.mergeSort_perm ps pcLe).map _).flatten
  · have := OwA.of_pieces (k := k) (K := K) (S := S) (A := A) (H := H) (ps := ps.mergeSort pcLe) fun p hp => h4 p ((List.mergeSort_perm ps pcLe).mem_iff.mp hp)
    rw [pc_srt, e2] at this
    exact this
end
def dSort : D → Option D
  | .list ds => if sortOk ds = true ∧ ds.length ≤ 16777216 then some (.list (srt ds)) else none
  | _ => none
section
variable {Z : List Addr → Prop} {X : Cx} {e : Expr} {f : Ev} {k : Nat} {pos p p2 : Pos}
theorem OwA.dps {K : PySem.W.Frag} {S : List Addr} {A : Addr → Prop} {H : Hp} {k : Nat} {ps : List Pc} {F : List Addr} (h : OwA K S A H k (ps.map (·.1)) (ps.map fun p => p.2.1) F) (hok : sortOk (ps.map fun p => p.2.1) = true) (hF : ∀ a ∈ F, True) : ∀ q ∈ ps, Dp K H q.1 q.2.1 := by
  have rp : RpA K S (hid (fun _ => False) H) (ps.map (·.1)) (ps.map fun p => p.2.1) := h.rp (fun _ z => z.elim) fun _ _ z => z
  unfold sortOk at hok
  rw [Bool.and_eq_true] at hok
  have hc := SeqAt.canLay_of_shaped hok.2
  rw [PyData.canLay0] at hc
  intro q hq
  obtain ⟨i, hi, e⟩ := List.getElem_of_mem hq
  have e1 : (ps.map fun p => p.2.1)[i]? = some q.2.1 := by rw [List.getElem?_map, List.getElem?_eq_getElem hi, e]; rfl
  have e2 : (ps.map (·.1))[i]? = some q.1 := by rw [List.getElem?_map, List.getElem?_eq_getElem hi, e]; rfl
  obtain ⟨v, e3, p3⟩ := rp.get e1
  rw [e2] at e3
  cases e3
  exact p3.out.dp (canLay_mem (List.mem_of_getElem? e1) hc)
theorem dSort_some {x d : D} (h : dSort x = some d) : ∃ ds, x = .list ds ∧ sortOk ds = true ∧ ds.length ≤ 16777216 ∧ d = .list (srt ds) := by
  unfold dSort at h
  split at h
  · split at h
    · rename_i hc
      cases h
      exact ⟨_, rfl, hc.1, hc.2, rfl⟩
    · cases h
  · cases h
theorem sorted_core {A : Addr → Prop} {S : List Addr} {H H1 : Hp} {sto s1 : STO} {a : Addr} {vs : List V} {ds : List D} {F : List Addr} {Q : VK} (w : Wd X.K S A H sto) (x : Ext S H H1) (w1 : Wd X.K S (plus F A) H1 s1) (nd : F.Nodup) (fr : ∀ a ∈ F, H a = none)
    (rd : Rd H1 a (.lst vs)) (ow : OwA X.K S (plus F A) H1 k vs ds F) (hok : sortOk ds = true) (hln : ds.length ≤ 16777216) (z : ∀ v H' F, Res X.K S A H s1 (k + 1) H' v (.list (srt ds)) F → Q v H') : rSortedD X.K [.ref a] H1 Q := by
  obtain ⟨ps, e1, e2, e3, o2⟩ := ow.sorted hok
  have hl : ps.length = ds.length := by rw [← e2, List.length_map]
  refine ⟨a, ps, rfl, by rw [e1]; exact rd, OwA.dps (F := F) (by rw [e1, e2]; exact ow) (by rw [e2]; exact hok) fun _ _ => trivial, by rw [e2]; exact hok, by rw [hl]; exact hln, fun b hb => ?_⟩
  generalize ((ps.mergeSort pcLe).map fun p => p.2.2).flatten = G at e3 o2
  have hG : ∀ a ∈ G, a ∈ F := fun a ha => e3.mem_iff.mp ha
  have rs : ResA X.K S A H s1 k H1 ((ps.mergeSort pcLe).map (·.1)) (srt ds) G := ⟨x, w1.less (fun a h => h.imp (hG a) id) fun a e => .inr (w.hS a e), (e3.nodup_iff).mpr nd, fun a ha => fr a (hG a ha), o2.mv (hid_le fun a h => h.imp (hG a) id) fun a _ o q => q⟩
  exact z _ _ _ (Res.lst w rs hb)
/-- sorted(e), e new, its items owned -/
theorem jp_sorted (ha : JP X e f (k + 1)) (hu : X.A.units + 66 < cLine) (hg : Gl X "sorted") (hm : X.mg "sorted" = none) (hv : bootBuiltins "sorted" = some (.builtin "sorted") := by rfl)
    (he : starEach [e] X.env = (false, eval e X.env) :: starEach [] X.env := by rfl) (hpl : (backTo pos (starEach [] X.env)).any (·.1) = false := by rfl) : JP X (.Call (.Name "sorted" p) [e] [] pos) (eUn dSort f) (k + 1) := fun A S σ H vw sto d sto' Q w r q z => by
  unfold eUn at q
  obtain ⟨⟨x, s1⟩, e1, q⟩ := bind_some' q
  obtain ⟨t, e2, q⟩ := map_some' q
  cases q
  obtain ⟨ds, rfl, hok, hln, rfl⟩ := dSort_some e2
  refine wpE.by (pe_callB (cr_sortedD hu) hg hm hv (pa_cons wpE_pe pa_nil he) (by decide) (by decide) he hpl) (ha A S σ H vw sto _ _ _ w r e1 fun v H1 F rs => ?_)
  obtain ⟨a, vs, F0, rfl, rfl, e3, ow⟩ := rs.ow.lstI
  have hsub : ∀ b, plus F0 A b → plus (a :: F0) A b := fun b h => h.imp (List.mem_cons_of_mem _) id
  exact sorted_core w rs.ext (rs.wd.less hsub fun a e => .inr (w.hS a e)) (List.nodup_cons.mp rs.nd).2 (fun b hb => rs.fr b (List.mem_cons_of_mem _ hb)) (.inl e3) (ow.mv (hid_le hsub) fun a _ o q => q) hok hln z
/-- sorted(e), its items given to all -/
theorem jp_sorted0 (ha : JP X e f 0) (hu : X.A.units + 66 < cLine) (hg : Gl X "sorted") (hm : X.mg "sorted" = none) (hv : bootBuiltins "sorted" = some (.builtin "sorted") := by rfl)
    (he : starEach [e] X.env = (false, eval e X.env) :: starEach [] X.env := by rfl) (hpl : (backTo pos (starEach [] X.env)).any (·.1) = false := by rfl) : JP X (.Call (.Name "sorted" p) [e] [] pos) (eUn dSort f) 1 := fun A S σ H vw sto d sto' Q w r q z => by
  unfold eUn at q
  obtain ⟨⟨x, s1⟩, e1, q⟩ := bind_some' q
  obtain ⟨t, e2, q⟩ := map_some' q
  cases q
  obtain ⟨ds, rfl, hok, hln, rfl⟩ := dSort_some e2
  refine wpE.by (pe_callB (cr_sortedD hu) hg hm hv (pa_cons wpE_pe pa_nil he) (by decide) (by decide) he hpl) (ha.use w r e1 fun v H1 x1 w1 r1 p1 => ?_)
  obtain ⟨a, vs, rfl, r2, q2⟩ := p1.lstI
  exact sorted_core (F := []) w x1 (by rw [plus_nil]; exact w1) .nil noF r2.out (by rw [plus_nil]; exact .zero q2) hok hln z
/-- return sorted(name), the owned items handed on -/
def sRetSrt (i k : Nat) : Sv := fun env s => match env[i]? with
  | some (.ow j d) => if j = k then (dSort d).map fun t => (.rt t, env, s) else none
  | _ => none
theorem js_retSrt {i : Nat} {x : Str} (hN : X.N[i]? = some x) (hx : Vis X.env.scope x) (hu : X.A.units + 66 < cLine) (hg : Gl X "sorted") (hm : X.mg "sorted" = none) (hv : bootBuiltins "sorted" = some (.builtin "sorted") := by rfl) (hdb : (x == Str.ofString "__debug__") = false := by decide) (hcd : (x == Str.ofString "__classdict__") = false := by decide)
    (he : starEach [.Name x p2] X.env = (false, eval (.Name x p2) X.env) :: starEach [] X.env := by rfl) (hpl : (backTo pos (starEach [] X.env)).any (·.1) = false := by rfl) {pos2 : Pos} :
    JS Z X (.Return (some (.Call (.Name "sorted" p) [.Name x p2] [] pos)) pos2) (sRetSrt i (k + 1)) (k + 1) := fun C S0 S A0 H0 σ H env sto Fs o env' sto' E hZ r q z => by
  unfold sRetSrt at q
  split at q
  case h_2 => cases q
  rename_i j d he1
  split at q
  case isFalse => cases q
  rename_i hjk
  subst hjk
  obtain ⟨t, e2, q⟩ := map_some' q
  cases q
  obtain ⟨ds, rfl, hok, hln, rfl⟩ := dSort_some e2
  obtain ⟨u, e1, ow⟩ := r.sl i _ he1
  obtain ⟨a, vs, F0, rfl, eF, e3, ow0⟩ := ow.lstI
  have nd := r.nd i
  rw [eF] at nd
  -- all that the def owned is let go, but the items
  let A : Addr → Prop := fun a => A0 a ∨ a ∈ S
  have hA : ∀ b, plus F0 A b → hd S Fs A0 b := fun b h => by
    rcases h with h | h
    · exact .inl ⟨i, by rw [eF]; exact List.mem_cons_of_mem _ h⟩
    · exact .inr h
  have hin : ∀ b ∈ F0, b ∈ Fs i := fun b hb => by rw [eF]; exact List.mem_cons_of_mem _ hb
  obtain ⟨ps, g1, g2, g3, o2⟩ := ow0.sorted hok
  have hl : ps.length = ds.length := by rw [← g2, List.length_map]
  refine wpS.by (ps_ret (pe_callB (cr_sortedD hu) hg hm hv (pa_cons (pe_var hN hx hdb hcd) pa_nil he) (by decide) (by decide) he hpl)) ⟨_, e1, a, ps, rfl, by rw [g1]; exact .inl e3, OwA.dps (F := F0) (by rw [g1, g2]; exact ow0) (by rw [g2]; exact hok) fun _ _ => trivial, by rw [g2]; exact hok, by rw [hl]; exact hln, fun b hb => ?_⟩
  generalize ((ps.mergeSort pcLe).map fun p => p.2.2).flatten = G at g3 o2
  have hG : ∀ a ∈ G, a ∈ F0 := fun a ha => g3.mem_iff.mp ha
  refine z _ _ ⟨S, b :: G, r.s0, fun c o hc h => same_upd hb c o (r.ext c o hc h), r.al0, r.a0S, ?_, ?_, fun c hc => ?_, fun c hc => ?_, .lst upd_same ?_⟩
  · refine (r.wd.less (A' := fun c => c ∈ G ∨ A0 c ∨ c ∈ S) (fun c h => ?_) fun c e => .inr (.inr e)).grow (same_upd hb) (fun c h => ?_) fun c h => ?_
    · rcases h with h | h
      · exact .inl ⟨i, hin c (hG c h)⟩
      · exact .inr h
    · rcases h with h | h
      · rcases List.mem_cons.mp h with rfl | h
        · exact .inr ⟨hb, by rw [upd_same]; exact fun z => nomatch z⟩
        · exact .inl (.inl h)
      · exact .inl (.inr h)
    · exact h.imp (List.mem_cons_of_mem _) id
  · refine List.nodup_cons.mpr ⟨fun h => ?_, (g3.nodup_iff).mpr (List.nodup_cons.mp nd).2⟩
    exact r.wd.al b (.inl ⟨i, hin b (hG b h)⟩) hb
  · rcases List.mem_cons.mp hc with rfl | hc
    · exact r.old hb
    · exact r.fr i c (hin c (hG c hc))
  · rcases List.mem_cons.mp hc with rfl | hc
    · exact r.wd.live hb
    · exact r.ns i c (hin c (hG c hc))
  · refine o2.mv (hid_move (Ext.of (same_upd hb)) r.wd.hS fun c h => ?_) fun c hc o q => ?_
    · rcases h with h | h
      · rcases List.mem_cons.mp h with rfl | h
        · exact .inr hb
        · exact .inl (.inl ⟨i, hin c (hG c h)⟩)
      · exact .inl (.inr h)
    · exact same_upd hb c o q

/-! ### repr -/
def showOk (d : D) : Bool := d.showable && SeqAt.shaped d && decide (d.shown.length ≤ 16777216)
def dRepr : D → Option D
  | .bool b => some (.str (if b = true then "True" else "False"))
  | .int i => if i.natAbs < 2 ^ 1900 then some (.str (toString i)) else none
  | .list ds => if showOk (.list ds) = true then some (.str (PyData.shown (.list ds))) else none
  | .tuple ds => if showOk (.tuple ds) = true then some (.str (PyData.shown (.tuple ds))) else none
  | _ => none
theorem showOk_iff {d : D} (h : showOk d = true) : d.showable = true ∧ SeqAt.shaped d = true ∧ d.shown.length ≤ 16777216 := by
  unfold showOk at h
  rw [Bool.and_eq_true, Bool.and_eq_true] at h
  exact ⟨h.1.1, h.1.2, of_decide_eq_true h.2⟩
theorem dRepr_some {x d : D} (h : dRepr x = some d) : (∃ b : Bool, x = .bool b ∧ d = .str (if b = true then "True" else "False")) ∨ (∃ i : Int, x = .int i ∧ i.natAbs < 2 ^ 1900 ∧ d = .str (toString i)) ∨ (((∃ ds, x = .list ds) ∨ ∃ ds, x = .tuple ds) ∧ showOk x = true ∧ d = .str x.shown) := by
  unfold dRepr at h
  split at h
  · cases h; exact .inl ⟨_, rfl, rfl⟩
  · split at h
    · cases h; exact .inr (.inl ⟨_, rfl, by assumption, rfl⟩)
    · cases h
  · split at h
    · cases h; exact .inr (.inr ⟨.inl ⟨_, rfl⟩, by assumption, rfl⟩)
    · cases h
  · split at h
    · cases h; exact .inr (.inr ⟨.inr ⟨_, rfl⟩, by assumption, rfl⟩)
    · cases h
  · cases h
def rReprD (K : PySem.W.Frag) : List V → Hp → VK → Prop := fun vs H Q => ∃ a d, vs = [.ref a] ∧ Dp K H (.ref a) d ∧ d.showable = true ∧ SeqAt.shaped d = true ∧ d.shown.length ≤ 16777216 ∧ Q (.str d.shown) H
theorem noDict_of : ∀ {d : D}, d.canLay0 = true → d.hasDict = false := fun {d} h =>
  PyData.rec (motive_1 := fun d => d.canLay0 = true → d.hasDict = false) (motive_2 := fun ds => PyData.canLayAll0 ds = true → PyData.hasDictAll ds = false) (motive_3 := fun _ => True) (motive_4 := fun _ => True)
    (fun _ => rfl) (fun _ _ => rfl) (fun _ _ => rfl) (fun _ _ => rfl) (fun xs ih h => by rw [PyData.hasDict]; exact ih (by rw [PyData.canLay0] at h; exact h)) (fun xs ih h => by rw [PyData.hasDict]; exact ih (by rw [PyData.canLay0] at h; exact h))
    (fun xs _ h => absurd h (by simp [PyData.canLay0])) (fun _ => rfl) (fun x xs h1 h2 h => by rw [PyData.canLayAll0, Bool.and_eq_true] at h; rw [PyData.hasDictAll, h1 h.1, h2 h.2]; rfl) trivial (fun _ _ _ _ => trivial) (fun _ _ _ _ => trivial) d h
theorem cr_reprD {X : Cx} (hgu : X.A.guards = some []) (hu : X.A.units + 66 < cLine) : CallR X (.builtin "repr") (rReprD X.K) := by
  intro pins s σ H vs us Q I r h
  obtain ⟨a, d, rfl, hd, hs, hsh, hz, q⟩ := h
  rw [Vals.ref1 r]
  obtain ⟨as, rd⟩ := Dp.reads I d _ _ hd (show RelV (.ref a) (.ref a) from rfl)
  have hdep := SeqAt.depth_of_shaped hsh
  refine PySem.repr_of_reads' rd hs (fun e => by rw [noDict_of (SeqAt.canLay_of_shaped hsh)] at e; cases e) hgu (by omega) (fun _ _ h => h) (fun h' u tk hk => ?_) (by rw [sizeLine_eq]; exact hz)
  exact ⟨.str d.shown, H, I.kept (t' := tk) hk, ⟨u, rfl⟩, q⟩
theorem cr_reprB {X : Cx} : CallR X (.builtin "repr") (fun xs H Q => ∃ b : Bool, xs = [.bl b] ∧ Q (.str (if b = true then "True" else "False")) H) := by
  intro pins s σ H xs us Q I r h
  obtain ⟨b, rfl, q⟩ := h
  obtain ⟨u, rfl, rb⟩ := vals1 r
  cases rb
  exact PySem.P.repr_of_bool ⟨.str _, H, I.tok _, ⟨_, rfl⟩, q⟩
theorem jp_repr (ha : JP X e f 0) (hgu : X.A.guards = some []) (hu : X.A.units + 66 < cLine) (hg : Gl X "repr") (hm : X.mg "repr" = none) (hv : bootBuiltins "repr" = some (.builtin "repr") := by rfl)
    (he : starEach [e] X.env = (false, eval e X.env) :: starEach [] X.env := by rfl) (hpl : (backTo pos (starEach [] X.env)).any (·.1) = false := by rfl) : JP X (.Call (.Name "repr" p) [e] [] pos) (eUn dRepr f) k := fun A S σ H vw sto d sto' Q w r q z => by
  unfold eUn at q
  obtain ⟨⟨x, s1⟩, e1, q⟩ := bind_some' q
  obtain ⟨t, e2, q⟩ := map_some' q
  cases q
  rcases dRepr_some e2 with ⟨b, rfl, rfl⟩ | ⟨i, rfl, hc, rfl⟩ | ⟨hx, hc, rfl⟩
  · refine wpE.by (pe_callB cr_reprB hg hm hv (pa_cons wpE_pe pa_nil he) (by decide) (by decide) he hpl) (ha.use w r e1 fun v H1 x1 w1 r1 p1 => ?_)
    cases p1
    exact ⟨_, rfl, z _ H1 [] ((Res.atom w1 (atomic_str _) (.str _)).later x1 w1)⟩
  · refine wpE.by (pe_callB SkE.call_repr_int hg hm hv (pa_cons wpE_pe pa_nil he) (by decide) (by decide) he hpl) (ha.use w r e1 fun v H1 x1 w1 r1 p1 => ?_)
    obtain rfl := p1.intI
    refine ⟨_, rfl, ?_, z _ H1 [] ((Res.atom w1 (atomic_str _) (.str _)).later x1 w1)⟩
    by_cases h0 : i.natAbs = 0
    · rw [h0]; decide
    · exact Nat.lt_trans ((Nat.log2_lt h0).mpr hc) (by omega)
  · obtain ⟨h1, h2, h3⟩ := showOk_iff hc
    refine wpE.by (pe_callB (cr_reprD hgu hu) hg hm hv (pa_cons wpE_pe pa_nil he) (by decide) (by decide) he hpl) (ha.use w r e1 fun v H1 x1 w1 r1 p1 => ?_)
    have dp := p1.out.dp (SeqAt.canLay_of_shaped h2)
    rcases hx with ⟨ds, rfl⟩ | ⟨ds, rfl⟩
    · obtain ⟨a, xs, rfl, _, _⟩ := p1.lstI
      exact ⟨a, _, rfl, dp, h1, h2, h3, z _ H1 [] ((Res.atom w1 (atomic_str _) (.str _)).later x1 w1)⟩
    · obtain ⟨a, xs, rfl, _, _⟩ := p1.tupI
      exact ⟨a, _, rfl, dp, h1, h2, h3, z _ H1 [] ((Res.atom w1 (atomic_str _) (.str _)).later x1 w1)⟩
end
end J
namespace J
open PySem PySem.Spec PyProof.Rows L2

/-! ### l.index(e) -/
def dIndex : D → D → Option D
  | .list ds, d => if SeqAt.shaped (.list ds) = true ∧ SeqAt.shaped d = true then (ds.findIdx? fun z => PyData.eqv z d).map fun j => .int (j : Nat) else none
  | _, _ => none
section
variable {X : Cx} {e a : Expr} {f g : Ev} {k : Nat} {pos apos cpos : Pos}
theorem jp_index (ha : JP X a f 0) (he : JP X e g 0) (hu : X.A.units + 65 < cLine)
    (hbase : attributeBase a "index" X.env (eval a X.env) = eval a X.env := by rfl)
    (hfew : ((backTo cpos (starEach [e] X.env)).all (fun x => !x.1) && (backToKw cpos (keywordEach [] X.env)).all (fun x => x.1.isSome) && decide ([e].length + ([] : List Keyword).length + (if ([] : List Keyword).isEmpty then 0 else 1) < 30)) = true := by rfl)
    (hline : (apos.endLine == cpos.line) = true := by rfl) (hs : starEach [e] X.env = (false, eval e X.env) :: starEach [] X.env := by rfl) :
    JP X (.Call (.Attribute a "index" apos) [e] [] cpos) (eBin dIndex f g) k := fun A S σ H vw sto d sto' Q w r q z => by
  unfold eBin at q
  obtain ⟨⟨x, s1⟩, e1, q⟩ := bind_some' q
  obtain ⟨⟨y, s2⟩, e2, q⟩ := bind_some' q
  obtain ⟨t, e3, q⟩ := map_some' q
  cases q
  simp only at e2 e3
  unfold dIndex at e3
  split at e3
  case h_2 => cases e3
  split at e3
  case isFalse => cases e3
  rename_i ds _ hsh
  obtain ⟨j, e4, e5⟩ := map_some' e3
  cases e5
  obtain ⟨hj, h1, h2⟩ := List.findIdx?_eq_some_iff_getElem.mp e4
  refine wpE.by (pe_bm PySem.F.plainAttrs_list PySem.F.slot_list_index rfl (mt_indexD hu) wpE_pe (pa_cons wpE_pe pa_nil hs) hbase hfew hline hs rfl) (ha.use w r e1 fun v H1 x1 w1 r1 p1 => ?_)
  obtain ⟨l, xs, rfl, r2, q2⟩ := p1.lstI
  refine ⟨.inl ⟨rfl, xs, .inl r2.out⟩, he.use w1 r1 e2 fun u H2 x2 w2 r3 p3 => ?_⟩
  have p4 : Rp X.K S (hid A H2) (.ref l) (.list ds) := p1.le (hid_move x2 w1.hS fun a h => .inl h)
  refine ⟨l, u, _, ds, j, ds[j], rfl, rfl, p4.out.dp (SeqAt.canLay_of_shaped hsh.1), p3.out.dp (SeqAt.canLay_of_shaped hsh.2), hsh.1, hsh.2, List.getElem?_eq_getElem hj, h1, fun m z' hm hz => ?_, z _ H2 [] ((Res.atom w2 (atomic_int _) (.int _)).later (x1.trans x2) w2)⟩
  have := h2 m hm
  obtain ⟨hlt, e6⟩ := List.getElem?_eq_some_iff.mp hz
  rw [e6] at this
  simpa using this
end

/-! ### a def by its told body -/
abbrev bodyX (P : Program) (w : World) (K : PySem.W.Frag) (mg : Str → Option Value) (base : Heap) (N : List Str) (qual : Str) (scope : Scope) (f : Addr) (cd : Value) (A : Around) (outer : List PySem.Env) (s : Shared) (H : Hp) : Cx := (cxOf CX0 P w K mg base N qual scope f cd A outer s H E0).nox
theorem fng_def {P : Program} {w : World} {K : PySem.W.Frag} {mg : Str → Option Value} {base : Heap} {k k2 : Nat} {x qual : Str} {st : Stmt} {f : Addr} {fd : FuncData} {N ps : List Str} {g : Sv}
    (F : Fun K x qual st f fd) (S : FnScope N ps (defScope st))
    (hb : ∀ (cdv : Value) (A : Around) (outer : List PySem.Env) (s : Shared) (H : Hp), Room k (A.deeper (envOfC qual (defScope st) s.heap.objs.size f cdv)) → A.guards = some [] → JSs (fun _ => True) (bodyX P w K mg base N qual (defScope st) f cdv A outer s H) (defBody st) g k2) :
    FnG P w K mg base (k + 1) f fd ps (spD K ps.length (fnD N.length g) k2) := by
  refine FnG.of F S (fun vs H Q h => ?_) fun cdv A outer s H vs Q hr hg h => ?_
  · obtain ⟨_, _, _, _, _, _, hl, _, rp, _, _⟩ := h
    rw [rp.length]; exact hl
  · exact body_of (X := bodyX P w K mg base N qual (defScope st) f cdv A outer s H) (hb cdv A outer s H hr hg) h
/-! ### the law's call -/
/-- what the law's def promises at a list of ints -/
def spLaw (K : PySem.W.Frag) (N : Nat) (g : Sv) : SpG := fun vs H Q => ∃ ds, ds.length = 1 ∧ RpA K [] H vs ds ∧ fnD N g ds [] = some (.bool true, []) ∧ ∀ H', Q (.bl true) H'
/-- the law's own def: it makes the store -/
theorem fng_law {P : Program} {w : World} {K : PySem.W.Frag} {mg : Str → Option Value} {base : Heap} {k : Nat} {x qual y : Str} {st : Stmt} {f : Addr} {fd : FuncData} {N : List Str} {g : Sv}
    (F : Fun K x qual st f fd) (S : FnScope N [y] (defScope st))
    (hb : ∀ (cdv : Value) (A : Around) (outer : List PySem.Env) (s : Shared) (H : Hp), Room k (A.deeper (envOfC qual (defScope st) s.heap.objs.size f cdv)) → A.guards = some [] → JSs (fun S0 => S0 = []) (bodyX P w K mg base N qual (defScope st) f cdv A outer s H) (defBody st) g 0) :
    FnG P w K mg base (k + 1) f fd [y] (spLaw K N.length g) := by
  refine FnG.of F S (fun vs H Q h => ?_) fun cdv A outer s H vs Q hr hg h => ?_
  · obtain ⟨_, hl, rp, _⟩ := h
    rw [rp.length]; exact hl
  · obtain ⟨ds, hl, rp, hf, z⟩ := h
    have h0 : hid (fun _ => False) H = H := by
      funext a
      unfold hid
      rw [if_neg (fun z => z)]
    refine body_core (Z := fun S0 => S0 = []) (X := bodyX P w K mg base N qual (defScope st) f cdv A outer s H) (A := fun _ => False) (S := []) (sto := []) rfl (hb cdv A outer s H hr hg) ⟨fun _ z => z.elim, fun a h => absurd h List.not_mem_nil, List.nodup_nil, rfl, fun i a c h => by simp at h⟩ (by rw [h0]; exact rp) hf fun v H' F' rs => ?_
    have p := rs.ow.scal (S' := []) (H' := H') rfl
    cases p
    exact z H'

/-- the heap in which the script's list alone is known -/
def scrH (K : PySem.W.Frag) (a : Addr) (o : Obj) (vs : List V) : Hp := fun b => if b = a ∧ K.lookup a = none then some (.frz o (.lst vs)) else none
theorem scrH_some {K : PySem.W.Frag} {a b : Addr} {o : Obj} {vs : List V} {u : HO} (h : scrH K a o vs b = some u) : b = a ∧ K.lookup a = none ∧ u = .frz o (.lst vs) := by
  unfold scrH at h
  split at h
  · rename_i c
    exact ⟨c.1, c.2, (Option.some.inj h).symm⟩
  · cases h
theorem law_g {P : Program} {w : World} {K : PySem.W.Frag} {mg mb : Str → Option Value} {k N : Nat} {g : Sv} {fa a : Addr} {fd : FuncData} {x : Str} {s₁ : Shared} {vs : List Value} {ns : List Int}
    (KX : K.In s₁.heap) (hns : s₁.heap.Ns mainGlobals mg) (hb : s₁.heap.Ns builtinsNs mb) (hbb : ∀ x : Str, x ≠ "__name__" → mb x = bootBuiltins x) (hlim : s₁.heap.NoLimit) (hg : s₁.gens = #[])
    (ha : s₁.heap.get? a = some { cls := .type "list", data := .seq vs.toArray }) (hi : IntsAre vs ns) (hl : ns.length ≤ sizeLine) (hr : Room k callerA)
    (F : ∀ base : Heap, K.In base → base.Ns mainGlobals mg → FnG P w K mg base k fa fd [x] (spLaw K N g)) (hbind : ∀ (s : Shared) (u : Value), BindsTo s fd ⟨[u], []⟩ [(x, u)])
    (hmath : fnD N g [skD (ns.map PyData.int)] [] = some (.bool true, [])) :
    codeAny (model P w) callerA (.call (.ref fa) ⟨[.ref a], []⟩) (fun r s' => r = .ok (.ret (.bool true)) ∧ OldK s₁.heap s'.heap ∧ s'.os = s₁.os ∧ AllBare s'.gens) s₁ := by
  have rv := vals_ints hi
  have hlen := hi.length
  generalize ho : ({ cls := .type "list", data := .seq vs.toArray } : Obj) = ob at ha
  let H : Hp := scrH K a ob (ns.map V.int)
  have hH : ∀ b u, H b = some u → b = a ∧ K.lookup a = none ∧ u = .frz ob (.lst (ns.map V.int)) := fun b u h => scrH_some h
  have hseq : SqL K H a (ns.map V.int) := by
    cases hk : K.lookup a with
    | none => exact .inl (.inr ⟨ob, if_pos ⟨rfl, hk⟩⟩)
    | some o =>
      have e := KX a o hk
      rw [ha] at e
      cases e
      subst ho
      exact .inr ⟨_, vs.toArray, _, hk, rfl, rfl, rfl, by rw [List.size_toArray, hlen]; exact hl, by simpa using rv⟩
  have hok : HOk P w H s₁.heap := fun b u h => by
    obtain ⟨rfl, _, rfl⟩ := hH b u h
    subst ho
    exact ⟨ha, by rw [List.length_map]; exact hl, vs, _, rv, ha⟩
  have free : ∀ {b : Addr} {o : Obj} {es : Array DictEntry} {ep : Nat}, s₁.heap.get? b = some o → o.data = .dict es ep → H b = none := fun {b o es ep} e d => by
    cases q : H b with
    | none => rfl
    | some u =>
      obtain ⟨rfl, _, _⟩ := hH b u q
      rw [ha] at e
      cases e
      subst ho
      cases d
  have hns' : ∀ {b : Addr} {m : Str → Option Value}, s₁.heap.Ns b m → (hidT s₁.heap H).Ns b m := fun {b m} ⟨o, es, ep, e, d, r⟩ => ⟨o, es, ep, hidT_get e (free e d), d, r⟩
  have hK : K.In (hidT s₁.heap H) := fun b o e => hidT_get (KX b o e) (by
    cases q : H b with
    | none => rfl
    | some u =>
      obtain ⟨rfl, h2, _⟩ := hH b u q
      rw [h2] at e; cases e)
  have hM : Mod K mg (hidT s₁.heap H) := ⟨hK, hns' hns, ⟨mb, hns' hb, hbb⟩, let ⟨mc, h1, h2⟩ := hlim; ⟨mc, hns' h1, h2⟩⟩
  have e0 : Env0 P w K mg (hidT s₁.heap H) callerA [] s₁ H := ⟨rfl, hM, fun b o e => of_hidT e, Nat.le_of_eq (hidT_size _ _), trivial, (fun b hb => nomatch hb), hok, .of_eq hg⟩
  have hargs : RpA K [] H [.ref a] [skD (ns.map PyData.int)] := .cons (.sk hseq (RpA.of_ints ns)) .nil
  refine codeAny_mono ((F _ hK (hns' hns)).run callerA [] s₁ H ⟨[.ref a], []⟩ [.ref a] [.ref a] (fun v _ => v = .bl true) hr rfl e0 (hbind s₁ (.ref a)) (.cons rfl .nil) ⟨_, rfl, hargs, hmath, fun _ => rfl⟩) fun r s' h => ?_
  match r, h with
  | .error e, h => exact False.elim h
  | .ok .next, h => exact False.elim h
  | .ok .brk, h => exact False.elim h
  | .ok .cont, h => exact False.elim h
  | .ok (.ret u), h =>
    obtain ⟨v, H', os, bare, un, hok', r', q⟩ := h
    obtain rfl : v = .bl true := q
    obtain rfl : u = Value.bool true := r'
    refine ⟨rfl, OldK.of_keep fun b o e => ?_, os, bare⟩
    cases q : H b with
    | none => exact un.keep b o e q (fun z => nomatch z) (by simp)
    | some u =>
      obtain ⟨rfl, _, rfl⟩ := hH b u q
      have z2 := un.frzs b ob _ q
      rw [ha] at e
      cases e
      exact (hok' b _ z2).1
/-- the goal that is left of a law by its head -/
theorem walk_g {l : PySem.W.OpenLaw} {n k N : Nat} {g : Sv} {q : Program} {loose : List Str} {XP : (Str → Option Value) → Heap → Prop} {YP : World → Heap → Prop} {d : DefRec} {K : Params → PySem.W.Frag} {x : Str}
    (hn : l.most = some n) (hn2 : n ≤ sizeLine) (hdf : d.params.defaults = []) (hr : Room k callerA)
    (hY : ∀ (w : World) (h : Heap), YP w h → (K w.params).In h)
    (F : ∀ (w : World) (mg : Str → Option Value) (fa : Addr) (h : Heap), (K w.params).In h → h.Ns mainGlobals mg → mg d.name = some (.ref fa) →
      ∃ fd : FuncData, (∀ (s : Shared) (u : Value), BindsTo s fd ⟨[u], []⟩ [(x, u)]) ∧
        ∀ base : Heap, (K w.params).In base → base.Ns mainGlobals mg → FnG l.prog w (K w.params) mg base k fa fd [x] (spLaw (K w.params) N g))
    (hmath : ∀ ns : List Int, ns.length ≤ n → fnD N g [skD (ns.map PyData.int)] [] = some (.bool true, [])) :
    PySem.W.WalkO q loose XP YP l.row.toRowW d [] (fun f vs => PySem.call f vs) := by
  refine Att.attach_call hn hdf fun w s₀ s₁ mg mb fa o pm cd doc a vs ns G Y ho hd hcd hmg hobj hints hlen hg => ?_
  have KX := hY w _ Y
  obtain ⟨fd, hb, hF⟩ := F w mg fa _ KX G.T.g hmg
  exact law_g KX G.T.g G.T.b G.T.builtins G.T.nolimit hg hobj hints (Nat.le_trans hlen hn2) hr hF hb (hmath ns hlen)
end J
namespace J
open PySem PySem.Spec PyProof.Rows L2

theorem ho_n {i : Nat} : ∀ d l, bN i d = some l → ∀ p ∈ l, p.1 ∈ [i] := fun d l h p hp => by
  cases h
  have := List.mem_singleton.mp hp
  rw [this]
  exact List.mem_singleton.mpr rfl
theorem ho_t {i j : Nat} : ∀ d l, bT2 i j d = some l → ∀ p ∈ l, p.1 ∈ [i, j] := fun d l h p hp => by
  unfold bT2 at h
  split at h
  · cases h
    rcases List.mem_cons.mp hp with rfl | hp
    · exact List.mem_cons_self
    · have := List.mem_singleton.mp hp
      rw [this]
      exact List.mem_cons_of_mem _ (List.mem_singleton.mpr rfl)
  · cases h
abbrev LocB (X : Cx) (scope : Scope) (x : Str) : Prop := ∀ (s : Shared) (H : Hp) (C : Addr) (cl : List (Str × Addr)) (fp : List Addr), Loc (X.blk s H scope (compEnvC scope cl C X.env) fp).env.scope x
abbrev FnB (X : Cx) (scope : Scope) (x : Str) : Prop := ∀ (s : Shared) (H : Hp) (C : Addr) (cl : List (Str × Addr)) (fp : List Addr), (X.blk s H scope (compEnvC scope cl C X.env) fp).fn x = true ∨ (X.blk s H scope (compEnvC scope cl C X.env) fp).env.scope.names.lookup x = some .local
theorem jg_n {X : Cx} {scope : Scope} {i : Nat} {x : Str} {pos : Pos} (hN : X.N.Nodup) (hi : X.N[i]? = some x) (hx : LocB X scope x) (hf : FnB X scope x := by first | exact fun _ _ _ _ _ => .inl rfl | exact fun _ _ _ _ _ => .inr rfl) : JG X scope (.Name x pos) (bN i) :=
  ⟨_, fun s H C cl fp => pg_name hN hi (hx s H C cl fp) (hf s H C cl fp), gspec_name⟩
theorem jg_t {X : Cx} {scope : Scope} {i j : Nat} {x y : Str} {p1 p2 pos : Pos} {kk : Nat} (hN : X.N.Nodup) (hi : X.N[i]? = some x) (hj : X.N[j]? = some y) (hx : LocB X scope x) (hy : LocB X scope y) (hf : FnB X scope x := by first | exact fun _ _ _ _ _ => .inl rfl | exact fun _ _ _ _ _ => .inr rfl) (hf2 : FnB X scope y := by first | exact fun _ _ _ _ _ => .inl rfl | exact fun _ _ _ _ _ => .inr rfl) (hc : X.calm = true := by rfl) :
    JG X scope (.Tuple [.Name x p1, .Name y p2] kk pos) (bT2 i j) := ⟨_, fun s H C cl fp => by
    have a1 := pg_name (X := X.blk s H scope (compEnvC scope cl C X.env) fp) (pos := p1) hN hi (hx s H C cl fp) (hf s H C cl fp)
    have a2 := pg_name (X := X.blk s H scope (compEnvC scope cl C X.env) fp) (pos := p2) hN hj (hy s H C cl fp) (hf2 s H C cl fp)
    exact pg_tup hc (pgs_cons a1 (pgs_cons a2 pgs_nil)), gspec_tup2⟩
theorem u64 {k : Nat} {A : Around} (h : Room k A) : A.units + 64 < cLine := by have := h.un; omega
theorem u65 {k : Nat} {A : Around} (h : Room k A) : A.units + 65 < cLine := by have := h.un; omega
theorem u66 {k : Nat} {A : Around} (h : Room k A) : A.units + 66 < cLine := by have := h.un; omega
/-- a def that stands in the module -/
def Dfn (K : PySem.W.Frag) (mg : Str → Option Value) (x : Str) (st : Stmt) : Prop := ∃ fa fd, Fun K x x st fa fd ∧ mg x = some (.ref fa)
/-- a def whose promise is known -/
def Cal (P : Program) (w : World) (K : PySem.W.Frag) (mg : Str → Option Value) (base : Heap) (x : Str) (st : Stmt) (ps : List Str) (j : Nat) (F : FnD) (k : Nat) : Prop :=
  ∃ fa fd, Fun K x x st fa fd ∧ mg x = some (.ref fa) ∧ FnG P w K mg base j fa fd ps (spD K ps.length F k)
theorem dfn_of {K : PySem.W.Frag} {mg : Str → Option Value} {h : Heap} (X : K.In h) (G : h.Ns mainGlobals mg) {x : Str} {st : Stmt} {f : Addr} {oc : Value} {od an : Option Addr} {osl : Array (Option Value)} {kV doc pm cdv ct : Value}
    (a : PySem.W.nsIn K mainGlobals x = some (some (.ref f))) (l : K.lookup f = some ⟨oc, od, .func (PySem.W.fnOf x x (defArgs st) (defBody st) (defScope st) .none kV doc pm an cdv ct), osl⟩) (c : PySem.W.codeIn K cdv x = true) (k : PySem.W.keepIn K (.ref f) = true) : Dfn K mg x st :=
  ⟨f, _, fun_mk l c k, PySem.W.mg_of X G a⟩
theorem fng_none {P : Program} {w : World} {K : PySem.W.Frag} {mg : Str → Option Value} {base : Heap} {n k j : Nat} {f : Addr} {fd : FuncData} {ps : List Str} : FnG P w K mg base j f fd ps (spD K n (fun _ _ => none) k) :=
  ⟨(fun _ _ _ h => by obtain ⟨_, _, _, _, _, _, _, _, _, h, _⟩ := h; cases h), fun A outer s H args us vs Q _ _ _ _ _ h => by obtain ⟨_, _, _, _, _, _, _, _, _, h, _⟩ := h; cases h⟩
section
variable {P : Program} {w : World} {K : PySem.W.Frag} {mg : Str → Option Value} {base : Heap} {x : Str} {st : Stmt} {ps : List Str} {j k : Nat} {F : FnD}
theorem Cal.mono (h : Cal P w K mg base x st ps j F k) {l : Nat} (hl : j ≤ l) : Cal P w K mg base x st ps l F k := by
  obtain ⟨fa, fd, h1, h2, h3⟩ := h
  exact ⟨fa, fd, h1, h2, h3.mono hl⟩
theorem cal_none (D : Dfn K mg x st) : Cal P w K mg base x st ps j (fun _ _ => none) k := by
  obtain ⟨fa, fd, h1, h2⟩ := D
  exact ⟨fa, fd, h1, h2, fng_none⟩
theorem cal_def {N : List Str} {g : Sv} (D : Dfn K mg x st) (S : FnScope N ps (defScope st))
    (hb : ∀ (f : Addr) (cdv : Value) (A : Around) (outer : List PySem.Env) (s : Shared) (H : Hp), Room j (A.deeper (envOfC x (defScope st) s.heap.objs.size f cdv)) → A.guards = some [] → JSs (fun _ => True) (bodyX P w K mg base N x (defScope st) f cdv A outer s H) (defBody st) g k) :
    Cal P w K mg base x st ps (j + 1) (fnD N.length g) k := by
  obtain ⟨fa, fd, h1, h2⟩ := D
  exact ⟨fa, fd, h1, h2, fng_def h1 S (hb fa)⟩
end
section
variable {X : Cx} {e a b c : Expr} {es rest : List Expr} {f g h : Ev} {fs gs : EvA} {k j n : Nat} {pos p : Pos} {kws : List Keyword} {i : Nat} {x : Str}
theorem jv (i : Nat) {x : Str} {pos : Pos} (hN : X.N[i]? = some x := by rfl) (hv : Vis X.env.scope x := by first | exact Or.inl rfl | exact Or.inr (Or.inl rfl) | exact Or.inr (Or.inr rfl)) (hdb : (x == ("__debug__" : Str)) = false := by decide)
    (hcd : (x == ("__classdict__" : Str)) = false := by decide) : JP X (.Name x pos) (eVar i) 0 := jp_var hN hv hdb hcd
theorem jp_cal {x : Str} {st : Stmt} {ps ks : List Str} {F : FnD} {perm : List Nat} {l : Nat} (C : Cal X.prog X.w X.K X.mg X.base x st ps j F k) (hj : j ≤ l) (hr : Room l X.A) (hgu : X.A.guards = some [])
    (hb : ∀ (kV doc pm : Value) (an : Option Addr) (cdv ct : Value) (us ws : List Value), us.length = n → ws.length = ks.length → bindArgs (PySem.W.fnOf x x (defArgs st) (defBody st) (defScope st) .none kV doc pm an cdv ct) ⟨us, ks.zip ws⟩ = pure (ps.zip (pick Value.none perm (us ++ ws))))
    (ha : JA X (e :: es) fs 0) (hfl : ∀ vw s d s', fs vw s = some (d, s') → d.length = n) (hkw : JK X kws gs) (hgl : ∀ vw s d s', gs vw s = some (d, s') → d.length = ks.length) (hg : Gl X x := by rfl)
    (hn : (e :: es).length = n := by rfl) (hkn : kws.length = ks.length := by rfl) (hpl' : perm.length = ps.length := by rfl)
    (hall : (backToKw pos (keywordEach kws X.env)).all (·.1.isSome) = true := by rfl) (hks : (backToKw pos (keywordEach kws X.env)).filterMap (·.1) = ks := by rfl)
    (hdb : (x == ("__debug__" : Str)) = false := by decide) (he : starEach (e :: es) X.env = (false, eval e X.env) :: starEach es X.env := by rfl)
    (hpl : ((backTo pos (starEach (e :: es) X.env)).any (·.1) || (backToKw pos (keywordEach kws X.env)).any (·.1.isNone)) = false := by rfl) :
    JP X (.Call (.Name x p) (e :: es) kws pos) (eCall F perm (aApp fs gs)) k := by
  obtain ⟨fa, fd, h1, h2, h3⟩ := C
  exact jp_call h3 (hr.mono hj) hgu hg h2 h1.kp (kbn_of perm h1 hb) hn hkn hpl' ha hkw hfl hgl hall hks hdb he hpl
theorem jp_cal0 {x : Str} {st : Stmt} {ps ks : List Str} {F : FnD} {perm : List Nat} {l : Nat} (C : Cal X.prog X.w X.K X.mg X.base x st ps j F k) (hj : j ≤ l) (hr : Room l X.A) (hgu : X.A.guards = some [])
    (hb : ∀ (kV doc pm : Value) (an : Option Addr) (cdv ct : Value) (us ws : List Value), us.length = 0 → ws.length = ks.length → bindArgs (PySem.W.fnOf x x (defArgs st) (defBody st) (defScope st) .none kV doc pm an cdv ct) ⟨us, ks.zip ws⟩ = pure (ps.zip (pick Value.none perm (us ++ ws))))
    (hkw : JK X kws gs) (hgl : ∀ vw s d s', gs vw s = some (d, s') → d.length = ks.length) (hg : Gl X x := by rfl)
    (hkn : kws.length = ks.length := by rfl) (hpl' : perm.length = ps.length := by rfl)
    (hall : (backToKw pos (keywordEach kws X.env)).all (·.1.isSome) = true := by rfl) (hks : (backToKw pos (keywordEach kws X.env)).filterMap (·.1) = ks := by rfl)
    (hdb : (x == ("__debug__" : Str)) = false := by decide)
    (hpl : ((backTo pos (starEach [] X.env)).any (·.1) || (backToKw pos (keywordEach kws X.env)).any (·.1.isNone)) = false := by rfl) :
    JP X (.Call (.Name x p) [] kws pos) (eCall F perm gs) k := by
  obtain ⟨fa, fd, h1, h2, h3⟩ := C
  exact jp_call0 h3 (hr.mono hj) hgu hg h2 h1.kp (kbn_of perm h1 hb) hkn hpl' hkw hgl hall hks hdb hpl
end
end J
namespace J
open PySem PySem.Spec PyProof.Rows L2
section
variable {X : Cx} {k' : Nat}
/-- a plain datum appended to an inner list of an owned one -/
theorem Sr.app1 {C : Hp} {S0 S : List Addr} {A0 : Addr → Prop} {H0 H' : Hp} {σ : Sg} {env : J.Env} {sto' : STO} {Fs' : Nat → List Addr} {i m : Nat} {ds es : List D} {v : V} {d : D}
    (r2 : Sr X.K C S0 S A0 H0 σ H' env sto' Fs') (hsl : env[i]? = some (.ow (k' + 2) (.list ds))) (hes : ds[m]? = some (.list es)) (hd1 : isScal d = true) (hv : Rp X.K S (hid (hd S Fs' A0) H') v d) :
    ∃ a0 vs b0 ws Fs2, σ[i]? = some (some (.ref a0)) ∧ H' a0 = some (.lst vs) ∧ vs.length = ds.length ∧ vs[m]? = some (.ref b0) ∧ a0 ≠ b0 ∧ H' b0 = some (.lst ws) ∧ ws.length = es.length ∧ a0 ∈ Fs' i ∧ b0 ∈ Fs' i ∧
      Sr X.K C S0 S A0 H0 σ (upd H' b0 (.lst (ws ++ [v]))) (env.set i (.ow (k' + 2) (.list (ds.set m (.list (es ++ [d])))))) sto' Fs2 := by
  have hlt : i < env.length := (List.getElem?_eq_some_iff.mp hsl).1
  obtain ⟨F, eF0, rs⟩ : ∃ F : List Addr, F = [] ∧ Res X.K S (hd S Fs' A0) H' sto' k' H' v d F := ⟨[], rfl, .atom r2.wd (scal_atomic hd1) hv⟩
  have H1 : Hp := H'
  obtain ⟨u, e2, ow'⟩ := r2.sl i _ hsl
  obtain ⟨a0, vs, G0, rfl, eG, e3', ow1⟩ := ow'.lstI
  obtain ⟨vm', G1, Gj, G2, g1, k2, k3, k4, k5⟩ := ow1.split hes
  obtain ⟨b0, ws, Gb, rfl, rfl, h5, ow2⟩ := k4.lstI
  subst k2
  have ha : a0 ∈ Fs' i := by rw [eG]; exact List.mem_cons_self
  have hb : b0 ∈ Fs' i := by rw [eG]; exact List.mem_cons_of_mem _ (List.mem_append_right _ (List.mem_append_left _ List.mem_cons_self))
  have hin : ∀ c ∈ G1 ++ ((b0 :: Gb) ++ G2), c ∈ Fs' i := fun c hc => by rw [eG]; exact List.mem_cons_of_mem _ hc
  have hab : a0 ≠ b0 := fun c => by
    have := r2.nd i
    rw [eG] at this
    exact (List.nodup_cons.mp this).1 (by rw [c]; exact List.mem_append_right _ (List.mem_append_left _ List.mem_cons_self))
  have nd0 := r2.nd i
  rw [eG] at nd0
  obtain ⟨nda, nd1⟩ := List.nodup_cons.mp nd0
  obtain ⟨ndG1, ndR, ndx⟩ := List.nodup_append.mp nd1
  obtain ⟨ndb, ndG2, ndy⟩ := List.nodup_append.mp ndR
  obtain ⟨nbG, ndGb⟩ := List.nodup_cons.mp ndb
  have h5' : H' b0 = some (.lst ws) := rs.ext b0 _ (r2.ns i b0 hb) h5
  have h3' : H' a0 = some (.lst vs) := rs.ext a0 _ (r2.ns i a0 ha) e3'
  have hwl := ow2.length
  have hdis : ∀ c ∈ F, c ∉ Fs' i := fun c hc h => r2.wd.al c (.inl ⟨i, h⟩) (rs.fr c hc)
  have hB : plus F (hd S Fs' A0) b0 := .inr (.inl ⟨i, hb⟩)
  have mem3 : ∀ c, c ∈ a0 :: (G1 ++ ((b0 :: (Gb ++ F)) ++ G2)) → c ∈ F ∨ c ∈ Fs' i := fun c h => by
    rcases List.mem_cons.mp h with rfl | h
    · exact .inr ha
    · rcases List.mem_append.mp h with h | h
      · exact .inr (hin c (List.mem_append_left _ h))
      · rcases List.mem_append.mp h with h | h
        · rcases List.mem_cons.mp h with rfl | h
          · exact .inr hb
          · rcases List.mem_append.mp h with h | h
            · exact .inr (hin c (List.mem_append_right _ (List.mem_append_left _ (List.mem_cons_of_mem _ h))))
            · exact .inl h
        · exact .inr (hin c (List.mem_append_right _ (List.mem_append_right _ h)))
  have r3 := r2.mut (i := i) (F := a0 :: (G1 ++ ((b0 :: (Gb ++ F)) ++ G2))) (ov := some (.ref a0)) (s := .ow (k' + 2) (.list (ds.set m (.list (es ++ [d]))))) (H' := upd H' b0 (.lst (ws ++ [v]))) (sto' := sto') hlt ?_ ?_ ?_ ?_ ?_
  · rw [set_same e2] at r3
    exact ⟨a0, vs, b0, ws, _, e2, h3', ow1.length, g1, hab, h5', ow2.length, ha, hb, r3⟩
  · intro c o hcS hn h
    rw [upd_ne (fun q : c = b0 => hn (q ▸ hb))]
    exact rs.ext c o hcS h
  · have w1 := rs.wd.upd (o := .lst (ws ++ [v])) hB (r2.ns i b0 hb) ⟨_, h5'⟩
    refine w1.less (fun c h => ?_) (fun a e => .inr (.inr (.inr e)))
    rcases h with h | h
    · exact (mem3 c h).imp id fun h => .inl ⟨i, h⟩
    · exact .inr h
  · refine List.nodup_cons.mpr ⟨fun h => ?_, List.nodup_append.mpr ⟨ndG1, List.nodup_append.mpr ⟨List.nodup_cons.mpr ⟨fun h => ?_, List.nodup_append.mpr ⟨ndGb, rs.nd, fun c hc c' hc' e => hdis c' hc' (e ▸ hin c (List.mem_append_right _ (List.mem_append_left _ (List.mem_cons_of_mem _ hc))))⟩⟩, ndG2, fun c hc c' hc' e => ?_⟩, fun c hc c' hc' e => ?_⟩⟩
    · rcases List.mem_append.mp h with h | h
      · exact nda (List.mem_append_left _ h)
      · rcases List.mem_append.mp h with h | h
        · rcases List.mem_cons.mp h with h | h
          · exact hab h
          · rcases List.mem_append.mp h with h | h
            · exact nda (List.mem_append_right _ (List.mem_append_left _ (List.mem_cons_of_mem _ h)))
            · exact hdis a0 h ha
        · exact nda (List.mem_append_right _ (List.mem_append_right _ h))
    · rcases List.mem_append.mp h with h | h
      · exact nbG h
      · exact hdis b0 h hb
    · subst e
      rcases List.mem_cons.mp hc with rfl | hc
      · exact ndy _ List.mem_cons_self _ hc' rfl
      · rcases List.mem_append.mp hc with hc | hc
        · exact ndy c (List.mem_cons_of_mem _ hc) c hc' rfl
        · exact hdis c hc (hin c (List.mem_append_right _ (List.mem_append_right _ hc')))
    · subst e
      rcases List.mem_append.mp hc' with hc' | hc'
      · rcases List.mem_cons.mp hc' with rfl | hc'
        · exact ndx _ hc _ (List.mem_append_left _ List.mem_cons_self) rfl
        · rcases List.mem_append.mp hc' with hc' | hc'
          · exact ndx c hc c (List.mem_append_left _ (List.mem_cons_of_mem _ hc')) rfl
          · exact hdis c hc' (hin c (List.mem_append_left _ hc))
      · exact ndx c hc c (List.mem_append_right _ hc') rfl
  · intro c h
    exact (mem3 c h).symm.imp id id |>.symm.imp (fun h => rs.fr c h) id
  · refine ⟨.ref a0, rfl, ?_⟩
    generalize hF3 : a0 :: (G1 ++ ((b0 :: (Gb ++ F)) ++ G2)) = F3 at mem3
    have sub : ∀ c, hd S (setF Fs' i F3) A0 c → plus F (hd S Fs' A0) c := fun c h => by
      rcases hd_set r2 c h with h | h
      · exact (mem3 c h).imp id fun h => .inl ⟨i, h⟩
      · exact .inr h
    have hu : hid (plus F (hd S Fs' A0)) (upd H' b0 (.lst (ws ++ [v]))) = hid (plus F (hd S Fs' A0)) H' := hid_upd hB
    have s2 : Same (hid (plus F (hd S Fs' A0)) H') (hid (hd S (setF Fs' i F3) A0) (upd H' b0 (.lst (ws ++ [v])))) := fun c o q => by rw [← hu] at q; exact hid_le sub c o q
    have s1 : Same (hid (hd S Fs' A0) H') (hid (plus F (hd S Fs' A0)) H') := hid_move rs.ext r2.wd.hS fun c h => by
      rcases h with h | h
      · exact .inr (rs.fr c h)
      · exact .inl h
    have s3 : Same (hid (hd S Fs' A0) H') (hid (hd S (setF Fs' i F3) A0) (upd H' b0 (.lst (ws ++ [v])))) := fun c o q => s2 c o (s1 c o q)
    have keep : ∀ c ∈ Fs' i, c ≠ b0 → ∀ o, H' c = some o → upd H' b0 (.lst (ws ++ [v])) c = some o := fun c hc hn o q => by
      rw [upd_ne hn]
      exact rs.ext c o (r2.ns i c hc) q
    have o1 := k3.mv s3 fun c hc o q => keep c (hin c (List.mem_append_left _ hc)) (fun e => ndx c hc b0 (List.mem_append_left _ List.mem_cons_self) e) o q
    have o3 := k5.mv s3 fun c hc o q => keep c (hin c (List.mem_append_right _ (List.mem_append_right _ hc))) (fun e => ndy b0 List.mem_cons_self c hc e.symm) o q
    have o2 := ow2.mv s3 fun c hc o q => keep c (hin c (List.mem_append_right _ (List.mem_append_left _ (List.mem_cons_of_mem _ hc)))) (fun e => nbG (e ▸ hc)) o q
    have o4 : Ow X.K S (hd S (setF Fs' i F3) A0) (upd H' b0 (.lst (ws ++ [v]))) k' v d F := rs.ow.mv s2 fun c hc o q => by
      rw [upd_ne (fun e : c = b0 => hdis c hc (e ▸ hb))]
      exact q
    have o5 := o2.append (.cons o4 .nil)
    rw [List.append_nil] at o5
    rw [← hF3]
    refine .lst (vs := vs) (by rw [upd_ne hab]; exact h3') ?_
    have hml : m < ds.length := (List.getElem?_eq_some_iff.mp hes).1
    have hvl := ow1.length
    have ev : vs = vs.take m ++ (.ref b0 :: vs.drop (m + 1)) := by
      have := set_split vs m (.ref b0) (by omega)
      rw [← this]
      apply List.ext_getElem?
      intro l
      rw [List.getElem?_set]
      by_cases c : m = l
      · subst c
        rw [if_pos rfl, g1, if_pos (by omega)]
      · rw [if_neg c]
    rw [set_split ds m _ hml]
    rw [hF3]
    rw [ev] 
    have := o1.append (.cons (.lst upd_same o5) o3)
    rw [← ev]
    rw [← ev] at this
    exact this
/-- each inner list with one more item -/
def snocD (d : D) : D → D
  | .list es => .list (es ++ [d])
  | x => x
/-- the first m of them -/
def dsm (d : D) (ds : List D) (m : Nat) : List D := (ds.take m).map (snocD d) ++ ds.drop m
theorem dsm_zero (d : D) (ds : List D) : dsm d ds 0 = ds := by simp [dsm]
theorem dsm_all (d : D) (ds : List D) : dsm d ds ds.length = ds.map (snocD d) := by simp [dsm]
theorem dsm_len (d : D) (ds : List D) (m : Nat) : (dsm d ds m).length = ds.length := by
  simp only [dsm, List.length_append, List.length_map, List.length_take, List.length_drop]
  omega
theorem dsm_get (d : D) (ds : List D) (m : Nat) : (dsm d ds m)[m]? = ds[m]? := by
  unfold dsm
  by_cases h : m < ds.length
  · rw [List.getElem?_append_right (by rw [List.length_map, List.length_take]; omega), List.length_map, List.length_take, show m - min m ds.length = 0 by omega, List.getElem?_drop]
    rfl
  · rw [List.getElem?_eq_none (by simp only [List.length_append, List.length_map, List.length_take, List.length_drop]; omega), List.getElem?_eq_none (by omega)]
theorem dsm_succ (d : D) (ds : List D) (m : Nat) (es : List D) (h : ds[m]? = some (.list es)) : (dsm d ds m).set m (.list (es ++ [d])) = dsm d ds (m + 1) := by
  obtain ⟨hm, he⟩ := List.getElem?_eq_some_iff.mp h
  unfold dsm
  rw [List.set_append_right _ _ (by rw [List.length_map, List.length_take]; omega), List.length_map, List.length_take, show m - min m ds.length = 0 by omega]
  rw [List.drop_eq_getElem_cons hm, List.set_cons_zero, List.take_add_one, h]
  simp only [Option.toList_some, List.map_append, List.map_cons, List.map_nil, List.append_assoc, List.cons_append, List.nil_append]
  rfl
variable {i l : Nat}
theorem appAllT {C : Hp} {S0 S : List Addr} {A0 : Addr → Prop} {H0 H : Hp} {σ : Sg} {env : J.Env} {sto : STO} {Fs : Nat → List Addr} {aL : Addr} {vs : List V} {E : Ends} {d : D} {ds : List D} {g : TS}
    (r : Sr X.K C S0 S A0 H0 σ H env sto Fs) (hil : i ≠ l) (hl : l < env.length) (hsl : env[i]? = some (.ow (k' + 2) (.list ds))) (hds : ds.all lstLt = true) (hσ : σ[i]? = some (some (.ref aL))) (hH : H aL = some (.lst vs)) (hsc : isScal d = true)
    (hg : ∀ S1 (σ1 : Sg) H1 env1 sto1 Fs1 b ws (E1 : Ends), Sr X.K (hid (hd S Fs A0) H) S0 S1 A0 H0 σ1 H1 env1 sto1 Fs1 → H1 b = some (.lst ws) → b ∈ Fs1 i → ws.length < 16777216 → σ1[l]? = some (some (.ref b)) →
      (∀ v H2, Ext S1 H1 H2 → Wd X.K S1 (hd S1 Fs1 A0) H2 sto1 → Rp X.K S1 (hid (hd S1 Fs1 A0) H2) v d → E1.nx σ1 (upd H2 b (.lst (ws ++ [v])))) → g E1 σ1 H1)
    (z : ∀ S σ H Fs, Sr X.K C S0 S A0 H0 σ H ((env.set i (.ow (k' + 2) (.list (ds.map (snocD d))))).set l .no) sto Fs → E.nx σ H) :
    ∃ W : Nat → Nat → L2.St → Hp → Prop, (∃ m, W 0 m σ H) ∧ ∀ i m σ H, W i m σ H →
      ((Itl X.K aL).stop i H ∧ E.nx σ H) ∨ ((Itl X.K aL).go i H ∧ ∃ N : L2.St → Hp → Prop, (∀ σ' H', N σ' H' → ∃ m', m' < m ∧ W (i + 1) m' σ' H') ∧ ∀ x H', (Itl X.K aL).yld i H x H' → gName l x σ H' fun σ2 H2 => g { E with nx := N, ct := N, bk := E.nx } σ2 H2) := by
  have hvl : vs.length = ds.length := by
    obtain ⟨u, e2, ow'⟩ := r.sl i _ hsl
    obtain ⟨a0, vs', G0, rfl, eG, e3', ow1⟩ := ow'.lstI
    rw [hσ] at e2
    cases e2
    rw [hH] at e3'
    cases e3'
    exact ow1.length
  have hi : i < env.length := (List.getElem?_eq_some_iff.mp hsl).1
  refine for_it (walk_list (xs := vs)) (tb := g) (D := E) (fun m σ1 H1 => ∃ Fs1, Sr X.K (hid (hd S Fs A0) H) S0 S A0 H0 σ1 H1 ((env.set i (.ow (k' + 2) (.list (dsm d ds m)))).set l .no) sto Fs1 ∧ σ1[i]? = some (some (.ref aL)) ∧ H1 aL = some (.lst vs)) ?_ ?_ ?_ ?_
  · have hlσ : l < σ.length := by rw [← r.len]; exact hl
    have r2 := r.chk.drop (i := l) hl (σ.getD l none)
    rw [set_same (by rw [List.getD_eq_getElem?_getD, List.getElem?_eq_getElem hlσ]; rfl)] at r2
    have e0 : env.set i (.ow (k' + 2) (.list (dsm d ds 0))) = env := by
      rw [dsm_zero]
      apply List.ext_getElem?
      intro m
      rw [List.getElem?_set]
      by_cases c : i = m
      · subst c
        rw [if_pos rfl, if_pos hi, hsl]
      · rw [if_neg c]
    exact ⟨setF Fs l [], by rw [e0]; exact r2, hσ, hH⟩
  · rintro m σ1 H1 _ ⟨Fs1, r1, _, h2⟩
    exact .inl (.inl h2)
  · rintro m x σ1 H1 H2 hm ⟨Fs1, r1, h1, h2⟩ ⟨rfl, hx⟩
    rw [hvl] at hm
    obtain ⟨es, hes, hesl⟩ : ∃ es, ds[m]? = some (.list es) ∧ es.length < 16777216 := by
      have h3 := List.all_eq_true.mp hds ds[m] (List.getElem_mem hm)
      cases q : ds[m] with
      | list es => rw [q] at h3; exact ⟨es, by rw [List.getElem?_eq_getElem hm, q], of_decide_eq_true h3⟩
      | _ => rw [q] at h3; exact absurd h3 (fun z => nomatch z)
    have hl1 : l < ((env.set i (Slot.ow (k' + 2) (.list (dsm d ds m)))).set l .no).length := by rw [List.length_set, List.length_set]; exact hl
    have r2 := r1.drop (i := l) hl1 (some x)
    rw [List.set_set] at r2
    have hsl2 : ((env.set i (Slot.ow (k' + 2) (.list (dsm d ds m)))).set l .no)[i]? = some (.ow (k' + 2) (.list (dsm d ds m))) := by
      rw [List.getElem?_set_ne (Ne.symm hil), List.getElem?_set, if_pos rfl, if_pos hi]
    have hes2 : (dsm d ds m)[m]? = some (.list es) := by rw [dsm_get]; exact hes
    have hσ2 : (σ1.set l (some x))[i]? = some (some (.ref aL)) := by rw [List.getElem?_set_ne (Ne.symm hil)]; exact h1
    obtain ⟨a0, vs', b0, ws, _, q1, q2, q3, q4, q5, q6, q7, q8, q9, _⟩ := r2.app1 (d := .none) (v := .non) hsl2 hes2 rfl .non
    rw [hσ2] at q1
    cases q1
    rw [h2] at q2
    cases q2
    rw [hx] at q4
    cases q4
    refine hg S _ H2 _ sto _ b0 ws _ r2 q6 q9 (by omega) (by rw [List.getElem?_set, if_pos rfl, if_pos (by rw [← r1.len]; exact hl1)]) fun v H3 x3 w3 p3 => ?_
    have r3 := r2.go x3 w3
    obtain ⟨a1, vs1, b1, ws1, Fs2, p1, p2, p3', p4, p5, p6, p7, p8, p9, r4⟩ := r3.app1 hsl2 hes2 hsc p3
    rw [hσ2] at p1
    cases p1
    have h2' : H3 aL = some (.lst vs) := x3 aL _ (r2.ns i aL q8) h2
    rw [h2'] at p2
    cases p2
    rw [hx] at p4
    cases p4
    have q6' : H3 b0 = some (.lst ws) := x3 b0 _ (r2.ns i b0 q9) q6
    rw [q6'] at p6
    cases p6
    refine ⟨Fs2, ?_, hσ2, ?_⟩
    · rw [dsm_succ d ds m es hes] at r4
      have eset : ((env.set i (Slot.ow (k' + 2) (.list (dsm d ds m)))).set l .no).set i (.ow (k' + 2) (.list (dsm d ds (m + 1)))) = (env.set i (Slot.ow (k' + 2) (.list (dsm d ds (m + 1))))).set l .no := by
        rw [List.set_comm _ _ (Ne.symm hil), List.set_set]
      rw [eset] at r4
      exact r4
    · rw [upd_ne q5]
      exact h2'
  · rintro σ1 H1 ⟨Fs1, r1, _, _⟩
    rw [hvl, dsm_all] at r1
    exact z S σ1 H1 Fs1 (r1.back r.pub)
variable {Z : List Addr → Prop} {e : Expr} {f : Ev} {k : Nat} {pos p apos cpos : Pos} {x y : Str}
/-- for y in x: y.append(e), told -/
def sAppAllT (i l : Nat) (d : D) : Sv := fun env s => if i ≠ l ∧ l < env.length then match env[i]? with
  | some (.ow (k + 2) (.list ds)) => if ds.all lstLt = true then some (.nx, (env.set i (.ow (k + 2) (.list (ds.map (snocD d))))).set l .no, s) else none
  | _ => none
  else none
theorem js_appAllT {py : Pos} {p5 p6 : Pos} (hp : PassesOwn (model X.prog X.w) X.A X.env X.xe) (hc : X.calm = true) (hN : X.N.Nodup) {d : D} (he : JP X e f 0) (hf : ∀ s, f [] s = some (d, s)) (hsc : isScal d = true) (hi : X.N[i]? = some x) (hx : Vis X.env.scope x) (hly : X.N[l]? = some y) (hyl : X.env.scope.names.lookup y = some .local)
    (hdb : (x == Str.ofString "__debug__") = false := by decide) (hcd : (x == Str.ofString "__classdict__") = false := by decide) (hdb2 : (y == Str.ofString "__debug__") = false := by decide) (hcd2 : (y == Str.ofString "__classdict__") = false := by decide)
    (hbase : attributeBase (.Name y p) "append" X.env (eval (.Name y p) X.env) = eval (.Name y p) X.env := by rfl)
    (hfew : ((backTo cpos (starEach [e] X.env)).all (fun x => !x.1) && (backToKw cpos (keywordEach [] X.env)).all (fun x => x.1.isSome) && decide ([e].length + ([] : List Keyword).length + (if ([] : List Keyword).isEmpty then 0 else 1) < 30)) = true := by rfl)
    (hline : (apos.endLine == cpos.line) = true := by rfl) (hs : starEach [e] X.env = (false, eval e X.env) :: starEach [] X.env := by rfl) (hsw : swapsWith (.Call (.Attribute (.Name y p) "append" apos) [e] [] cpos) none p6.line X.env = pure false := by rfl)
    (hfs : ∀ z, foldedSetIterable (.Name x p5) X.env z = pure z := by intro _; rfl) :
    JS Z X (.For (.Name y py) (.Name x p5) [.Expr (.Call (.Attribute (.Name y p) "append" apos) [e] [] cpos) p6] [] pos) (sAppAllT i l d) k := fun C S0 S A0 H0 σ H env sto Fs o env' sto' E hZ r q z => by
  unfold sAppAllT at q
  split at q
  case isFalse => cases q
  rename_i hil
  obtain ⟨hil, hl⟩ := hil
  split at q
  case h_2 => cases q
  rename_i k' ds hsl
  split at q
  case isFalse => cases q
  rename_i hds
  cases q
  obtain ⟨u, e2, ow⟩ := r.sl i _ hsl
  obtain ⟨a0, vs, F0, rfl, eF, e3, ow0⟩ := ow.lstI
  refine wpS.by (ps_for hp hc (pi_list (pe_var hi hx hdb hcd)) (pg_name hN hly (.inl hyl) (.inr hyl)) (pss_one (ps_expr (pe_bm PySem.F.plainAttrs_list PySem.F.slot_list_append rfl mt_append (pe_var hly (.inl hyl) hdb2 hcd2) (pa_cons wpE_pe pa_nil hs) hbase hfew hline hs rfl) hsw)) hfs) ?_
  refine ⟨_, e2, a0, rfl, ⟨vs, .of e3⟩, ?_⟩
  refine appAllT r hil hl hsl hds e2 e3 hsc ?_ z
  intro S1 σ1 H1 env1 sto1 Fs1 b ws E1 r1 h1 h2 h3 h4 h5
  refine ⟨_, h4, .inl ⟨rfl, ws, .of h1⟩, ?_⟩
  have rd : RdV X.K S1 (hd S1 Fs1 A0) σ1 H1 [] := ⟨Nat.zero_le _, fun i d h => by simp at h⟩
  refine he.use r1.wd rd (hf _) fun v H2 x2 w2 _ p2 => ⟨b, ws, v, rfl, rfl, x2 b _ (r1.ns i b h2) h1, by rw [sizeLine_eq]; omega, h5 v H2 x2 w2 p2⟩
end
end J
namespace J
open PySem PySem.Spec PyProof.Rows L2
section
variable {X : Cx} {a b c e o i : Expr} {f g h : Ev} {k : Nat} {pos p p1 p2 p3 apos cpos : Pos} {x : Str}
/-! ### xs[::-1] -/
def dRevL : D → Option D
  | .list ds => some (.list ds.reverse)
  | _ => none
theorem RpA.rev {K : PySem.W.Frag} {S : List Addr} {H : Hp} : ∀ {vs : List V} {ds : List D}, RpA K S H vs ds → RpA K S H vs.reverse ds.reverse
  | _, _, .nil => .nil
  | _, _, .cons a b => by
    rw [List.reverse_cons, List.reverse_cons]
    exact b.rev.append (.cons a .nil)
theorem jp_rev {kk : Nat} (ha : JP X e f 0) : JP X (.Subscript e (.Slice none none (some (.UnaryOp .USub (.Constant (.int 1) kk p1) p2)) p3) pos) (eUn dRevL f) 1 := fun A S σ H vw sto d sto' Q w r q z => by
  unfold eUn at q
  obtain ⟨⟨y, s1⟩, e1, q⟩ := bind_some' q
  obtain ⟨t, e2, q⟩ := map_some' q
  cases q
  refine wpE.by (pe_revL wpE_pe) (ha.use w r e1 fun v H1 x1 w1 r1 p1 => ?_)
  cases y with
  | list ds =>
    cases e2
    obtain ⟨l, xs, rfl, h1, h2⟩ := p1.lstI
    exact ⟨l, xs, rfl, .inl h1.out, fun b hb => z _ _ [b] ((Res.lst w1 (.shared w1 h2.rev) hb).later x1 w1)⟩
  | _ => cases e2
/-! ### a cell's list: its length, its item taken out -/
def eLenC (f : Ev) : Ev := fun vw s => (f vw s).bind fun p => (isTok p.1).bind fun j => (cellL p.2 j).map fun ds => (.int ds.length, p.2)
theorem jp_lenC (ha : JP X e f 0) (hg : Gl X "len") (hm : X.mg "len" = none) (hv : bootBuiltins "len" = some (.builtin "len") := by rfl)
    (he : starEach [e] X.env = (false, eval e X.env) :: starEach [] X.env := by rfl) (hpl : (backTo pos (starEach [] X.env)).any (·.1) = false := by rfl) : JP X (.Call (.Name "len" p) [e] [] pos) (eLenC f) k := fun A S σ H vw sto d sto' Q w r q z => by
  unfold eLenC at q
  obtain ⟨⟨y, s1⟩, e1, q⟩ := bind_some' q
  obtain ⟨j, e2, q⟩ := bind_some' q
  obtain ⟨ds, e3, q⟩ := map_some' q
  cases q
  have ht := isTok_eq e2
  simp only at ht e3
  subst ht
  refine wpE.by (pe_callB call_len_seq hg hm hv (pa_cons wpE_pe pa_nil he) (by decide) (by decide) he hpl) (ha.use w r e1 fun v H1 x1 w1 r1 p1 => ?_)
  obtain ⟨l, rfl, hS⟩ := p1.tokI
  obtain ⟨vs, h1, h2⟩ := w1.cellL hS e3
  refine ⟨l, vs, rfl, .inl (.of h1), ?_⟩
  rw [h2.length]
  exact z _ H1 [] ((Res.atom w1 (atomic_int _) (.int _)).after x1 noF)
/-- x.pop(i), x in a cell -/
def ePopC (f g : Ev) : Ev := fun vw s => (f vw s).bind fun p => (isTok p.1).bind fun j => (cellL p.2 j).bind fun _ => (g vw p.2).bind fun q => match q.1 with
  | .int n => (cellL q.2 j).bind fun ds => if ds.length ≤ 16777216 then (ixN ds.length n).bind fun m => ds[m]?.map fun d => (d, q.2.set j (.lst (ds.eraseIdx m))) else none
  | _ => none
theorem RpA.eraseIdx {K : PySem.W.Frag} {S : List Addr} {H : Hp} : ∀ {vs : List V} {ds : List D} (m : Nat), RpA K S H vs ds → RpA K S H (vs.eraseIdx m) (ds.eraseIdx m)
  | _, _, _, .nil => .nil
  | _, _, 0, .cons a b => b
  | _, _, m + 1, .cons a b => .cons a (b.eraseIdx m)
theorem jp_popC (ha : JP X o f 0) (hb : JP X e g 0)
    (hbase : attributeBase o "pop" X.env (eval o X.env) = eval o X.env := by rfl)
    (hfew : ((backTo cpos (starEach [e] X.env)).all (fun x => !x.1) && (backToKw cpos (keywordEach [] X.env)).all (fun x => x.1.isSome) && decide ([e].length + ([] : List Keyword).length + (if ([] : List Keyword).isEmpty then 0 else 1) < 30)) = true := by rfl)
    (hline : (apos.endLine == cpos.line) = true := by rfl) (hs : starEach [e] X.env = (false, eval e X.env) :: starEach [] X.env := by rfl) (hpl : (backTo cpos (starEach [] X.env)).any (·.1) = false := by rfl) :
    JP X (.Call (.Attribute o "pop" apos) [e] [] cpos) (ePopC f g) 0 := fun A S σ H vw sto d sto' Q w r q z => by
  unfold ePopC at q
  obtain ⟨⟨y, s1⟩, e1, q⟩ := bind_some' q
  obtain ⟨j, e2, q⟩ := bind_some' q
  obtain ⟨ds0, e0, q⟩ := bind_some' q
  obtain ⟨⟨yi, s2⟩, e3, q⟩ := bind_some' q
  simp only at q
  split at q
  case h_2 => cases q
  rename_i n
  obtain ⟨ds, e4, q⟩ := bind_some' q
  split at q
  case isFalse => cases q
  rename_i hlen
  obtain ⟨m, e5, q⟩ := bind_some' q
  obtain ⟨dd, e6, q⟩ := map_some' q
  cases q
  have ht := isTok_eq e2
  simp only at ht e3 e4 e0
  subst ht
  refine wpE.by (pe_bm PySem.F.plainAttrs_list PySem.F.slot_list_pop rfl mt_popAt wpE_pe (pa_cons wpE_pe pa_nil hs) hbase hfew hline hs hpl) (ha.use w r e1 fun v H1 x1 w1 r1 p1 => ?_)
  obtain ⟨l, rfl, hS⟩ := p1.tokI
  obtain ⟨vs0, hv0, _⟩ := w1.cellL hS e0
  refine ⟨.inl ⟨rfl, vs0, .of hv0⟩, hb.use w1 r1 e3 fun u H2 x2 w2 r2 p2 => ?_⟩
  have eu := p2.intI
  subst eu
  obtain ⟨vs, h1, h2⟩ := w2.cellL hS e4
  obtain ⟨i1, i2, i3, i4⟩ := ixN_seq e5
  obtain ⟨v, hv, rv⟩ := h2.get e6
  rw [← h2.length] at i1
  have hA : A l := w2.hS l (List.mem_of_getElem? hS)
  refine ⟨l, vs, n, m, v, rfl, rfl, h1, by omega, by omega, i1, hv, ?_⟩
  obtain ⟨x3, w3⟩ := w2.put hS (o := .lst (vs.eraseIdx m)) (c := .lst (ds.eraseIdx m)) ⟨_, upd_same, by rw [hid_upd hA]; exact h2.eraseIdx m⟩
  have rv' : Rp X.K S (hid A (upd H2 l (.lst (vs.eraseIdx m)))) v d := by rw [hid_upd hA]; exact rv
  exact z _ _ [] ((Res.shared w3 rv').after ((x1.trans x2).trans x3) noF)
/-! ### what was made is never changed -/
theorem wpE.lock {σ : Sg} {H : Hp} {Q : VK} (h : wpE X e σ H fun v H1 => ∃ d u, H1 d = some u ∧ Mut (some u) ∧ ∀ od, Q v (upd H1 d (.frz od u))) : wpE X e σ H Q := fun pins s I => by
  refine thn (h pins s I) fun v s1 ⟨x, H1, I1, r1, d, u, hd, mu, q⟩ => ?_
  obtain ⟨od, I2⟩ := I1.lock hd mu
  exact ⟨x, _, I2, r1, q od⟩
/-- {} -/
theorem jp_dict0 : JP X (.Dict [] [] pos) (eC (.dict [])) 0 := fun A S σ H vw sto d sto' Q w r q z => by
  cases q
  refine wpE.lock (wpE.by pe_dnewK fun b hb => ⟨b, .dK [], upd_same, trivial, fun od => ?_⟩)
  have e : upd (upd H b (.dK [])) b (.frz od (.dK [])) = upd H b (.frz od (.dK [])) := by
    funext c
    by_cases hc : c = b
    · rw [hc, upd_same, upd_same]
    · rw [upd_ne hc, upd_ne hc, upd_ne hc]
  rw [e]
  have sm := same_upd (o := .frz od (.dK [])) hb
  have w1 : Wd X.K S A (upd H b (.frz od (.dK []))) sto := w.grow sm (fun a h => .inl h) fun a h => h
  refine z _ _ [] ((Res.shared w1 (.dK (o := od) (kvs := []) (hid_eq.mpr ⟨w.notA hb, upd_same⟩) .nil)).after (Ext.of sm) noF)
end
end J
namespace J
open PySem PySem.Spec PyProof.Rows L2
/-! ### repr of lists that may hold small dicts -/
def isKy : D → Bool
  | .int _ => true
  | .str _ => true
  | _ => false
mutual
def pln : D → Bool
  | .list ds => plnA ds
  | .tuple ds => plnA ds
  | .dict es => es.all fun p => isKy p.1 && isScal p.2
  | _ => true
def plnA : List D → Bool
  | [] => true
  | d :: r => pln d && plnA r
end
section
variable {X : Cx} {pins : List (Addr × Obj)} {σ : Sg} {H : Hp} {s : Shared}
theorem scal_read {K : PySem.W.Frag} {S : List Addr} {v : V} {d : D} {u : Value} (h : isScal d = true) (p : Rp K S H v d) (r : L2.RelV v u) : Reads s.heap u d [] := by
  cases p with
  | non => cases r; exact .none
  | bl b => cases r; exact .bool b
  | int i => obtain ⟨t, rfl⟩ := r; exact .int i t
  | str x => obtain ⟨t, rfl⟩ := r; exact .str x t
  | _ => exact absurd h (by simp [isScal, tokD, skD])
theorem scal_ents {P : Program} {w : World} {K : PySem.W.Frag} {S : List Addr} : ∀ {kvs : List (Key × V)} {es : List (D × D)}, RpK K S H kvs es → ∀ {vs : List (Key × Value)} {ents : List DictEntry}, (es.all fun p => isKy p.1 && isScal p.2) = true → KV kvs vs → PySem.Pairs (L2.mixKind P w) ents vs →
    ReadsAll s.heap (ents.map (·.key)) (es.map (·.1)) [] ∧ ReadsAll s.heap (ents.map (·.val)) (es.map (·.2)) []
  | _, _, .nil, _, _, _, .nil, .nil => ⟨.nil, .nil⟩
  | _, _, .cons (k := k) a b, _, _, h, .cons ra rb, .cons (e := en) p1 p2 p3 => by
    rw [List.all_cons, Bool.and_eq_true, Bool.and_eq_true] at h
    obtain ⟨h1, h2⟩ := scal_ents b h.2 rb p3
    have hv := scal_read (s := s) h.1.2 a ra.2
    rw [← p2] at hv
    have hk : Reads s.heap en.key (kD k) [] := by
      have q := ra.1
      simp only at q
      rcases keyIs_shape p1 with ⟨i, t, e1, e2⟩ | ⟨x, t, e1, e2⟩
      · rw [e2, q, e1]; exact .int i t
      · rw [e2, q, e1]; exact .str x t
    exact ⟨ReadsAll.cons hk h1, ReadsAll.cons hv h2⟩
abbrev RpD (X : Cx) (s : Shared) (u : Value) (d : D) : Prop := d.showable = true → d.shown.length ≤ sizeLine → ∃ as bs, Reads s.heap u d as ∧ ReadAtMost s.heap d.depth bs ∧ ReprK X.prog X.w bs s.heap d.depth u d.shown
abbrev RpDs (X : Cx) (s : Shared) (us : List Value) (ds : List D) : Prop := PyData.showableAll ds = true → (∀ t ∈ PyData.shownAll ds, t.length ≤ sizeLine) → ∃ as bs, ReadsAll s.heap us ds as ∧ ReadAtMost s.heap (PyData.depthAll ds) bs ∧ ReprAllK X.prog X.w bs s.heap (PyData.depthAll ds) us (PyData.shownAll ds)
theorem rpD_plain {u : Value} {d : D} {as : List Addr} (r : Reads s.heap u d as) (hn : sysModules ∉ as) : RpD X s u d := fun hs hz => by
  obtain ⟨bs, h1, h2⟩ := ReprK.of_reads (prog := X.prog) (w := X.w) r hs (fun _ => hn) hz
  exact ⟨as, bs, r, h1, h2⟩
theorem rpD_list {a : Addr} {its : List Value} {n : Nat} {ds : List D} (g : s.heap.get? a = some { cls := .type "list", data := .seq its.toArray n }) (h : RpDs X s its ds) : RpD X s (.ref a) (.list ds) := fun hs hz => by
  have hz' : (listText (PyData.shownAll ds)).length ≤ sizeLine := by simpa only [PyData.shown] using hz
  obtain ⟨as, bs, h4, hb, hk⟩ := h (by simpa [PyData.showable] using hs) (fun t ht => Nat.le_trans (listText_mem_le ht) hz')
  have r : Reads s.heap (.ref a) (.list ds) _ := .list g rfl rfl (by simpa using h4)
  have hna : a ∉ bs := not_mem_of_deeper r (by simp only [PyData.depth]; omega) hb
  refine ⟨_, a :: bs, r, ReadAtMost.cons r (by simp only [PyData.depth]; omega) hb, ?_⟩
  simp only [PyData.depth, PyData.shown]
  cases its with
  | nil =>
    cases h4
    simp only [PyData.shownAll, listText_nil]
    exact ReprK.listEmpty g rfl rfl
  | cons x l => exact ReprK.list g rfl rfl hna (by simpa using hk.length_eq) (fun i y e => hk.item i y (by simpa using e))
theorem rpD_tuple {a : Addr} {its : List Value} {ds : List D} (g : PyProof.Rows.IsTup s.heap a its.toArray) (h : RpDs X s its ds) : RpD X s (.ref a) (.tuple ds) := fun hs hz => by
  have hz' : (tupleText (PyData.shownAll ds)).length ≤ sizeLine := by simpa only [PyData.shown] using hz
  obtain ⟨as, bs, h4, hb, hk⟩ := h (by simpa [PyData.showable] using hs) (fun t ht => Nat.le_trans (tupleText_mem_le ht) hz')
  obtain ⟨o, h1, h2, n, h3⟩ := g
  have r : Reads s.heap (.ref a) (.tuple ds) _ := .tuple h1 h2 h3 (by simpa using h4)
  have hna : a ∉ bs := not_mem_of_deeper r (by simp only [PyData.depth]; omega) hb
  refine ⟨_, a :: bs, r, ReadAtMost.cons r (by simp only [PyData.depth]; omega) hb, ?_⟩
  simp only [PyData.depth, PyData.shown]
  exact ReprK.tuple h1 h2 h3 hna (by simpa using hk)
theorem rpDs_cons {u : Value} {us : List Value} {d : D} {ds : List D} (h1 : RpD X s u d) (h2 : RpDs X s us ds) : RpDs X s (u :: us) (d :: ds) := fun hs hz => by
  have hs' : d.showable = true ∧ PyData.showableAll ds = true := by simpa [PyData.showableAll] using hs
  obtain ⟨a1, b1, r1, hb1, k1⟩ := h1 hs'.1 (hz _ (by simp only [PyData.shownAll]; exact List.mem_cons_self ..))
  obtain ⟨a2, b2, r2, hb2, k2⟩ := h2 hs'.2 (fun t ht => hz t (by simp only [PyData.shownAll]; exact List.mem_cons_of_mem _ ht))
  refine ⟨_, b1 ++ b2, .cons r1 r2, ?_, ?_⟩
  · simp only [PyData.depthAll]
    exact (hb1.mono (Nat.le_max_left _ _)).append (hb2.mono (Nat.le_max_right _ _))
  · simp only [PyData.depthAll, PyData.shownAll]
    exact .cons ((k1.more fun b hb => List.mem_append_left _ hb).level_le (Nat.le_max_left _ _)) (k2.more_le (fun b hb => List.mem_append_right _ hb) (Nat.le_max_right _ _))
theorem Rp.shows (I : L2.Inv X pins σ H s) {S : List Addr} {v : V} {d : D} (h : Rp X.K S H v d) : pln d = true → ∀ u, L2.RelV v u → RpD X s u d :=
  Rp.rec (motive_1 := fun v d _ => pln d = true → ∀ u, L2.RelV v u → RpD X s u d) (motive_2 := fun vs ds _ => plnA ds = true → ∀ us, Vals vs us → RpDs X s us ds) (motive_3 := fun _ _ _ => True) (motive_4 := fun _ _ _ => True)
    (fun _ u r => rpD_plain (scal_read (K := X.K) (S := S) (H := H) rfl .non r) List.not_mem_nil)
    (fun b _ u r => rpD_plain (scal_read (K := X.K) (S := S) (H := H) rfl (.bl b) r) List.not_mem_nil)
    (fun i _ u r => rpD_plain (scal_read (K := X.K) (S := S) (H := H) rfl (.int i) r) List.not_mem_nil)
    (fun x _ u r => rpD_plain (scal_read (K := X.K) (S := S) (H := H) rfl (.str x) r) List.not_mem_nil)
    (fun {a xs ds} hr _ ih e u r => by
      cases r
      obtain ⟨_, its, n, rv, g⟩ := Rd.ok hr I.hok
      exact rpD_list g (ih (by rw [pln] at e; exact e) its rv))
    (fun {a xs ds} hr _ ih e u r => by
      cases r
      obtain ⟨_, its, rv, g⟩ := I.hok _ _ hr
      exact rpD_tuple g (ih (by rw [pln] at e; exact e) its rv))
    (fun {a o kvs es} hr hk _ e u r => by
      cases r
      obtain ⟨_, _, hsy, vs, kv, ob, ents, ep, g, ⟨hc, _⟩, hd, _, pr, _⟩ := I.hok _ _ hr
      rw [pln] at e
      obtain ⟨h1, h2⟩ := scal_ents (s := s) hk e kv pr
      refine rpD_plain (.dict g hc hd h1 h2) fun z => ?_
      rcases List.mem_cons.mp z with z | z
      · rw [← z] at hsy; exact absurd hsy (by decide)
      · exact absurd z (by simp))
    (fun {a o p kvs es} hr hk _ e u r => by
      cases hk with
      | cons _ _ => rw [pln, List.all_cons] at e; exact absurd e (by simp [isKy]))
    (fun {a i} _ e => by unfold tokD at e; rw [pln, List.all_cons] at e; exact absurd e (by simp [isKy]))
    (fun {a xs ds} _ _ _ e => by unfold skD at e; rw [pln, List.all_cons] at e; exact absurd e (by simp [isKy]))
    (fun _ us r => by cases r; exact fun _ _ => ⟨[], [], .nil, (fun _ h => nomatch h), by simp only [PyData.shownAll]; exact .nil⟩)
    (fun {v vs d ds} _ _ ih1 ih2 e us r => by
      rw [plnA, Bool.and_eq_true] at e
      cases r with
      | cons ra rb => exact rpDs_cons (ih1 e.1 _ ra) (ih2 e.2 _ rb))
    trivial (fun _ _ _ _ => trivial) trivial (fun _ _ _ _ => trivial) h
end
theorem RpA.shows {X : Cx} {pins : List (Addr × Obj)} {σ : Sg} {H : Hp} {s : Shared} (I : L2.Inv X pins σ H s) {S : List Addr} : ∀ {vs : List V} {ds : List D} {us : List Value}, RpA X.K S H vs ds → Vals vs us → plnA ds = true → RpDs X s us ds
  | _, _, _, .nil, .nil, _ => fun _ _ => ⟨[], [], .nil, (fun _ h => nomatch h), by simp only [PyData.shownAll]; exact .nil⟩
  | _, _, _, .cons a b, .cons ra rb, e => by
    rw [plnA, Bool.and_eq_true] at e
    exact rpDs_cons (Rp.shows I a e.1 _ ra) (RpA.shows I b rb e.2)
def showG (d : D) : Bool := d.showable && pln d && decide (d.depth ≤ 64) && decide (d.shown.length ≤ 16777216)
def dReprG : D → Option D
  | .list ds => if showG (.list ds) = true then some (.str (PyData.shown (.list ds))) else none
  | _ => none
def rReprG (X : Cx) : List V → Hp → VK → Prop := fun vs H Q => ∃ S a ds, vs = [.ref a] ∧ Rp X.K S H (.ref a) (.list ds) ∧ showG (.list ds) = true ∧ Q (.str (PyData.shown (.list ds))) H
theorem showG_iff {d : D} (h : showG d = true) : d.showable = true ∧ pln d = true ∧ d.depth ≤ 64 ∧ d.shown.length ≤ 16777216 := by
  unfold showG at h
  rw [Bool.and_eq_true, Bool.and_eq_true, Bool.and_eq_true] at h
  exact ⟨h.1.1.1, h.1.1.2, of_decide_eq_true h.1.2, of_decide_eq_true h.2⟩
theorem cr_reprG {X : Cx} (hgu : X.A.guards = some []) (hu : X.A.units + 66 < cLine) : CallR X (.builtin "repr") (rReprG X) := by
  intro pins s σ H vs us Q I r h
  obtain ⟨S, a, ds, rfl, hd, hs, q⟩ := h
  obtain ⟨h1, h2, h3, h4⟩ := showG_iff hs
  have h4' : (PyData.shown (.list ds)).length ≤ sizeLine := by rw [sizeLine_eq]; exact h4
  rw [Vals.ref1 r]
  cases hd with
  | lst hr ha =>
  obtain ⟨_, its, n, rv, g⟩ := Rd.ok hr I.hok
  have hz' : (listText (PyData.shownAll ds)).length ≤ sizeLine := by simpa only [PyData.shown] using h4'
  obtain ⟨as, bs, ra, hb, hk⟩ := RpA.shows I ha rv (by rw [pln] at h2; exact h2) (by simpa [PyData.showable] using h1) (fun t ht => Nat.le_trans (listText_mem_le ht) hz')
  have rr : Reads s.heap (.ref a) (.list ds) _ := .list g rfl rfl (by simpa using ra)
  have hna : a ∉ bs := not_mem_of_deeper rr (by simp only [PyData.depth]; omega) hb
  have hdp : PyData.depth (.list ds) = PyData.depthAll ds + 1 := by simp only [PyData.depth]
  have fin : ∀ h' u tk, (∀ b o, s.heap.get? b = some o → h'.get? b = some o) → EP X pins σ Q (.str (PyData.shown (.list ds)) u) { s with heap := h', toks := tk } :=
    fun h' u tk hk => ⟨.str (PyData.shown (.list ds)), H, I.kept (t' := tk) hk, ⟨u, rfl⟩, q⟩
  refine call_repr_slot (by omega) ⟨_, g, rfl⟩ F.slot_list_repr.toG ?_
  simp only [PyData.shown] at fin
  cases its with
  | nil =>
    cases ra
    simp only [PyData.shownAll, listText_nil] at fin
    exact call_list_repr_empty ⟨_, g, rfl⟩ g rfl ⟨_, _, rfl, fin s.heap _ _ fun _ _ e => e⟩
  | cons x l =>
    refine call_list_reprK g rfl rfl hna (by simpa using hk.length_eq) (fun i y e => hk.item i y (by simpa using e)) hgu (fun b _ => Clear.nil b) ?_ (fun _ _ h => h) (fun h' u tk hk => ⟨_, _, rfl, fin h' u tk hk⟩) hz'
    show X.A.units + 1 + _ < cLine
    omega
section
variable {X : Cx} {e : Expr} {f : Ev} {k : Nat} {pos p : Pos}
theorem jp_reprG (ha : JP X e f 0) (hgu : X.A.guards = some []) (hu : X.A.units + 66 < cLine) (hg : Gl X "repr") (hm : X.mg "repr" = none) (hv : bootBuiltins "repr" = some (.builtin "repr") := by rfl)
    (he : starEach [e] X.env = (false, eval e X.env) :: starEach [] X.env := by rfl) (hpl : (backTo pos (starEach [] X.env)).any (·.1) = false := by rfl) : JP X (.Call (.Name "repr" p) [e] [] pos) (eUn dReprG f) k := fun A S σ H vw sto d sto' Q w r q z => by
  unfold eUn at q
  obtain ⟨⟨x, s1⟩, e1, q⟩ := bind_some' q
  obtain ⟨t, e2, q⟩ := map_some' q
  cases q
  simp only at e2
  unfold dReprG at e2
  split at e2
  case h_2 => cases e2
  split at e2
  case isFalse => cases e2
  rename_i hc
  cases e2
  refine wpE.by (pe_callB (cr_reprG hgu hu) hg hm hv (pa_cons wpE_pe pa_nil he) (by decide) (by decide) he hpl) (ha.use w r e1 fun v H1 x1 w1 r1 p1 => ?_)
  obtain ⟨a, xs, rfl, _, _⟩ := p1.lstI
  exact ⟨S, a, _, rfl, p1.out, hc, z _ H1 [] ((Res.atom w1 (atomic_str _) (.str _)).later x1 w1)⟩
end
end J
namespace J
open PySem PySem.Spec PyProof.Rows L2
section
variable {Z : List Addr → Prop} {X : Cx} {st : Stmt} {rest body orelse : List Stmt} {tg it e a b c : Expr} {f g : Ev} {gb : Sv} {gt : TG} {bd : Bd} {fi : EvI} {t : EvT} {j k n i l : Nat} {pos p p2 apos cpos : Pos} {x y : Str} {M : List Nat}
/-- name.extend(e) -/
def sExt (i : Nat) (M : List Nat) (k : Nat) (g : Ev) : Sv := fun env s => (g (see M env) s).bind fun p => match p.1, (fzIf (k + 1) p.1 M p.2 env)[i]? with
  | .list es, some (.ow (k' + 1) (.list ds)) => if k' = k ∧ ds.length + es.length ≤ 16777216 then some (.nx, (fzIf (k + 1) p.1 M p.2 env).set i (.ow (k + 1) (.list (ds ++ es))), p.2) else none
  | _, _ => none
theorem js_ext (he : JP X e g (j + 1)) (hi : X.N[i]? = some x) (hx : Vis X.env.scope x) (hdb : (x == Str.ofString "__debug__") = false := by decide) (hcd : (x == Str.ofString "__classdict__") = false := by decide)
    (hbase : attributeBase (.Name x p) "extend" X.env (eval (.Name x p) X.env) = eval (.Name x p) X.env := by rfl)
    (hfew : ((backTo cpos (starEach [e] X.env)).all (fun x => !x.1) && (backToKw cpos (keywordEach [] X.env)).all (fun x => x.1.isSome) && decide ([e].length + ([] : List Keyword).length + (if ([] : List Keyword).isEmpty then 0 else 1) < 30)) = true := by rfl)
    (hline : (apos.endLine == cpos.line) = true := by rfl) (hs : starEach [e] X.env = (false, eval e X.env) :: starEach [] X.env := by rfl) (hsw : swapsWith (.Call (.Attribute (.Name x p) "extend" apos) [e] [] cpos) none pos.line X.env = pure false := by rfl) :
    JS Z X (.Expr (.Call (.Attribute (.Name x p) "extend" apos) [e] [] cpos) pos) (sExt i M j g) k := fun C S0 S A0 H0 σ H env sto Fs o env' sto' E hZ r q z => by
  unfold sExt at q
  obtain ⟨⟨d, s1⟩, q1, q⟩ := bind_some' q
  simp only at q
  split at q
  case h_2 => cases q
  rename_i es k' ds hsl
  split at q
  case isFalse => cases q
  rename_i hk
  obtain ⟨rfl, hlen⟩ := hk
  cases q
  have hlt : i < (fzIf (k' + 1) (.list es) M sto' env).length := (List.getElem?_eq_some_iff.mp hsl).1
  -- the receiver
  have hrc : ∃ a0 vs0, σ[i]? = some (some (.ref a0)) ∧ H a0 = some (.lst vs0) := by
    have : ∃ d', env[i]? = some (.ow (k' + 1) d') ∧ d' = .list ds := by
      unfold fzIf at hsl
      split at hsl
      · exact ⟨_, hsl, rfl⟩
      · rw [fz_get] at hsl
        cases e1 : env[i]? with
        | none => rw [e1] at hsl; cases hsl
        | some s =>
          rw [e1] at hsl
          have h' : fzS (M.contains i) s = .ow (k' + 1) (.list ds) := Option.some.inj hsl
          cases s with
          | no => cases h'
          | sh d' => cases h'
          | ow k2 d' =>
            have h' : (if M.contains i = true then Slot.sh d' else .ow k2 d') = .ow (k' + 1) (.list ds) := h'
            split at h'
            · cases h'
            · cases h'; exact ⟨_, rfl, rfl⟩
    obtain ⟨d', e1, rfl⟩ := this
    obtain ⟨u, e2, ow⟩ := r.sl i _ e1
    obtain ⟨a0, vs0, F0, rfl, _, e3, _⟩ := ow.lstI
    exact ⟨a0, vs0, e2, e3⟩
  obtain ⟨a0, vs0, hσ, hH⟩ := hrc
  refine wpS.by (ps_expr (pe_bm PySem.F.plainAttrs_list PySem.F.slot_list_extend rfl mt_extend (pe_var hi hx hdb hcd) (pa_cons wpE_pe pa_nil hs) hbase hfew hline hs rfl) hsw) ?_
  refine ⟨_, hσ, .inl ⟨rfl, vs0, .of hH⟩, r.eval he q1 fun v H' F Fs' r2 rs => ?_⟩
  obtain ⟨u, e2, ow⟩ := r2.sl i _ hsl
  obtain ⟨a1, vs, F0, rfl, eF, e3, ow0⟩ := ow.lstI
  rw [hσ] at e2
  cases e2
  have ha : a0 ∈ Fs' i := by rw [eF]; exact List.mem_cons_self
  have haS : a0 ∉ S := r2.ns i a0 ha
  have e4 : H' a0 = some (.lst vs) := rs.ext a0 _ haS e3
  have hvl := ow0.length
  obtain ⟨b0, ws, Fb, rfl, rfl, e5, owb0⟩ := rs.ow.lstI
  have hwl := owb0.length
  have hsubF : ∀ c, plus Fb (hd S Fs' A0) c → plus (b0 :: Fb) (hd S Fs' A0) c := fun c h => h.imp (List.mem_cons_of_mem _) id
  have wb := rs.wd.less hsubF (fun a e => .inr (r2.wd.hS a e))
  have owb : OwA X.K S (plus Fb (hd S Fs' A0)) H' k' ws es Fb := owb0.mv (hid_le hsubF) fun c _ o q => q
  have ndb := (List.nodup_cons.mp rs.nd).2
  have frb : ∀ c ∈ Fb, H c = none := fun c hc => rs.fr c (List.mem_cons_of_mem _ hc)
  refine ⟨a0, b0, vs, ws, rfl, rfl, e4, e5, by rw [sizeLine_eq]; omega, ?_⟩
  have hdis : ∀ b ∈ Fb, b ∉ Fs' i := fun b hb h => r2.wd.al b (.inl ⟨i, h⟩) (frb b hb)
  have nd0 := r2.nd i
  rw [eF] at nd0
  have hF0 : ∀ b ∈ F0, b ∈ Fs' i := fun b hb => by rw [eF]; exact List.mem_cons_of_mem _ hb
  have hA : plus Fb (hd S Fs' A0) a0 := .inr (.inl ⟨i, ha⟩)
  have r3 := r2.mut (i := i) (F := a0 :: (F0 ++ Fb)) (ov := some (.ref a0)) (s := .ow (k' + 1) (.list (ds ++ es))) (H' := upd H' a0 (.lst (vs ++ ws))) (sto' := sto') hlt ?_ ?_ ?_ ?_ ?_
  · have eσ : σ.set i (some (.ref a0)) = σ := by
      apply List.ext_getElem?
      intro m
      rw [List.getElem?_set]
      by_cases c : i = m
      · subst c
        rw [if_pos rfl, hσ]
        rw [if_pos (List.getElem?_eq_some_iff.mp hσ).1]
      · rw [if_neg c]
    rw [eσ] at r3
    exact z S _ _ _ r3
  · intro b o hb hn h
    rw [upd_ne (fun c : b = a0 => hn (c ▸ ha))]
    exact rs.ext b o hb h
  · have w1 := wb.upd (o := .lst (vs ++ ws)) hA haS ⟨_, e4⟩
    refine w1.less (fun b h => ?_) (fun a e => .inr (.inr (.inr e)))
    rcases h with h | h
    · rcases List.mem_cons.mp h with rfl | h
      · exact hA
      · rcases List.mem_append.mp h with h | h
        · exact .inr (.inl ⟨i, hF0 b h⟩)
        · exact .inl h
    · exact .inr h
  · refine List.nodup_cons.mpr ⟨fun h => ?_, List.nodup_append.mpr ⟨(List.nodup_cons.mp nd0).2, ndb, fun b hb c hc e => hdis c hc (e ▸ hF0 b hb)⟩⟩
    rcases List.mem_append.mp h with h | h
    · exact (List.nodup_cons.mp nd0).1 h
    · exact hdis a0 h ha
  · intro b h
    rcases List.mem_cons.mp h with rfl | h
    · exact .inr ha
    · rcases List.mem_append.mp h with h | h
      · exact .inr (hF0 b h)
      · exact .inl (frb b h)
  · refine ⟨.ref a0, rfl, .lst upd_same ?_⟩
    have sub : ∀ b, hd S (setF Fs' i (a0 :: (F0 ++ Fb))) A0 b → plus Fb (hd S Fs' A0) b := fun b h => by
      rcases hd_set r2 b h with h | h
      · rcases List.mem_cons.mp h with rfl | h
        · exact hA
        · rcases List.mem_append.mp h with h | h
          · exact .inr (.inl ⟨i, hF0 b h⟩)
          · exact .inl h
      · exact .inr h
    have hu : hid (plus Fb (hd S Fs' A0)) (upd H' a0 (.lst (vs ++ ws))) = hid (plus Fb (hd S Fs' A0)) H' := hid_upd hA
    have s2 : Same (hid (plus Fb (hd S Fs' A0)) H') (hid (hd S (setF Fs' i (a0 :: (F0 ++ Fb))) A0) (upd H' a0 (.lst (vs ++ ws)))) := fun b o q => by rw [← hu] at q; exact hid_le sub b o q
    have s1 : Same (hid (hd S Fs' A0) H) (hid (plus Fb (hd S Fs' A0)) H') := hid_move rs.ext r2.wd.hS fun b h => by
      rcases h with h | h
      · exact .inr (frb b h)
      · exact .inl h
    have o1 : OwA X.K S (hd S (setF Fs' i (a0 :: (F0 ++ Fb))) A0) (upd H' a0 (.lst (vs ++ ws))) k' vs ds F0 := ow0.mv (fun b o q => s2 b o (s1 b o q)) fun b hb o q => by
      rw [upd_ne (fun c : b = a0 => (List.nodup_cons.mp nd0).1 (c ▸ hb))]
      exact rs.ext b o (r2.ns i b (hF0 b hb)) q
    have o2 : OwA X.K S (hd S (setF Fs' i (a0 :: (F0 ++ Fb))) A0) (upd H' a0 (.lst (vs ++ ws))) k' ws es Fb := owb.mv s2 fun b hb o q => by
      rw [upd_ne (fun c : b = a0 => hdis b hb (c ▸ ha))]
      exact q
    exact o1.append o2
end
end J
namespace J
open PySem PySem.Spec PyProof.Rows L2
/-! ### sorted(set(xs)), xs a list of ints -/
abbrev emptySet (w : World) : Obj := { cls := .type "set", dict := none, data := .set #[] 0 (.fresh 0 0 (!w.params.followText "set-order")) }
section
variable {P : Program} {w : World} {A : Around} {E : Value → Shared → Prop} {s : Shared}
/-- the new set takes the list's items in -/
theorem set_fill {l : Addr} {items : Array Value} (ns : List Int) (hh : A.handled = none) (hl : s.heap.IsList l items) (hit : IntsAre items.toList ns) (hb : ns.length + 1 < scanBound) :
    codeAny (model P w) A (.call (.builtin "set.__init__") ⟨[.ref s.heap.objs.size, .ref l], []⟩)
      (wants (fun r s₂ => r = .none ∧ ∃ h' tk c, s₂ = { s with heap := h', toks := tk } ∧ SetR w h' s.heap.objs.size (fun j => decide (j ∈ ns)) c ∧ c ≤ ns.length ∧ (∀ b o, s.heap.get? b = some o → h'.get? b = some o)) E)
      { s with heap := s.heap.push (emptySet w) } := by
  have hisz : items.size = ns.length := by
    have q := IntsAre.length hit
    rwa [Array.length_toList] at q
  have hlS : l < s.heap.objs.size := by obtain ⟨o, e, _⟩ := hl; exact Heap.lt_size e
  have hS : (s.heap.push (emptySet w)).get? s.heap.objs.size = some (emptySet w) := Heap.get?_push_size _ rfl
  have hT : Shared.TypeIs { s with heap := s.heap.push (emptySet w) } (.ref s.heap.objs.size) "set" := ⟨_, hS, rfl⟩
  have hz1 : (s.heap.push (emptySet w)).objs.size = s.heap.objs.size + 1 := Heap.size_push ..
  have hneI : l ≠ (s.heap.push (emptySet w)).objs.size := by rw [hz1]; exact Nat.ne_of_lt (Nat.lt_succ_of_lt hlS)
  have hSf : s.heap.objs.size ∉ [(s.heap.push (emptySet w)).objs.size, l] := by
    rw [hz1]
    simp only [List.mem_cons, List.not_mem_nil, or_false, not_or]
    exact ⟨Nat.ne_of_lt (Nat.lt_succ_self _), Nat.ne_of_gt hlS⟩
  have hh3 : A.in1.in1.handled = none := by simp [hh]
  refine codeAny_call_builtin F.called_set.init.plain F.entry_set_init (check_set_init_1 hT ?_)
  obtain ⟨⟨ocls, odict, odata, oslots⟩, hol, hcl, nl, hdl⟩ := hl
  simp only at hcl hdl
  subst hcl hdl
  have hl1 : (s.heap.push (emptySet w)).IsList l items := ⟨_, Heap.get?_push_of_some _ hol, rfl, nl, rfl⟩
  have hol' : (s.heap.push (emptySet w)).get? l = some { cls := .type "list", dict := odict, data := .seq items nl, slots := oslots } := Heap.get?_push_of_some _ hol
  have hsls := F.sub_list_set
  have hslf := F.sub_list_frozenset
  have hne : (Value.type "list" == Value.type "dict") = false := by decide
  unfold Builtin.«set.__init__» noKeywords Builtin.Frozenset.updateFrom
  generalize hPI : pyIter = PI
  wp_walk
  subst hPI
  refine wpAny_pyIter_list hl1 (wpAny_bind (wpAny_runValue ?_))
  refine set_update_ints ((Walks.list hh3 _ l hneI items).toS) s.heap.objs.size hSf ns hisz hb (fun i v hv => ?_) (items.size - 0) 0 _ (by omega) (Nat.zero_le _) ?_
    ⟨0, Nat.le_refl 0, ?_⟩ fun s' c' hm hc' hS' => ?_
  · obtain ⟨t, e⟩ := PyProof.Rows.IntsAre.int_at hit i v (by rw [Array.getElem?_toList]; exact hv)
    have hi : i < ns.length := by rw [← hisz]; exact (Array.getElem?_eq_some_iff.mp hv).1
    exact ⟨ns[i], t, List.getElem?_eq_getElem hi, by rw [e, List.getD_eq_getElem?_getD, List.getElem?_eq_getElem hi] <;> rfl⟩
  · exact ⟨⟨_, Heap.get?_push_size _ rfl, rfl, rfl⟩, hl1.push _⟩
  · exact setR_new_at (w := w) (Heap.get?_push_of_some _ hS)
  · obtain ⟨h', g2, d', tk', os'⟩ := s'
    obtain rfl : g2 = s.gens := hm.gens
    obtain rfl : d' = s.drawn := hm.drawn
    obtain rfl : os' = s.os := hm.os
    refine wpAny_pure (wpAny_pure ⟨rfl, h', tk', c', rfl, hS', by omega, fun b o e => hm.heap b o ?_ (Heap.get?_push_of_some _ (Heap.get?_push_of_some _ e))⟩)
    have := Heap.lt_size e
    rw [hz1]
    simp only [List.mem_cons, List.not_mem_nil, or_false, not_or]
    exact ⟨Nat.ne_of_lt this, Nat.ne_of_lt (Nat.lt_succ_of_lt this)⟩
theorem call_setL {l : Addr} {items : Array Value} (ns : List Int) {Q : Value → Shared → Prop} (hh : A.handled = none) (hl : s.heap.IsList l items) (hit : IntsAre items.toList ns) (hb : ns.length + 1 < scanBound)
    (h : ∀ (h' : Heap) (tk c : Nat), SetR w h' s.heap.objs.size (fun j => decide (j ∈ ns)) c → c ≤ ns.length → (∀ b o, s.heap.get? b = some o → h'.get? b = some o) → Q (.ref s.heap.objs.size) { s with heap := h', toks := tk }) :
    wpAny (model P w) A (call (.type "set") [.ref l]) Q E s := by
  obtain ⟨c, tl, hmro⟩ := F.called_set.mro
  have hmade := F.called_set.made
  have hsub := F.called_set.sub
  refine wpAny_call (codeAny_of_tree ?_)
  show wpAny _ _ (callAny (.type "set") _) _ _ _
  refine wpAny_pure ⟨Code.quiet_builtin _ (by decide +kernel), codeAny_builtin F.entry_type_call ?_⟩
  rw [Around.under_plain (weight_type_call_type "set" [.ref l] []) rfl]
  have h1 := F.called_set.notType
  have h2 := F.called_set.canCreate
  have hct := F.typeCall_set_1 (.ref l)
  repeat (any_goals (first | assumption | wp_step))
  refine codeAny_mono (code_set_led1 (.ref l) (E := E) (Q₁ := fun obj s₁ => obj = .ref s.heap.objs.size ∧ s₁ = { s with heap := s.heap.push (emptySet w) }) ⟨rfl, rfl⟩) fun r s₁ hr => ?_
  cases r with
  | error e => exact hr
  | ok fl =>
    cases fl with
    | ret obj =>
      obtain ⟨e1, e2⟩ := hr
      subst e1 e2
      have hS : (s.heap.push (emptySet w)).get? s.heap.objs.size = some (emptySet w) := Heap.get?_push_size _ rfl
      have hT : Shared.TypeIs { s with heap := s.heap.push (emptySet w) } (.ref s.heap.objs.size) "set" := ⟨_, hS, rfl⟩
      have hli := F.called_set.init.lookup
      have hbi := F.called_set.init.bind (.ref s.heap.objs.size)
      repeat (any_goals (first | assumption | wp_step))
      refine codeAny_mono (set_fill (E := E) ns hh hl hit hb) fun r₂ s₂ hr₂ => ?_
      cases r₂ with
      | error e => exact hr₂
      | ok fl₂ =>
        cases fl₂ with
        | ret r =>
          obtain ⟨e3, h', tk, c', e4, hS', hc', hk'⟩ := hr₂
          subst e3 e4
          repeat (any_goals (first | assumption | wp_step))
          exact h _ _ _ hS' hc' hk'
        | _ => exact hr₂.elim
    | _ => exact hr.elim
end
def isIntsD : List D → Option (List Int)
  | [] => some []
  | .int i :: r => (isIntsD r).map (i :: ·)
  | _ => none
theorem RpA.intsD {K : PySem.W.Frag} {S : List Addr} {H : Hp} : ∀ {vs : List V} {ds : List D} {ns : List Int}, RpA K S H vs ds → isIntsD ds = some ns → vs = ns.map V.int
  | _, [], _, .nil, h => by cases h; rfl
  | _, .int i :: r, ns, .cons a b, h => by
    unfold isIntsD at h
    obtain ⟨m, e1, e2⟩ := map_some' h
    subst e2
    rw [a.intI, b.intsD e1]
    rfl
/-- the members of a list of ints, ascending -/
def insI (x : Int) : List Int → List Int
  | [] => [x]
  | y :: r => if x < y then x :: y :: r else if x = y then y :: r else y :: insI x r
def setI (ns : List Int) : List Int := ns.foldr insI []
theorem mem_insI {x k : Int} : ∀ {l : List Int}, k ∈ insI x l ↔ k = x ∨ k ∈ l
  | [] => by simp [insI]
  | y :: r => by
    unfold insI
    split
    · simp
    · split
      · rename_i h; subst h; simp
      · rw [List.mem_cons, mem_insI, List.mem_cons]
        constructor
        · rintro (h | h | h)
          · exact .inr (.inl h)
          · exact .inl h
          · exact .inr (.inr h)
        · rintro (h | h | h)
          · exact .inr (.inl h)
          · exact .inl h
          · exact .inr (.inr h)
theorem asc_insI {x : Int} : ∀ {l : List Int}, l.Pairwise (· < ·) → (insI x l).Pairwise (· < ·)
  | [], _ => by simp [insI]
  | y :: r, h => by
    obtain ⟨h1, h2⟩ := List.pairwise_cons.mp h
    unfold insI
    split
    · rename_i hx
      refine List.pairwise_cons.mpr ⟨fun z hz => ?_, h⟩
      rcases List.mem_cons.mp hz with rfl | hz
      · exact hx
      · exact Int.lt_trans hx (h1 z hz)
    · split
      · exact h
      · refine List.pairwise_cons.mpr ⟨fun z hz => ?_, asc_insI h2⟩
        rcases mem_insI.mp hz with rfl | hz
        · omega
        · exact h1 z hz
theorem mem_setI {k : Int} : ∀ {ns : List Int}, k ∈ setI ns ↔ k ∈ ns
  | [] => Iff.rfl
  | x :: r => by
    show k ∈ insI x (setI r) ↔ _
    rw [mem_insI, mem_setI, List.mem_cons]
theorem asc_setI : ∀ {ns : List Int}, (setI ns).Pairwise (· < ·)
  | [] => .nil
  | x :: r => asc_insI asc_setI
theorem ascI_ext : ∀ {l m : List Int}, l.Pairwise (· < ·) → m.Pairwise (· < ·) → (∀ k, k ∈ l ↔ k ∈ m) → l = m
  | [], [], _, _, _ => rfl
  | [], y :: m, _, _, h => by have := (h y).mpr List.mem_cons_self; cases this
  | x :: l, [], _, _, h => by have := (h x).mp List.mem_cons_self; cases this
  | x :: l, y :: m, hl, hm, h => by
    obtain ⟨l1, l2⟩ := List.pairwise_cons.mp hl
    obtain ⟨m1, m2⟩ := List.pairwise_cons.mp hm
    have e : x = y := by
      rcases List.mem_cons.mp ((h x).mp List.mem_cons_self) with e | e
      · exact e
      · rcases List.mem_cons.mp ((h y).mpr List.mem_cons_self) with e' | e'
        · exact e'.symm
        · have := m1 x e; have := l1 y e'; omega
    subst e
    refine congrArg _ (ascI_ext l2 m2 fun k => ⟨fun hk => ?_, fun hk => ?_⟩)
    · rcases List.mem_cons.mp ((h k).mp (List.mem_cons_of_mem _ hk)) with e | e
      · have := l1 k hk; omega
      · exact e
    · rcases List.mem_cons.mp ((h k).mpr (List.mem_cons_of_mem _ hk)) with e | e
      · have := m1 k hk; omega
      · exact e
/-- sorted(set(xs)) -/
def dSortSet : D → Option D
  | .list ds => (isIntsD ds).bind fun ns => if ns.length < 64 then some (.list ((setI ns).map .int)) else none
  | _ => none
section
variable {X : Cx} {e : Expr} {f : Ev} {k : Nat} {pos p p2 q2 : Pos}
def tSortSet (K : PySem.W.Frag) (ta : TE) : TE := fun σ H Q => ta σ H fun x H1 => ∃ (l : Addr) (ns : List Int), x = .ref l ∧ SqL K H1 l (ns.map V.int) ∧ ns.length < 64 ∧ ∀ b, H1 b = none → Q (.ref b) (upd H1 b (.lst ((setI ns).map V.int)))
theorem pe_sortSet {ta : TE} (hg : Gl X "sorted") (hm : X.mg "sorted" = none) (hg2 : Gl X "set") (hm2 : X.mg "set" = none) (ha : PE X e ta) (hc : X.calm = true)
    (na : starEach [e] X.env = (false, eval e X.env) :: starEach [] X.env := by rfl) : PE X (.Call (.Name "sorted" p) [.Call (.Name "set" p2) [e] [] q2] [] pos) (tSortSet X.K ta) := by
  refine ⟨fun pins s σ H Q I h => ?_⟩
  refine Call_ (ld_blt I hg hm rfl ?_)
  refine PyProof.Rows.callWith_builtin1 (PyProof.Rows.args_cons ?_ rfl) rfl rfl
  refine Call_ (ld_blt I hg2 hm2 PyProof.Rows.boot_set ?_)
  refine PyProof.Rows.callWith_type1 (PyProof.Rows.args_cons (thn (ha.run pins s σ H _ I h) fun v s1 ⟨x, H1, I1, r1, q1⟩ => PyProof.Rows.args_nil ?_) na) na rfl
  obtain ⟨l, ns, rfl, hq, hl, q1⟩ := q1
  cases r1
  obtain ⟨its, r, pl, hz⟩ := I1.list hq
  refine call_setL ns (I1.ok.hd hc) pl.isList (by simpa using r.ints) (by unfold scanBound; omega) fun h' tk c R hcn hk => ?_
  refine PyProof.Rows.args_nil ?_
  have I2 : L2.Inv X pins σ H1 { s1 with heap := h', toks := tk } := I1.kept fun b o e => hk b o e
  have R2 : SetR X.w ({ s1 with heap := h', toks := tk } : Shared).heap s1.heap.objs.size (fun j => decide (j ∈ ns)) c := R
  clear R hk
  revert I2 R2
  generalize ({ s1 with heap := h', toks := tk } : Shared) = s2
  intro I2 R2
  refine sorted_set R2 (I2.ok.hd hc) (by omega) fun s' p out c2 ks k g o hp hgt hi hs hmm hln => ?_
  have e : ks = setI ns := ascI_ext hs asc_setI fun j => by rw [hmm, mem_setI]; exact decide_eq_true_iff
  subst e
  have hlen : ((setI ns).map V.int).length ≤ sizeLine := by rw [List.length_map, hln, sizeLine_eq]; omega
  have hn : H1 p = none := I2.hok.fresh hp
  have J : L2.Inv X pins σ (upd H1 p (.lst ((setI ns).map V.int))) { s2 with heap := s'.heap, gens := s'.gens, drawn := s'.drawn, toks := s'.toks } :=
    I2.call (ch := []) (Un.laid k hp hn) (I2.hok.laid k hp ⟨hlen, out.toList, c2, vals_of_ints hi, hgt⟩) (by rw [g]; exact I2.bare) (fun _ z => nomatch z)
  have e' : s' = { s2 with heap := s'.heap, gens := s'.gens, drawn := s'.drawn, toks := s'.toks } := by
    cases s'
    cases s2
    cases o
    rfl
  rw [e']
  exact ⟨.ref p, _, J, rfl, q1 p hn⟩
theorem RpA.intsV {K : PySem.W.Frag} {S : List Addr} {H : Hp} : ∀ ns : List Int, RpA K S H (ns.map V.int) (ns.map PyData.int)
  | [] => .nil
  | n :: r => .cons (.int n) (RpA.intsV r)
theorem jp_sortSet (ha : JP X e f 0) (hc : X.calm = true) (hg : Gl X "sorted") (hm : X.mg "sorted" = none) (hg2 : Gl X "set") (hm2 : X.mg "set" = none)
    (na : starEach [e] X.env = (false, eval e X.env) :: starEach [] X.env := by rfl) : JP X (.Call (.Name "sorted" p) [.Call (.Name "set" p2) [e] [] q2] [] pos) (eUn dSortSet f) 1 := fun A S σ H vw sto d sto' Q w r q z => by
  unfold eUn at q
  obtain ⟨⟨x, s1⟩, e1, q⟩ := bind_some' q
  obtain ⟨t, e2, q⟩ := map_some' q
  cases q
  simp only at e2
  unfold dSortSet at e2
  split at e2
  case h_2 => cases e2
  rename_i ds
  obtain ⟨ns, e3, e2⟩ := bind_some' e2
  split at e2
  case isFalse => cases e2
  rename_i hl
  cases e2
  refine wpE.by (pe_sortSet hg hm hg2 hm2 wpE_pe hc na) (ha.use w r e1 fun v H1 x1 w1 r1 p1 => ?_)
  obtain ⟨l, xs, rfl, h1, h2⟩ := p1.lstI
  have := h2.intsD e3
  subst this
  exact ⟨l, ns, rfl, .inl h1.out, hl, fun b hb => z _ _ [b] ((Res.lst w1 (.shared w1 (RpA.intsV _)) hb).later x1 w1)⟩
end
end J
namespace J
open PySem PySem.Spec PyProof.Rows L2
/-! ### written data -/
def mapO {α β : Type} (f : α → Option β) : List α → Option (List β)
  | [] => some []
  | a :: r => (f a).bind fun b => (mapO f r).map (b :: ·)
def constD : Nat → Expr → Option D
  | n + 1, .Constant .none _ _ => some .none
  | n + 1, .Constant (.bool b) _ _ => some (.bool b)
  | n + 1, .Constant (.int i) _ _ => some (.int i)
  | n + 1, .Constant (.str x) _ _ => some (.str x)
  | n + 1, .List es _ => (mapO (constD n) es).bind fun ds => if ds.length ≤ 16777216 then some (.list ds) else none
  | n + 1, .Tuple es _ _ => (mapO (constD n) es).bind fun ds => if ds.length ≤ 16777216 then some (.tuple ds) else none
  | n + 1, .UnaryOp .USub a _ => (constD n a).bind dNeg
  | n + 1, .BinOp a .Pow b _ => (constD n a).bind fun x => (constD n b).bind fun y => dPow x y
  | n + 1, .Dict [] [] _ => some (.dict [])
  | _, _ => none
section
variable {X : Cx}
theorem JP.congr {e : Expr} {f g : Ev} {k : Nat} (h : JP X e f k) (q : ∀ vw s, f vw s = g vw s) : JP X e g k := by
  have : f = g := funext fun vw => funext fun s => q vw s
  rw [← this]; exact h
theorem JA.congr {es : List Expr} {f g : EvA} {k : Nat} (h : JA X es f k) (q : ∀ vw s, f vw s = g vw s) : JA X es g k := by
  have : f = g := funext fun vw => funext fun s => q vw s
  rw [← this]; exact h
theorem constD_star {n : Nat} {a : Expr} {d : D} (h : constD n a = some d) (es : List Expr) : starEach (a :: es) X.env = (false, eval a X.env) :: starEach es X.env := by
  cases n with
  | zero => cases h
  | succ n => cases a <;> first | rfl | (simp [constD] at h)
def eCs (ds : List D) : EvA := fun _ s => some (ds, s)
theorem ja_const {n : Nat} (ih : ∀ (e : Expr) (d : D), constD n e = some d → JP X e (eC d) 0) : ∀ (es : List Expr) (ds : List D), mapO (constD n) es = some ds → JA X es (eCs ds) 0
  | [], _, h => by cases h; exact ja_nil
  | e :: r, ds, h => by
    unfold mapO at h
    obtain ⟨d, e1, h⟩ := bind_some' h
    obtain ⟨xs, e2, e3⟩ := map_some' h
    subst e3
    exact (ja_cons (ih e d e1) (ja_const ih r xs e2) (constD_star e1 r)).congr fun _ _ => rfl
theorem jp_constN : ∀ (n : Nat) (e : Expr) (d : D), constD n e = some d → JP X e (eC d) 0
  | 0, _, _, h => by cases h
  | n + 1, e, d, h => by
    unfold constD at h
    split at h
    · rename_i hh; cases hh; cases h; exact jp_non
    · rename_i hh; cases hh; cases h; exact jp_bl
    · rename_i hh; cases hh; cases h; exact jp_int
    · rename_i hh; cases hh; cases h; exact jp_str
    · rename_i hh; cases hh
      obtain ⟨ds, e1, h⟩ := bind_some' h
      split at h
      · rename_i hl
        cases h
        exact (jp_lst (ja_const (jp_constN n) _ ds e1)).zero.congr fun _ _ => by unfold eLst eCs; simp only [Option.bind_some, if_pos hl]; rfl
      · cases h
    · rename_i hh; cases hh
      obtain ⟨ds, e1, h⟩ := bind_some' h
      split at h
      · rename_i hl
        cases h
        exact (jp_tup (ja_const (jp_constN n) _ ds e1)).congr fun _ _ => by unfold eTup eCs; simp only [Option.bind_some, if_pos hl]; rfl
      · cases h
    · rename_i hh; cases hh
      obtain ⟨x, e1, h⟩ := bind_some' h
      exact (jp_un uj_neg (jp_constN n _ x e1)).congr fun _ _ => by unfold eUn eC; simp only [Option.bind_some, h]; rfl
    · rename_i hh; cases hh
      obtain ⟨x, e1, h⟩ := bind_some' h
      obtain ⟨y, e2, h⟩ := bind_some' h
      exact (jp_bin oj_pow (jp_constN n _ x e1) (jp_constN n _ y e2)).congr fun _ _ => by unfold eBin eC; simp only [Option.bind_some, h]; rfl
    · rename_i hh; cases hh; cases h; exact jp_dict0
    · cases h
theorem jp_const {e : Expr} {d : D} (h : constD 9 e = some d) : JP X e (eC d) 0 := jp_constN 9 e d h
theorem jp_constL {es : List Expr} {pos : Pos} {ds : List D} (h : mapO (constD 9) es = some ds) (hl : ds.length ≤ 16777216) : JP X (.List es pos) (eC (.list ds)) 1 :=
  (jp_lst (ja_const (jp_constN 9) es ds h)).congr fun _ _ => by unfold eLst eCs; simp only [Option.bind_some, if_pos hl]; rfl
end
end J
namespace J
open PySem PySem.Spec PyProof.Rows L2

/-! ### lists of ints as data, their order -/
abbrev dI (l : List Int) : D := .list (l.map PyData.int)
abbrev dL (ls : List (List Int)) : D := .list (ls.map dI)
theorem toks_ltI : ∀ a b : List Int, PyProof.Rows.lexLt PyProof.Rows.itemOrd (PySem.W.keyToksAll (a.map PyData.int)) (PySem.W.keyToksAll (b.map PyData.int)) = ltI a b
  | [], [] => by decide
  | [], y :: t => rfl
  | x :: r, [] => rfl
  | x :: r, y :: t => by
    have ih := toks_ltI r t
    rw [List.map_cons, List.map_cons, PySem.W.toks_all_cons, PySem.W.toks_all_cons, PySem.W.keyToks, PySem.W.keyToks]
    rw [show ((Sum.inl 1 : Int ⊕ List Nat) :: ([Sum.inl x] ++ PySem.W.keyToksAll (r.map PyData.int))) = [Sum.inl 1] ++ (Sum.inl x :: PySem.W.keyToksAll (r.map PyData.int)) from rfl,
      show ((Sum.inl 1 : Int ⊕ List Nat) :: ([Sum.inl y] ++ PySem.W.keyToksAll (t.map PyData.int))) = [Sum.inl 1] ++ (Sum.inl y :: PySem.W.keyToksAll (t.map PyData.int)) from rfl, PySem.W.lex_pre]
    rw [PyProof.Rows.lex_cons, ih]
    rfl
theorem lt_dI (a b : List Int) : PySem.W.dataLt (dI a) (dI b) = ltI a b := by rw [PySem.W.dataLt_list]; exact toks_ltI a b
theorem srt_ints (ns : List Int) : srt (ns.map PyData.int) = (ns.mergeSort fun a b => decide (a ≤ b)).map PyData.int := by
  unfold srt
  symm
  refine PySem.W.sort_maps PyData.int fun a _ b _ => ?_
  show decide (a ≤ b) = !PySem.W.dataLt (.int b) (.int a)
  rw [PySem.W.dataLt_int]
  by_cases h : a ≤ b
  · rw [decide_eq_true h, decide_eq_false (by omega)]; rfl
  · rw [decide_eq_false h, decide_eq_true (by omega)]; rfl
theorem srt_rows (ls : List (List Int)) : srt (ls.map dI) = (ls.mergeSort leI).map dI := by
  unfold srt
  symm
  refine PySem.W.sort_maps dI fun a _ b _ => ?_
  show (!ltI b a) = !PySem.W.dataLt (dI b) (dI a)
  rw [lt_dI]
theorem srt_dI (l : List Int) : srt (l.map PyData.int) = (sZ l).map PyData.int := srt_ints l
theorem srt_dL (l : List (List Int)) : srt (l.map dI) = (sR l).map dI := srt_rows l

/-! ### what such data may do -/
theorem canLay_ints : ∀ l : List Int, PyData.canLayAll0 (l.map PyData.int) = true
  | [] => rfl
  | x :: r => by rw [List.map_cons, PyData.canLayAll0, canLay_ints r]; rfl
theorem canLay_rows : ∀ l : List (List Int), PyData.canLayAll0 (l.map dI) = true
  | [] => rfl
  | x :: r => by
    rw [List.map_cons, PyData.canLayAll0, canLay_rows r]
    show (PyData.canLay0 (.list (x.map PyData.int)) && true) = true
    rw [PyData.canLay0, canLay_ints]
    rfl
theorem depth_ints : ∀ l : List Int, PyData.depthAll (l.map PyData.int) ≤ 1
  | [] => by decide
  | x :: r => by
    rw [List.map_cons, PyData.depthAll]
    have := depth_ints r
    have e : (PyData.int x).depth ≤ 1 := by simp [PyData.depth]
    omega
theorem depth_dI (l : List Int) : (dI l).depth ≤ 2 := by
  have := depth_ints l
  show (PyData.list (l.map PyData.int)).depth ≤ 2
  rw [PyData.depth]
  omega
theorem depth_rows : ∀ l : List (List Int), PyData.depthAll (l.map dI) ≤ 2
  | [] => by decide
  | x :: r => by
    rw [List.map_cons, PyData.depthAll]
    have := depth_rows r
    have := depth_dI x
    omega
theorem depth_dL (l : List (List Int)) : (dL l).depth ≤ 3 := by
  have := depth_rows l
  show (PyData.list (l.map dI)).depth ≤ 3
  rw [PyData.depth]
  omega
theorem lay_dI (l : List Int) : (dI l).canLay0 = true := by
  show PyData.canLay0 (.list (l.map PyData.int)) = true
  rw [PyData.canLay0]; exact canLay_ints l
theorem lay_dL (l : List (List Int)) : (dL l).canLay0 = true := by
  show PyData.canLay0 (.list (l.map dI)) = true
  rw [PyData.canLay0]; exact canLay_rows l
theorem shaped_of {d : D} (h : d.canLay0 = true) (h2 : d.depth ≤ 64) : SeqAt.shaped d = true := by
  unfold SeqAt.shaped
  rw [h, decide_eq_true h2]
  rfl
theorem shaped_dI (l : List Int) : SeqAt.shaped (dI l) = true := shaped_of (lay_dI l) (Nat.le_trans (depth_dI l) (by decide))
theorem shaped_dL (l : List (List Int)) : SeqAt.shaped (dL l) = true := shaped_of (lay_dL l) (Nat.le_trans (depth_dL l) (by decide))
theorem shaped_int (i : Int) : SeqAt.shaped (.int i) = true := shaped_of rfl (by simp [PyData.depth])
theorem alike_ints : ∀ a b : List Int, PySem.W.alikeAll (a.map PyData.int) (b.map PyData.int) = true
  | [], b => by cases b <;> rfl
  | x :: r, [] => rfl
  | x :: r, y :: t => by
    rw [List.map_cons, List.map_cons, PySem.W.alikeAll, alike_ints r t]
    rfl
theorem alike_dI (a b : List Int) : PySem.W.alike (dI a) (dI b) = true := by
  show PySem.W.alike (.list _) (.list _) = true
  rw [PySem.W.alike]; exact alike_ints a b
theorem sortOk_dI (l : List Int) : sortOk (l.map PyData.int) = true := by
  unfold sortOk
  rw [Bool.and_eq_true, Bool.and_eq_true]
  refine ⟨⟨?_, ?_⟩, shaped_dI l⟩
  · unfold allAlike
    rw [List.all_eq_true]
    intro x hx
    rw [List.all_eq_true]
    intro y hy
    obtain ⟨i, _, rfl⟩ := List.mem_map.mp hx
    obtain ⟨j, _, rfl⟩ := List.mem_map.mp hy
    rfl
  · rw [Bool.or_eq_true]
    refine .inl ?_
    rw [List.all_eq_true]
    intro x hx
    obtain ⟨i, _, rfl⟩ := List.mem_map.mp hx
    rfl
theorem sortOk_dL (l : List (List Int)) : sortOk (l.map dI) = true := by
  unfold sortOk
  rw [Bool.and_eq_true, Bool.and_eq_true]
  refine ⟨⟨?_, ?_⟩, shaped_dL l⟩
  · unfold allAlike
    rw [List.all_eq_true]
    intro x hx
    rw [List.all_eq_true]
    intro y hy
    obtain ⟨i, _, rfl⟩ := List.mem_map.mp hx
    obtain ⟨j, _, rfl⟩ := List.mem_map.mp hy
    exact alike_dI i j
  · rw [Bool.or_eq_true]
    refine .inl ?_
    rw [List.all_eq_true]
    intro x hx
    obtain ⟨i, _, rfl⟩ := List.mem_map.mp hx
    rfl
theorem dSort_dI {l : List Int} (h : l.length ≤ 16777216) : dSort (dI l) = some (dI (sZ l)) := by
  show dSort (.list (l.map PyData.int)) = _
  unfold dSort
  simp only [List.length_map]
  rw [if_pos ⟨sortOk_dI l, h⟩, srt_dI]
theorem dSort_dL {l : List (List Int)} (h : l.length ≤ 16777216) : dSort (dL l) = some (dL (sR l)) := by
  show dSort (.list (l.map dI)) = _
  unfold dSort
  simp only [List.length_map]
  rw [if_pos ⟨sortOk_dL l, h⟩, srt_dL]
theorem dLt_dI (a b : List Int) : dLt (dI a) (dI b) = some (.bool (ltI a b)) := by
  show dLt (.list _) (.list _) = _
  simp only [dLt]
  rw [if_pos ⟨alike_dI a b, shaped_dI a, shaped_dI b, rfl⟩, lt_dI]
theorem eqv_ints : ∀ a b : List Int, PyData.eqvAll (a.map PyData.int) (b.map PyData.int) = decide (a = b)
  | [], [] => rfl
  | [], y :: t => rfl
  | x :: r, [] => rfl
  | x :: r, y :: t => by
    rw [List.map_cons, List.map_cons, PyData.eqvAll, eqv_ints r t, PyData.eqv]
    by_cases h : x = y
    · by_cases h2 : r = t
      · simp [h, h2]
      · simp [h, h2]
    · simp [h]
theorem eqv_dI (a b : List Int) : PyData.eqv (dI a) (dI b) = decide (a = b) := by
  show PyData.eqv (.list _) (.list _) = _
  rw [PyData.eqv]; exact eqv_ints a b
theorem eqv_rows : ∀ a b : List (List Int), PyData.eqvAll (a.map dI) (b.map dI) = decide (a = b)
  | [], [] => rfl
  | [], y :: t => rfl
  | x :: r, [] => rfl
  | x :: r, y :: t => by
    rw [List.map_cons, List.map_cons, PyData.eqvAll, eqv_rows r t, eqv_dI]
    by_cases h : x = y
    · by_cases h2 : r = t
      · simp [h, h2]
      · simp [h, h2]
    · simp [h]
theorem eqv_dL (a b : List (List Int)) : PyData.eqv (dL a) (dL b) = decide (a = b) := by
  show PyData.eqv (.list _) (.list _) = _
  rw [PyData.eqv]; exact eqv_rows a b
theorem dIn_int (x : Int) (l : List Int) : dIn (.int x) (dI l) = some (.bool (decide (x ∈ l))) := by
  show dIn (.int x) (.list _) = _
  simp only [dIn]
  rw [if_pos ⟨shaped_int x, shaped_dI l⟩]
  congr 2
  unfold hasD
  rw [Bool.eq_iff_iff, List.any_eq_true, decide_eq_true_iff]
  constructor
  · rintro ⟨z, hz, e⟩
    obtain ⟨i, hi, rfl⟩ := List.mem_map.mp hz
    have : i = x := by simpa [PyData.eqv] using e
    rw [← this]; exact hi
  · intro h
    exact ⟨.int x, List.mem_map.mpr ⟨x, h, rfl⟩, by simp [PyData.eqv]⟩
theorem dIn_row (x : List Int) (l : List (List Int)) : dIn (dI x) (dL l) = some (.bool (decide (x ∈ l))) := by
  show dIn (dI x) (.list _) = _
  simp only [dIn]
  rw [if_pos ⟨shaped_dI x, shaped_dL l⟩]
  congr 2
  unfold hasD
  rw [Bool.eq_iff_iff, List.any_eq_true, decide_eq_true_iff]
  constructor
  · rintro ⟨z, hz, e⟩
    obtain ⟨i, hi, rfl⟩ := List.mem_map.mp hz
    rw [eqv_dI] at e
    rw [← of_decide_eq_true e]; exact hi
  · intro h
    exact ⟨dI x, List.mem_map.mpr ⟨x, h, rfl⟩, by rw [eqv_dI]; simp⟩
theorem dNotIn_int (x : Int) (l : List Int) : dNotIn (.int x) (dI l) = some (.bool (!decide (x ∈ l))) := by
  have h := dIn_int x l
  have h : dIn (.int x) (.list (l.map PyData.int)) = _ := h
  show dNotIn (.int x) (.list _) = _
  simp only [dIn, dNotIn] at h ⊢
  rw [if_pos ⟨shaped_int x, shaped_dI l⟩] at h ⊢
  have h2 := PyData.bool.inj (Option.some.inj h)
  rw [h2]
theorem dNotIn_row (x : List Int) (l : List (List Int)) : dNotIn (dI x) (dL l) = some (.bool (!decide (x ∈ l))) := by
  have h := dIn_row x l
  have h : dIn (dI x) (.list (l.map dI)) = _ := h
  show dNotIn (dI x) (.list _) = _
  simp only [dIn, dNotIn] at h ⊢
  rw [if_pos ⟨shaped_dI x, shaped_dL l⟩] at h ⊢
  have h2 := PyData.bool.inj (Option.some.inj h)
  rw [h2]
end J
namespace J
open PySem PySem.Spec PyProof.Rows L2

theorem fin_self (s : STO) (d : D) : fin s d s = some (d, s) := by unfold fin; rw [if_pos rfl]
theorem fin_len {s s' : STO} (d : D) (h : s'.length = s.length) : fin s d s' = some (d, s') := by unfold fin; rw [if_pos h]
theorem compL_pure {α : Type} {bd : Bd} {fc : EvT} {fe : Ev} {own : List Nat} {vw : VW} {s : STO} (g : α → D) (bx : α → List (Nat × D)) (tt : α → Bool) (ee : α → D) : ∀ l : List α,
    (∀ a ∈ l, bd (g a) = some (bx a)) → (∀ a ∈ l, fc (setV (wipeV vw own) (bx a)) s = some (tt a, s)) → (∀ a ∈ l, tt a = true → fe (setV (wipeV vw own) (bx a)) s = some (ee a, s)) →
    compL bd fc fe own vw (l.map g) s = some ((l.filter tt).map ee, s)
  | [], _, _, _ => rfl
  | a :: r, h1, h2, h3 => by
    have ih := compL_pure g bx tt ee r (fun a ha => h1 a (List.mem_cons_of_mem _ ha)) (fun a ha => h2 a (List.mem_cons_of_mem _ ha)) (fun a ha => h3 a (List.mem_cons_of_mem _ ha))
    rw [List.map_cons, compL, h1 a List.mem_cons_self]
    simp only [Option.bind_some]
    rw [h2 a List.mem_cons_self]
    simp only [Option.bind_some]
    cases q : tt a with
    | true =>
      rw [if_pos rfl, h3 a List.mem_cons_self q]
      simp only [Option.bind_some]
      rw [ih, List.filter_cons_of_pos q]
      rfl
    | false =>
      rw [if_neg Bool.false_ne_true, ih, List.filter_cons_of_neg (by rw [q]; decide)]
/-- a comprehension over what is read without a change -/
theorem eComp_pure {α : Type} {fi : EvI} {bd : Bd} {fc : EvT} {fe : Ev} {own : List Nat} {vw : VW} {s : STO} (l : List α) (g : α → D) (bx : α → List (Nat × D)) (tt : α → Bool) (ee : α → D) (hi : fi vw s = some (l.map g, s)) (hl : l.length ≤ 16777216)
    (h1 : ∀ a ∈ l, bd (g a) = some (bx a)) (h2 : ∀ a ∈ l, fc (setV (wipeV vw own) (bx a)) s = some (tt a, s)) (h3 : ∀ a ∈ l, tt a = true → fe (setV (wipeV vw own) (bx a)) s = some (ee a, s)) :
    eComp fi bd fc fe own vw s = some (.list ((l.filter tt).map ee), s) := by
  unfold eComp
  rw [hi]
  simp only [Option.bind_some, List.length_map]
  rw [if_pos hl, compL_pure g bx tt ee l h1 h2 h3]
  rfl
/-- without a test -/
theorem eComp_map {α : Type} {fi : EvI} {bd : Bd} {fe : Ev} {own : List Nat} {vw : VW} {s : STO} (l : List α) (g : α → D) (bx : α → List (Nat × D)) (ee : α → D) (hi : fi vw s = some (l.map g, s)) (hl : l.length ≤ 16777216)
    (h1 : ∀ a ∈ l, bd (g a) = some (bx a)) (h3 : ∀ a ∈ l, fe (setV (wipeV vw own) (bx a)) s = some (ee a, s)) :
    eComp fi bd tY fe own vw s = some (.list (l.map ee), s) := by
  have := eComp_pure (fc := tY) (fe := fe) (own := own) l g bx (fun _ => true) ee hi hl h1 (fun a _ => rfl) (fun a ha _ => h3 a ha)
  rwa [List.filter_eq_self.mpr (fun _ _ => rfl)] at this
theorem zi_map {α : Type} (f : α → D) : ∀ (l m : List α), ziD (l.map f) (m.map f) = (l.zip m).map fun p => .tuple [f p.1, f p.2]
  | [], m => by cases m <;> rfl
  | x :: r, [] => rfl
  | x :: r, y :: t => by rw [List.map_cons, List.map_cons, ziD, zi_map f r t]; rfl
theorem cut_tail {α : Type} (l : List α) : cutL l (some 1) none = l.drop 1 := by
  unfold cutL
  rw [show HT.sIx l.length 0 (some 1) = min 1 l.length from HT.sIx_nat l.length 0 1, HT.sIx_none]
  cases l with
  | nil => rfl
  | cons x r =>
    rw [show min 1 (x :: r).length = 1 by rw [List.length_cons]; omega]
    show List.take ((x :: r).length - 1) r = r
    rw [List.length_cons, Nat.add_sub_cancel]
    exact List.take_length
theorem cut_head {α : Type} (l : List α) : cutL l none (some 1) = l.take 1 := by
  unfold cutL
  rw [show HT.sIx l.length l.length (some 1) = min 1 l.length from HT.sIx_nat l.length _ 1, HT.sIx_none]
  cases l with
  | nil => rfl
  | cons x r =>
    rw [show min 1 (x :: r).length = 1 by rw [List.length_cons]; omega]
    rfl
theorem cAll_map {α : Type} (f : α → Bool) (l : List α) : cAll [.list (l.map fun x => PyData.bool (f x))] = some (.bool (l.all f)) := by
  have h := isBls_map (l.map f)
  rw [List.map_map] at h
  have h : isBls (l.map fun x => PyData.bool (f x)) = some (l.map f) := h
  show (isBls _).map _ = _
  rw [h]
  simp
/-- a loop by its invariant, where no turn leaves it -/
theorem forL_rel {bd : Bd} {body : Sv} (I : Nat → Env → STO → Prop) : ∀ (l : List D) (n : Nat) (env : Env) (s : STO), I n env s →
    (∀ i d env s, l[i]? = some d → I (n + i) env s → ∃ l', bd d = some l' ∧ allLt env.length l' = true ∧ noTok d = true ∧ ∃ o env' s', body (setE env l') s = some (o, env', s') ∧ (o = .nx ∨ o = .ct) ∧ I (n + i + 1) env' s') →
    ∃ env' s', forL bd body l env s = some (.nx, env', s') ∧ I (n + l.length) env' s'
  | [], n, env, s, h, _ => ⟨env, s, rfl, h⟩
  | d :: r, n, env, s, h, step => by
    obtain ⟨l', h1, h2, h3, o, env1, s1, h4, h5, h6⟩ := step 0 d env s rfl h
    obtain ⟨env2, s2, h7, h8⟩ := forL_rel I r (n + 1) env1 s1 h6 fun i d' env' s' hd hI => by
      have := step (i + 1) d' env' s' (by simpa using hd) (by rw [show n + (i + 1) = n + 1 + i by omega]; exact hI)
      rw [show n + (i + 1) + 1 = n + 1 + i + 1 by omega] at this
      exact this
    refine ⟨env2, s2, ?_, by rw [List.length_cons, show n + (r.length + 1) = n + 1 + r.length by omega]; exact h8⟩
    rw [forL, h1]
    simp only [Option.bind_some]
    rw [if_pos ⟨h2, h3⟩, h4]
    simp only [Option.bind_some]
    rcases h5 with rfl | rfl
    · exact h7
    · exact h7
theorem noTok_ints : ∀ l : List Int, noTokA (l.map PyData.int) = true
  | [] => rfl
  | x :: r => by rw [List.map_cons, noTokA, noTok_ints r]; rfl
theorem noTok_dI (l : List Int) : noTok (dI l) = true := by
  show noTok (.list (l.map PyData.int)) = true
  rw [noTok]; exact noTok_ints l
theorem noTok_rows : ∀ l : List (List Int), noTokA (l.map dI) = true
  | [] => rfl
  | x :: r => by rw [List.map_cons, noTokA, noTok_rows r, noTok_dI]; rfl
theorem noTok_dL (l : List (List Int)) : noTok (dL l) = true := by
  show noTok (.list (l.map dI)) = true
  rw [noTok]; exact noTok_rows l
theorem fzS_ff (s : Slot) : fzS false s = s := by cases s <;> rfl
theorem fzS_sh (b : Bool) (d : D) : fzS b (.sh d) = .sh d := by cases b <;> rfl
theorem fzS_no (b : Bool) : fzS b .no = .no := by cases b <;> rfl
theorem fzS_ow (k : Nat) (d : D) : fzS true (.ow k d) = .sh d := rfl
theorem seeS_sh (b : Bool) (d : D) : seeS b (.sh d) = some d := rfl
theorem seeS_no (b : Bool) : seeS b .no = none := rfl
theorem seeS_tt (k : Nat) (d : D) : seeS true (.ow k d) = some d := rfl
theorem seeS_ff (k : Nat) (d : D) : seeS false (.ow k d) = none := rfl
end J
namespace J
open PySem PySem.Spec PyProof.Rows L2
/-! ### step by step -/
section
variable {g h : Sv} {env e1 : Env} {s s1 s2 s3 : STO} {R : Option (Out × Env × STO)} {d d1 d2 d3 d' : D} {M : List Nat} {t u : EvT} {f f1 f2 f3 : Ev} {vw : VW} {fs : EvA} {ds es : List D} {b c : Bool}
theorem sSeq_nx (h1 : g env s = some (.nx, e1, s1)) (h2 : h e1 s1 = R) : sSeq g h env s = R := by unfold sSeq; rw [h1]; exact h2
theorem sSeq_rt (h1 : g env s = some (.rt d, e1, s1)) : sSeq g h env s = some (.rt d, e1, s1) := by unfold sSeq; rw [h1]; rfl
theorem sIf_f (h1 : t (see M env) s = some (false, s1)) (h2 : h env s1 = R) (hm : okM M s1 = true := by rfl) : sIf M t g h env s = R := by unfold sIf; rw [h1, Option.bind_some]; unfold fzT; rw [if_pos hm]; exact h2
theorem sIf_t (h1 : t (see M env) s = some (true, s1)) (h2 : g env s1 = R) (hm : okM M s1 = true := by rfl) : sIf M t g h env s = R := by unfold sIf; rw [h1, Option.bind_some]; unfold fzT; rw [if_pos hm]; exact h2
theorem sRet_ok (h1 : f (see M env) s = some (d, s1)) : sRet M f env s = some (.rt d, env, s1) := by unfold sRet; rw [h1]; rfl
theorem sEx_ok (h1 : f (see M env) s = some (d, s1)) (hm : okM M s1 = true := by rfl) : sEx M f env s = some (.nx, env, s1) := by unfold sEx; rw [h1, Option.map_some]; unfold fzT; rw [if_pos hm]
theorem sSet_okM {i k : Nat} (h1 : f (see M env) s = some (d, s1)) (hi : decide (i < env.length) = true := by rfl) : sSet i k M f env s = some (.nx, (fzIf k d M s1 env).set i (mkS k d), s1) := by unfold sSet; rw [if_pos (of_decide_eq_true hi), h1]; rfl
theorem fzI_nil : ∀ (n : Nat) (env : Env), fzI [] n env = env
  | _, [] => rfl
  | n, x :: r => by rw [fzI, fzI_nil (n + 1) r]; cases x <;> rfl
theorem fzIf_nil {k : Nat} : fzIf k d [] s env = env := by
  unfold fzIf
  split
  · rfl
  · exact fzI_nil 0 env
theorem sSet_ok {i k : Nat} (h1 : f (see [] env) s = some (d, s1)) (hi : decide (i < env.length) = true := by rfl) : sSet i k [] f env s = some (.nx, env.set i (mkS k d), s1) := by rw [sSet_okM h1 hi, fzIf_nil]
theorem sFor_ok {fi : EvI} {bd : Bd} (h1 : fi (see M env) s = some (ds, s1)) (h2 : forL bd g ds (fz M env) s1 = R) : sFor M fi bd g env s = R := by unfold sFor; rw [h1]; exact h2
theorem sFor0_okM {fi : EvI} {bd : Bd} (hm : okM M s1 = true) (h1 : fi (see M env) s = some (ds, s1)) (h2 : forL bd g ds env s1 = R) : sFor0 M fi bd g env s = R := by unfold sFor0; rw [h1, Option.bind_some, if_pos hm]; exact h2
theorem sFor0_ok {fi : EvI} {bd : Bd} (h1 : fi (see [] env) s = some (ds, s1)) (h2 : forL bd g ds env s1 = R) : sFor0 [] fi bd g env s = R := sFor0_okM rfl h1 h2
theorem fnD_rt {N : Nat} (h1 : g (ds.map .sh ++ List.replicate (N - ds.length) .no) s = some (.rt d, e1, s1)) (h2 : fin s d s1 = some (d', s2)) : fnD N g ds s = some (d', s2) := by unfold fnD; rw [h1]; exact h2
theorem fnD_nx {N : Nat} (h1 : g (ds.map .sh ++ List.replicate (N - ds.length) .no) s = some (.nx, e1, s1)) (h2 : fin s .none s1 = some (d', s2)) : fnD N g ds s = some (d', s2) := by unfold fnD; rw [h1]; exact h2
theorem eVar_ok {i : Nat} (h1 : vw[i]? = some (some d)) : eVar i vw s = some (d, s) := by unfold eVar; rw [h1]
theorem eBin_ok {op : D → D → Option D} (h1 : f1 vw s = some (d1, s1)) (h2 : f2 vw s1 = some (d2, s2)) (h3 : op d1 d2 = some d) : eBin op f1 f2 vw s = some (d, s2) := by unfold eBin; rw [h1, Option.bind_some, h2, Option.bind_some, h3]; rfl
theorem eUn_ok {op : D → Option D} (h1 : f1 vw s = some (d1, s1)) (h3 : op d1 = some d) : eUn op f1 vw s = some (d, s1) := by unfold eUn; rw [h1, Option.bind_some, h3]; rfl
theorem eIdx_ok (h1 : f1 vw s = some (d1, s1)) (h2 : f2 vw s1 = some (d2, s2)) (h3 : dIdx s2 d1 d2 = some d) : eIdx f1 f2 vw s = some (d, s2) := by unfold eIdx; rw [h1, Option.bind_some, h2, Option.bind_some, h3]; rfl
theorem eOp_ok {op : List D → Option D} (h1 : fs vw s = some (ds, s1)) (h3 : op ds = some d) : eOp op fs vw s = some (d, s1) := by unfold eOp; rw [h1, Option.bind_some, h3]; rfl
theorem aN_ok : aN vw s = some ([], s) := rfl
theorem aC_ok (h1 : f vw s = some (d, s1)) (h2 : fs vw s1 = some (ds, s2)) : aC f fs vw s = some (d :: ds, s2) := by unfold aC; rw [h1, Option.bind_some, h2]; rfl
theorem eLst_ok (h1 : fs vw s = some (ds, s1)) (h2 : decide (ds.length ≤ 16777216) = true := by rfl) : eLst fs vw s = some (.list ds, s1) := by unfold eLst; rw [h1, Option.bind_some, if_pos (of_decide_eq_true h2)]
theorem eTup_ok (h1 : fs vw s = some (ds, s1)) (h2 : decide (ds.length ≤ 16777216) = true := by rfl) : eTup fs vw s = some (.tuple ds, s1) := by unfold eTup; rw [h1, Option.bind_some, if_pos (of_decide_eq_true h2)]
theorem eCall_ok {F : FnD} {perm : List Nat} (h1 : fs vw s = some (ds, s1)) (h2 : F (pick PyData.none perm ds) s1 = some (d, s2)) : eCall F perm fs vw s = some (d, s2) := by unfold eCall; rw [h1]; exact h2
theorem aApp_ok {gs : EvA} (h1 : fs vw s = some (ds, s1)) (h2 : gs vw s1 = some (es, s2)) : aApp fs gs vw s = some (ds ++ es, s2) := by unfold aApp; rw [h1, Option.bind_some, h2]; rfl
theorem bT_ok (h1 : f vw s = some (.bool b, s1)) : bT f vw s = some (b, s1) := by unfold bT; rw [h1]; rfl
theorem nT_ok (h1 : t vw s = some (b, s1)) : nT t vw s = some (!b, s1) := by unfold nT; rw [h1]; rfl
theorem oT_t (h1 : t vw s = some (true, s1)) : oT t u vw s = some (true, s1) := by unfold oT; rw [h1]; rfl
theorem oT_f {R : Option (Bool × STO)} (h1 : t vw s = some (false, s1)) (h2 : u vw s1 = R) : oT t u vw s = R := by unfold oT; rw [h1]; exact h2
theorem aT_t {R : Option (Bool × STO)} (h1 : t vw s = some (true, s1)) (h2 : u vw s1 = R) : aT t u vw s = R := by unfold aT; rw [h1]; exact h2
theorem aT_f (h1 : t vw s = some (false, s1)) : aT t u vw s = some (false, s1) := by unfold aT; rw [h1]; rfl
theorem eIf_t {R : Option (D × STO)} (h1 : t vw s = some (true, s1)) (h2 : f1 vw s1 = R) : eIf t f1 f2 vw s = R := by unfold eIf; rw [h1]; exact h2
theorem eIf_f {R : Option (D × STO)} (h1 : t vw s = some (false, s1)) (h2 : f2 vw s1 = R) : eIf t f1 f2 vw s = R := by unfold eIf; rw [h1]; exact h2
theorem eAnd_t {R : Option (D × STO)} (h1 : f1 vw s = some (.bool true, s1)) (h2 : f2 vw s1 = R) : eAnd f1 f2 vw s = R := by unfold eAnd; rw [h1]; exact h2
theorem eAnd_f (h1 : f1 vw s = some (.bool false, s1)) : eAnd f1 f2 vw s = some (.bool false, s1) := by unfold eAnd; rw [h1]; rfl
theorem eOr_f {R : Option (D × STO)} (h1 : f1 vw s = some (.bool false, s1)) (h2 : f2 vw s1 = R) : eOr f1 f2 vw s = R := by unfold eOr; rw [h1]; exact h2
theorem eOr_t (h1 : f1 vw s = some (.bool true, s1)) : eOr f1 f2 vw s = some (.bool true, s1) := by unfold eOr; rw [h1]; rfl
theorem eC_ok : eC d vw s = some (d, s) := rfl
theorem iVal_l (h1 : f vw s = some (.list ds, s1)) : iVal f vw s = some (ds, s1) := by unfold iVal; rw [h1]; rfl
theorem iVal_t (h1 : f vw s = some (.tuple ds, s1)) : iVal f vw s = some (ds, s1) := by unfold iVal; rw [h1]; rfl
theorem iU_ok {op : D → Option (List D)} (h1 : f vw s = some (d, s1)) (h2 : op d = some ds) : iU op f vw s = some (ds, s1) := by unfold iU; rw [h1, Option.bind_some, h2]; rfl
theorem iB_ok {op : D → D → Option (List D)} (h1 : f1 vw s = some (d1, s1)) (h2 : f2 vw s1 = some (d2, s2)) (h3 : op d1 d2 = some ds) : iB op f1 f2 vw s = some (ds, s2) := by unfold iB; rw [h1, Option.bind_some, h2, Option.bind_some, h3]; rfl
end
/-! ### small numbers -/
theorem small_of {i : Int} (h : i.natAbs < 2 ^ 250) : small i = true := by
  unfold small
  exact decide_eq_true (Nat.lt_of_lt_of_le h (Nat.pow_le_pow_right (by decide) (by decide)))
theorem dMul_ok {i j : Int} (h1 : i.natAbs < 2 ^ 250) (h2 : j.natAbs < 2 ^ 250) : dMul (.int i) (.int j) = some (.int (i * j)) := by
  show (if small i = true ∧ small j = true then _ else _) = _
  rw [if_pos ⟨small_of h1, small_of h2⟩]
theorem dPow_ok {i j : Int} (h1 : i.natAbs < 2 ^ 250) (h2 : 0 ≤ j ∧ j ≤ 300) : dPow (.int i) (.int j) = some (.int (i ^ j.toNat)) := by
  show (if 0 ≤ j ∧ j ≤ 300 ∧ small i = true then _ else _) = _
  rw [if_pos ⟨h2.1, h2.2, small_of h1⟩]
theorem dFdiv_ok {i j : Int} (h0 : 0 < j) (h1 : j.natAbs < 2 ^ 250) : dFdiv (.int i) (.int j) = some (.int (i / j)) := by
  show (if 0 < j ∧ small j = true then _ else _) = _
  rw [if_pos ⟨h0, small_of h1⟩]
theorem dMod_ok {i j : Int} (h0 : 0 < j) : dMod (.int i) (.int j) = some (.int (i % j)) := by
  show (if 0 < j then _ else _) = _
  rw [if_pos h0]
/-! ### texts of lists -/
theorem join_le (n : Nat) : ∀ ts : List Str, (∀ t ∈ ts, t.length ≤ n) → (Str.join ", " ts).length ≤ (n + 2) * ts.length
  | [], _ => by show (0 : Nat) ≤ _; omega
  | t :: r, h => by
    rw [PyProof.Rows.len_join_cons]
    have hs : ∀ l : List Str, (∀ t ∈ l, t.length ≤ n) → (l.map (·.length)).sum ≤ n * l.length := by
      intro l
      induction l with
      | nil => intro _; simp
      | cons x l ih =>
        intro hl
        have h1 := hl x List.mem_cons_self
        have h2 := ih fun t ht => hl t (List.mem_cons_of_mem _ ht)
        simp only [List.map_cons, List.sum_cons, List.length_cons]
        rw [Nat.mul_succ]
        omega
    have h1 := hs (t :: r) h
    have h2 : (", " : Str).length = 2 := by rfl
    rw [h2, Nat.add_mul]
    simp only [List.length_cons] at h1 ⊢
    omega
theorem shownAll_mem : ∀ (ds : List D) (x : Str), x ∈ PyData.shownAll ds → ∃ d ∈ ds, x = PyData.shown d
  | [], x, h => by rw [PyData.shownAll_nil] at h; exact absurd h List.not_mem_nil
  | d :: r, x, h => by
    rw [PyData.shownAll_cons] at h
    rcases List.mem_cons.mp h with h | h
    · exact ⟨d, List.mem_cons_self, h⟩
    · obtain ⟨e, h1, h2⟩ := shownAll_mem r x h
      exact ⟨e, List.mem_cons_of_mem _ h1, h2⟩
theorem shown_list_le {n : Nat} {ds : List D} (h : ∀ d ∈ ds, (PyData.shown d).length ≤ n) : (PyData.shown (.list ds)).length ≤ 2 + (n + 2) * ds.length := by
  rw [PyData.shown_list, PySem.strLen_append, PySem.strLen_append]
  have := join_le n (PyData.shownAll ds) fun t ht => by
    obtain ⟨d, h1, rfl⟩ := shownAll_mem ds t ht
    exact h d h1
  rw [PyData.shownAll_length] at this
  have h2 : ("[" : Str).length = 1 := by rfl
  have h3 : ("]" : Str).length = 1 := by rfl
  omega
end J
namespace J
/-! nests: trees of two halves -/
inductive Nest where
  | lf (i : Int)
  | nd (a b : Nest)
  deriving DecidableEq
namespace Nest
def lv : Nest → List Int
  | lf i => [i]
  | nd a b => a.lv ++ b.lv
/-- inner nodes -/
def gr : Nest → List Nest
  | lf _ => []
  | nd a b => nd a b :: (a.gr ++ b.gr)
def folk (t : Nest) : List Int := sZ t.lv
def lots (t : Nest) : List (List Int) := sR (t.gr.map folk)
def mn : Nest → Int
  | lf i => i
  | nd a b => min a.mn b.mn
def mk : Nest → List Int
  | lf _ => []
  | nd a b => max a.mn b.mn :: (a.mk ++ b.mk)
def put (x f : Int) : Nest → Nest
  | lf i => if i = x then nd (lf i) (lf f) else lf i
  | nd a b => if max a.mn b.mn = 0 - x then nd (nd a b) (lf f) else nd (put x f a) (put x f b)
def dep : Nest → Nat
  | lf _ => 0
  | nd a b => max a.dep b.dep + 1
theorem dep_lt : ∀ t : Nest, t.dep < t.lv.length
  | lf _ => by simp [dep, lv]
  | nd a b => by
    have := dep_lt a
    have := dep_lt b
    simp only [dep, lv, List.length_append]
    omega
theorem lv_ne : ∀ t : Nest, t.lv ≠ []
  | lf _ => by simp [lv]
  | nd a b => by simp [lv, lv_ne a]
theorem lv_pos (t : Nest) : 0 < t.lv.length := List.length_pos_iff.mpr t.lv_ne
theorem mn_mem : ∀ t : Nest, t.mn ∈ t.lv
  | lf _ => by simp [lv, mn]
  | nd a b => by
    simp only [lv, mn, List.mem_append]
    rcases Int.min_eq_left_iff_le_or a.mn b.mn with h | h
    · rw [h]; exact .inl (mn_mem a)
    · rw [h]; exact .inr (mn_mem b)
where
  Int.min_eq_left_iff_le_or (x y : Int) : min x y = x ∨ min x y = y := by omega
theorem mn_le : ∀ (t : Nest) (x : Int), x ∈ t.lv → t.mn ≤ x
  | lf _, x, h => by simp [lv] at h; simp [mn, h]
  | nd a b, x, h => by
    simp only [lv, mn, List.mem_append] at h ⊢
    rcases h with h | h
    · have := mn_le a x h; omega
    · have := mn_le b x h; omega
theorem mk_perm : ∀ t : Nest, (t.mn :: t.mk).Perm t.lv
  | lf _ => by simp [lv, mn, mk]
  | nd a b => by
    have h1 := mk_perm a
    have h2 := mk_perm b
    rw [List.perm_iff_count] at *
    intro x
    have h1 := h1 x
    have h2 := h2 x
    simp only [lv, mn, mk, List.count_cons, List.count_append] at h1 h2 ⊢
    rcases Int.le_total a.mn b.mn with h | h
    · rw [show min a.mn b.mn = a.mn by omega, show max a.mn b.mn = b.mn by omega]; omega
    · rw [show min a.mn b.mn = b.mn by omega, show max a.mn b.mn = a.mn by omega]; omega
theorem mk_sub (t : Nest) (x : Int) (h : x ∈ t.mk) : x ∈ t.lv := t.mk_perm.mem_iff.mp (List.mem_cons_of_mem _ h)
theorem mk_nodup (t : Nest) (h : t.lv.Nodup) : t.mk.Nodup ∧ t.mn ∉ t.mk := by
  have := (t.mk_perm.nodup_iff).mpr h
  exact ⟨(List.nodup_cons.mp this).2, (List.nodup_cons.mp this).1⟩
theorem mk_gt (t : Nest) (h : t.lv.Nodup) (x : Int) (hx : x ∈ t.mk) : t.mn < x := by
  have h1 := t.mn_le x (t.mk_sub x hx)
  have h2 := (t.mk_nodup h).2
  have : t.mn ≠ x := fun e => h2 (e ▸ hx)
  omega
theorem gr_length : ∀ t : Nest, t.gr.length + 1 = t.lv.length
  | lf _ => by simp [lv, gr]
  | nd a b => by
    have h1 := gr_length a
    have h2 := gr_length b
    simp only [lv, gr, List.length_cons, List.length_append]
    omega
theorem put_none (x f : Int) : ∀ t : Nest, x ∉ t.lv → 0 - x ∉ t.mk → put x f t = t
  | lf i, h1, h2 => by
    rw [put, if_neg]
    intro e; apply h1; simp [lv, e]
  | nd a b, h1, h2 => by
    simp only [lv, mk, List.mem_append, List.mem_cons, not_or] at h1 h2
    rw [put, if_neg (fun e => h2.1 e.symm), put_none x f a h1.1 h2.2.1, put_none x f b h1.2 h2.2.2]
theorem put_one (x f : Int) : ∀ t : Nest, t.lv.Nodup → (∀ y ∈ t.lv, 0 ≤ y) → (x ∈ t.lv ∨ 0 - x ∈ t.mk) → (put x f t).lv.Perm (f :: t.lv)
  | lf i, h0, h1, h2 => by
    simp only [lv, mk, List.mem_singleton, List.not_mem_nil, or_false] at h2
    rw [put, if_pos h2.symm]
    exact List.Perm.swap _ _ _
  | nd a b, h0, h1, h2 => by
    have hd := List.nodup_append.mp h0
    have h1a : ∀ y ∈ a.lv, 0 ≤ y := fun y hy => h1 y (List.mem_append_left _ hy)
    have h1b : ∀ y ∈ b.lv, 0 ≤ y := fun y hy => h1 y (List.mem_append_right _ hy)
    by_cases e : max a.mn b.mn = 0 - x
    · rw [put, if_pos e]
      show ((a.lv ++ b.lv) ++ [f]).Perm _
      exact List.perm_append_comm
    · rw [put, if_neg e]
      -- x sits in just one half
      have key : (x ∈ a.lv ∨ 0 - x ∈ a.mk) ∨ (x ∈ b.lv ∨ 0 - x ∈ b.mk) := by
        rcases h2 with h2 | h2
        · rcases List.mem_append.mp h2 with h | h
          · exact .inl (.inl h)
          · exact .inr (.inl h)
        · simp only [mk, List.mem_cons, List.mem_append] at h2
          rcases h2 with h | h | h
          · exact absurd h.symm e
          · exact .inl (.inr h)
          · exact .inr (.inr h)
      have excl : ∀ c d : Nest, c.lv.Nodup → d.lv.Nodup → (∀ y ∈ c.lv, 0 ≤ y) → (∀ y ∈ d.lv, 0 ≤ y) → (∀ y ∈ c.lv, ∀ z ∈ d.lv, y ≠ z) → (x ∈ c.lv ∨ 0 - x ∈ c.mk) → x ∉ d.lv ∧ 0 - x ∉ d.mk := by
        intro c d nc nd pc pd dj h
        rcases h with h | h
        · refine ⟨fun q => dj x h x q rfl, fun q => ?_⟩
          have := mk_gt d nd _ q
          have := pd _ d.mn_mem
          have := pc _ h
          omega
        · have g1 := mk_gt c nc _ h
          have g2 := pc _ c.mn_mem
          refine ⟨fun q => ?_, fun q => dj _ (c.mk_sub _ h) _ (d.mk_sub _ q) rfl⟩
          have := pd _ q
          omega
      rcases key with k | k
      · obtain ⟨n1, n2⟩ := excl a b hd.1 hd.2.1 h1a h1b hd.2.2 k
        rw [put_none x f b n1 n2]
        show ((put x f a).lv ++ b.lv).Perm _
        exact (put_one x f a hd.1 h1a k).append_right b.lv
      · obtain ⟨n1, n2⟩ := excl b a hd.2.1 hd.1 h1b h1a (fun y hy z hz e => hd.2.2 z hz y hy e.symm) k
        rw [put_none x f a n1 n2]
        show (a.lv ++ (put x f b).lv).Perm (f :: (a.lv ++ b.lv))
        exact ((put_one x f b hd.2.1 h1b k).append_left a.lv).trans List.perm_middle
end Nest
/-- all persons -/
def comp (n : Nat) : List Int := (List.range n).map fun i : Nat => (i : Int)
theorem comp_succ (n : Nat) : comp (n + 1) = comp n ++ [(n : Int)] := by
  unfold comp; rw [List.range_succ, List.map_append]; rfl
theorem comp_len (n : Nat) : (comp n).length = n := by unfold comp; simp
theorem mem_comp {n : Nat} {x : Int} : x ∈ comp n ↔ 0 ≤ x ∧ x < n := by
  unfold comp
  rw [List.mem_map]
  constructor
  · rintro ⟨i, h, rfl⟩
    have := List.mem_range.mp h
    omega
  · rintro ⟨h1, h2⟩
    exact ⟨x.toNat, List.mem_range.mpr (by omega), by omega⟩
theorem comp_asc (n : Nat) : (comp n).Pairwise (· < ·) := by
  unfold comp
  rw [List.pairwise_map]
  exact List.Pairwise.imp (fun h => by omega) (List.pairwise_lt_range (n := n))
theorem asc_nodup {l : List Int} (h : l.Pairwise (· < ·)) : l.Nodup := List.Pairwise.imp (fun h => by omega) h
theorem comp_nodup (n : Nat) : (comp n).Nodup := asc_nodup (comp_asc n)
theorem sZ_asc {l : List Int} (h : l.Pairwise (· < ·)) : sZ l = l := sZ_of (List.Pairwise.imp (fun h => decide_eq_true (by omega)) h)
theorem asc_sZ {l : List Int} (h : l.Nodup) : (sZ l).Pairwise (· < ·) := by
  have h1 := sZ_sorted l
  have h2 : (sZ l).Nodup := (sZ_perm l).nodup_iff.mpr h
  exact (h1.and h2).imp fun ⟨h, h'⟩ => by
    have := of_decide_eq_true h
    omega
theorem mem_sZ {l : List Int} {x : Int} : x ∈ sZ l ↔ x ∈ l := (sZ_perm l).mem_iff
theorem len_sZ (l : List Int) : (sZ l).length = l.length := (sZ_perm l).length_eq
theorem mem_sR {l : List (List Int)} {x : List Int} : x ∈ sR l ↔ x ∈ l := (sR_perm l).mem_iff
theorem len_sR (l : List (List Int)) : (sR l).length = l.length := (sR_perm l).length_eq
/-- a nest of the first n persons -/
def Nest.Of (t : Nest) (n : Nat) : Prop := t.lv.Perm (comp n)
theorem Nest.Of.nodup {t : Nest} {n : Nat} (h : t.Of n) : t.lv.Nodup := (List.Perm.nodup_iff h).mpr (comp_nodup n)
theorem Nest.Of.mem {t : Nest} {n : Nat} (h : t.Of n) {x : Int} : x ∈ t.lv ↔ 0 ≤ x ∧ x < n := (List.Perm.mem_iff h).trans mem_comp
theorem Nest.Of.len {t : Nest} {n : Nat} (h : t.Of n) : t.lv.length = n := (List.Perm.length_eq h).trans (comp_len n)
theorem Nest.Of.put {t : Nest} {n : Nat} (h : t.Of n) {x : Int} (h1 : 0 - (n : Int) < x) (h2 : x < n) : (t.put x n).Of (n + 1) := by
  have hm : t.mn = 0 := by
    have h3 := t.mn_mem
    have h4 := (h.mem).mp h3
    have h5 := t.mn_le 0 (h.mem.mpr (by omega))
    omega
  have h0 : x ∈ t.lv ∨ 0 - x ∈ t.mk := by
    by_cases h3 : 0 ≤ x
    · exact .inl (h.mem.mpr ⟨h3, h2⟩)
    · have h4 : 0 - x ∈ t.mn :: t.mk := t.mk_perm.mem_iff.mpr (h.mem.mpr (by omega))
      rcases List.mem_cons.mp h4 with h5 | h5
      · omega
      · exact .inr h5
  have := Nest.put_one x n t h.nodup (fun y hy => (h.mem.mp hy).1) h0
  refine this.trans ?_
  rw [comp_succ]
  exact (List.Perm.cons _ h).trans (List.perm_append_comm (l₁ := [(n : Int)]))
theorem Nest.of_zero : (Nest.lf 0).Of 1 := List.Perm.refl _
end J
namespace J
theorem perm_of_mem {α : Type} [DecidableEq α] {l m : List α} (h1 : l.Nodup) (h2 : m.Nodup) (h : ∀ x, x ∈ l ↔ x ∈ m) : l.Perm m := by
  rw [List.perm_iff_count]
  intro x
  have c1 := List.nodup_iff_count.mp h1 x
  have c2 := List.nodup_iff_count.mp h2 x
  have p1 := List.count_pos_iff (l := l) (a := x)
  have p2 := List.count_pos_iff (l := m) (a := x)
  have := h x
  by_cases hx : x ∈ l
  · have := p1.mpr hx; have := p2.mpr ((h x).mp hx); omega
  · rw [List.count_eq_zero.mpr hx, List.count_eq_zero.mpr (fun q => hx ((h x).mpr q))]
theorem asc_ext {l m : List Int} (h1 : l.Pairwise (· < ·)) (h2 : m.Pairwise (· < ·)) (h : ∀ x, x ∈ l ↔ x ∈ m) : l = m :=
  perm_sorted leZ_anti (perm_of_mem (asc_nodup h1) (asc_nodup h2) h) (h1.imp fun h => decide_eq_true (by omega)) (h2.imp fun h => decide_eq_true (by omega))
theorem asc_filter {l : List Int} {p : Int → Bool} (h : l.Pairwise (· < ·)) : (l.filter p).Pairwise (· < ·) := h.filter p
theorem sR_ext {l m : List (List Int)} (h1 : l.Nodup) (h2 : m.Nodup) (h : ∀ x, x ∈ l ↔ x ∈ m) : sR l = sR m := sR_eq (perm_of_mem h1 h2 h)
theorem head_sZ {l r : List Int} {h : Int} (e : sZ l = h :: r) : h ∈ l ∧ ∀ x ∈ l, h ≤ x := by
  refine ⟨mem_sZ.mp (e ▸ List.mem_cons_self), fun x hx => ?_⟩
  have h1 := sZ_sorted l
  rw [e] at h1
  have h2 : x ∈ h :: r := e ▸ mem_sZ.mpr hx
  rcases List.mem_cons.mp h2 with q | q
  · omega
  · exact of_decide_eq_true ((List.pairwise_cons.mp h1).1 x q)
theorem pairwise_zip {α : Type} {R : α → α → Prop} : ∀ {l : List α}, l.Pairwise R → ∀ p ∈ l.zip (l.drop 1), R p.1 p.2
  | [], _, p, hp => by simp at hp
  | [x], _, p, hp => by simp at hp
  | x :: y :: r, h, p, hp => by
    simp only [List.drop_succ_cons, List.drop_zero, List.zip_cons_cons, List.mem_cons] at hp
    rcases hp with rfl | hp
    · exact (List.pairwise_cons.mp h).1 y List.mem_cons_self
    · exact pairwise_zip (l := y :: r) (List.pairwise_cons.mp h).2 p (by simpa using hp)
theorem zip_pairwise {α : Type} {R : α → α → Prop} (tr : ∀ a b c, R a b → R b c → R a c) : ∀ {l : List α}, (∀ p ∈ l.zip (l.drop 1), R p.1 p.2) → l.Pairwise R
  | [], _ => .nil
  | [x], _ => List.pairwise_singleton _ _
  | x :: y :: r, h => by
    have ih : (y :: r).Pairwise R := zip_pairwise tr fun p hp => h p (by simp only [List.drop_succ_cons, List.drop_zero, List.zip_cons_cons, List.mem_cons] at hp ⊢; exact .inr (by simpa using hp))
    have h1 : R x y := h (x, y) (by simp)
    refine List.pairwise_cons.mpr ⟨fun z hz => ?_, ih⟩
    rcases List.mem_cons.mp hz with rfl | hz
    · exact h1
    · exact tr _ _ _ h1 ((List.pairwise_cons.mp ih).1 z hz)
/-! ### what is_row, parts_in, has_parts compute -/
def rowB (m : Int) (l : List Int) : Bool := l.all (fun x => decide (0 ≤ x) && decide (x < m)) && (l.zip (l.drop 1)).all fun p => decide (p.1 < p.2)
theorem rowB_iff {m : Int} {l : List Int} : rowB m l = true ↔ (∀ x ∈ l, 0 ≤ x ∧ x < m) ∧ l.Pairwise (· < ·) := by
  unfold rowB
  rw [Bool.and_eq_true, List.all_eq_true, List.all_eq_true]
  constructor
  · rintro ⟨h1, h2⟩
    exact ⟨fun x hx => by simpa using h1 x hx, zip_pairwise (R := fun a b : Int => a < b) (fun a b c h h' => by omega) fun p hp => of_decide_eq_true (h2 p hp)⟩
  · rintro ⟨h1, h2⟩
    exact ⟨fun x hx => by simpa using h1 x hx, fun p hp => decide_eq_true (pairwise_zip h2 p hp)⟩
/-- one turn of the search for the first part -/
def firstStep (g : List Int) (h : Int) (first other : List Int) : List Int := if first.length < other.length ∧ other.length < g.length ∧ h ∈ other then other else first
def firstOf (ls : List (List Int)) (g : List Int) (h : Int) : List Int := ls.foldl (firstStep g h) (g.take 1)
def restOf (ls : List (List Int)) (h : Int) (r : List Int) : List Int := (h :: r).filter fun x => !decide (x ∈ firstOf ls (h :: r) h)
def partsB (ls : List (List Int)) : List Int → Bool
  | [] => true
  | h :: r => (firstOf ls (h :: r) h).all (fun x => decide (x ∈ h :: r)) && (decide ((restOf ls h r).length = 1) || decide (restOf ls h r ∈ ls))
theorem fold_none {g : List Int} {h : Int} {f : List Int} : ∀ {ls : List (List Int)}, (∀ o ∈ ls, ¬ (f.length < o.length ∧ o.length < g.length ∧ h ∈ o)) → ls.foldl (firstStep g h) f = f
  | [], _ => rfl
  | o :: ls, H => by
    rw [List.foldl_cons]
    have : firstStep g h f o = f := if_neg (H o List.mem_cons_self)
    rw [this]
    exact fold_none fun o ho => H o (List.mem_cons_of_mem _ ho)
theorem fold_best {g : List Int} {h : Int} {best : List Int} (b1 : best.length < g.length) (b2 : h ∈ best) : ∀ {ls : List (List Int)} {f : List Int}, (∀ o ∈ ls, o.length < g.length → h ∈ o → o.length < best.length ∨ o = best) → (f.length < best.length ∧ best ∈ ls ∨ f = best) → ls.foldl (firstStep g h) f = best
  | [], f, _, hf => by
    rcases hf with hf | hf
    · exact absurd hf.2 List.not_mem_nil
    · exact hf
  | o :: ls, f, H, hf => by
    rw [List.foldl_cons]
    refine fold_best b1 b2 (fun o ho => H o (List.mem_cons_of_mem _ ho)) ?_
    have Ho := H o List.mem_cons_self
    unfold firstStep
    split
    · rename_i c
      rcases Ho c.2.1 c.2.2 with q | q
      · rcases hf with ⟨f1, f2⟩ | rfl
        · rcases List.mem_cons.mp f2 with rfl | f2
          · exact .inr rfl
          · exact .inl ⟨q, f2⟩
        · omega
      · exact .inr q
    · rename_i c
      rcases hf with ⟨f1, f2⟩ | rfl
      · rcases List.mem_cons.mp f2 with rfl | f2
        · exact absurd ⟨f1, b1, b2⟩ c
        · exact .inl ⟨f1, f2⟩
      · exact .inr rfl
/-- what makes a list of rows a parting -/
structure Parting (ls : List (List Int)) : Prop where
  few : ls.length < 20
  row : ∀ g ∈ ls, rowB (ls.length + 1) g = true ∧ 1 < g.length ∧ g.length ≤ 20
  asc : ∀ p ∈ ls.zip (ls.drop 1), ltI p.1 p.2 = true
  all : ls = [] ∨ comp (ls.length + 1) ∈ ls
  prt : ∀ g ∈ ls, partsB ls g = true
namespace Nest
theorem gr_sublist {X : Nest} : ∀ {t : Nest}, X ∈ t.gr → X.lv.Sublist t.lv
  | lf _, h => by simp [gr] at h
  | nd a b, h => by
    simp only [gr, List.mem_cons, List.mem_append] at h
    rcases h with rfl | h | h
    · exact List.Sublist.refl _
    · exact (gr_sublist h).trans (List.sublist_append_left _ _)
    · exact (gr_sublist h).trans (List.sublist_append_right _ _)
theorem gr_nd {X : Nest} : ∀ {t : Nest}, X ∈ t.gr → ∃ a b, X = nd a b
  | lf _, h => by simp [gr] at h
  | nd a b, h => by
    simp only [gr, List.mem_cons, List.mem_append] at h
    rcases h with rfl | h | h
    · exact ⟨a, b, rfl⟩
    · exact gr_nd h
    · exact gr_nd h
theorem gr_trans {X Y : Nest} : ∀ {t : Nest}, X ∈ t.gr → Y ∈ X.gr → Y ∈ t.gr
  | lf _, h, _ => by simp [gr] at h
  | nd a b, h, hy => by
    simp only [gr, List.mem_cons, List.mem_append] at h
    rcases h with rfl | h | h
    · exact hy
    · exact List.mem_cons_of_mem _ (List.mem_append_left _ (gr_trans h hy))
    · exact List.mem_cons_of_mem _ (List.mem_append_right _ (gr_trans h hy))
theorem gr_self (a b : Nest) : nd a b ∈ (nd a b).gr := List.mem_cons_self
theorem gr_two {X t : Nest} (h : X ∈ t.gr) : 1 < X.lv.length := by
  obtain ⟨a, b, rfl⟩ := gr_nd h
  have := a.lv_pos
  have := b.lv_pos
  simp only [lv, List.length_append]
  omega
theorem gr_len {X : Nest} : ∀ {t : Nest}, X ∈ t.gr → X = t ∨ X.lv.length < t.lv.length
  | lf _, h => by simp [gr] at h
  | nd a b, h => by
    simp only [gr, List.mem_cons, List.mem_append] at h
    have := a.lv_pos
    have := b.lv_pos
    rcases h with rfl | h | h
    · exact .inl rfl
    · have := (gr_sublist h).length_le
      right; simp only [lv, List.length_append]; omega
    · have := (gr_sublist h).length_le
      right; simp only [lv, List.length_append]; omega
theorem gr_nodup {X t : Nest} (h : X ∈ t.gr) (hn : t.lv.Nodup) : X.lv.Nodup := hn.sublist (gr_sublist h)
/-- two inner nodes: one within the other, or apart -/
theorem lam {X Y : Nest} : ∀ {t : Nest}, t.lv.Nodup → X ∈ t.gr → Y ∈ t.gr → X ∈ Y.gr ∨ Y ∈ X.gr ∨ ∀ x ∈ X.lv, x ∉ Y.lv
  | lf _, _, h, _ => by simp [gr] at h
  | nd a b, hn, hx, hy => by
    have hd := List.nodup_append.mp hn
    have hx' := hx
    have hy' := hy
    simp only [gr, List.mem_cons, List.mem_append] at hx hy
    rcases hx with rfl | hx | hx
    · exact .inr (.inl hy')
    · rcases hy with rfl | hy | hy
      · exact .inl hx'
      · exact lam hd.1 hx hy
      · exact .inr (.inr fun x h1 h2 => hd.2.2 x ((gr_sublist hx).subset h1) x ((gr_sublist hy).subset h2) rfl)
    · rcases hy with rfl | hy | hy
      · exact .inl hx'
      · exact .inr (.inr fun x h1 h2 => hd.2.2 x ((gr_sublist hy).subset h2) x ((gr_sublist hx).subset h1) rfl)
      · exact lam hd.2.1 hx hy
theorem mem_folk {t : Nest} {x : Int} : x ∈ t.folk ↔ x ∈ t.lv := mem_sZ
theorem len_folk (t : Nest) : t.folk.length = t.lv.length := len_sZ _
theorem folk_inj {t X Y : Nest} (hn : t.lv.Nodup) (hx : X ∈ t.gr) (hy : Y ∈ t.gr) (e : X.folk = Y.folk) : X = Y := by
  have hl : X.lv.length = Y.lv.length := by rw [← len_folk, ← len_folk, e]
  rcases lam hn hx hy with h | h | h
  · rcases gr_len h with h | h
    · exact h
    · omega
  · rcases gr_len h with h | h
    · exact h.symm
    · omega
  · exact absurd (mem_folk.mp (e ▸ mem_folk.mpr X.mn_mem)) (h _ X.mn_mem)
theorem folks_nodup : ∀ {t : Nest}, t.lv.Nodup → (t.gr.map folk).Nodup
  | lf _, _ => List.nodup_nil
  | nd a b, hn => by
    have hd := List.nodup_append.mp hn
    show (folk (nd a b) :: (a.gr ++ b.gr).map folk).Nodup
    rw [List.map_append]
    refine List.nodup_cons.mpr ⟨fun h => ?_, List.nodup_append.mpr ⟨folks_nodup hd.1, folks_nodup hd.2.1, fun x hx y hy e => ?_⟩⟩
    · have : ∃ X, (X ∈ a.gr ∨ X ∈ b.gr) ∧ X.folk = (nd a b).folk := by
        rcases List.mem_append.mp h with h | h
        · obtain ⟨X, h1, h2⟩ := List.mem_map.mp h
          exact ⟨X, .inl h1, h2⟩
        · obtain ⟨X, h1, h2⟩ := List.mem_map.mp h
          exact ⟨X, .inr h1, h2⟩
      obtain ⟨X, h1, h2⟩ := this
      have hl := congrArg List.length h2
      rw [len_folk, len_folk] at hl
      simp only [lv, List.length_append] at hl
      have := a.lv_pos
      have := b.lv_pos
      rcases h1 with h1 | h1
      · have := (gr_sublist h1).length_le; omega
      · have := (gr_sublist h1).length_le; omega
    · subst e
      obtain ⟨X, h1, h2⟩ := List.mem_map.mp hx
      obtain ⟨Y, h3, h4⟩ := List.mem_map.mp hy
      have := mem_folk.mp (h4 ▸ h2 ▸ mem_folk.mpr X.mn_mem : X.mn ∈ Y.folk)
      exact hd.2.2 _ ((gr_sublist h1).subset X.mn_mem) _ ((gr_sublist h3).subset this) rfl
theorem mem_lots {t : Nest} {g : List Int} : g ∈ t.lots ↔ ∃ X ∈ t.gr, X.folk = g := by
  unfold lots; rw [mem_sR, List.mem_map]
theorem len_lots (t : Nest) : t.lots.length + 1 = t.lv.length := by
  unfold lots; rw [len_sR, List.length_map]; exact t.gr_length
theorem lots_nodup {t : Nest} (hn : t.lv.Nodup) : t.lots.Nodup := (sR_perm _).nodup_iff.mpr (folks_nodup hn)
theorem lots_asc {t : Nest} (hn : t.lv.Nodup) : t.lots.Pairwise (fun a b => ltI a b = true) := by
  refine ((sR_sorted _).and (lots_nodup hn)).imp @fun a b ⟨h1, h2⟩ => ?_
  cases q : ltI a b with
  | true => rfl
  | false =>
    unfold leI at h1
    rw [Bool.not_eq_true'] at h1
    exact absurd (ltI_total a b q h1) h2
theorem folk_asc {t : Nest} (hn : t.lv.Nodup) : t.folk.Pairwise (· < ·) := asc_sZ hn
theorem first_of {t a b N : Nest} {h : Int} {r : List Int} (hn : t.lv.Nodup) (hN : N ∈ t.gr) (hs : ∀ X, X ∈ N.gr → X = N ∨ X ∈ a.gr ∨ X ∈ b.gr) (ha : ∀ X ∈ a.gr, X ∈ N.gr) (hl : a.lv.length < N.lv.length)
    (hd : ∀ x ∈ a.lv, x ∉ b.lv) (e : N.folk = h :: r) (hh : h ∈ a.lv) : firstOf t.lots (h :: r) h = a.folk := by
  have cand : ∀ o ∈ t.lots, o.length < (h :: r).length → h ∈ o → ∃ X ∈ a.gr, X.folk = o := by
    intro o ho h1 h2
    obtain ⟨X, hX, rfl⟩ := mem_lots.mp ho
    rw [← e, len_folk, len_folk] at h1
    have h2 := mem_folk.mp h2
    have hhN : h ∈ N.lv := mem_folk.mp (e ▸ List.mem_cons_self)
    rcases lam hn hX hN with q | q | q
    · rcases hs X q with rfl | q | q
      · omega
      · exact ⟨X, q, rfl⟩
      · exact absurd ((gr_sublist q).subset h2) (hd h hh)
    · have := (gr_sublist q).length_le; omega
    · exact absurd hhN (q h h2)
  unfold firstOf
  cases a with
  | lf i =>
    have : h = i := by simpa [lv] using hh
    subst this
    rw [fold_none]
    · show [h] = sZ [h]
      exact (sZ_asc (List.pairwise_singleton _ _)).symm
    · rintro o ho ⟨h1, h2, h3⟩
      obtain ⟨X, hX, _⟩ := cand o ho h2 h3
      simp [gr] at hX
  | nd c d =>
    refine fold_best ?_ (mem_folk.mpr hh) ?_ (.inl ⟨?_, ?_⟩)
    · rw [← e, len_folk, len_folk]; exact hl
    · intro o ho h2 h3
      obtain ⟨X, hX, rfl⟩ := cand o ho h2 h3
      rcases gr_len hX with rfl | q
      · exact .inr rfl
      · left; rw [len_folk, len_folk]; exact q
    · rw [len_folk]
      exact gr_two (gr_self c d)
    · exact mem_lots.mpr ⟨_, gr_trans hN (ha _ (gr_self c d)), rfl⟩
theorem rest_of {t a b N : Nest} {h : Int} {r : List Int} (hnN : N.lv.Nodup) (hb : b.lv.Nodup) (hm : ∀ x, x ∈ N.lv ↔ x ∈ a.lv ∨ x ∈ b.lv)
    (hd : ∀ x ∈ a.lv, x ∉ b.lv) (e : N.folk = h :: r) (hf : firstOf t.lots (h :: r) h = a.folk) : restOf t.lots h r = b.folk := by
  unfold restOf
  rw [hf, ← e]
  refine asc_ext (asc_filter (folk_asc hnN)) (folk_asc hb) fun x => ?_
  rw [List.mem_filter, mem_folk, hm]
  simp only [Bool.not_eq_true', decide_eq_false_iff_not, mem_folk]
  constructor
  · rintro ⟨h1 | h1, h2⟩
    · exact absurd h1 h2
    · exact h1
  · intro h1
    exact ⟨.inr h1, fun q => hd x q h1⟩
/-- both parts of a lot -/
theorem parts_of {t a b : Nest} {h : Int} {r : List Int} (hn : t.lv.Nodup) (hN : nd a b ∈ t.gr) (e : (nd a b).folk = h :: r) :
    (h ∈ a.lv ∧ firstOf t.lots (h :: r) h = a.folk ∧ restOf t.lots h r = b.folk) ∨ (h ∈ b.lv ∧ firstOf t.lots (h :: r) h = b.folk ∧ restOf t.lots h r = a.folk) := by
  have hnN := gr_nodup hN hn
  have hd := List.nodup_append.mp hnN
  have hh : h ∈ a.lv ++ b.lv := (head_sZ e).1
  have := a.lv_pos
  have := b.lv_pos
  rcases List.mem_append.mp hh with q | q
  · have d1 : ∀ x ∈ a.lv, x ∉ b.lv := fun x h1 h2 => hd.2.2 x h1 x h2 rfl
    have := first_of (a := a) (b := b) hn hN (fun X h => by simpa [gr] using h) (fun X h => by simp [gr, h]) (by simp only [lv, List.length_append]; omega) d1 e q
    exact .inl ⟨q, this, rest_of (a := a) hnN hd.2.1 (fun x => by simp [lv]) d1 e this⟩
  · have d1 : ∀ x ∈ b.lv, x ∉ a.lv := fun x h1 h2 => hd.2.2 x h2 x h1 rfl
    have := first_of (a := b) (b := a) hn hN (fun X h => by simp only [gr, List.mem_cons, List.mem_append] at h; rcases h with h | h | h <;> simp [h]) (fun X h => by simp [gr, h]) (by simp only [lv, List.length_append]; omega) d1 e q
    exact .inr ⟨q, this, rest_of (a := b) hnN hd.1 (fun x => by simp [lv, or_comm]) d1 e this⟩
theorem part_ok {t c : Nest} (hc : ∀ X ∈ c.gr, X ∈ t.gr) : c.folk.length = 1 ∨ c.folk ∈ t.lots := by
  cases c with
  | lf i => left; rw [len_folk]; rfl
  | nd a b => right; exact mem_lots.mpr ⟨_, hc _ (gr_self a b), rfl⟩
theorem partsB_of {t N : Nest} (hn : t.lv.Nodup) (hN : N ∈ t.gr) : partsB t.lots N.folk = true := by
  obtain ⟨a, b, rfl⟩ := gr_nd hN
  cases e : (nd a b).folk with
  | nil => rfl
  | cons h r =>
    have ga : ∀ X ∈ a.gr, X ∈ t.gr := fun X hX => gr_trans hN (by simp [gr, hX])
    have gb : ∀ X ∈ b.gr, X ∈ t.gr := fun X hX => gr_trans hN (by simp [gr, hX])
    unfold partsB
    rw [Bool.and_eq_true, List.all_eq_true, Bool.or_eq_true, decide_eq_true_eq, decide_eq_true_eq]
    rcases parts_of hn hN e with ⟨_, h1, h2⟩ | ⟨_, h1, h2⟩
    · rw [h1, h2]
      exact ⟨fun x hx => decide_eq_true (e ▸ mem_folk.mpr (List.mem_append_left _ (mem_folk.mp hx))), part_ok gb⟩
    · rw [h1, h2]
      exact ⟨fun x hx => decide_eq_true (e ▸ mem_folk.mpr (List.mem_append_right _ (mem_folk.mp hx))), part_ok ga⟩
theorem Of.folk {t : Nest} {n : Nat} (h : t.Of n) : t.folk = comp n := asc_ext (folk_asc h.nodup) (comp_asc n) fun x => by rw [mem_folk, h.mem, mem_comp]
/-- the lots of a nest are a parting -/
theorem Of.parting {t : Nest} {n : Nat} (h : t.Of n) (hn : n ≤ 20) : Parting t.lots := by
  have hl : t.lots.length + 1 = n := by rw [len_lots, h.len]
  refine ⟨by omega, fun g hg => ?_, pairwise_zip (lots_asc h.nodup), ?_, fun g hg => ?_⟩
  · obtain ⟨X, hX, rfl⟩ := mem_lots.mp hg
    refine ⟨rowB_iff.mpr ⟨fun x hx => ?_, folk_asc (gr_nodup hX h.nodup)⟩, by rw [len_folk]; exact gr_two hX, ?_⟩
    · have := h.mem.mp ((gr_sublist hX).subset (mem_folk.mp hx))
      omega
    · have := (gr_sublist hX).length_le
      rw [len_folk]
      have := h.len
      omega
  · cases t with
    | lf i => exact .inl (List.eq_nil_of_length_eq_zero (by rw [show (lf i).lots.length = ((lf i).gr.map Nest.folk).length from len_sR _]; rfl))
    | nd a b => rw [hl]; exact .inr (mem_lots.mpr ⟨_, gr_self a b, h.folk⟩)
  · obtain ⟨X, hX, rfl⟩ := mem_lots.mp hg
    exact partsB_of h.nodup hX
end Nest
end J
namespace J
/-! ### cut to some persons -/
def enI : Int → List Int → List (Int × Int)
  | _, [] => []
  | n, x :: r => (n, x) :: enI (n + 1) r
theorem mem_enI {x p : Int} : ∀ {k : List Int} {n : Int}, (p, x) ∈ enI n k ↔ ∃ i : Nat, k[i]? = some x ∧ p = n + i
  | [], n => by simp [enI]
  | y :: r, n => by
    rw [enI, List.mem_cons, mem_enI]
    constructor
    · rintro (h | ⟨i, h1, h2⟩)
      · injection h with h1 h2
        exact ⟨0, by simp [h2], by omega⟩
      · exact ⟨i + 1, by simpa using h1, by omega⟩
    · rintro ⟨i, h1, h2⟩
      cases i with
      | zero =>
        left
        simp at h1
        subst h1
        exact Prod.ext (by simp at h2; exact h2) rfl
      | succ i => exact .inr ⟨i, by simpa using h1, by omega⟩
theorem enI_asc : ∀ (k : List Int) (n : Int), (enI n k).Pairwise (fun a b => a.1 < b.1)
  | [], n => .nil
  | y :: r, n => by
    rw [enI]
    refine List.pairwise_cons.mpr ⟨fun q hq => ?_, enI_asc r (n + 1)⟩
    obtain ⟨i, _, h⟩ := mem_enI.mp (show (q.1, q.2) ∈ _ from hq)
    show n < q.1
    omega
theorem enI_len : ∀ (k : List Int) (n : Int), (enI n k).length = k.length
  | [], n => rfl
  | y :: r, n => by rw [enI, List.length_cons, enI_len r, List.length_cons]
/-- the places of those in g -/
def pl (k g : List Int) : List Int := ((enI 0 k).filter fun p => decide (p.2 ∈ g)).map (·.1)
theorem mem_pl {k g : List Int} {p : Int} : p ∈ pl k g ↔ ∃ (i : Nat) (x : Int), k[i]? = some x ∧ x ∈ g ∧ p = i := by
  unfold pl
  rw [List.mem_map]
  constructor
  · rintro ⟨⟨a, b⟩, h1, rfl⟩
    obtain ⟨h2, h3⟩ := List.mem_filter.mp h1
    obtain ⟨i, h4, h5⟩ := mem_enI.mp h2
    exact ⟨i, b, h4, of_decide_eq_true h3, by simp; omega⟩
  · rintro ⟨i, x, h1, h2, rfl⟩
    exact ⟨(i, x), List.mem_filter.mpr ⟨mem_enI.mpr ⟨i, h1, by omega⟩, decide_eq_true h2⟩, rfl⟩
theorem pl_asc (k g : List Int) : (pl k g).Pairwise (· < ·) := by
  unfold pl
  rw [List.pairwise_map]
  exact (enI_asc k 0).filter _
theorem pl_len (k g : List Int) : (pl k g).length ≤ k.length := by
  unfold pl
  rw [List.length_map]
  have := List.length_filter_le (fun p : Int × Int => decide (p.2 ∈ g)) (enI 0 k)
  rw [enI_len] at this
  exact this
theorem pl_congr {k g h : List Int} (e : ∀ x, x ∈ g ↔ x ∈ h) : pl k g = pl k h :=
  asc_ext (pl_asc _ _) (pl_asc _ _) fun x => by
    rw [mem_pl, mem_pl]
    constructor
    · rintro ⟨i, y, h1, h2, h3⟩; exact ⟨i, y, h1, (e y).mp h2, h3⟩
    · rintro ⟨i, y, h1, h2, h3⟩; exact ⟨i, y, h1, (e y).mpr h2, h3⟩
theorem pl_nil (k : List Int) : pl k [] = [] := asc_ext (pl_asc _ _) .nil fun x => by
  rw [mem_pl]
  simp
def cutStep (k : List Int) (found : List (List Int)) (g : List Int) : List (List Int) := if 1 < (pl k g).length ∧ pl k g ∉ found then found ++ [pl k g] else found
def cutBy (ls : List (List Int)) (k : List Int) : List (List Int) := sR (ls.foldl (cutStep k) [])
theorem cutFold (k : List Int) : ∀ (ls f : List (List Int)), f.Nodup → (ls.foldl (cutStep k) f).Nodup ∧ ∀ g, g ∈ ls.foldl (cutStep k) f ↔ g ∈ f ∨ ∃ h ∈ ls, 1 < (pl k h).length ∧ g = pl k h
  | [], f, hf => ⟨hf, fun g => by simp⟩
  | o :: ls, f, hf => by
    rw [List.foldl_cons]
    have step : (cutStep k f o).Nodup ∧ ∀ g, g ∈ cutStep k f o ↔ g ∈ f ∨ (1 < (pl k o).length ∧ g = pl k o) := by
      unfold cutStep
      split
      · rename_i c
        refine ⟨List.nodup_append.mpr ⟨hf, List.nodup_cons.mpr ⟨List.not_mem_nil, List.nodup_nil⟩, fun x hx y hy e => ?_⟩, fun g => ?_⟩
        · rw [List.mem_singleton] at hy
          subst hy; subst e
          exact c.2 hx
        · rw [List.mem_append, List.mem_singleton]
          exact ⟨fun h => h.imp id fun h => ⟨c.1, h⟩, fun h => h.imp id fun h => h.2⟩
      · rename_i c
        refine ⟨hf, fun g => ⟨.inl, fun h => ?_⟩⟩
        rcases h with h | ⟨h1, rfl⟩
        · exact h
        · by_cases q : pl k o ∈ f
          · exact q
          · exact absurd ⟨h1, q⟩ c
    obtain ⟨h1, h2⟩ := cutFold k ls (cutStep k f o) step.1
    refine ⟨h1, fun g => ?_⟩
    rw [h2 g, step.2 g]
    constructor
    · rintro ((h | ⟨h3, h4⟩) | ⟨h, h3, h4⟩)
      · exact .inl h
      · exact .inr ⟨o, List.mem_cons_self, h3, h4⟩
      · exact .inr ⟨h, List.mem_cons_of_mem _ h3, h4⟩
    · rintro (h | ⟨h, h3, h4⟩)
      · exact .inl (.inl h)
      · rcases List.mem_cons.mp h3 with rfl | h3
        · exact .inl (.inr h4)
        · exact .inr ⟨h, h3, h4⟩
theorem cutFold_len (k : List Int) : ∀ (ls f : List (List Int)), (ls.foldl (cutStep k) f).length ≤ f.length + ls.length
  | [], f => by simp
  | o :: ls, f => by
    rw [List.foldl_cons]
    have := cutFold_len k ls (cutStep k f o)
    have h2 : (cutStep k f o).length ≤ f.length + 1 := by
      unfold cutStep
      split
      · simp
      · omega
    rw [List.length_cons]
    omega
theorem idxOf_get {l : List Int} (h : l.Nodup) {i : Nat} {x : Int} (e : l[i]? = some x) : l.idxOf x = i := by
  obtain ⟨hi, rfl⟩ := List.getElem?_eq_some_iff.mp e
  exact h.idxOf_getElem i hi
theorem get_idxOf {l : List Int} {x : Int} (h : x ∈ l) : l[l.idxOf x]? = some x := by
  have := List.idxOf_lt_length_of_mem h
  rw [List.getElem?_eq_getElem this, List.getElem_idxOf]
namespace Nest
def cut (k : List Int) : Nest → Option Nest
  | lf i => if i ∈ k then some (lf (k.idxOf i)) else none
  | nd a b => match cut k a, cut k b with
    | some x, some y => some (nd x y)
    | some x, none => some x
    | none, some y => some y
    | none, none => none
def oLv : Option Nest → List Int
  | none => []
  | some t => t.lv
def oFk : Option Nest → List (List Int)
  | none => []
  | some t => t.gr.map folk
theorem cut_lv (k : List Int) : ∀ t : Nest, oLv (cut k t) = (t.lv.filter fun x => decide (x ∈ k)).map fun x => (k.idxOf x : Int)
  | lf i => by
    unfold cut
    by_cases h : i ∈ k
    · rw [if_pos h]; simp [oLv, lv, h]
    · rw [if_neg h]; simp [oLv, lv, h]
  | nd a b => by
    have h1 := cut_lv k a
    have h2 := cut_lv k b
    rw [lv, List.filter_append, List.map_append, ← h1, ← h2, cut]
    cases cut k a <;> cases cut k b <;> simp [oLv, lv]
theorem mem_cut {k : List Int} (hk : k.Nodup) {t : Nest} {p : Int} : p ∈ oLv (cut k t) ↔ p ∈ pl k t.lv := by
  rw [cut_lv, List.mem_map, mem_pl]
  constructor
  · rintro ⟨x, h1, rfl⟩
    obtain ⟨h2, h3⟩ := List.mem_filter.mp h1
    exact ⟨_, x, get_idxOf (of_decide_eq_true h3), h2, rfl⟩
  · rintro ⟨i, x, h1, h2, rfl⟩
    have : x ∈ k := List.mem_of_getElem? h1
    exact ⟨x, List.mem_filter.mpr ⟨h2, decide_eq_true this⟩, by rw [idxOf_get hk h1]⟩
theorem cut_nodup {k : List Int} {t : Nest} (ht : t.lv.Nodup) : (oLv (cut k t)).Nodup := by
  rw [cut_lv]
  refine List.pairwise_map.mpr ?_
  refine (ht.filter (fun x => decide (x ∈ k))).imp_of_mem fun {x y} hx hy h e => h ?_
  have hx := of_decide_eq_true (List.mem_filter.mp hx).2
  have hy := of_decide_eq_true (List.mem_filter.mp hy).2
  have h1 := get_idxOf hx
  have h2 := get_idxOf hy
  rw [show k.idxOf x = k.idxOf y by omega, h2] at h1
  injection h1 with h1
  exact h1.symm
theorem cut_folk {k : List Int} (hk : k.Nodup) {t u : Nest} (ht : t.lv.Nodup) (e : cut k t = some u) : u.folk = pl k t.lv := by
  have h1 := cut_nodup (k := k) ht
  rw [e] at h1
  refine asc_ext (folk_asc h1) (pl_asc _ _) fun x => ?_
  rw [mem_folk, ← mem_cut hk, e]
  rfl
theorem cut_none {k : List Int} (hk : k.Nodup) {t : Nest} (e : cut k t = none) : pl k t.lv = [] := by
  refine asc_ext (pl_asc _ _) .nil fun x => ?_
  rw [← mem_cut hk, e]
  rfl
theorem pl_left {k : List Int} (hk : k.Nodup) {a b : Nest} (e : cut k b = none) : pl k (nd a b).lv = pl k a.lv := by
  refine asc_ext (pl_asc _ _) (pl_asc _ _) fun x => ?_
  have := cut_none hk e
  have h2 : ∀ p, p ∉ pl k b.lv := fun p => by rw [this]; exact List.not_mem_nil
  rw [mem_pl, mem_pl]
  constructor
  · rintro ⟨i, y, h1, h3, h4⟩
    rcases List.mem_append.mp h3 with h3 | h3
    · exact ⟨i, y, h1, h3, h4⟩
    · exact absurd (mem_pl.mpr ⟨i, y, h1, h3, h4⟩) (h2 _)
  · rintro ⟨i, y, h1, h3, h4⟩
    exact ⟨i, y, h1, List.mem_append_left _ h3, h4⟩
theorem pl_right {k : List Int} (hk : k.Nodup) {a b : Nest} (e : cut k a = none) : pl k (nd a b).lv = pl k b.lv := by
  rw [← pl_left (a := b) (b := a) hk e]
  exact pl_congr fun x => by simp [lv, or_comm]
theorem folk_gr {t : Nest} (h : 1 < t.folk.length) : t.folk ∈ t.gr.map folk := by
  cases t with
  | lf i => rw [len_folk] at h; simp [lv] at h
  | nd a b => exact List.mem_map.mpr ⟨_, gr_self a b, rfl⟩
theorem cut_gr {k : List Int} (hk : k.Nodup) : ∀ {t : Nest}, t.lv.Nodup → ∀ g, g ∈ oFk (cut k t) ↔ ∃ X ∈ t.gr, 1 < (pl k X.lv).length ∧ g = pl k X.lv
  | lf i, ht, g => by
    unfold cut
    split
    · simp [oFk, gr]
    · simp [oFk, gr]
  | nd a b, ht, g => by
    have hd := List.nodup_append.mp ht
    have ia := cut_gr hk hd.1 g
    have ib := cut_gr hk hd.2.1 g
    have split3 : (∃ X ∈ (nd a b).gr, 1 < (pl k X.lv).length ∧ g = pl k X.lv) ↔ ((1 < (pl k (nd a b).lv).length ∧ g = pl k (nd a b).lv) ∨ g ∈ oFk (cut k a) ∨ g ∈ oFk (cut k b)) := by
      rw [ia, ib]
      constructor
      · rintro ⟨X, h1, h2⟩
        simp only [gr, List.mem_cons, List.mem_append] at h1
        rcases h1 with rfl | h1 | h1
        · exact .inl h2
        · exact .inr (.inl ⟨X, h1, h2⟩)
        · exact .inr (.inr ⟨X, h1, h2⟩)
      · rintro (h | ⟨X, h1, h2⟩ | ⟨X, h1, h2⟩)
        · exact ⟨_, gr_self a b, h⟩
        · exact ⟨X, by simp [gr, h1], h2⟩
        · exact ⟨X, by simp [gr, h1], h2⟩
    rw [split3]
    cases ea : cut k a with
    | none =>
      cases eb : cut k b with
      | none =>
        have e : cut k (nd a b) = none := by rw [cut, ea, eb]
        rw [e, pl_left hk eb, cut_none hk ea]
        simp [oFk]
      | some y =>
        have e : cut k (nd a b) = some y := by rw [cut, ea, eb]
        rw [e, pl_right hk ea, ← cut_folk hk hd.2.1 eb]
        constructor
        · exact fun h => .inr (.inr h)
        · rintro (⟨h1, rfl⟩ | h | h)
          · exact folk_gr h1
          · exact absurd h List.not_mem_nil
          · exact h
    | some x =>
      cases eb : cut k b with
      | none =>
        have e : cut k (nd a b) = some x := by rw [cut, ea, eb]
        rw [e, pl_left hk eb, ← cut_folk hk hd.1 ea]
        constructor
        · exact fun h => .inr (.inl h)
        · rintro (⟨h1, rfl⟩ | h | h)
          · exact folk_gr h1
          · exact h
          · exact absurd h List.not_mem_nil
      | some y =>
        have e : cut k (nd a b) = some (nd x y) := by rw [cut, ea, eb]
        rw [e, ← cut_folk hk ht e]
        show g ∈ (nd x y).folk :: (x.gr ++ y.gr).map folk ↔ _
        rw [List.map_append, List.mem_cons, List.mem_append]
        constructor
        · rintro (h | h | h)
          · refine .inl ⟨?_, h⟩
            rw [len_folk]; exact gr_two (gr_self x y)
          · exact .inr (.inl h)
          · exact .inr (.inr h)
        · rintro (⟨_, h⟩ | h | h)
          · exact .inl h
          · exact .inr (.inl h)
          · exact .inr (.inr h)
/-- the lots of a nest that is cut are its lots, cut -/
theorem cutBy_lots {k : List Int} (hk : k.Nodup) {t u : Nest} (ht : t.lv.Nodup) (e : cut k t = some u) : cutBy t.lots k = u.lots := by
  have h1 := cut_nodup (k := k) ht
  rw [e] at h1
  obtain ⟨f1, f2⟩ := cutFold k t.lots [] List.nodup_nil
  refine sR_ext f1 (folks_nodup h1) fun g => ?_
  have := cut_gr hk ht g
  rw [e] at this
  rw [f2 g]
  show _ ↔ g ∈ oFk (some u)
  rw [this]
  constructor
  · rintro (h | ⟨h, h2, h3⟩)
    · exact absurd h List.not_mem_nil
    · obtain ⟨X, hX, rfl⟩ := mem_lots.mp h2
      rw [pl_congr (fun x => mem_folk)] at h3
      exact ⟨X, hX, h3⟩
  · rintro ⟨X, hX, h3⟩
    rw [← pl_congr (fun x => mem_folk)] at h3
    exact .inr ⟨X.folk, mem_lots.mpr ⟨X, hX, rfl⟩, h3⟩
theorem pl_full {k g : List Int} (h : ∀ x ∈ k, x ∈ g) : pl k g = comp k.length := by
  refine asc_ext (pl_asc _ _) (comp_asc _) fun x => ?_
  rw [mem_pl, mem_comp]
  constructor
  · rintro ⟨i, y, h1, _, rfl⟩
    obtain ⟨h2, _⟩ := List.getElem?_eq_some_iff.mp h1
    omega
  · rintro ⟨h1, h2⟩
    have h3 : x.toNat < k.length := by omega
    exact ⟨x.toNat, k[x.toNat], List.getElem?_eq_getElem h3, h _ (List.getElem_mem h3), by omega⟩
theorem Of.cut {t : Nest} {n : Nat} (h : t.Of n) {k : List Int} (hk : k.Nodup) (h1 : k ≠ []) (h2 : ∀ x ∈ k, 0 ≤ x ∧ x < n) : ∃ u, t.cut k = some u ∧ u.Of k.length := by
  have hp : pl k t.lv = comp k.length := pl_full fun x hx => h.mem.mpr (h2 x hx)
  cases e : t.cut k with
  | none =>
    have := cut_none hk e
    rw [hp] at this
    have := congrArg List.length this
    rw [comp_len] at this
    exact absurd (List.eq_nil_of_length_eq_zero this) h1
  | some u =>
    refine ⟨u, rfl, ?_⟩
    have h3 := cut_folk hk h.nodup e
    rw [hp] at h3
    exact (sZ_perm u.lv).symm.trans (by show (u.folk).Perm _; rw [h3])
/-- what is called by its place among those kept -/
def sel (k m : List Int) : List Int := m.map fun s => k.getD s.toNat 0
theorem cut_sel {k m : List Int} (hk : k.Nodup) (hm : m.Nodup) (h : ∀ x ∈ m, 0 ≤ x ∧ x < k.length) {i : Int} (hi : i ∈ k) : ((k.idxOf i : Int) ∈ m ↔ i ∈ sel k m) ∧ ((k.idxOf i : Int) ∈ m → m.idxOf (k.idxOf i : Int) = (sel k m).idxOf i) ∧ (sel k m).Nodup := by
  have hs : ∀ s ∈ m, k[s.toNat]? = some (k.getD s.toNat 0) := fun s hs => by
    have := h s hs
    rw [List.getD_eq_getElem?_getD, List.getElem?_eq_getElem (show s.toNat < k.length by omega)]
    rfl
  have hnd : (sel k m).Nodup := by
    refine List.pairwise_map.mpr (hm.imp_of_mem fun {x y} hx hy hne e => hne ?_)
    have h1 := hs x hx
    have h2 := hs y hy
    rw [e] at h1
    have := idxOf_get hk h1
    have := idxOf_get hk h2
    have := h x hx
    have := h y hy
    omega
  have hmem : (k.idxOf i : Int) ∈ m ↔ i ∈ sel k m := by
    unfold sel
    rw [List.mem_map]
    constructor
    · intro q
      refine ⟨_, q, ?_⟩
      have h1 := hs _ q
      have h2 := get_idxOf hi
      rw [show ((k.idxOf i : Nat) : Int).toNat = k.idxOf i by omega] at h1 ⊢
      rw [h2] at h1
      injection h1 with h1
      exact h1.symm
    · rintro ⟨s, q, e⟩
      have h1 := hs s q
      rw [e] at h1
      have h2 := idxOf_get hk h1
      have := h s q
      rw [h2, show ((s.toNat : Nat) : Int) = s by omega]
      exact q
  refine ⟨hmem, fun q => ?_, hnd⟩
  have h1 := get_idxOf q
  symm
  refine idxOf_get hnd ?_
  unfold sel
  rw [List.getElem?_map, h1]
  show some (k.getD ((k.idxOf i : Nat) : Int).toNat 0) = some i
  rw [show ((k.idxOf i : Nat) : Int).toNat = k.idxOf i by omega, List.getD_eq_getElem?_getD, get_idxOf hi]
  rfl
theorem sel_sub {k m : List Int} (h : ∀ x ∈ m, 0 ≤ x ∧ x < k.length) : ∀ x ∈ sel k m, x ∈ k := by
  intro x hx
  unfold sel at hx
  obtain ⟨s, hs, rfl⟩ := List.mem_map.mp hx
  have := h s hs
  have h3 : s.toNat < k.length := by omega
  rw [List.getD_eq_getElem?_getD, List.getElem?_eq_getElem h3]
  exact List.getElem_mem h3
/-- cut twice is as cut once -/
theorem cut_cut {k m : List Int} (hk : k.Nodup) (hm : m.Nodup) (h : ∀ x ∈ m, 0 ≤ x ∧ x < k.length) : ∀ t : Nest, (cut k t).bind (cut m) = cut (sel k m) t
  | lf i => by
    rw [cut]
    by_cases hi : i ∈ k
    · rw [if_pos hi]
      obtain ⟨h1, h2, _⟩ := cut_sel hk hm h hi
      show cut m (lf _) = _
      rw [cut, cut]
      by_cases q : (k.idxOf i : Int) ∈ m
      · rw [if_pos q, if_pos (h1.mp q), h2 q]
      · rw [if_neg q, if_neg (fun z => q (h1.mpr z))]
    · rw [if_neg hi, cut, if_neg (fun z => hi (sel_sub h i z))]
      rfl
  | nd a b => by
    have ia := cut_cut hk hm h a
    have ib := cut_cut hk hm h b
    rw [cut, cut, ← ia, ← ib]
    cases ea : cut k a with
    | none =>
      cases eb : cut k b with
      | none => rfl
      | some y =>
        show cut m y = _
        simp only [Option.bind_none, Option.bind_some]
        cases cut m y <;> rfl
    | some x =>
      cases eb : cut k b with
      | none =>
        show cut m x = _
        simp only [Option.bind_none, Option.bind_some]
        cases cut m x <;> rfl
      | some y =>
        show cut m (nd x y) = _
        rw [cut]
        rfl
theorem idx_comp {n : Nat} {x : Int} (h : 0 ≤ x ∧ x < n) : ((comp n).idxOf x : Int) = x := by
  have : (comp n)[x.toNat]? = some x := by
    unfold comp
    rw [List.getElem?_map, List.getElem?_range (by omega)]
    show some ((x.toNat : Nat) : Int) = _
    rw [show ((x.toNat : Nat) : Int) = x by omega]
  rw [idxOf_get (comp_nodup n) this]
  omega
/-- all are kept -/
theorem cut_comp {n : Nat} : ∀ t : Nest, (∀ x ∈ t.lv, 0 ≤ x ∧ x < n) → cut (comp n) t = some t
  | lf i, h => by
    have := h i (by simp [lv])
    rw [cut, if_pos (mem_comp.mpr this), idx_comp this]
  | nd a b, h => by
    rw [cut, cut_comp a (fun x hx => h x (List.mem_append_left _ hx)), cut_comp b (fun x hx => h x (List.mem_append_right _ hx))]
theorem Of.lots_len {t : Nest} {n : Nat} (h : t.Of n) : t.lots.length + 1 = n := by rw [len_lots, h.len]
end Nest
end J
namespace J
open PySem PySem.Spec PyProof.Rows L2
theorem rgD_comp (n : Nat) : rgD 0 1 n = (comp n).map PyData.int := by
  unfold rgD comp
  rw [List.map_map]
  refine List.map_congr_left fun i _ => ?_
  simp
theorem inRg_nat {n : Nat} (hn : n ≤ 16777216) : inRg (n : Int) = true := by
  unfold inRg
  rw [Bool.and_eq_true, decide_eq_true_eq, decide_eq_true_eq]
  omega
theorem r1_eq {f : Ev} {vw : VW} {s s1 : STO} {j : Int} (h : f vw s = some (.int j, s1)) : r1 f vw s = if inRg j = true then some ((0, j), s1) else none := by
  unfold r1
  rw [h]
  rfl
theorem r1_ok {f : Ev} {vw : VW} {s s1 : STO} {n : Nat} (h : f vw s = some (.int (n : Int), s1)) (hn : n ≤ 16777216) : r1 f vw s = some ((0, (n : Int)), s1) :=
  (r1_eq h).trans (if_pos (inRg_nat hn))
theorem rg1_eq {j : Int} : rg1 (.int j) = if inRg j = true then some (rgD 0 1 j.toNat) else none := rfl
theorem rg2_eq {i j : Int} : rg2 (.int i) (.int j) = if inRg i = true ∧ inRg j = true then some (rgD i 1 (j - i).toNat) else none := rfl
theorem rg1_ok {n : Nat} (hn : n ≤ 16777216) : rg1 (.int (n : Int)) = some ((comp n).map PyData.int) := by
  refine (rg1_eq.trans (if_pos (inRg_nat hn))).trans ?_
  have h2 : (n : Int).toNat = n := by omega
  rw [h2, rgD_comp]
theorem eLRg_comp {f : Ev} {vw : VW} {s s1 : STO} {n : Nat} (h : f vw s = some (.int (n : Int), s1)) (hn : n ≤ 16777216) : eLRg (r1 f) vw s = some (dI (comp n), s1) := by
  unfold eLRg
  rw [r1_ok h hn]
  simp only [Option.bind_some]
  have h2 : ((n : Int) - 0).toNat = n := by omega
  rw [h2, rgD_comp]
  exact if_pos ⟨by omega, by omega, by omega, by omega, hn⟩
end J
namespace J
open PySem PySem.Spec PyProof.Rows L2
theorem enD_eq : ∀ (k : List Int) (n : Nat), enD (k.map PyData.int) n = (enI n k).map fun p => .tuple [.int p.1, .int p.2]
  | [], n => rfl
  | x :: r, n => by
    rw [List.map_cons, enD, enD_eq r (n + 1), enI, List.map_cons]
    rfl
end J
namespace J
open PySem PySem.Spec PyProof.Rows L2
/-! ### a pouch of three numbers, in a cell -/
abbrev pchC (a b c : Int) : Cell := .lst [.int a, .int b, .int c]
/-- a pouch that has been asked at most n times, behind the cells p and ahead of the cells q -/
def Good (n : Nat) (p q s : STO) : Prop := ∃ a b c : Int, s = p ++ pchC a b c :: q ∧ 0 ≤ a ∧ 0 ≤ b ∧ b < 2 ^ 200 ∧ 0 ≤ c ∧ c ≤ n
theorem Good.mono {n m : Nat} {p q s : STO} (h : Good n p q s) (hl : n ≤ m) : Good m p q s := by
  obtain ⟨a, b, c, e, h1, h2, h3, h4, h5⟩ := h
  exact ⟨a, b, c, e, h1, h2, h3, h4, by omega⟩
theorem Good.len {n : Nat} {p q s : STO} (h : Good n p q s) : s.length = p.length + 1 + q.length := by
  obtain ⟨a, b, c, rfl, _⟩ := h
  rw [List.length_append, List.length_cons]; omega
theorem Good.fin {n m : Nat} {p q s s' : STO} (h : Good n p q s) (h' : Good m p q s') (d : D) : fin s d s' = some (d, s') := fin_len d (by rw [h.len, h'.len])
theorem mid_get {p q : STO} {c : Cell} : (p ++ c :: q)[p.length]? = some c := by rw [List.getElem?_append_right (Nat.le_refl _), Nat.sub_self]; rfl
theorem mid_set {p q : STO} {c e : Cell} : (p ++ c :: q).set p.length e = p ++ e :: q := by rw [List.set_append_right _ _ (Nat.le_refl _), Nat.sub_self]; rfl
theorem mid_cell {p q : STO} {ds : List D} : cellL (p ++ .lst ds :: q) p.length = some ds := by unfold cellL; rw [mid_get]
theorem natAbs_lt {i : Int} {n : Nat} (h0 : 0 ≤ i) (h1 : i < (n : Int)) : i.natAbs < n := by omega
theorem dGt_t {i j : Int} (h : j < i) : dGt (.int i) (.int j) = some (.bool true) := by show some (PyData.bool (decide (j < i))) = _; rw [decide_eq_true h]
theorem dGt_f {i j : Int} (h : ¬ j < i) : dGt (.int i) (.int j) = some (.bool false) := by show some (PyData.bool (decide (j < i))) = _; rw [decide_eq_false h]
theorem dLt_t {i j : Int} (h : i < j) : dLt (.int i) (.int j) = some (.bool true) := by show some (PyData.bool (decide (i < j))) = _; rw [decide_eq_true h]
theorem dLt_f {i j : Int} (h : ¬ i < j) : dLt (.int i) (.int j) = some (.bool false) := by show some (PyData.bool (decide (i < j))) = _; rw [decide_eq_false h]
theorem dGe_t {i j : Int} (h : j ≤ i) : dGe (.int i) (.int j) = some (.bool true) := by show some (PyData.bool (decide (j ≤ i))) = _; rw [decide_eq_true h]
theorem dGe_f {i j : Int} (h : ¬ j ≤ i) : dGe (.int i) (.int j) = some (.bool false) := by show some (PyData.bool (decide (j ≤ i))) = _; rw [decide_eq_false h]
theorem dEq_int (i j : Int) : dEq (.int i) (.int j) = some (.bool (decide (i = j))) := by
  show (if SeqAt.shaped (.int i) = true ∧ SeqAt.shaped (.int j) = true then some (PyData.bool (PyData.eqv (.int i) (.int j))) else none) = _
  rw [if_pos ⟨shaped_int i, shaped_int j⟩]
  congr 2
theorem dEq_t {i j : Int} (h : i = j) : dEq (.int i) (.int j) = some (.bool true) := by rw [dEq_int, decide_eq_true h]
theorem dEq_f {i j : Int} (h : i ≠ j) : dEq (.int i) (.int j) = some (.bool false) := by rw [dEq_int, decide_eq_false h]
theorem atI_nat {α : Type} {l : List α} {i : Int} {n : Nat} {x : α} (hi : i = n) (h : l[n]? = some x) : atI l i = some x := by
  subst hi
  have hl := (List.getElem?_eq_some_iff.mp h).1
  unfold atI ixN
  rw [if_pos (by omega), if_pos (by omega), Option.bind_some, show ((n : Int)).toNat = n by omega]
  exact h
theorem ixN_nat {m : Nat} {i : Int} {n : Nat} (hi : i = n) (h : n < m) : ixN m i = some n := by
  subst hi
  unfold ixN
  rw [if_pos (by omega), if_pos (by omega), show ((n : Int)).toNat = n by omega]
section
variable {g h : Sv} {env e1 : Env} {s s1 s2 s3 : STO} {d d1 d2 d3 d' : D} {M : List Nat} {f f1 f2 f3 : Ev} {ds : List D} {vw : VW}
theorem sSto_ok {n : Int} {m j : Nat} (h1 : f3 (see [] env) s = some (d, s1)) (h2 : f1 (see [] env) s1 = some (tokD j, s2)) (h3 : f2 (see [] env) s2 = some (.int n, s3)) (hc : cellL s3 j = some ds) (h4 : ixN ds.length n = some m) : sSto [] f1 f2 f3 env s = some (.nx, env, s3.set j (.lst (ds.set m d))) := by
  unfold sSto
  rw [h1, Option.bind_some, h2, Option.bind_some, isTok_tok, Option.bind_some, h3, Option.bind_some]
  show (cellL s3 j).bind _ = _
  rw [hc, Option.bind_some, h4, Option.map_some, fzIf_nil]
end
end J
namespace J
open PySem PySem.Spec PyProof.Rows L2
/-! ### data of a known depth whose text is of a known length -/
structure Ok (d : D) (n c : Nat) : Prop where
  lay : d.canLay0 = true
  dep : d.depth ≤ n
  sho : d.showable = true
  len : d.shown.length ≤ c
theorem Ok.mono {d : D} {n c m e : Nat} (h : Ok d n c) (h1 : n ≤ m) (h2 : c ≤ e) : Ok d m e := ⟨h.lay, Nat.le_trans h.dep h1, h.sho, Nat.le_trans h.len h2⟩
theorem lay_all {ds : List D} (h : ∀ d ∈ ds, d.canLay0 = true) : PyData.canLayAll0 ds = true := by
  induction ds with
  | nil => rfl
  | cons x r ih => simp only [PyData.canLayAll0, h x List.mem_cons_self, ih fun d hd => h d (List.mem_cons_of_mem _ hd), Bool.and_self]
theorem dep_all {n : Nat} {ds : List D} (h : ∀ d ∈ ds, d.depth ≤ n) : PyData.depthAll ds ≤ n := by
  induction ds with
  | nil => simp [PyData.depthAll]
  | cons x r ih =>
    have h1 := h x List.mem_cons_self
    have h2 := ih fun d hd => h d (List.mem_cons_of_mem _ hd)
    simp only [PyData.depthAll]
    omega
theorem Ok.list {ds : List D} {n c : Nat} (h : ∀ d ∈ ds, Ok d n c) : Ok (.list ds) (n + 1) (2 + (c + 2) * ds.length) := by
  refine ⟨?_, ?_, ?_, shown_list_le fun d hd => (h d hd).len⟩
  · simp only [PyData.canLay0]; exact lay_all fun d hd => (h d hd).lay
  · have := dep_all fun d hd => (h d hd).dep
    simp only [PyData.depth]; omega
  · simp only [PyData.showable]; exact PySem.Spec.showableAll_of fun d hd => (h d hd).sho
theorem Ok.int {x : Int} {k : Nat} (hk : 0 < k) (hk2 : k ≤ 100) (h0 : 0 ≤ x) (h : x < 10 ^ k) : Ok (.int x) 1 k := by
  refine ⟨rfl, by simp [PyData.depth], ?_, ?_⟩
  · simp only [PyData.showable]
    refine decide_eq_true ?_
    by_cases e : x.natAbs = 0
    · rw [e]; decide
    · rw [Nat.log2_lt e]
      have h1 : x.natAbs < 10 ^ k := by
        have : (x.natAbs : Int) < ((10 ^ k : Nat) : Int) := by
          rw [Int.natCast_pow]
          have : (x.natAbs : Int) = x := by omega
          rw [this]
          exact h
        omega
      refine Nat.lt_of_lt_of_le h1 ?_
      refine Nat.le_trans (Nat.pow_le_pow_right (by decide) hk2) ?_
      decide +kernel
  · rw [PyData.shown_int]
    exact toString_length_le h0 hk h
theorem Ok.shaped {d : D} {n c : Nat} (h : Ok d n c) (hn : n ≤ 64 := by decide) : SeqAt.shaped d = true := shaped_of h.lay (Nat.le_trans h.dep hn)
theorem Ok.showOk {d : D} {n c : Nat} (h : Ok d n c) (hn : n ≤ 64) (hc : c ≤ 16777216) : showOk d = true := by
  unfold J.showOk
  rw [h.sho, h.shaped hn, decide_eq_true (Nat.le_trans h.len hc)]
  rfl
theorem Ok.repr {ds : List D} {n c : Nat} (h : Ok (.list ds) n c) (hn : n ≤ 64) (hc : c ≤ 16777216) : dRepr (.list ds) = some (.str (PyData.shown (.list ds))) := by
  show (if J.showOk (.list ds) = true then _ else _) = _
  rw [if_pos (h.showOk hn hc)]
/-- rows of small numbers -/
theorem Ok.row {l : List Int} (h : ∀ x ∈ l, 0 ≤ x ∧ x < 1000) (hl : l.length ≤ 20) : Ok (dI l) 2 102 := by
  refine (Ok.list (n := 1) (c := 3) fun d hd => ?_).mono (Nat.le_refl _) (by rw [List.length_map]; omega)
  obtain ⟨x, hx, rfl⟩ := List.mem_map.mp hd
  exact Ok.int (by decide) (by decide) (h x hx).1 (h x hx).2
theorem Ok.rows {l : List (List Int)} (h : ∀ g ∈ l, (∀ x ∈ g, 0 ≤ x ∧ x < 1000) ∧ g.length ≤ 20) (hl : l.length ≤ 20) : Ok (dL l) 3 2100 := by
  refine (Ok.list (n := 2) (c := 102) fun d hd => ?_).mono (Nat.le_refl _) (by rw [List.length_map]; omega)
  obtain ⟨x, hx, rfl⟩ := List.mem_map.mp hd
  exact Ok.row (h x hx).1 (h x hx).2
theorem Ok.lots {t : Nest} {n : Nat} (h : t.Of n) (hn : n ≤ 20) : Ok (dL t.lots) 3 2100 := by
  have := h.lots_len
  refine Ok.rows (fun g hg => ?_) (by omega)
  obtain ⟨X, hX, rfl⟩ := Nest.mem_lots.mp hg
  refine ⟨fun x hx => ?_, ?_⟩
  · have := h.mem.mp ((Nest.gr_sublist hX).subset (Nest.mem_folk.mp hx)); omega
  · have := (Nest.gr_sublist hX).length_le
    rw [Nest.len_folk]
    have := h.len
    omega
/-! ### more steps -/
section
variable {g h : Sv} {env e1 : J.Env} {s s1 s2 s3 : STO} {d d1 d2 d3 d' : D} {M : List Nat} {f f1 f2 f3 : Ev} {ds es : List D} {vw : VW}
theorem sBind_ok {bd : Bd} {l : List (Nat × D)} (h1 : f (see M env) s = some (d, s1)) (h2 : bd d = some l) (h3 : allLt env.length l = true) : sBind M bd f env s = some (.nx, setE (fz M env) l, s1) := by
  unfold sBind
  rw [h1, Option.bind_some, h2, Option.bind_some, if_pos h3]
theorem sApp1_ok {i k : Nat} {n : Int} {m : Nat} (h0 : f1 (see [] env) s = some (.int n, s1)) (h1 : g' (see [] env) s1 = some (d, s2)) (h2 : env[i]? = some (.ow (k + 2) (.list ds))) (h3 : ixN ds.length n = some m) (h4 : ds[m]? = some (.list es)) (h5 : es.length < 16777216) :
    sApp1 i [] k f1 g' env s = some (.nx, env.set i (.ow (k + 2) (.list (ds.set m (.list (es ++ [d]))))), s2) := by
  unfold sApp1
  rw [h0, Option.bind_some]
  show (g' (see [] env) s1).bind _ = _
  rw [h1, Option.bind_some, fzIf_nil, h2]
  show (if k = k then _ else _) = _
  rw [if_pos rfl, h3, Option.bind_some, h4]
  show (if es.length < 16777216 then _ else _) = _
  rw [if_pos h5]
theorem sAppAll1_ok {i l j : Nat} {n : Int} {m : Nat} (hil : i ≠ l) (hl : decide (l < env.length) = true) (h0 : f1 (see [] env) s = some (.int n, s1)) (h2 : env[i]? = some (.ow (j + 3) (.list es))) (h3 : ixN es.length n = some m) (h4 : es[m]? = some (.list ds)) (h5 : ds.all lstLt = true) :
    sAppAll1 i l f1 env s = some (.nx, (env.set i .no).set l .no, s1) := by
  unfold sAppAll1
  rw [if_pos ⟨hil, of_decide_eq_true hl⟩, h0, Option.bind_some, h2]
  show (ixN es.length n).bind _ = _
  rw [h3, Option.bind_some, h4]
  show (if ds.all lstLt = true then _ else _) = _
  rw [if_pos h5]
theorem sAppAll_ok {i l j : Nat} (hil : i ≠ l) (hl : decide (l < env.length) = true) (h2 : env[i]? = some (.ow (j + 2) (.list ds))) (h5 : ds.all lstLt = true) :
    sAppAll i l env s = some (.nx, (env.set i .no).set l .no, s) := by
  unfold sAppAll
  rw [if_pos ⟨hil, of_decide_eq_true hl⟩, h2]
  show (if ds.all lstLt = true then _ else _) = _
  rw [if_pos h5]
theorem sAppAllT_ok {i l j : Nat} (hil : i ≠ l) (hl : decide (l < env.length) = true) (h2 : env[i]? = some (.ow (j + 2) (.list ds))) (h5 : ds.all lstLt = true) :
    sAppAllT i l d env s = some (.nx, (env.set i (.ow (j + 2) (.list (ds.map (snocD d))))).set l .no, s) := by
  unfold sAppAllT
  rw [if_pos ⟨hil, of_decide_eq_true hl⟩, h2]
  show (if ds.all lstLt = true then _ else _) = _
  rw [if_pos h5]
end
theorem lstLt_rows {l : List (List Int)} (h : ∀ g ∈ l, g.length ≤ 20) : (l.map dI).all lstLt = true := by
  rw [List.all_eq_true]
  intro d hd
  obtain ⟨g, hg, rfl⟩ := List.mem_map.mp hd
  have := h g hg
  exact decide_eq_true (by rw [List.length_map]; omega)
theorem dNe_dL (a b : List (List Int)) : dNe (dL a) (dL b) = some (.bool (!decide (a = b))) := by
  have := eqv_dL a b
  have h7 := shaped_dL a
  have h8 := shaped_dL b
  simp only [dL] at this h7 h8 ⊢
  simp [dNe, h7, h8, this]
theorem dEq_dL (a b : List (List Int)) : dEq (dL a) (dL b) = some (.bool (decide (a = b))) := by
  have := eqv_dL a b
  have h7 := shaped_dL a
  have h8 := shaped_dL b
  simp only [dL] at this h7 h8 ⊢
  simp [dEq, h7, h8, this]
theorem dNe_int (i j : Int) : dNe (.int i) (.int j) = some (.bool (!decide (i = j))) := by
  show (if SeqAt.shaped (.int i) = true ∧ SeqAt.shaped (.int j) = true then some (PyData.bool (!PyData.eqv (.int i) (.int j))) else none) = _
  rw [if_pos ⟨shaped_int i, shaped_int j⟩]
  rfl
theorem dNe_str (x : Str) : dNe (.str x) (.str x) = some (.bool false) := by
  show some (PyData.bool (!(x == x))) = _
  rw [beq_self_eq_true]
  rfl
end J
namespace J
/-! families of lots that no two cross, of one lot less than persons: those of nests -/
theorem nodup_len {α : Type} [DecidableEq α] : ∀ {l m : List α}, l.Nodup → (∀ x ∈ l, x ∈ m) → l.length ≤ m.length
  | [], _, _, _ => Nat.zero_le _
  | x :: r, m, h, hs => by
    obtain ⟨h1, h2⟩ := List.nodup_cons.mp h
    have hx : x ∈ m := hs x List.mem_cons_self
    have ih := nodup_len (l := r) (m := m.erase x) h2 fun y hy => (List.mem_erase_of_ne (fun e : y = x => h1 (e ▸ hy))).mpr (hs y (List.mem_cons_of_mem _ hy))
    rw [List.length_erase_of_mem hx] at ih
    have : 0 < m.length := List.length_pos_of_mem hx
    simp only [List.length_cons]; omega
theorem nodup_full {α : Type} [DecidableEq α] {l m : List α} (h : l.Nodup) (hs : ∀ x ∈ l, x ∈ m) (hl : m.length ≤ l.length) : ∀ x ∈ m, x ∈ l := fun x hx => by
  by_cases e : x ∈ l
  · exact e
  · have := nodup_len (l := x :: l) (m := m) (List.nodup_cons.mpr ⟨e, h⟩) fun y hy => by
      rcases List.mem_cons.mp hy with rfl | hy
      · exact hx
      · exact hs y hy
    simp only [List.length_cons] at this
    omega
theorem filter_two {α : Type} (p : α → Bool) : ∀ l : List α, (l.filter p).length + (l.filter fun x => !p x).length = l.length
  | [] => rfl
  | x :: r => by
    have := filter_two p r
    cases q : p x with
    | true => simp [List.filter_cons, q]; omega
    | false => simp [List.filter_cons, q]; omega
theorem asc_len_eq {l m : List Int} (h1 : l.Pairwise (· < ·)) (h2 : m.Pairwise (· < ·)) (hs : ∀ x ∈ l, x ∈ m) (hl : m.length ≤ l.length) : l = m :=
  asc_ext h1 h2 fun x => ⟨hs x, nodup_full (asc_nodup h1) hs hl x⟩
namespace Nest
/-- u in the place of the leaf a -/
def sub (a : Int) (u : Nest) : Nest → Nest
  | lf i => if i = a then u else lf i
  | nd x y => nd (sub a u x) (sub a u y)
theorem mem_sub {a : Int} {u : Nest} : ∀ {t : Nest} {x : Int}, x ∈ (sub a u t).lv ↔ (x ∈ t.lv ∧ x ≠ a) ∨ (a ∈ t.lv ∧ x ∈ u.lv)
  | lf i, x => by
    unfold sub
    by_cases h : i = a
    · rw [if_pos h]
      subst h
      simp [lv]
    · rw [if_neg h]
      simp only [lv, List.mem_singleton]
      constructor
      · rintro rfl
        exact .inl ⟨rfl, h⟩
      · rintro (⟨h1, _⟩ | ⟨h1, _⟩)
        · exact h1
        · exact absurd h1.symm h
  | nd s t, x => by
    simp only [sub, lv, List.mem_append]
    rw [mem_sub (t := s), mem_sub (t := t)]
    constructor
    · rintro ((⟨h1, h2⟩ | ⟨h1, h2⟩) | (⟨h1, h2⟩ | ⟨h1, h2⟩))
      · exact .inl ⟨.inl h1, h2⟩
      · exact .inr ⟨.inl h1, h2⟩
      · exact .inl ⟨.inr h1, h2⟩
      · exact .inr ⟨.inr h1, h2⟩
    · rintro (⟨h1 | h1, h2⟩ | ⟨h1 | h1, h2⟩)
      · exact .inl (.inl ⟨h1, h2⟩)
      · exact .inr (.inl ⟨h1, h2⟩)
      · exact .inl (.inr ⟨h1, h2⟩)
      · exact .inr (.inr ⟨h1, h2⟩)
theorem sub_nodup {a : Int} {u : Nest} (hu : u.lv.Nodup) : ∀ {t : Nest}, t.lv.Nodup → (∀ x ∈ u.lv, x ∈ t.lv → x = a) → (sub a u t).lv.Nodup
  | lf i, h, _ => by
    unfold sub
    split
    · exact hu
    · exact h
  | nd s t, h, hd => by
    obtain ⟨h1, h2, h3⟩ := List.nodup_append.mp h
    refine List.nodup_append.mpr ⟨sub_nodup hu h1 fun x hx hs => hd x hx (List.mem_append_left _ hs), sub_nodup hu h2 fun x hx hs => hd x hx (List.mem_append_right _ hs), fun x hx y hy e => ?_⟩
    subst e
    rcases mem_sub.mp hx with ⟨g1, g2⟩ | ⟨g1, g2⟩
    · rcases mem_sub.mp hy with ⟨k1, k2⟩ | ⟨k1, k2⟩
      · exact h3 x g1 x k1 rfl
      · exact g2 (hd x k2 (List.mem_append_left _ g1))
    · rcases mem_sub.mp hy with ⟨k1, k2⟩ | ⟨k1, k2⟩
      · exact k2 (hd x g2 (List.mem_append_right _ k1))
      · exact h3 a g1 a k1 rfl
theorem gr_sub {a : Int} {u : Nest} : ∀ {t Y : Nest}, Y ∈ (sub a u t).gr ↔ (∃ X ∈ t.gr, Y = sub a u X) ∨ (a ∈ t.lv ∧ Y ∈ u.gr)
  | lf i, Y => by
    unfold sub
    by_cases h : i = a
    · rw [if_pos h]
      subst h
      simp [gr, lv]
    · rw [if_neg h]
      simp only [gr, lv, List.not_mem_nil, false_and, exists_const, List.mem_singleton, false_or, exists_false]
      constructor
      · exact fun z => z.elim
      · rintro ⟨h1, _⟩
        exact h h1.symm
  | nd s t, Y => by
    simp only [sub, gr, lv, List.mem_cons, List.mem_append]
    rw [gr_sub (t := s), gr_sub (t := t)]
    constructor
    · rintro (rfl | (⟨X, h1, h2⟩ | ⟨h1, h2⟩) | (⟨X, h1, h2⟩ | ⟨h1, h2⟩))
      · exact .inl ⟨nd s t, .inl rfl, rfl⟩
      · exact .inl ⟨X, .inr (.inl h1), h2⟩
      · exact .inr ⟨.inl h1, h2⟩
      · exact .inl ⟨X, .inr (.inr h1), h2⟩
      · exact .inr ⟨.inr h1, h2⟩
    · rintro (⟨X, rfl | h1 | h1, h2⟩ | ⟨h1 | h1, h2⟩)
      · exact .inl h2
      · exact .inr (.inl (.inl ⟨X, h1, h2⟩))
      · exact .inr (.inr (.inl ⟨X, h1, h2⟩))
      · exact .inr (.inl (.inr ⟨h1, h2⟩))
      · exact .inr (.inr (.inr ⟨h1, h2⟩))
/-- the family F on S is a nest's -/
def Full (S : List Int) (F : List (List Int)) : Prop := ∃ t : Nest, t.lv.Nodup ∧ (∀ x, x ∈ t.lv ↔ x ∈ S) ∧ ∀ g, g ∈ F ↔ g ∈ t.gr.map folk
structure Lam (S : List Int) (F : List (List Int)) : Prop where
  asc : S.Pairwise (· < ·)
  nd : F.Nodup
  row : ∀ g ∈ F, g.Pairwise (· < ·) ∧ 2 ≤ g.length ∧ ∀ x ∈ g, x ∈ S
  lam : ∀ g ∈ F, ∀ h ∈ F, (∀ x ∈ g, x ∈ h) ∨ (∀ x ∈ h, x ∈ g) ∨ ∀ x ∈ g, x ∉ h
theorem lam_full : ∀ (N : Nat) (S : List Int) (F : List (List Int)), S.length ≤ N → S ≠ [] → Lam S F → F.length + 1 ≤ S.length ∧ (F.length + 1 = S.length → Full S F)
  | 0, S, F, hN, hS, _ => absurd (List.length_pos_iff.mpr hS) (by omega)
  | N + 1, S, F, hN, hS, L => by
    by_cases hA : ∃ A ∈ F, A ≠ S
    · obtain ⟨A, hAF, hne⟩ := hA
      obtain ⟨ascA, twoA, subA⟩ := L.row A hAF
      have hlt : A.length < S.length := by
        rcases Nat.lt_or_ge A.length S.length with h | h
        · exact h
        · exact absurd (asc_len_eq ascA L.asc subA h) hne
      cases eA : A with
      | nil => rw [eA] at twoA; simp at twoA
      | cons a0 rA =>
      have ha0 : a0 ∈ A := by rw [eA]; exact List.mem_cons_self
      let inA : List Int → Bool := fun g => g.all fun x => decide (x ∈ A)
      let κ : List Int → List Int := fun g => g.filter fun x => !decide (x ∈ A) || decide (x = a0)
      have inA_iff : ∀ g, inA g = true ↔ ∀ x ∈ g, x ∈ A := fun g => by simp [inA]
      have mem_κ : ∀ g x, x ∈ κ g ↔ x ∈ g ∧ (x ∉ A ∨ x = a0) := fun g x => by simp [κ, List.mem_filter]
      -- a lot that isn't within A: around it or apart
      have out : ∀ g ∈ F, inA g = false → (∀ x ∈ A, x ∈ g) ∨ ∀ x ∈ A, x ∉ g := fun g hg hn => by
        rcases L.lam g hg A hAF with h | h | h
        · rw [(inA_iff g).mpr h] at hn; cases hn
        · exact .inl h
        · exact .inr fun x h1 h2 => h x h2 h1
      have key : ∀ g ∈ F, inA g = false → ∀ x, x ∈ g ↔ (x ∈ κ g ∧ x ≠ a0) ∨ (a0 ∈ κ g ∧ x ∈ A) := fun g hg hn x => by
        rw [mem_κ, mem_κ]
        rcases out g hg hn with h | h
        · constructor
          · intro hx
            by_cases hxA : x ∈ A
            · exact .inr ⟨⟨h a0 ha0, .inr rfl⟩, hxA⟩
            · exact .inl ⟨⟨hx, .inl hxA⟩, fun e => hxA (e ▸ ha0)⟩
          · rintro (⟨⟨h1, _⟩, _⟩ | ⟨_, h2⟩)
            · exact h1
            · exact h x h2
        · constructor
          · intro hx
            have hxA : x ∉ A := fun q => h x q hx
            exact .inl ⟨⟨hx, .inl hxA⟩, fun e => hxA (e ▸ ha0)⟩
          · rintro (⟨⟨h1, _⟩, _⟩ | ⟨⟨h1, _⟩, _⟩)
            · exact h1
            · exact absurd h1 (h a0 ha0)
      have LA : Lam A (F.filter inA) := ⟨ascA, L.nd.filter _, fun g hg => by
          obtain ⟨h1, h2⟩ := List.mem_filter.mp hg
          exact ⟨(L.row g h1).1, (L.row g h1).2.1, (inA_iff g).mp h2⟩, fun g hg h hh => L.lam g (List.mem_filter.mp hg).1 h (List.mem_filter.mp hh).1⟩
      have mR : ∀ g, g ∈ F.filter (fun x => !inA x) ↔ g ∈ F ∧ inA g = false := fun g => by simp [List.mem_filter]
      have LR : Lam (κ S) ((F.filter fun x => !inA x).map κ) := by
        refine ⟨L.asc.filter _, ?_, fun g hg => ?_, fun g hg h hh => ?_⟩
        · refine List.pairwise_map.mpr (List.Pairwise.imp_of_mem (R := fun a b => a ≠ b) (fun {a b} ha hb hab e => hab ?_) (L.nd.filter _))
          obtain ⟨a1, a2⟩ := (mR a).mp ha
          obtain ⟨b1, b2⟩ := (mR b).mp hb
          exact asc_ext (L.row a a1).1 (L.row b b1).1 fun x => by rw [key a a1 a2, key b b1 b2, e]
        · obtain ⟨g0, h1, rfl⟩ := List.mem_map.mp hg
          obtain ⟨g1, g2⟩ := (mR g0).mp h1
          obtain ⟨r1, r2, r3⟩ := L.row g0 g1
          refine ⟨r1.filter _, ?_, fun x hx => ?_⟩
          · rcases out g0 g1 g2 with h | h
            · have hno : ¬ ∀ x ∈ g0, x ∈ A := fun q => by rw [(inA_iff g0).mpr q] at g2; cases g2
              obtain ⟨y, hy, hyA⟩ : ∃ y ∈ g0, y ∉ A := by
                false_or_by_contra
                rename_i q
                exact hno fun x hx => by
                  false_or_by_contra
                  rename_i q2
                  exact q ⟨x, hx, q2⟩
              have := nodup_len (l := [a0, y]) (m := κ g0) (by simp; exact fun e => hyA (e ▸ ha0)) fun x hx => by
                rw [mem_κ]
                rcases List.mem_cons.mp hx with rfl | hx
                · exact ⟨h _ ha0, .inr rfl⟩
                · rw [List.mem_singleton.mp hx]; exact ⟨hy, .inl hyA⟩
              exact this
            · have : κ g0 = g0 := List.filter_eq_self.mpr fun x hx => by
                have q2 : x ∉ A := fun q => h x q hx
                simp [q2]
              rw [this]; exact r2
          · rw [mem_κ] at hx ⊢
            exact ⟨r3 x hx.1, hx.2⟩
        · obtain ⟨g0, h1, rfl⟩ := List.mem_map.mp hg
          obtain ⟨h0, h2, rfl⟩ := List.mem_map.mp hh
          have g1 := ((mR g0).mp h1).1
          have g2 := ((mR h0).mp h2).1
          rcases L.lam g0 g1 h0 g2 with q | q | q
          · exact .inl fun x hx => by rw [mem_κ] at hx ⊢; exact ⟨q x hx.1, hx.2⟩
          · exact .inr (.inl fun x hx => by rw [mem_κ] at hx ⊢; exact ⟨q x hx.1, hx.2⟩)
          · exact .inr (.inr fun x hx hx2 => by rw [mem_κ] at hx hx2; exact q x hx.1 hx2.1)
      have cS : (κ S).length + A.length = S.length + 1 := by
        have h1 := filter_two (fun x => !decide (x ∈ A)) S
        have h2 : S.filter (fun x => !!decide (x ∈ A)) = A := asc_ext (L.asc.filter _) ascA fun x => by simp [List.mem_filter]; exact fun h => subA x h
        rw [h2] at h1
        have h3 : (κ S).length = (S.filter fun x => !decide (x ∈ A)).length + 1 := by
          have h4 := filter_two (fun x => decide (x = a0)) (κ S)
          have h5 : (κ S).filter (fun x => decide (x = a0)) = [a0] := asc_ext ((L.asc.filter _).filter _) (List.pairwise_singleton _ _) fun x => by
            rw [List.mem_filter, mem_κ, List.mem_singleton, decide_eq_true_eq]
            exact ⟨fun h => h.2, fun h => ⟨⟨h ▸ subA a0 ha0, .inr h⟩, h⟩⟩
          have h6 : (κ S).filter (fun x => !decide (x = a0)) = S.filter fun x => !decide (x ∈ A) := asc_ext ((L.asc.filter _).filter _) (L.asc.filter _) fun x => by
            rw [List.mem_filter, mem_κ, List.mem_filter]
            simp only [Bool.not_eq_true', decide_eq_false_iff_not]
            constructor
            · rintro ⟨⟨h, h'⟩, h''⟩
              exact ⟨h, h'.resolve_right h''⟩
            · rintro ⟨h, h'⟩
              exact ⟨⟨h, .inl h'⟩, fun e => h' (e ▸ ha0)⟩
          rw [h5, h6] at h4
          simp only [List.length_cons, List.length_nil] at h4
          omega
        omega
      have cF := filter_two inA F
      have neA : A ≠ [] := List.ne_nil_of_mem ha0
      have neR : κ S ≠ [] := List.ne_nil_of_mem ((mem_κ S a0).mpr ⟨subA a0 ha0, .inr rfl⟩)
      obtain ⟨iA1, iA2⟩ := lam_full N A _ (by omega) neA LA
      obtain ⟨iR1, iR2⟩ := lam_full N (κ S) _ (by omega) neR LR
      rw [List.length_map] at iR1 iR2
      refine ⟨by omega, fun e => ?_⟩
      obtain ⟨tA, nA, mA, fA⟩ := iA2 (by omega)
      obtain ⟨tR, nR, mRt, fR⟩ := iR2 (by omega)
      have hdis : ∀ x ∈ tA.lv, x ∈ tR.lv → x = a0 := fun x h1 h2 => by
        have := (mem_κ S x).mp ((mRt x).mp h2)
        exact this.2.resolve_left fun q => q ((mA x).mp h1)
      have ha0R : a0 ∈ tR.lv := (mRt a0).mpr ((mem_κ S a0).mpr ⟨subA a0 ha0, .inr rfl⟩)
      have claim : ∀ g ∈ F, inA g = false → ∀ X ∈ tR.gr, X.folk = κ g → (sub a0 tA X).folk = g := fun g hg hn X hX hf => by
        have nX := gr_nodup hX nR
        have hsub := (gr_sublist hX).subset
        refine asc_ext (folk_asc (sub_nodup nA nX fun x h1 h2 => hdis x h1 (hsub h2))) (L.row g hg).1 fun x => ?_
        have hm : ∀ y, y ∈ X.lv ↔ y ∈ κ g := fun y => by rw [← hf, mem_folk]
        rw [mem_folk, mem_sub, key g hg hn, hm, hm, mA]
      refine ⟨sub a0 tA tR, sub_nodup nA nR hdis, fun x => ?_, fun g => ?_⟩
      · rw [mem_sub, mRt, mA, mem_κ]
        constructor
        · rintro (⟨⟨h, _⟩, _⟩ | ⟨_, h⟩)
          · exact h
          · exact subA x h
        · intro h
          by_cases hx : x ∈ A
          · exact .inr ⟨ha0R, hx⟩
          · exact .inl ⟨⟨h, .inl hx⟩, fun e => hx (e ▸ ha0)⟩
      · rw [List.mem_map]
        constructor
        · intro hg
          cases hn : inA g with
          | true =>
            obtain ⟨Y, h1, h2⟩ := List.mem_map.mp ((fA g).mp (List.mem_filter.mpr ⟨hg, hn⟩))
            exact ⟨Y, gr_sub.mpr (.inr ⟨ha0R, h1⟩), h2⟩
          | false =>
            obtain ⟨X, h1, h2⟩ := List.mem_map.mp ((fR (κ g)).mp (List.mem_map.mpr ⟨g, (mR g).mpr ⟨hg, hn⟩, rfl⟩))
            exact ⟨_, gr_sub.mpr (.inl ⟨X, h1, rfl⟩), claim g hg hn X h1 h2⟩
        · rintro ⟨Y, hY, rfl⟩
          rcases gr_sub.mp hY with ⟨X, h1, rfl⟩ | ⟨_, h1⟩
          · obtain ⟨g, h2, h3⟩ := List.mem_map.mp ((fR X.folk).mpr (List.mem_map.mpr ⟨X, h1, rfl⟩))
            obtain ⟨h4, h5⟩ := (mR g).mp h2
            rw [claim g h4 h5 X h1 h3.symm]
            exact h4
          · exact (List.mem_filter.mp ((fA Y.folk).mpr (List.mem_map.mpr ⟨Y, h1, rfl⟩))).1
    · have hall : ∀ A ∈ F, A = S := fun A h => by
        false_or_by_contra
        rename_i q
        exact hA ⟨A, h, q⟩
      have hpos := List.length_pos_iff.mpr hS
      cases F with
      | nil =>
        refine ⟨by simp; omega, fun e => ?_⟩
        match S, e with
        | [x], _ => exact ⟨lf x, by simp [lv], fun y => by simp [lv], fun g => by simp [gr]⟩
      | cons A r =>
        have eA := hall A List.mem_cons_self
        have er : r = [] := by
          cases r with
          | nil => rfl
          | cons B r2 =>
            have eB := hall B (List.mem_cons_of_mem _ List.mem_cons_self)
            exact absurd (List.mem_cons_self) ((List.nodup_cons.mp L.nd).1 ∘ fun h => by rw [eA, ← eB]; exact h)
        subst er
        have h2 := (L.row A List.mem_cons_self).2.1
        rw [eA] at h2
        refine ⟨by simp; omega, fun e => ?_⟩
        match S, e, eA, L.asc with
        | [x, y], _, eA, ha =>
          have hf : folk (nd (lf x) (lf y)) = [x, y] := sZ_asc ha
          refine ⟨nd (lf x) (lf y), asc_nodup ha, fun z => by simp [lv], fun g => ?_⟩
          simp only [gr, List.append_nil, List.map_cons, List.map_nil, hf, eA]
end Nest
end J
namespace J
/-- what is_parting computes of rows that are lots -/
def partB (ls : List (List Int)) : Bool := (ls.zip (ls.drop 1)).all (fun p => ltI p.1 p.2) && ((decide (ls = []) || decide (comp (ls.length + 1) ∈ ls)) && ls.all (partsB ls))
def crossB (g h : List Int) : Bool := decide (0 < (g.filter fun x => decide (x ∈ h)).length) && decide ((g.filter fun x => decide (x ∈ h)).length < min g.length h.length)
/-- what the law's own judge computes of them -/
def nestB (ls : List (List Int)) : Bool := decide (sR ls = ls) && (List.range ls.length).all fun i => (ls.take i).all fun r => !(decide (r = ls.getD i []) || crossB r (ls.getD i []))
theorem cross_no {g h : List Int} (hg : g.Pairwise (· < ·)) (hh : h.Pairwise (· < ·)) (c : crossB g h = false) : (∀ x ∈ g, x ∈ h) ∨ (∀ x ∈ h, x ∈ g) ∨ ∀ x ∈ g, x ∉ h := by
  unfold crossB at c
  rw [Bool.and_eq_false_iff, decide_eq_false_iff_not, decide_eq_false_iff_not] at c
  have hm : ∀ x, x ∈ (g.filter fun x => decide (x ∈ h)) ↔ x ∈ g ∧ x ∈ h := fun x => by simp [List.mem_filter]
  rcases c with c | c
  · right; right
    intro x h1 h2
    have := List.length_pos_of_mem ((hm x).mpr ⟨h1, h2⟩)
    exact c this
  · rcases Nat.le_total g.length h.length with q | q
    · left
      have : (g.filter fun x => decide (x ∈ h)) = g := asc_len_eq (hg.filter _) hg (fun x hx => ((hm x).mp hx).1) (by omega)
      intro x hx
      rw [← this] at hx
      exact ((hm x).mp hx).2
    · right; left
      have : (g.filter fun x => decide (x ∈ h)) = h := asc_len_eq (hg.filter _) hh (fun x hx => ((hm x).mp hx).2) (by omega)
      intro x hx
      rw [← this] at hx
      exact ((hm x).mp hx).1
theorem cross_of {g h : List Int} (hg : g.Pairwise (· < ·)) (hh : h.Pairwise (· < ·)) (c : (∀ x ∈ g, x ∈ h) ∨ (∀ x ∈ h, x ∈ g) ∨ ∀ x ∈ g, x ∉ h) : crossB g h = false := by
  unfold crossB
  rw [Bool.and_eq_false_iff, decide_eq_false_iff_not, decide_eq_false_iff_not]
  have hm : ∀ x, x ∈ (g.filter fun x => decide (x ∈ h)) ↔ x ∈ g ∧ x ∈ h := fun x => by simp [List.mem_filter]
  rcases c with c | c | c
  · right
    have : (g.filter fun x => decide (x ∈ h)) = g := List.filter_eq_self.mpr fun x hx => by simp [c x hx]
    rw [this]; omega
  · right
    have : (g.filter fun x => decide (x ∈ h)) = h := asc_ext (hg.filter _) hh fun x => (hm x).trans ⟨fun q => q.2, fun q => ⟨c x q, q⟩⟩
    rw [this]; omega
  · left
    have : (g.filter fun x => decide (x ∈ h)) = [] := List.filter_eq_nil_iff.mpr fun x hx => by simp [c x hx]
    rw [this]; simp
theorem fold_inv {g : List Int} {h : Int} : ∀ {ls : List (List Int)} {f : List Int}, ls.foldl (firstStep g h) f = f ∨ ∃ o ∈ ls, ls.foldl (firstStep g h) f = o ∧ o.length < g.length ∧ h ∈ o
  | [], f => .inl rfl
  | o :: r, f => by
    rw [List.foldl_cons]
    rcases fold_inv (g := g) (h := h) (ls := r) (f := firstStep g h f o) with e | ⟨q, h1, h2⟩
    · rw [e]
      unfold firstStep
      split
      · rename_i c
        exact .inr ⟨o, List.mem_cons_self, rfl, c.2.1, c.2.2⟩
      · exact .inl rfl
    · exact .inr ⟨q, List.mem_cons_of_mem _ h1, h2⟩
namespace Nest
theorem parts_nest {ls : List (List Int)} (row : ∀ g ∈ ls, g.Pairwise (· < ·) ∧ 2 ≤ g.length) (prt : ∀ g ∈ ls, partsB ls g = true) :
    ∀ (N : Nat) (g : List Int), g.length ≤ N → g.Pairwise (· < ·) → g.length = 1 ∨ g ∈ ls → ∃ t : Nest, t.lv.Nodup ∧ (∀ x, x ∈ t.lv ↔ x ∈ g) ∧ ∀ X ∈ t.gr, X.folk ∈ ls
  | 0, g, hN, _, h => by
    rcases h with h | h
    · omega
    · have := (row g h).2; omega
  | N + 1, g, hN, ha, h => by
    by_cases h1 : g.length = 1
    · match g, h1 with
      | [x], _ => exact ⟨lf x, by simp [lv], fun y => by simp [lv], fun X hX => by simp [gr] at hX⟩
    · have hg := h.resolve_left h1
      have h2 := (row g hg).2
      match g, prt g hg with
      | [], _ => simp at h2
      | a :: r, hp =>
        unfold partsB at hp
        rw [Bool.and_eq_true, List.all_eq_true, Bool.or_eq_true, decide_eq_true_eq, decide_eq_true_eq] at hp
        obtain ⟨p1, p2⟩ := hp
        have hf : (firstOf ls (a :: r) a).Pairwise (· < ·) ∧ (firstOf ls (a :: r) a).length < (a :: r).length ∧ a ∈ firstOf ls (a :: r) a ∧ ((firstOf ls (a :: r) a).length = 1 ∨ firstOf ls (a :: r) a ∈ ls) := by
          unfold firstOf
          rcases fold_inv (g := a :: r) (h := a) (ls := ls) (f := (a :: r).take 1) with e | ⟨o, h3, e, h4, h5⟩
          · rw [e]
            exact ⟨List.pairwise_singleton _ _, (show 1 < (a :: r).length by omega), by simp, .inl rfl⟩
          · rw [e]
            exact ⟨(row o h3).1, h4, h5, .inr h3⟩
        have p1' : ∀ x ∈ firstOf ls (a :: r) a, x ∈ a :: r := fun x hx => of_decide_eq_true (p1 x hx)
        have hm : ∀ x, x ∈ restOf ls a r ↔ x ∈ a :: r ∧ x ∉ firstOf ls (a :: r) a := fun x => by
          unfold restOf
          rw [List.mem_filter, Bool.not_eq_true', decide_eq_false_iff_not]
        have hra : (restOf ls a r).Pairwise (· < ·) := ha.filter _
        generalize firstOf ls (a :: r) a = f at hf p1' hm
        generalize restOf ls a r = q at hm hra p2
        obtain ⟨f1, f2, f3, f4⟩ := hf
        have hq : q.length < (a :: r).length := by
          rcases Nat.lt_or_ge q.length (a :: r).length with z | z
          · exact z
          · have e := asc_len_eq hra ha (fun x hx => ((hm x).mp hx).1) z
            have := (hm a).mp (e ▸ List.mem_cons_self)
            exact absurd f3 this.2
        obtain ⟨t1, n1, m1, g1⟩ := parts_nest row prt N f (by omega) f1 f4
        obtain ⟨t2, n2, m2, g2⟩ := parts_nest row prt N q (by omega) hra p2
        have nn : (nd t1 t2).lv.Nodup := List.nodup_append.mpr ⟨n1, n2, fun x hx y hy e => by
          subst e
          exact ((hm x).mp ((m2 x).mp hy)).2 ((m1 x).mp hx)⟩
        have mm : ∀ x, x ∈ (nd t1 t2).lv ↔ x ∈ a :: r := fun x => by
          show x ∈ t1.lv ++ t2.lv ↔ _
          rw [List.mem_append, m1, m2, hm]
          constructor
          · rintro (z | z)
            · exact p1' x z
            · exact z.1
          · intro z
            by_cases c : x ∈ f
            · exact .inl c
            · exact .inr ⟨z, c⟩
        refine ⟨nd t1 t2, nn, mm, fun X hX => ?_⟩
        simp only [gr, List.mem_cons, List.mem_append] at hX
        rcases hX with rfl | hX | hX
        · have : folk (nd t1 t2) = a :: r := asc_ext (folk_asc nn) ha fun x => mem_folk.trans (mm x)
          rw [this]; exact hg
        · exact g1 X hX
        · exact g2 X hX
/-- the lots of a nest pass both judges -/
theorem Of.nestB {t : Nest} {n : Nat} (h : t.Of n) : nestB t.lots = true := by
  have nd := lots_nodup h.nodup
  unfold J.nestB
  rw [Bool.and_eq_true, decide_eq_true_eq]
  refine ⟨sR_of (sR_sorted _), List.all_eq_true.mpr fun i hi => List.all_eq_true.mpr fun r hr => ?_⟩
  have hi := List.mem_range.mp hi
  have eg : t.lots.getD i [] = t.lots[i] := by rw [List.getD_eq_getElem?_getD, List.getElem?_eq_getElem hi]; rfl
  rw [eg]
  obtain ⟨j, hj, rfl⟩ := List.getElem_of_mem hr
  rw [List.length_take] at hj
  rw [List.getElem_take]
  have hne : t.lots[j] ≠ t.lots[i] := List.pairwise_iff_getElem.mp nd j i (by omega) hi (by omega)
  obtain ⟨X, hX, eX⟩ := mem_lots.mp (List.getElem_mem (l := t.lots) (n := j) (by omega))
  obtain ⟨Y, hY, eY⟩ := mem_lots.mp (List.getElem_mem (l := t.lots) (n := i) hi)
  rw [← eX, ← eY] at hne ⊢
  have c : crossB X.folk Y.folk = false := cross_of (folk_asc (gr_nodup hX h.nodup)) (folk_asc (gr_nodup hY h.nodup)) (by
    rcases lam h.nodup hX hY with q | q | q
    · exact .inl fun x hx => mem_folk.mpr ((gr_sublist q).subset (mem_folk.mp hx))
    · exact .inr (.inl fun x hx => mem_folk.mpr ((gr_sublist q).subset (mem_folk.mp hx)))
    · exact .inr (.inr fun x hx hy => q x (mem_folk.mp hx) (mem_folk.mp hy)))
  rw [c, decide_eq_false hne]
  rfl
theorem Of.partB {t : Nest} {n : Nat} (h : t.Of n) (hn : n ≤ 20) : partB t.lots = true := by
  have p := h.parting hn
  unfold J.partB
  rw [Bool.and_eq_true, Bool.and_eq_true, List.all_eq_true, List.all_eq_true, Bool.or_eq_true, decide_eq_true_eq, decide_eq_true_eq]
  exact ⟨p.asc, p.all, p.prt⟩
theorem full_lots {ls : List (List Int)} (h : Full (comp (ls.length + 1)) ls) (nd : ls.Nodup) (hs : sR ls = ls) : ∃ t : Nest, t.Of (ls.length + 1) ∧ t.lots = ls := by
  obtain ⟨t, h1, h2, h3⟩ := h
  refine ⟨t, perm_of_mem h1 (comp_nodup _) h2, ?_⟩
  rw [← hs]
  exact sR_ext (folks_nodup h1) nd fun g => (h3 g).symm
end Nest
open Nest
/-- both judges say the same of lots -/
theorem nest_part {ls : List (List Int)} (hr : ∀ g ∈ ls, rowB (ls.length + 1) g = true ∧ 1 < g.length) (hl : ls.length < 20) : nestB ls = partB ls ∧ (partB ls = true → ∃ t : Nest, t.Of (ls.length + 1) ∧ t.lots = ls) := by
  have asc : ∀ g ∈ ls, g.Pairwise (· < ·) ∧ 2 ≤ g.length := fun g hg => ⟨(rowB_iff.mp (hr g hg).1).2, (hr g hg).2⟩
  have A : nestB ls = true → ∃ t : Nest, t.Of (ls.length + 1) ∧ t.lots = ls := fun h => by
    unfold nestB at h
    rw [Bool.and_eq_true, decide_eq_true_eq, List.all_eq_true] at h
    obtain ⟨h1, h2⟩ := h
    have hp : ls.Pairwise fun r q => r ≠ q ∧ crossB r q = false := List.pairwise_iff_getElem.mpr fun i j hi hj hij => by
      have h3 := List.all_eq_true.mp (h2 j (List.mem_range.mpr hj)) ls[i] (by
        rw [List.mem_take_iff_getElem]
        exact ⟨i, by omega, rfl⟩)
      have eg : ls.getD j [] = ls[j] := by rw [List.getD_eq_getElem?_getD, List.getElem?_eq_getElem hj]; rfl
      rw [eg, Bool.not_eq_true', Bool.or_eq_false_iff, decide_eq_false_iff_not] at h3
      exact h3
    have nd : ls.Nodup := hp.imp fun h => h.1
    have L : Lam (comp (ls.length + 1)) ls := ⟨comp_asc _, nd, fun g hg => ⟨(asc g hg).1, (asc g hg).2, fun x hx => mem_comp.mpr (by have := (rowB_iff.mp (hr g hg).1).1 x hx; omega)⟩, fun g hg q hq => by
      by_cases e : g = q
      · subst e; exact .inl fun x hx => hx
      · obtain ⟨i, hi, rfl⟩ := List.getElem_of_mem hg
        obtain ⟨j, hj, rfl⟩ := List.getElem_of_mem hq
        rcases Nat.lt_trichotomy i j with c | c | c
        · exact cross_no (asc _ hg).1 (asc _ hq).1 (List.pairwise_iff_getElem.mp hp i j hi hj c).2
        · subst c; exact absurd rfl e
        · rcases cross_no (asc _ hq).1 (asc _ hg).1 (List.pairwise_iff_getElem.mp hp j i hj hi c).2 with z | z | z
          · exact .inr (.inl z)
          · exact .inl z
          · exact .inr (.inr fun x h3 h4 => z x h4 h3)⟩
    have := lam_full _ _ _ (Nat.le_refl _) (by rw [← List.length_pos_iff, comp_len]; omega) L
    exact full_lots (this.2 (by rw [comp_len])) nd h1
  have B : partB ls = true → ∃ t : Nest, t.Of (ls.length + 1) ∧ t.lots = ls := fun h => by
    unfold partB at h
    rw [Bool.and_eq_true, Bool.and_eq_true, List.all_eq_true, List.all_eq_true, Bool.or_eq_true, decide_eq_true_eq, decide_eq_true_eq] at h
    obtain ⟨h1, h2, h3⟩ := h
    have hp : ls.Pairwise fun a b => ltI a b = true := zip_pairwise (R := fun a b => ltI a b = true) ltI_trans h1
    have nd : ls.Nodup := hp.imp fun {a b} h e => by rw [e, ltI_irrefl] at h; cases h
    have hs : sR ls = ls := sR_of (hp.imp fun {a b} h => by
      unfold leI
      cases q : ltI b a with
      | false => rfl
      | true => exact absurd (ltI_trans a b a h q) (by rw [ltI_irrefl]; decide))
    refine full_lots ?_ nd hs
    by_cases e : ls = []
    · subst e
      exact ⟨lf 0, by simp [lv], fun x => by rw [mem_comp]; simp [lv]; omega, fun g => by simp [gr]⟩
    · obtain ⟨t, n1, m1, g1⟩ := parts_nest asc h3 _ (comp (ls.length + 1)) (Nat.le_refl _) (comp_asc _) (.inr (h2.resolve_left e))
      refine ⟨t, n1, m1, fun g => ⟨fun hg => ?_, fun hg => ?_⟩⟩
      · have hlen : t.lv.length = ls.length + 1 := by rw [(perm_of_mem n1 (comp_nodup _) m1).length_eq, comp_len]
        have := t.gr_length
        exact nodup_full (folks_nodup n1) (fun x hx => by obtain ⟨X, h4, rfl⟩ := List.mem_map.mp hx; exact g1 X h4) (by rw [List.length_map]; omega) g hg
      · obtain ⟨X, h4, rfl⟩ := List.mem_map.mp hg
        exact g1 X h4
  refine ⟨?_, B⟩
  cases e1 : nestB ls with
  | true =>
    obtain ⟨t, h1, h2⟩ := A e1
    rw [← h2, h1.partB (by omega)]
  | false =>
    cases e2 : partB ls with
    | false => rfl
    | true =>
      obtain ⟨t, h1, h2⟩ := B e2
      rw [← h2, h1.nestB] at e1
      cases e1
end J
namespace J
open PySem PySem.Spec PyProof.Rows L2
/-! ### any data without dicts, of short lists -/
mutual
def wid : D → Bool
  | .list ds => decide (ds.length < 64) && widA ds
  | .tuple ds => decide (ds.length < 64) && widA ds
  | .dict _ => false
  | _ => true
def widA : List D → Bool
  | [] => true
  | d :: r => wid d && widA r
end
structure Safe (d : D) : Prop where
  lay : d.canLay0 = true
  dep : d.depth ≤ 60
  wd : wid d = true
theorem Safe.of {d : D} (h : (d.canLay0 && decide (d.depth ≤ 60) && wid d) = true) : Safe d := by
  rw [Bool.and_eq_true, Bool.and_eq_true, decide_eq_true_eq] at h
  exact ⟨h.1.1, h.1.2, h.2⟩
theorem wid_mem {ds : List D} (h : widA ds = true) : ∀ d ∈ ds, wid d = true := by
  induction ds with
  | nil => intro d hd; cases hd
  | cons x r ih =>
    rw [widA, Bool.and_eq_true] at h
    intro d hd
    rcases List.mem_cons.mp hd with rfl | hd
    · exact h.1
    · exact ih h.2 d hd
theorem wid_all {ds : List D} (h : ∀ d ∈ ds, wid d = true) : widA ds = true := by
  induction ds with
  | nil => rfl
  | cons x r ih => rw [widA, h x List.mem_cons_self, ih fun d hd => h d (List.mem_cons_of_mem _ hd)]; rfl
theorem Safe.mem {ds : List D} (h : Safe (.list ds)) : ∀ d ∈ ds, Safe d := fun d hd => by
  have h1 := h.lay
  have h2 := h.dep
  have h3 := h.wd
  rw [PyData.canLay0] at h1
  rw [PyData.depth] at h2
  rw [wid, Bool.and_eq_true] at h3
  have := depth_mem hd
  exact ⟨canLay_mem hd h1, by omega, wid_mem h3.2 d hd⟩
theorem Safe.len {ds : List D} (h : Safe (.list ds)) : ds.length < 64 := by
  have h3 := h.wd
  rw [wid, Bool.and_eq_true, decide_eq_true_eq] at h3
  exact h3.1
theorem Safe.list {ds : List D} (h : ∀ d ∈ ds, Safe d) (hd : ∀ d ∈ ds, d.depth ≤ 59) (hl : ds.length < 64) : Safe (.list ds) := by
  refine ⟨?_, ?_, ?_⟩
  · rw [PyData.canLay0]; exact lay_all fun d hd => (h d hd).lay
  · rw [PyData.depth]; have := dep_all hd; omega
  · rw [wid, decide_eq_true hl, wid_all fun d hd => (h d hd).wd]; rfl
theorem Safe.shaped {d : D} (h : Safe d) : SeqAt.shaped d = true := shaped_of h.lay (Nat.le_trans h.dep (by decide))
theorem Safe.nomk {d : D} (h : Safe d) : isMk d = false := by
  have := h.wd
  cases d <;> first | rfl | (rw [wid] at this; cases this)
theorem noTok_lay : ∀ {d : D}, d.canLay0 = true → noTok d = true := fun {d} h =>
  PyData.rec (motive_1 := fun d => d.canLay0 = true → noTok d = true) (motive_2 := fun ds => PyData.canLayAll0 ds = true → noTokA ds = true) (motive_3 := fun _ => True) (motive_4 := fun _ => True)
    (fun _ => rfl) (fun _ _ => rfl) (fun _ _ => rfl) (fun _ _ => rfl) (fun xs ih h => by rw [noTok]; exact ih (by rw [PyData.canLay0] at h; exact h)) (fun xs ih h => by rw [noTok]; exact ih (by rw [PyData.canLay0] at h; exact h))
    (fun xs _ h => absurd h (by simp [PyData.canLay0])) (fun _ => rfl) (fun x xs h1 h2 h => by rw [PyData.canLayAll0, Bool.and_eq_true] at h; rw [noTokA, h1 h.1, h2 h.2]; rfl) trivial (fun _ _ _ _ => trivial) (fun _ _ _ _ => trivial) d h
theorem Safe.tok {d : D} (h : Safe d) : noTok d = true := noTok_lay h.lay
theorem Safe.sub {ds es : List D} (h : Safe (.list ds)) (hs : ∀ d ∈ es, d ∈ ds) (hl : es.length ≤ ds.length) : Safe (.list es) := by
  refine Safe.list (fun d hd => h.mem d (hs d hd)) (fun d hd => ?_) (by have := h.len; omega)
  have h2 := h.dep
  rw [PyData.depth] at h2
  have := depth_mem (hs d hd)
  omega
theorem safe_int (i : Int) : Safe (.int i) := ⟨rfl, by simp [PyData.depth], rfl⟩
theorem safe_row {l : List Int} (h : l.length < 64) : Safe (dI l) := Safe.list (fun d hd => by obtain ⟨i, _, rfl⟩ := List.mem_map.mp hd; exact safe_int i) (fun d hd => by obtain ⟨i, _, rfl⟩ := List.mem_map.mp hd; simp [PyData.depth]) (by rw [List.length_map]; exact h)
theorem safe_rows {l : List (List Int)} (h : l.length < 64) (h2 : ∀ g ∈ l, g.length < 64) : Safe (dL l) := Safe.list (fun d hd => by obtain ⟨g, hg, rfl⟩ := List.mem_map.mp hd; exact safe_row (h2 g hg)) (fun d hd => by obtain ⟨g, hg, rfl⟩ := List.mem_map.mp hd; have := depth_dI g; omega) (by rw [List.length_map]; exact h)
theorem dNe_nil {es : List D} (h : SeqAt.shaped (.list es) = true) : dNe (.list es) (.list []) = some (.bool (!es.isEmpty)) := by
  show (if SeqAt.shaped (.list es) = true ∧ SeqAt.shaped (.list []) = true then _ else _) = _
  rw [if_pos ⟨h, rfl⟩]
  cases es with
  | nil => rfl
  | cons x r => rfl
theorem dNe_nil0 {es : List D} (h : Safe (.list es)) : dNe (.list es) (.list []) = some (.bool (!es.isEmpty)) := dNe_nil h.shaped
/-! ### ints in any data -/
theorem isIntsD_map : ∀ l : List Int, isIntsD (l.map PyData.int) = some l
  | [] => rfl
  | x :: r => by rw [List.map_cons, isIntsD, isIntsD_map r]; rfl
theorem isIntsD_some : ∀ {ds : List D} {l : List Int}, isIntsD ds = some l → ds = l.map PyData.int
  | [], l, h => by cases h; rfl
  | .int i :: r, l, h => by
    unfold isIntsD at h
    obtain ⟨m, e1, e2⟩ := map_some' h
    subst e2
    rw [isIntsD_some e1]; rfl
def isI : D → Bool
  | .int _ => true
  | _ => false
theorem isIntsD_iff : ∀ ds : List D, (isIntsD ds).isSome = ds.all isI
  | [] => rfl
  | d :: r => by
    have := isIntsD_iff r
    rw [List.all_cons, ← this]
    cases d <;> first | rfl | (rw [isIntsD, Option.isSome_map]; rfl)
def inI (m : Int) : D → Bool
  | .int i => decide (0 ≤ i) && decide (i < m)
  | _ => false
/-- what is_row, is_group compute of any datum -/
def rowD (m : Int) : D → Bool
  | .list ds => match isIntsD ds with
    | some l => rowB m l
    | none => false
  | _ => false
def lenD : D → Nat
  | .list ds => ds.length
  | _ => 0
def grpD (m : Int) (d : D) : Bool := rowD m d && decide (1 < lenD d)
def toRow : D → List Int
  | .list ds => (isIntsD ds).getD []
  | _ => []
theorem rowD_dI (m : Int) (l : List Int) : rowD m (dI l) = rowB m l := by
  show (match isIntsD (l.map PyData.int) with
    | some l => rowB m l
    | none => false) = _
  rw [isIntsD_map]
theorem grpD_dI (m : Int) (l : List Int) : grpD m (dI l) = (rowB m l && decide (1 < l.length)) := by
  unfold grpD
  rw [rowD_dI, show lenD (dI l) = l.length from List.length_map _]
theorem rowD_true {m : Int} {d : D} (h : rowD m d = true) : d = dI (toRow d) ∧ rowB m (toRow d) = true := by
  cases d with
  | list ds =>
    unfold rowD at h
    simp only at h
    cases e : isIntsD ds with
    | none => rw [e] at h; cases h
    | some l =>
      rw [e] at h
      have := isIntsD_some e
      subst this
      refine ⟨?_, ?_⟩
      · show PyData.list _ = dI ((isIntsD _).getD [])
        rw [e]; rfl
      · show rowB m ((isIntsD _).getD []) = true
        rw [e]; exact h
  | _ => cases h
theorem toRow_dI (l : List Int) : toRow (dI l) = l := by
  show (isIntsD _).getD [] = l
  rw [isIntsD_map]; rfl
/-- what is_parting computes of any datum -/
def judge : D → Bool
  | .list ds => decide (ds.length < 20) && (ds.all (grpD (ds.length + 1)) && partB (ds.map toRow))
  | _ => false
theorem all_rows {m : Int} {ds : List D} (h : ds.all (grpD m) = true) : ds = (ds.map toRow).map dI ∧ ∀ g ∈ ds.map toRow, rowB m g = true ∧ 1 < g.length := by
  have h' := List.all_eq_true.mp h
  refine ⟨?_, fun g hg => ?_⟩
  · rw [List.map_map]
    conv => lhs; rw [← List.map_id ds]
    refine List.map_congr_left fun d hd => ?_
    have h2 := h' d hd
    unfold grpD at h2
    rw [Bool.and_eq_true] at h2
    exact (rowD_true h2.1).1
  · obtain ⟨d, hd, rfl⟩ := List.mem_map.mp hg
    have h2 := h' d hd
    unfold grpD at h2
    rw [Bool.and_eq_true, decide_eq_true_eq] at h2
    obtain ⟨h3, h4⟩ := rowD_true h2.1
    refine ⟨h4, ?_⟩
    have := h2.2
    rw [h3] at this
    rwa [show lenD (dI (toRow d)) = (toRow d).length from List.length_map _] at this
theorem judge_dL {ls : List (List Int)} (hl : ls.length < 20) (hr : ∀ g ∈ ls, rowB (ls.length + 1) g = true ∧ 1 < g.length) : judge (dL ls) = partB ls := by
  show (decide ((ls.map dI).length < 20) && ((ls.map dI).all (grpD ((ls.map dI).length + 1)) && partB ((ls.map dI).map toRow))) = _
  have e : (ls.map dI).map toRow = ls := by rw [List.map_map]; conv => rhs; rw [← List.map_id ls]
                                            exact List.map_congr_left fun g _ => toRow_dI g
  have a : (ls.map dI).all (grpD ((ls.map dI).length + 1)) = true := List.all_eq_true.mpr fun d hd => by
    obtain ⟨g, hg, rfl⟩ := List.mem_map.mp hd
    rw [List.length_map, grpD_dI, (hr g hg).1, decide_eq_true (hr g hg).2]; rfl
  rw [e, a, List.length_map, decide_eq_true hl]
  rfl
theorem Nest.Of.judge {t : Nest} {n : Nat} (h : t.Of n) (hn : n ≤ 20) : judge (dL t.lots) = true := by
  have p := h.parting hn
  rw [judge_dL p.few fun g hg => ⟨(p.row g hg).1, (p.row g hg).2.1⟩]
  exact h.partB hn
/-! ### ascending -/
theorem setI_asc {l : List Int} : (setI l = l) ↔ l.Pairwise (· < ·) := ⟨fun h => by rw [← h]; exact asc_setI, fun h => asc_ext asc_setI h fun x => mem_setI⟩
theorem asc_ends {m a : Int} {l : List Int} {z : Int} (h : (a :: l).Pairwise (· < ·)) (hz : (a :: l).getLast? = some z) : ((∀ x ∈ a :: l, 0 ≤ x ∧ x < m) ↔ 0 ≤ a ∧ z < m) := by
  have hzm : z ∈ a :: l := List.mem_of_getLast? hz
  have hlast : ∀ x ∈ a :: l, x ≤ z := by
    have : (a :: l).getLast (by simp) = z := by
      rw [List.getLast?_eq_some_getLast (by simp)] at hz
      exact Option.some.inj hz
    subst this
    intro x hx
    obtain ⟨i, hi, rfl⟩ := List.getElem_of_mem hx
    rw [List.getLast_eq_getElem]
    rcases Nat.lt_or_ge i ((a :: l).length - 1) with c | c
    · have := List.pairwise_iff_getElem.mp h i _ hi (by simp) c
      omega
    · have : i = (a :: l).length - 1 := by omega
      subst this
      exact Int.le_refl _
  constructor
  · intro q
    exact ⟨(q a List.mem_cons_self).1, (q z hzm).2⟩
  · rintro ⟨h1, h2⟩ x hx
    have h3 := hlast x hx
    refine ⟨?_, by omega⟩
    rcases List.mem_cons.mp hx with rfl | hx
    · exact h1
    · have := (List.pairwise_cons.mp h).1 x hx
      omega
end J
namespace J
open PySem PySem.Spec PyProof.Rows L2
theorem sum_len_le {c : Nat} : ∀ {ds : List D}, (∀ d ∈ ds, d.shown.length ≤ c) → ((PyData.shownAll ds).map (·.length)).sum ≤ c * ds.length ∧ (PyData.shownAll ds).length = ds.length
  | [], _ => ⟨by simp [PyData.shownAll], by simp [PyData.shownAll]⟩
  | d :: r, h => by
    obtain ⟨h1, h2⟩ := sum_len_le (ds := r) fun x hx => h x (List.mem_cons_of_mem _ hx)
    have h3 := h d List.mem_cons_self
    simp only [PyData.shownAll, List.map_cons, List.sum_cons, List.length_cons]
    refine ⟨?_, by omega⟩
    rw [Nat.mul_succ]
    omega
theorem Ok.tuple {ds : List D} {n c : Nat} (h : ∀ d ∈ ds, Ok d n c) : Ok (.tuple ds) (n + 1) (3 + (c + 2) * ds.length) := by
  refine ⟨?_, ?_, ?_, ?_⟩
  · simp only [PyData.canLay0]; exact lay_all fun d hd => (h d hd).lay
  · have := dep_all fun d hd => (h d hd).dep
    simp only [PyData.depth]; omega
  · simp only [PyData.showable]; exact PySem.Spec.showableAll_of fun d hd => (h d hd).sho
  · have h1 := tupleText_len_le (PyData.shownAll ds)
    obtain ⟨h2, h3⟩ := sum_len_le fun d hd => (h d hd).len
    simp only [PyData.shown]
    rw [h3] at h1
    rw [Nat.add_mul]
    omega
/-- laid out, shallow, short, of short lists -/
def Nice (n c : Nat) (d : D) : Prop := Ok d n c ∧ wid d = true
theorem Nice.mono {n c m e : Nat} {d : D} (h : Nice n c d) (h1 : n ≤ m) (h2 : c ≤ e) : Nice m e d := ⟨h.1.mono h1 h2, h.2⟩
theorem Nice.list {n c : Nat} {ds : List D} (h : ∀ d ∈ ds, Nice n c d) (hl : ds.length < 64) : Nice (n + 1) (2 + (c + 2) * ds.length) (.list ds) :=
  ⟨Ok.list fun d hd => (h d hd).1, by rw [wid, decide_eq_true hl, wid_all fun d hd => (h d hd).2]; rfl⟩
theorem Nice.tuple {n c : Nat} {ds : List D} (h : ∀ d ∈ ds, Nice n c d) (hl : ds.length < 64) : Nice (n + 1) (3 + (c + 2) * ds.length) (.tuple ds) :=
  ⟨Ok.tuple fun d hd => (h d hd).1, by rw [wid, decide_eq_true hl, wid_all fun d hd => (h d hd).2]; rfl⟩
theorem Nice.int {x : Int} (h0 : 0 ≤ x) (h : x < 1000) : Nice 1 3 (.int x) := ⟨Ok.int (by decide) (by decide) h0 h, rfl⟩
theorem Nice.row {l : List Int} (h : ∀ x ∈ l, 0 ≤ x ∧ x < 1000) (hl : l.length ≤ 25) : Nice 2 130 (dI l) :=
  (Nice.list (n := 1) (c := 3) (ds := l.map PyData.int) (fun d hd => by obtain ⟨x, hx, rfl⟩ := List.mem_map.mp hd; exact Nice.int (h x hx).1 (h x hx).2) (by rw [List.length_map]; omega)).mono (Nat.le_refl _) (by rw [List.length_map]; omega)
theorem Nice.trow {l : List Int} (h : ∀ x ∈ l, 0 ≤ x ∧ x < 1000) (hl : l.length ≤ 25) : Nice 2 130 (.tuple (l.map PyData.int)) :=
  (Nice.tuple (n := 1) (c := 3) (ds := l.map PyData.int) (fun d hd => by obtain ⟨x, hx, rfl⟩ := List.mem_map.mp hd; exact Nice.int (h x hx).1 (h x hx).2) (by rw [List.length_map]; omega)).mono (Nat.le_refl _) (by rw [List.length_map]; omega)
theorem Nice.safe {n c : Nat} {d : D} (h : Nice n c d) (hn : n ≤ 60) : Safe d := ⟨h.1.lay, Nat.le_trans h.1.dep hn, h.2⟩
theorem pln_lay : ∀ {d : D}, d.canLay0 = true → pln d = true := fun {d} h =>
  PyData.rec (motive_1 := fun d => d.canLay0 = true → pln d = true) (motive_2 := fun ds => PyData.canLayAll0 ds = true → plnA ds = true) (motive_3 := fun _ => True) (motive_4 := fun _ => True)
    (fun _ => rfl) (fun _ _ => rfl) (fun _ _ => rfl) (fun _ _ => rfl) (fun xs ih h => by rw [pln]; exact ih (by rw [PyData.canLay0] at h; exact h)) (fun xs ih h => by rw [pln]; exact ih (by rw [PyData.canLay0] at h; exact h))
    (fun xs _ h => absurd h (by simp [PyData.canLay0])) (fun _ => rfl) (fun x xs h1 h2 h => by rw [PyData.canLayAll0, Bool.and_eq_true] at h; rw [plnA, h1 h.1, h2 h.2]; rfl) trivial (fun _ _ _ _ => trivial) (fun _ _ _ _ => trivial) d h
/-- an object that a judge may be asked about -/
structure Ob (d : D) : Prop where
  saf : Safe d ∨ d = .dict []
  pl : pln d = true
  dep : d.depth ≤ 10
  sho : d.showable = true
  len : d.shown.length ≤ 10000
theorem Nice.ob {n c : Nat} {d : D} (h : Nice n c d) (hn : n ≤ 10) (hc : c ≤ 10000) : Ob d := ⟨.inl (h.safe (by omega)), pln_lay h.1.lay, Nat.le_trans h.1.dep hn, h.1.sho, Nat.le_trans h.1.len hc⟩
theorem Ob.tok {d : D} (h : Ob d) : noTok d = true := by
  rcases h.saf with h | h
  · exact h.tok
  · subst h; rfl
theorem plnA_all {ds : List D} (h : ∀ d ∈ ds, pln d = true) : plnA ds = true := by
  induction ds with
  | nil => rfl
  | cons x r ih => rw [plnA, h x List.mem_cons_self, ih fun d hd => h d (List.mem_cons_of_mem _ hd)]; rfl
theorem obs_repr {ds : List D} (h : ∀ d ∈ ds, Ob d) (hl : ds.length ≤ 1000) : dReprG (.list ds) = some (.str (PyData.shown (.list ds))) := by
  unfold dReprG
  refine if_pos ?_
  unfold showG
  have h1 := dep_all fun d hd => (h d hd).dep
  have h2 : (PyData.shown (.list ds)).length ≤ 2 + (10000 + 2) * ds.length := shown_list_le fun d hd => (h d hd).len
  rw [Bool.and_eq_true, Bool.and_eq_true, Bool.and_eq_true, decide_eq_true_eq, decide_eq_true_eq]
  refine ⟨⟨⟨?_, ?_⟩, ?_⟩, by omega⟩
  · simp only [PyData.showable]; exact PySem.Spec.showableAll_of fun d hd => (h d hd).sho
  · rw [pln]; exact plnA_all fun d hd => (h d hd).pl
  · simp only [PyData.depth]; omega
/-- what is checked of a written object -/
def obB (d : D) : Bool := match d with
  | .dict [] => true
  | d => d.canLay0 && wid d && decide (d.depth ≤ 10) && d.showable && decide (d.shown.length ≤ 10000)
theorem obB_ob {d : D} (h : obB d = true) : Ob d := by
  unfold obB at h
  split at h
  · exact ⟨.inr rfl, rfl, by simp [PyData.depth, PyData.depthKv], by simp [PyData.showable, PyData.showableKv], by decide +kernel⟩
  · rw [Bool.and_eq_true, Bool.and_eq_true, Bool.and_eq_true, Bool.and_eq_true, decide_eq_true_eq, decide_eq_true_eq] at h
    obtain ⟨⟨⟨⟨h1, h2⟩, h3⟩, h4⟩, h5⟩ := h
    exact ⟨.inl ⟨h1, by omega, h2⟩, pln_lay h1, h3, h4, h5⟩
end J
namespace J
/-! all lists of items of few persons: their lots are unlike -/
def extR (f : Nat) (row : List Int) : List (List Int) := (List.range (2 * f - 1)).map fun i : Nat => row ++ [1 - (f : Int) + i]
def rowsT : Nat → List (List Int)
  | 0 => [[]]
  | k + 1 => (rowsT k).flatMap (extR (k + 1))
def growT (i : Nat) (t : Nest) : List Int → Nest
  | [] => t
  | x :: r => growT (i + 1) (t.put x (i + 1 : Nat)) r
def maskZ (l : List Int) : Nat := (l.map fun x : Int => 2 ^ x.toNat).sum
def codeT : Nest → Nat × Nat
  | .lf i => (2 ^ i.toNat, 0)
  | .nd a b => ((codeT a).1 + (codeT b).1, 2 ^ ((codeT a).1 + (codeT b).1) + ((codeT a).2 + (codeT b).2))
def codeL (ls : List (List Int)) : Nat := (ls.map fun g => 2 ^ maskZ g).sum
theorem perm_sum {l m : List Nat} (h : l.Perm m) : l.sum = m.sum := by
  induction h with
  | nil => rfl
  | cons x _ ih => simp [ih]
  | swap x y l => simp; omega
  | trans _ _ h1 h2 => exact h1.trans h2
theorem mask_perm {l m : List Int} (h : l.Perm m) : maskZ l = maskZ m := perm_sum (h.map _)
theorem codeT_fst : ∀ t : Nest, (codeT t).1 = maskZ t.lv
  | .lf i => by simp [codeT, maskZ, Nest.lv]
  | .nd a b => by
    show (codeT a).1 + (codeT b).1 = maskZ (a.lv ++ b.lv)
    rw [codeT_fst a, codeT_fst b]
    simp [maskZ]
theorem codeT_snd : ∀ t : Nest, (codeT t).2 = (t.gr.map fun X => 2 ^ maskZ X.lv).sum
  | .lf i => by simp [codeT, Nest.gr]
  | .nd a b => by
    have h := codeT_fst (.nd a b)
    show 2 ^ (codeT (.nd a b)).1 + ((codeT a).2 + (codeT b).2) = _
    rw [h, codeT_snd a, codeT_snd b]
    simp [Nest.gr]
theorem code_lots (t : Nest) : (codeT t).2 = codeL t.lots := by
  rw [codeT_snd]
  unfold codeL Nest.lots
  refine (perm_sum ((sR_perm _).map _)).symm ▸ ?_
  rw [List.map_map]
  congr 1
  refine List.map_congr_left fun X _ => ?_
  show _ = 2 ^ maskZ X.folk
  rw [mask_perm (show X.folk.Perm X.lv from sZ_perm _)]
theorem codes_few : ∀ k < 5, ((rowsT k).map fun r => (codeT (growT 0 (.lf 0) r)).2).Nodup := by decide +kernel
theorem lots_few {k : Nat} (hk : k < 5) : ((rowsT k).map fun r => (growT 0 (.lf 0) r).lots).Nodup := by
  have h := codes_few k hk
  rw [show ((rowsT k).map fun r => (codeT (growT 0 (.lf 0) r)).2) = (((rowsT k).map fun r => (growT 0 (.lf 0) r).lots)).map codeL by rw [List.map_map]; exact List.map_congr_left fun r _ => code_lots _] at h
  exact (List.pairwise_map.mp h).imp fun h e => h (congrArg codeL e)
/-! all lots of four persons, by threes -/
def every4 : List (List Int) := [[0, 1], [0, 1, 2], [0, 1, 2, 3], [0, 1, 3], [0, 2], [0, 2, 3], [0, 3], [1, 2], [1, 2, 3], [1, 3], [2, 3]]
def three (h m l : Nat) : List (List Int) := [every4.getD h [], every4.getD m [], every4.getD l []]
def cnt3 (m l : Nat) (n : Nat) : Nat := ((List.range n).map fun h => if partB (three h m l) = true then 1 else 0).sum
def cnt2 (l : Nat) (n : Nat) : Nat := ((List.range n).map fun m => cnt3 m l m).sum
def cnt1 (n : Nat) : Nat := ((List.range n).map fun l => cnt2 l l).sum
theorem cnt_all : cnt1 11 = 15 := by decide +kernel
end J
namespace K01
open PySem PySem.Spec PyProof.Rows L2 J
def topS (i : Nat) : Stmt := PySem.Challenge.pw_twopartings_k01_partings_judged.main.body.getD i (.Pass ⟨0, 0, 0, 0⟩)
abbrev s_is_integer : Stmt := topS 2
theorem sc_is_integer : FnScope ["thing"] ["thing"] (defScope s_is_integer) := ⟨rfl, rfl, rfl, by decide +kernel, rfl, by decide +kernel, by decide +kernel⟩
def b_is_integer : Sv := (sSeq (sRet [] (eAnd (eUn (dIsi "int") (eVar 0)) (eUn dNot (eUn (dIsi "bool") (eVar 0)))))
    sNil)
def F_is_integer : FnD := fnD 1 b_is_integer
theorem ok_is_integer {P : Program} {w : World} {K : PySem.W.Frag} {mg : Str → Option Value} {base : Heap} (D : Dfn K mg "is_integer" s_is_integer)
    (z_bool : mg "bool" = none)
    (z_int : mg "int" = none)
    (z_isinstance : mg "isinstance" = none) :
    Cal P w K mg base "is_integer" s_is_integer ["thing"] 1 F_is_integer 0 :=
  cal_def D sc_is_integer fun f cdv A outer s H hr hg => by
    unfold b_is_integer
    refine jss_cons ?_ jss_nil
    refine js_ret (M := []) ?_
    refine jp_and ?_ ?_
    · refine jp_isi ist_int (jv 0) ?_ ?_ ?_ ?_ ?_
      · rfl
      · exact z_isinstance
      · rfl
      · exact z_int
      · decide +kernel
    · refine jp_one ?_
      refine jp_not ?_
      refine jp_isi ist_bool (jv 0) ?_ ?_ ?_ ?_ ?_
      · rfl
      · exact z_isinstance
      · rfl
      · exact z_bool
      · decide +kernel
abbrev s_is_row : Stmt := topS 3
theorem sc_is_row : FnScope ["many", "thing", "one", "other", "item"] ["many", "thing"] (defScope s_is_row) := ⟨rfl, rfl, rfl, by decide +kernel, rfl, by decide +kernel, by decide +kernel⟩
def c_is_row_1 : Ev := (eComp (iVal (eVar 1)) (bN 4) tY (eAnd (eCall F_is_integer [0] (aApp (aC (eVar 4) aN) aN)) (eChain dLe dLt (eC (.int 0)) (eVar 4) (eVar 0))) [4])
def c_is_row_2 : Ev := (eComp (iB (fun x y => (isLst x).bind fun ds => (isLst y).map fun es => ziD ds es) (eVar 1) (eSl (eVar 1) (oS (eC (.int 1))) oN)) (bT2 2 3) tY (eBin dLt (eVar 2) (eVar 3)) [2, 3])
def b_is_row : Sv := (sSeq (sIf [] (oT (nT (bT (eUn (dIsi "list") (eVar 1)))) (nT (bT (eOp cAll (aC c_is_row_1 aN)))))
    (sSeq (sRet [] (eC (.bool false)))
    sNil)
    sNil)
    (sSeq (sRet [] (eOp cAll (aC c_is_row_2 aN)))
    sNil))
def F_is_row : FnD := fnD 5 b_is_row
theorem ok_is_row {P : Program} {w : World} {K : PySem.W.Frag} {mg : Str → Option Value} {base : Heap} (D : Dfn K mg "is_row" s_is_row)
    (q_is_integer : Cal P w K mg base "is_integer" s_is_integer ["thing"] 1 F_is_integer 0)
    (z_all : mg "all" = none)
    (z_isinstance : mg "isinstance" = none)
    (z_list : mg "list" = none)
    (z_zip : mg "zip" = none) :
    Cal P w K mg base "is_row" s_is_row ["many", "thing"] 2 F_is_row 0 :=
  cal_def D sc_is_row fun f cdv A outer s H hr hg => by
    unfold b_is_row
    refine jss_cons ?_ ?_
    · refine js_if (M := []) ?_ ?_ jss_nil
      · refine jt_pw ?_
        refine jw_or ?_ ?_
        · refine jt_not ?_
          refine jt_val ?_ ?_
          · refine jp_isi ist_list (jv 1) ?_ ?_ ?_ ?_ ?_
            · rfl
            · exact z_isinstance
            · rfl
            · exact z_list
            · decide +kernel
          · exact fun _ => rfl
        · refine jw_or1 ?_
          refine jt_not ?_
          refine jt_val ?_ ?_
          · refine jp_callB (cj_all ?_) ?_ ?_ ?_ ?_
            · rfl
            · rfl
            · exact z_all
            · decide +kernel
            · refine ja_cons ?_ ja_nil
              refine JP.zero (k := 1) ?_
              refine jp_comp (own := [("item", 4)]) ?_ ?_ ?_ ?_ ?_ jts_nil (fun _ _ _ _ _ => ?_) ho_n ?_
              · rfl
              · exact sc_is_row.nd
              · exact ji_val (jv 1)
              · refine blkOk_by (N := ["many", "thing", "one", "other", "item"]) (sc := defScope s_is_row) ?_
                decide +kernel
              · refine jg_n ?_ ?_ ?_
                · exact sc_is_row.nd
                · rfl
                · exact fun _ _ _ _ _ => .inl rfl
              · refine jp_and ?_ ?_
                · refine jp_cal (st := s_is_integer) (ps := ["thing"]) (n := 1) (ks := []) (perm := [0]) (j := 1) (l := 1) ?_ ?_ ?_ ?_ ?_ ?_ (len_aC len_aN) jk_nil len_aN
                  · exact q_is_integer
                  · omega
                  · exact hr
                  · exact hg
                  · exact fun _ _ _ _ _ _ us ws h1 h2 => match us, ws, h1, h2 with | [_], [], _, _ => rfl
                  · exact ja_cons (jv 4) ja_nil
                · refine jp_one ?_
                  refine jp_chain oj_le (oj_lt ?_) jp_int (jv 4) (jv 0) ?_
                  · exact u64 hr
                  · rfl
              · exact fun _ => rfl
          · exact fun _ => rfl
      · refine jss_cons ?_ jss_nil
        exact js_ret (M := []) jp_bl
    · refine jss_cons ?_ jss_nil
      refine js_ret (M := []) ?_
      refine jp_callB (cj_all ?_) ?_ ?_ ?_ ?_
      · rfl
      · rfl
      · exact z_all
      · decide +kernel
      · refine ja_cons ?_ ja_nil
        refine JP.zero (k := 1) ?_
        refine jp_comp (own := [("one", 2), ("other", 3)]) ?_ ?_ ?_ ?_ ?_ jts_nil (fun _ _ _ _ _ => ?_) ho_t ?_
        · rfl
        · exact sc_is_row.nd
        · refine ji_zip (jv 1) ?_ ?_ ?_
          · refine JP.zero (k := 1) ?_
            refine jp_slice (jv 1) ?_ jo_none
            exact jo_some jp_int
          · rfl
          · exact z_zip
        · refine blkOk_by (N := ["many", "thing", "one", "other", "item"]) (sc := defScope s_is_row) ?_
          decide +kernel
        · refine jg_t ?_ ?_ ?_ ?_ ?_
          · exact sc_is_row.nd
          · rfl
          · rfl
          · exact fun _ _ _ _ _ => .inl rfl
          · exact fun _ _ _ _ _ => .inl rfl
        · refine jp_cmp (oj_lt ?_) (jv 2) (jv 3) (nomark _)
          exact u64 hr
        · exact fun _ => rfl
abbrev s_is_group : Stmt := topS 4
theorem sc_is_group : FnScope ["many", "thing"] ["many", "thing"] (defScope s_is_group) := ⟨rfl, rfl, rfl, by decide +kernel, rfl, by decide +kernel, by decide +kernel⟩
def b_is_group : Sv := (sSeq (sRet [] (eAnd (eCall F_is_row [0, 1] (aApp (aC (eVar 0) (aC (eVar 1) aN)) aN)) (eBin dGt (eOp cLen (aC (eVar 1) aN)) (eC (.int 1)))))
    sNil)
def F_is_group : FnD := fnD 2 b_is_group
theorem ok_is_group {P : Program} {w : World} {K : PySem.W.Frag} {mg : Str → Option Value} {base : Heap} (D : Dfn K mg "is_group" s_is_group)
    (q_is_row : Cal P w K mg base "is_row" s_is_row ["many", "thing"] 2 F_is_row 0)
    (z_len : mg "len" = none) :
    Cal P w K mg base "is_group" s_is_group ["many", "thing"] 3 F_is_group 0 :=
  cal_def D sc_is_group fun f cdv A outer s H hr hg => by
    unfold b_is_group
    refine jss_cons ?_ jss_nil
    refine js_ret (M := []) ?_
    refine jp_and ?_ ?_
    · refine jp_cal (st := s_is_row) (ps := ["many", "thing"]) (n := 2) (ks := []) (perm := [0, 1]) (j := 2) (l := 2) ?_ ?_ ?_ ?_ ?_ ?_ (len_aC (len_aC len_aN)) jk_nil len_aN
      · exact q_is_row
      · omega
      · exact hr
      · exact hg
      · exact fun _ _ _ _ _ _ us ws h1 h2 => match us, ws, h1, h2 with | [_, _], [], _, _ => rfl
      · refine ja_cons (jv 0) ?_
        exact ja_cons (jv 1) ja_nil
    · refine jp_one ?_
      refine jp_cmp oj_gt ?_ jp_int (nomark _)
      refine jp_callB cj_len ?_ ?_ ?_ ?_
      · rfl
      · exact z_len
      · decide +kernel
      · exact ja_cons (jv 1) ja_nil
abbrev s_lies_in : Stmt := topS 5
theorem sc_lies_in : FnScope ["inner", "group", "person"] ["inner", "group"] (defScope s_lies_in) := ⟨rfl, rfl, rfl, by decide +kernel, rfl, by decide +kernel, by decide +kernel⟩
def c_lies_in_1 : Ev := (eComp (iVal (eVar 0)) (bN 2) tY (eBin dIn (eVar 2) (eVar 1)) [2])
def b_lies_in : Sv := (sSeq (sRet [] (eOp cAll (aC c_lies_in_1 aN)))
    sNil)
def F_lies_in : FnD := fnD 3 b_lies_in
theorem ok_lies_in {P : Program} {w : World} {K : PySem.W.Frag} {mg : Str → Option Value} {base : Heap} (D : Dfn K mg "lies_in" s_lies_in)
    (z_all : mg "all" = none) :
    Cal P w K mg base "lies_in" s_lies_in ["inner", "group"] 1 F_lies_in 0 :=
  cal_def D sc_lies_in fun f cdv A outer s H hr hg => by
    unfold b_lies_in
    refine jss_cons ?_ jss_nil
    refine js_ret (M := []) ?_
    refine jp_callB (cj_all ?_) ?_ ?_ ?_ ?_
    · rfl
    · rfl
    · exact z_all
    · decide +kernel
    · refine ja_cons ?_ ja_nil
      refine JP.zero (k := 1) ?_
      refine jp_comp (own := [("person", 2)]) ?_ ?_ ?_ ?_ ?_ jts_nil (fun _ _ _ _ _ => ?_) ho_n ?_
      · rfl
      · exact sc_lies_in.nd
      · exact ji_val (jv 0)
      · refine blkOk_by (N := ["inner", "group", "person"]) (sc := defScope s_lies_in) ?_
        decide +kernel
      · refine jg_n ?_ ?_ ?_
        · exact sc_lies_in.nd
        · rfl
        · exact fun _ _ _ _ _ => .inl rfl
      · refine jp_cmp (oj_in ?_) (jv 2) (jv 1) ?_
        · exact u65 hr
        · rfl
      · exact fun _ => rfl
abbrev s_parts_in : Stmt := topS 6
theorem sc_parts_in : FnScope ["parting", "group", "first", "other", "person"] ["parting", "group"] (defScope s_parts_in) := ⟨rfl, rfl, rfl, by decide +kernel, rfl, by decide +kernel, by decide +kernel⟩
def l_parts_in_1 : Sv := (sSeq (sIf [] (aT (bT (eChain dLt dLt (eOp cLen (aC (eVar 2) aN)) (eOp cLen (aC (eVar 3) aN)) (eOp cLen (aC (eVar 1) aN)))) (bT (eBin dIn (eIdx (eVar 1) (eC (.int 0))) (eVar 3))))
    (sSeq (sSet 2 0 [] (eOp cList (aC (eVar 3) aN)))
    sNil)
    sNil)
    sNil)
def c_parts_in_1 : Ev := (eComp (iVal (eVar 1)) (bN 4) (bT (eBin dNotIn (eVar 4) (eVar 2))) (eVar 4) [4])
def b_parts_in : Sv := (sSeq (sSet 2 0 [] (eSl (eVar 1) oN (oS (eC (.int 1)))))
    (sSeq (sFor [] (iVal (eVar 0)) (bN 3)
    l_parts_in_1)
    (sSeq (sRet [] (eLst (aC (eVar 2) (aC c_parts_in_1 aN))))
    sNil)))
def F_parts_in : FnD := fnD 5 b_parts_in
theorem ok_parts_in {P : Program} {w : World} {K : PySem.W.Frag} {mg : Str → Option Value} {base : Heap} (D : Dfn K mg "parts_in" s_parts_in)
    (z_len : mg "len" = none)
    (z_list : mg "list" = none) :
    Cal P w K mg base "parts_in" s_parts_in ["parting", "group"] 1 F_parts_in 0 :=
  cal_def D sc_parts_in fun f cdv A outer s H hr hg => by
    unfold b_parts_in
    refine jss_cons ?_ ?_
    · refine js_set (i := 2) (M := []) ?_ ?_ ?_ ?_
      · refine JP.zero (k := 1) ?_
        refine jp_slice (jv 1) jo_none ?_
        exact jo_some jp_int
      · exact sc_parts_in.nd
      · rfl
      · exact .inr rfl
    · refine jss_cons ?_ ?_
      · refine js_for (M := []) ?_ ?_ ?_ ?_ gspec_name ?_
        · exact PassesOwn.never
        · rfl
        · exact ji_val (jv 0)
        · refine pg_name (i := 3) ?_ ?_ ?_
          · exact sc_parts_in.nd
          · rfl
          · exact .inl rfl
        · refine jss_cons ?_ jss_nil
          refine js_if (M := []) ?_ ?_ jss_nil
          · refine jt_pw ?_
            refine jw_and ?_ ?_
            · refine jt_chain (oj_lt ?_) (oj_lt ?_) ?_ ?_ ?_ ?_
              · exact u64 hr
              · exact u64 hr
              · refine jp_callB cj_len ?_ ?_ ?_ ?_
                · rfl
                · exact z_len
                · decide +kernel
                · exact ja_cons (jv 2) ja_nil
              · refine jp_callB cj_len ?_ ?_ ?_ ?_
                · rfl
                · exact z_len
                · decide +kernel
                · exact ja_cons (jv 3) ja_nil
              · refine jp_callB cj_len ?_ ?_ ?_ ?_
                · rfl
                · exact z_len
                · decide +kernel
                · exact ja_cons (jv 1) ja_nil
              · rfl
            · refine jw_and1 ?_
              refine jt_cmp (oj_in ?_) ?_ (jv 3) ?_
              · exact u65 hr
              · refine jp_idx (jv 1) jp_int ?_
                exact fun _ _ => rfl
              · rfl
          · refine jss_cons ?_ jss_nil
            refine js_set (i := 2) (M := []) ?_ ?_ ?_ ?_
            · refine JP.zero (k := 1) ?_
              refine jp_callTy cj_list ?_ ?_ ?_ ?_
              · rfl
              · exact z_list
              · decide +kernel
              · exact ja_cons (jv 3) ja_nil
            · exact sc_parts_in.nd
            · rfl
            · exact .inr rfl
      · refine jss_cons ?_ jss_nil
        refine js_ret (M := []) ?_
        refine JP.zero (k := 1) ?_
        refine jp_lst ?_
        refine ja_cons (jv 2) ?_
        refine ja_cons ?_ ja_nil
        refine JP.zero (k := 1) ?_
        refine jp_comp (own := [("person", 4)]) ?_ ?_ ?_ ?_ ?_ ?_ (fun _ _ _ _ _ => (jv 4)) ho_n ?_
        · rfl
        · exact sc_parts_in.nd
        · exact ji_val (jv 1)
        · refine blkOk_by (N := ["parting", "group", "first", "other", "person"]) (sc := defScope s_parts_in) ?_
          decide +kernel
        · refine jg_n ?_ ?_ ?_
          · exact sc_parts_in.nd
          · rfl
          · exact fun _ _ _ _ _ => .inl rfl
        · refine jts_one (fun _ _ _ _ _ => ?_)
          refine jt_cmp (oj_notIn ?_) (jv 4) (jv 2) ?_
          · exact u65 hr
          · rfl
        · exact fun _ => rfl
abbrev s_has_parts : Stmt := topS 7
theorem sc_has_parts : FnScope ["groups", "group", "first", "second"] ["groups", "group"] (defScope s_has_parts) := ⟨rfl, rfl, rfl, by decide +kernel, rfl, by decide +kernel, by decide +kernel⟩
def b_has_parts : Sv := (sSeq (sBind [] (bL2 2 3) (eCall F_parts_in [0, 1] (aApp (aC (eVar 0) (aC (eVar 1) aN)) aN)))
    (sSeq (sRet [] (eAnd (eCall F_lies_in [0, 1] (aApp (aC (eVar 2) (aC (eVar 1) aN)) aN)) (eOr (eBin dEq (eOp cLen (aC (eVar 3) aN)) (eC (.int 1))) (eBin dIn (eVar 3) (eVar 0)))))
    sNil))
def F_has_parts : FnD := fnD 4 b_has_parts
theorem ok_has_parts {P : Program} {w : World} {K : PySem.W.Frag} {mg : Str → Option Value} {base : Heap} (D : Dfn K mg "has_parts" s_has_parts)
    (q_lies_in : Cal P w K mg base "lies_in" s_lies_in ["inner", "group"] 1 F_lies_in 0)
    (q_parts_in : Cal P w K mg base "parts_in" s_parts_in ["parting", "group"] 1 F_parts_in 0)
    (z_len : mg "len" = none) :
    Cal P w K mg base "has_parts" s_has_parts ["groups", "group"] 2 F_has_parts 0 :=
  cal_def D sc_has_parts fun f cdv A outer s H hr hg => by
    unfold b_has_parts
    refine jss_cons ?_ ?_
    · refine js_bind (M := []) ?_ ?_ gspec_lst2
      · refine jp_cal (st := s_parts_in) (ps := ["parting", "group"]) (n := 2) (ks := []) (perm := [0, 1]) (j := 1) (l := 1) ?_ ?_ ?_ ?_ ?_ ?_ (len_aC (len_aC len_aN)) jk_nil len_aN
        · exact q_parts_in
        · omega
        · exact hr
        · exact hg
        · exact fun _ _ _ _ _ _ us ws h1 h2 => match us, ws, h1, h2 with | [_, _], [], _, _ => rfl
        · refine ja_cons (jv 0) ?_
          exact ja_cons (jv 1) ja_nil
      · refine pg_unl ?_ (pgs_cons (pg_name (i := 2) ?_ ?_ ?_) (pgs_cons (pg_name (i := 3) ?_ ?_ ?_) pgs_nil))
        · rfl
        · exact sc_has_parts.nd
        · rfl
        · exact .inl rfl
        · exact sc_has_parts.nd
        · rfl
        · exact .inl rfl
    · refine jss_cons ?_ jss_nil
      refine js_ret (M := []) ?_
      refine jp_and ?_ ?_
      · refine jp_cal (st := s_lies_in) (ps := ["inner", "group"]) (n := 2) (ks := []) (perm := [0, 1]) (j := 1) (l := 1) ?_ ?_ ?_ ?_ ?_ ?_ (len_aC (len_aC len_aN)) jk_nil len_aN
        · exact q_lies_in
        · omega
        · exact hr
        · exact hg
        · exact fun _ _ _ _ _ _ us ws h1 h2 => match us, ws, h1, h2 with | [_, _], [], _, _ => rfl
        · refine ja_cons (jv 2) ?_
          exact ja_cons (jv 1) ja_nil
      · refine jp_one ?_
        refine jp_or ?_ ?_
        · refine jp_cmp (oj_eq ?_) ?_ jp_int (nomark _)
          · exact u64 hr
          · refine jp_callB cj_len ?_ ?_ ?_ ?_
            · rfl
            · exact z_len
            · decide +kernel
            · exact ja_cons (jv 3) ja_nil
        · refine jp_one ?_
          refine jp_cmp (oj_in ?_) (jv 3) (jv 0) ?_
          · exact u65 hr
          · rfl
abbrev s_is_parting : Stmt := topS 8
theorem sc_is_parting : FnScope ["thing", "group", "one", "other"] ["thing"] (defScope s_is_parting) := ⟨rfl, rfl, rfl, by decide +kernel, rfl, by decide +kernel, by decide +kernel⟩
def c_is_parting_1 : Ev := (eComp (iVal (eVar 0)) (bN 1) tY (eCall F_is_group [0, 1] (aApp (aC (eBin dAdd (eOp cLen (aC (eVar 0) aN)) (eC (.int 1))) (aC (eVar 1) aN)) aN)) [1])
def c_is_parting_2 : Ev := (eComp (iB (fun x y => (isLst x).bind fun ds => (isLst y).map fun es => ziD ds es) (eVar 0) (eSl (eVar 0) (oS (eC (.int 1))) oN)) (bT2 2 3) tY (eBin dLt (eVar 2) (eVar 3)) [2, 3])
def c_is_parting_3 : Ev := (eComp (iVal (eVar 0)) (bN 1) tY (eCall F_has_parts [0, 1] (aApp (aC (eVar 0) (aC (eVar 1) aN)) aN)) [1])
def b_is_parting : Sv := (sSeq (sIf [] (oT (nT (bT (eUn (dIsi "list") (eVar 0)))) (bT (eBin dGe (eOp cLen (aC (eVar 0) aN)) (eC (.int 20)))))
    (sSeq (sRet [] (eC (.bool false)))
    sNil)
    sNil)
    (sSeq (sIf [] (nT (bT (eOp cAll (aC c_is_parting_1 aN))))
    (sSeq (sRet [] (eC (.bool false)))
    sNil)
    sNil)
    (sSeq (sIf [] (nT (bT (eOp cAll (aC c_is_parting_2 aN))))
    (sSeq (sRet [] (eC (.bool false)))
    sNil)
    sNil)
    (sSeq (sIf [] (aT (bT (eBin dNe (eVar 0) (eLst aN))) (bT (eBin dNotIn (eLRg (r1 (eBin dAdd (eOp cLen (aC (eVar 0) aN)) (eC (.int 1))))) (eVar 0))))
    (sSeq (sRet [] (eC (.bool false)))
    sNil)
    sNil)
    (sSeq (sRet [] (eOp cAll (aC c_is_parting_3 aN)))
    sNil)))))
def F_is_parting : FnD := fnD 4 b_is_parting
theorem ok_is_parting {P : Program} {w : World} {K : PySem.W.Frag} {mg : Str → Option Value} {base : Heap} (D : Dfn K mg "is_parting" s_is_parting)
    (q_is_group : Cal P w K mg base "is_group" s_is_group ["many", "thing"] 3 F_is_group 0)
    (q_has_parts : Cal P w K mg base "has_parts" s_has_parts ["groups", "group"] 2 F_has_parts 0)
    (z_all : mg "all" = none)
    (z_isinstance : mg "isinstance" = none)
    (z_len : mg "len" = none)
    (z_list : mg "list" = none)
    (z_range : mg "range" = none)
    (z_zip : mg "zip" = none)
    {t_MOST_PERSONS : Tok} (c_MOST_PERSONS : mg "MOST_PERSONS" = some (.int 20 t_MOST_PERSONS)) :
    Cal P w K mg base "is_parting" s_is_parting ["thing"] 4 F_is_parting 0 :=
  cal_def D sc_is_parting fun f cdv A outer s H hr hg => by
    unfold b_is_parting
    refine jss_cons ?_ ?_
    · refine js_if (M := []) ?_ ?_ jss_nil
      · refine jt_pw ?_
        refine jw_or ?_ ?_
        · refine jt_not ?_
          refine jt_val ?_ ?_
          · refine jp_isi ist_list (jv 0) ?_ ?_ ?_ ?_ ?_
            · rfl
            · exact z_isinstance
            · rfl
            · exact z_list
            · decide +kernel
          · exact fun _ => rfl
        · refine jw_or1 ?_
          refine jt_cmp oj_ge ?_ ?_ (nomark _)
          · refine jp_callB cj_len ?_ ?_ ?_ ?_
            · rfl
            · exact z_len
            · decide +kernel
            · exact ja_cons (jv 0) ja_nil
          · refine jp_glob (t := t_MOST_PERSONS) ?_ ?_
            · rfl
            · exact c_MOST_PERSONS
      · refine jss_cons ?_ jss_nil
        exact js_ret (M := []) jp_bl
    · refine jss_cons ?_ ?_
      · refine js_if (M := []) ?_ ?_ jss_nil
        · refine jt_not ?_
          refine jt_val ?_ ?_
          · refine jp_callB (cj_all ?_) ?_ ?_ ?_ ?_
            · rfl
            · rfl
            · exact z_all
            · decide +kernel
            · refine ja_cons ?_ ja_nil
              refine JP.zero (k := 1) ?_
              refine jp_comp (own := [("group", 1)]) ?_ ?_ ?_ ?_ ?_ jts_nil (fun _ _ _ _ _ => ?_) ho_n ?_
              · rfl
              · exact sc_is_parting.nd
              · exact ji_val (jv 0)
              · refine blkOk_by (N := ["thing", "group", "one", "other"]) (sc := defScope s_is_parting) ?_
                decide +kernel
              · refine jg_n ?_ ?_ ?_
                · exact sc_is_parting.nd
                · rfl
                · exact fun _ _ _ _ _ => .inl rfl
              · refine jp_cal (st := s_is_group) (ps := ["many", "thing"]) (n := 2) (ks := []) (perm := [0, 1]) (j := 3) (l := 3) ?_ ?_ ?_ ?_ ?_ ?_ (len_aC (len_aC len_aN)) jk_nil len_aN
                · exact q_is_group
                · omega
                · exact hr
                · exact hg
                · exact fun _ _ _ _ _ _ us ws h1 h2 => match us, ws, h1, h2 with | [_, _], [], _, _ => rfl
                · refine ja_cons ?_ ?_
                  · refine JP.zero (k := 1) ?_
                    refine jp_bin oj_add ?_ jp_int
                    refine jp_callB cj_len ?_ ?_ ?_ ?_
                    · rfl
                    · exact z_len
                    · decide +kernel
                    · exact ja_cons (jv 0) ja_nil
                  · exact ja_cons (jv 1) ja_nil
              · exact fun _ => rfl
          · exact fun _ => rfl
        · refine jss_cons ?_ jss_nil
          exact js_ret (M := []) jp_bl
      · refine jss_cons ?_ ?_
        · refine js_if (M := []) ?_ ?_ jss_nil
          · refine jt_not ?_
            refine jt_val ?_ ?_
            · refine jp_callB (cj_all ?_) ?_ ?_ ?_ ?_
              · rfl
              · rfl
              · exact z_all
              · decide +kernel
              · refine ja_cons ?_ ja_nil
                refine JP.zero (k := 1) ?_
                refine jp_comp (own := [("one", 2), ("other", 3)]) ?_ ?_ ?_ ?_ ?_ jts_nil (fun _ _ _ _ _ => ?_) ho_t ?_
                · rfl
                · exact sc_is_parting.nd
                · refine ji_zip (jv 0) ?_ ?_ ?_
                  · refine JP.zero (k := 1) ?_
                    refine jp_slice (jv 0) ?_ jo_none
                    exact jo_some jp_int
                  · rfl
                  · exact z_zip
                · refine blkOk_by (N := ["thing", "group", "one", "other"]) (sc := defScope s_is_parting) ?_
                  decide +kernel
                · refine jg_t ?_ ?_ ?_ ?_ ?_
                  · exact sc_is_parting.nd
                  · rfl
                  · rfl
                  · exact fun _ _ _ _ _ => .inl rfl
                  · exact fun _ _ _ _ _ => .inl rfl
                · refine jp_cmp (oj_lt ?_) (jv 2) (jv 3) (nomark _)
                  exact u64 hr
                · exact fun _ => rfl
            · exact fun _ => rfl
          · refine jss_cons ?_ jss_nil
            exact js_ret (M := []) jp_bl
        · refine jss_cons ?_ ?_
          · refine js_if (M := []) ?_ ?_ jss_nil
            · refine jt_pw ?_
              refine jw_and ?_ ?_
              · refine jt_cmp (oj_ne ?_) (jv 0) ?_ (nomark _)
                · exact u64 hr
                · refine JP.zero (k := 1) ?_
                  exact jp_lst ja_nil
              · refine jw_and1 ?_
                refine jt_cmp (oj_notIn ?_) ?_ (jv 0) ?_
                · exact u65 hr
                · refine JP.zero (k := 1) ?_
                  refine jp_listRg ?_ ?_ ?_ ?_
                  · refine jrg_1 ?_ ?_ ?_
                    · refine JP.zero (k := 1) ?_
                      refine jp_bin oj_add ?_ jp_int
                      refine jp_callB cj_len ?_ ?_ ?_ ?_
                      · rfl
                      · exact z_len
                      · decide +kernel
                      · exact ja_cons (jv 0) ja_nil
                    · rfl
                    · exact z_range
                  · rfl
                  · rfl
                  · exact z_list
                · rfl
            · refine jss_cons ?_ jss_nil
              exact js_ret (M := []) jp_bl
          · refine jss_cons ?_ jss_nil
            refine js_ret (M := []) ?_
            refine jp_callB (cj_all ?_) ?_ ?_ ?_ ?_
            · rfl
            · rfl
            · exact z_all
            · decide +kernel
            · refine ja_cons ?_ ja_nil
              refine JP.zero (k := 1) ?_
              refine jp_comp (own := [("group", 1)]) ?_ ?_ ?_ ?_ ?_ jts_nil (fun _ _ _ _ _ => ?_) ho_n ?_
              · rfl
              · exact sc_is_parting.nd
              · exact ji_val (jv 0)
              · refine blkOk_by (N := ["thing", "group", "one", "other"]) (sc := defScope s_is_parting) ?_
                decide +kernel
              · refine jg_n ?_ ?_ ?_
                · exact sc_is_parting.nd
                · rfl
                · exact fun _ _ _ _ _ => .inl rfl
              · refine jp_cal (st := s_has_parts) (ps := ["groups", "group"]) (n := 2) (ks := []) (perm := [0, 1]) (j := 2) (l := 3) ?_ ?_ ?_ ?_ ?_ ?_ (len_aC (len_aC len_aN)) jk_nil len_aN
                · exact q_has_parts
                · omega
                · exact hr
                · exact hg
                · exact fun _ _ _ _ _ _ us ws h1 h2 => match us, ws, h1, h2 with | [_, _], [], _, _ => rfl
                · refine ja_cons (jv 0) ?_
                  exact ja_cons (jv 1) ja_nil
              · exact fun _ => rfl
abbrev s__law_pouch : Stmt := topS 10
theorem sc__law_pouch : FnScope ["script", "at", "cell"] ["script", "at"] (defScope s__law_pouch) := ⟨rfl, rfl, rfl, by decide +kernel, rfl, by decide +kernel, by decide +kernel⟩
def b__law_pouch : Sv := (sSeq (sSet 2 0 [] (eIf (bT (eBin dLt (eVar 1) (eOp cLen (aC (eVar 0) aN)))) (eIdx (eVar 0) (eVar 1)) (eC (.int 0))))
    (sSeq (sRet [] (eLst (aC (eOp cMax (aC (eC (.int 0)) (aC (eBin dSub (eOp cAbs (aC (eVar 2) aN)) (eBin dPow (eC (.int 10)) (eC (.int 18)))) aN))) (aC (eBin dAdd (eBin dAdd (eBin dMul (eBin dMod (eOp cInt (aC (eVar 2) aN)) (eBin dAdd (eBin dPow (eC (.int 10)) (eC (.int 38))) (eC (.int 133)))) (eC (.int 107))) (eBin dMul (eC (.int 71)) (eVar 1))) (eC (.int 29))) (aC (eC (.int 0)) aN)))))
    sNil))
def F__law_pouch : FnD := fnD 3 b__law_pouch
theorem ok__law_pouch {P : Program} {w : World} {K : PySem.W.Frag} {mg : Str → Option Value} {base : Heap} (D : Dfn K mg "_law_pouch" s__law_pouch)
    (z_abs : mg "abs" = none)
    (z_int : mg "int" = none)
    (z_len : mg "len" = none)
    (z_max : mg "max" = none) :
    Cal P w K mg base "_law_pouch" s__law_pouch ["script", "at"] 1 F__law_pouch 1 :=
  cal_def D sc__law_pouch fun f cdv A outer s H hr hg => by
    unfold b__law_pouch
    refine jss_cons ?_ ?_
    · refine js_set (i := 2) (M := []) ?_ ?_ ?_ ?_
      · refine jp_if ?_ ?_ jp_int
        · refine jt_cmp (oj_lt ?_) (jv 1) ?_ (nomark _)
          · exact u64 hr
          · refine jp_callB cj_len ?_ ?_ ?_ ?_
            · rfl
            · exact z_len
            · decide +kernel
            · exact ja_cons (jv 0) ja_nil
        · refine jp_idx (jv 0) (jv 1) ?_
          exact fun _ _ => rfl
      · exact sc__law_pouch.nd
      · rfl
      · exact .inl rfl
    · refine jss_cons ?_ jss_nil
      refine js_ret (M := []) ?_
      refine jp_lst ?_
      refine ja_cons ?_ ?_
      · refine jp_callB (cj_max ?_) ?_ ?_ ?_ ?_
        · rfl
        · rfl
        · exact z_max
        · decide +kernel
        · refine ja_cons jp_int ?_
          refine ja_cons ?_ ja_nil
          refine jp_bin oj_sub ?_ ?_
          · refine jp_callB cj_abs ?_ ?_ ?_ ?_
            · rfl
            · exact z_abs
            · decide +kernel
            · exact ja_cons (jv 2) ja_nil
          · exact jp_bin oj_pow jp_int jp_int
      · refine ja_cons ?_ ?_
        · refine JP.zero (k := 1) ?_
          refine jp_bin oj_add ?_ jp_int
          refine JP.zero (k := 1) ?_
          refine jp_bin oj_add ?_ ?_
          · refine JP.zero (k := 1) ?_
            refine jp_bin oj_mul ?_ jp_int
            refine jp_bin oj_mod ?_ ?_
            · refine jp_callTy cj_int ?_ ?_ ?_ ?_
              · rfl
              · exact z_int
              · decide +kernel
              · exact ja_cons (jv 2) ja_nil
            · refine JP.zero (k := 1) ?_
              refine jp_bin oj_add ?_ jp_int
              exact jp_bin oj_pow jp_int jp_int
          · refine JP.zero (k := 1) ?_
            exact jp_bin oj_mul jp_int (jv 1)
        · exact ja_cons jp_int ja_nil
abbrev s__law_dip : Stmt := topS 11
theorem sc__law_dip : FnScope ["pouch", "wide", "taken", "mixed"] ["pouch", "wide"] (defScope s__law_dip) := ⟨rfl, rfl, rfl, by decide +kernel, rfl, by decide +kernel, by decide +kernel⟩
def b__law_dip : Sv := (sSeq (sIf [] (bT (eBin dGt (eIdx (eVar 0) (eC (.int 0))) (eC (.int 0))))
    (sSeq (sSet 2 0 [] (eBin dMod (eOp cInt (aC (eIdx (eVar 0) (eC (.int 0))) aN)) (eVar 1)))
    (sSeq (sSto [] (eVar 0) (eC (.int 0)) (eBin dFdiv (eIdx (eVar 0) (eC (.int 0))) (eVar 1)))
    (sSeq (sRet [] (eVar 2))
    sNil)))
    sNil)
    (sSeq (sSto [] (eVar 0) (eC (.int 2)) (eBin dAdd (eIdx (eVar 0) (eC (.int 2))) (eC (.int 1))))
    (sSeq (sSet 3 0 [] (eBin dMod (eBin dPow (eOp cInt (aC (eBin dAdd (eIdx (eVar 0) (eC (.int 1))) (eBin dMul (eC (.int 870022201)) (eIdx (eVar 0) (eC (.int 2))))) aN)) (eC (.int 3))) (eBin dAdd (eBin dPow (eC (.int 10)) (eC (.int 41))) (eC (.int 37)))))
    (sSeq (sSet 3 0 [] (eBin dMod (eBin dPow (eOp cInt (aC (eBin dAdd (eVar 3) (eBin dMul (eC (.int 334214467)) (eIdx (eVar 0) (eC (.int 2))))) aN)) (eC (.int 3))) (eBin dAdd (eBin dPow (eC (.int 10)) (eC (.int 39))) (eC (.int 3)))))
    (sSeq (sRet [] (eBin dMod (eOp cInt (aC (eBin dFdiv (eVar 3) (eC (.int 1048583))) aN)) (eVar 1)))
    sNil)))))
def F__law_dip : FnD := fnD 4 b__law_dip
theorem ok__law_dip {P : Program} {w : World} {K : PySem.W.Frag} {mg : Str → Option Value} {base : Heap} (D : Dfn K mg "_law_dip" s__law_dip)
    (z_int : mg "int" = none) :
    Cal P w K mg base "_law_dip" s__law_dip ["pouch", "wide"] 1 F__law_dip 0 :=
  cal_def D sc__law_dip fun f cdv A outer s H hr hg => by
    unfold b__law_dip
    refine jss_cons ?_ ?_
    · refine js_if (M := []) ?_ ?_ jss_nil
      · refine jt_cmp oj_gt ?_ jp_int (nomark _)
        refine jp_idx (jv 0) jp_int ?_
        exact fun _ _ => rfl
      · refine jss_cons ?_ ?_
        · refine js_set (i := 2) (M := []) ?_ ?_ ?_ ?_
          · refine jp_bin oj_mod ?_ (jv 1)
            refine jp_callTy cj_int ?_ ?_ ?_ ?_
            · rfl
            · exact z_int
            · decide +kernel
            · refine ja_cons ?_ ja_nil
              refine jp_idx (jv 0) jp_int ?_
              exact fun _ _ => rfl
          · exact sc__law_dip.nd
          · rfl
          · exact .inl rfl
        · refine jss_cons ?_ ?_
          · refine js_sto (M := []) ?_ (jv 0) jp_int ?_ ?_ ?_ (fun h1 h2 => pg_sub h1 h2 set_list)
            · refine jp_bin oj_fdiv ?_ (jv 1)
              refine jp_idx (jv 0) jp_int ?_
              exact fun _ _ => rfl
            · rfl
            · rfl
            · rfl
          · refine jss_cons ?_ jss_nil
            exact js_ret (M := []) (jv 2)
    · refine jss_cons ?_ ?_
      · refine js_sto (M := []) ?_ (jv 0) jp_int ?_ ?_ ?_ (fun h1 h2 => pg_sub h1 h2 set_list)
        · refine JP.zero (k := 1) ?_
          refine jp_bin oj_add ?_ jp_int
          refine jp_idx (jv 0) jp_int ?_
          exact fun _ _ => rfl
        · rfl
        · rfl
        · rfl
      · refine jss_cons ?_ ?_
        · refine js_set (i := 3) (M := []) ?_ ?_ ?_ ?_
          · refine jp_bin oj_mod ?_ ?_
            · refine jp_bin oj_pow ?_ jp_int
              refine jp_callTy cj_int ?_ ?_ ?_ ?_
              · rfl
              · exact z_int
              · decide +kernel
              · refine ja_cons ?_ ja_nil
                refine JP.zero (k := 1) ?_
                refine jp_bin oj_add ?_ ?_
                · refine jp_idx (jv 0) jp_int ?_
                  exact fun _ _ => rfl
                · refine JP.zero (k := 1) ?_
                  refine jp_bin oj_mul jp_int ?_
                  refine jp_idx (jv 0) jp_int ?_
                  exact fun _ _ => rfl
            · refine JP.zero (k := 1) ?_
              refine jp_bin oj_add ?_ jp_int
              exact jp_bin oj_pow jp_int jp_int
          · exact sc__law_dip.nd
          · rfl
          · exact .inl rfl
        · refine jss_cons ?_ ?_
          · refine js_set (i := 3) (M := []) ?_ ?_ ?_ ?_
            · refine jp_bin oj_mod ?_ ?_
              · refine jp_bin oj_pow ?_ jp_int
                refine jp_callTy cj_int ?_ ?_ ?_ ?_
                · rfl
                · exact z_int
                · decide +kernel
                · refine ja_cons ?_ ja_nil
                  refine JP.zero (k := 1) ?_
                  refine jp_bin oj_add (jv 3) ?_
                  refine JP.zero (k := 1) ?_
                  refine jp_bin oj_mul jp_int ?_
                  refine jp_idx (jv 0) jp_int ?_
                  exact fun _ _ => rfl
              · refine JP.zero (k := 1) ?_
                refine jp_bin oj_add ?_ jp_int
                exact jp_bin oj_pow jp_int jp_int
            · exact sc__law_dip.nd
            · rfl
            · exact .inl rfl
          · refine jss_cons ?_ jss_nil
            refine js_ret (M := []) ?_
            refine jp_bin oj_mod ?_ (jv 1)
            refine jp_callTy cj_int ?_ ?_ ?_ ?_
            · rfl
            · exact z_int
            · decide +kernel
            · refine ja_cons ?_ ja_nil
              exact jp_bin oj_fdiv (jv 3) jp_int
abbrev s__law_items : Stmt := topS 12
theorem sc__law_items : FnScope ["pouch", "many", "style", "found", "fresh", "near", "pick"] ["pouch", "many"] (defScope s__law_items) := ⟨rfl, rfl, rfl, by decide +kernel, rfl, by decide +kernel, by decide +kernel⟩
def l__law_items_1 : Sv := (sSeq (sSet 5 0 [] (eLst (aC (eBin dAdd (eBin dSub (eCall F__law_dip [0, 1] (aApp (aC (eVar 0) (aC (eBin dSub (eBin dMul (eC (.int 2)) (eVar 4)) (eC (.int 1))) aN)) aN)) (eVar 4)) (eC (.int 1))) (aC (eBin dSub (eVar 4) (eC (.int 1))) (aC (eBin dSub (eC (.int 1)) (eVar 4)) (aC (eC (.int 0)) (aC (eBin dSub (eC (.int 0)) (eOp cMin (aC (eC (.int 1)) (aC (eBin dSub (eVar 4) (eC (.int 1))) aN)))) aN)))))))
    (sSeq (sSet 6 0 [] (eIdx (eLst (aC (eCall F__law_dip [0, 1] (aApp (aC (eVar 0) (aC (eC (.int 5)) aN)) aN)) (aC (eC (.int 0)) (aC (eC (.int 1)) (aC (eC (.int 2)) (aC (eIdx (eC (.list [(.int 0), (.int 3)])) (eCall F__law_dip [0, 1] (aApp (aC (eVar 0) (aC (eC (.int 2)) aN)) aN))) (aC (eIdx (eC (.list [(.int 0), (.int 4)])) (eCall F__law_dip [0, 1] (aApp (aC (eVar 0) (aC (eC (.int 2)) aN)) aN))) aN))))))) (eVar 2)))
    (sSeq (sApp 3 [] 0 (eIdx (eVar 5) (eVar 6)))
    sNil)))
def b__law_items : Sv := (sSeq (sPar 2 3 0 1 [] [] (eCall F__law_dip [0, 1] (aApp (aC (eVar 0) (aC (eC (.int 6)) aN)) aN)) (eLst aN))
    (sSeq (sFor0 [] (iB rg2 (eC (.int 1)) (eVar 1)) (bN 4)
    l__law_items_1)
    (sSeq (sRet [3] (eVar 3))
    sNil)))
def F__law_items : FnD := fnD 7 b__law_items
theorem ok__law_items {P : Program} {w : World} {K : PySem.W.Frag} {mg : Str → Option Value} {base : Heap} (D : Dfn K mg "_law_items" s__law_items)
    (q__law_dip : Cal P w K mg base "_law_dip" s__law_dip ["pouch", "wide"] 1 F__law_dip 0)
    (z_min : mg "min" = none)
    (z_range : mg "range" = none) :
    Cal P w K mg base "_law_items" s__law_items ["pouch", "many"] 2 F__law_items 0 :=
  cal_def D sc__law_items fun f cdv A outer s H hr hg => by
    unfold b__law_items
    refine jss_cons ?_ ?_
    · refine js_par (i := 2) (j := 3) (M1 := []) (M2 := []) ?_ ?_ ?_ ?_ ?_ ?_ ?_ ?_ ?_ ?_
      · refine jp_cal (st := s__law_dip) (ps := ["pouch", "wide"]) (n := 2) (ks := []) (perm := [0, 1]) (j := 1) (l := 1) ?_ ?_ ?_ ?_ ?_ ?_ (len_aC (len_aC len_aN)) jk_nil len_aN
        · exact q__law_dip
        · omega
        · exact hr
        · exact hg
        · exact fun _ _ _ _ _ _ us ws h1 h2 => match us, ws, h1, h2 with | [_, _], [], _, _ => rfl
        · refine ja_cons (jv 0) ?_
          exact ja_cons jp_int ja_nil
      · exact jp_lst ja_nil
      · rfl
      · exact sc__law_items.nd
      · rfl
      · rfl
      · decide
      · rfl
      · rfl
      · rfl
    · refine jss_cons ?_ ?_
      · refine js_for0 (M := []) ?_ ?_ ?_ ?_ gspec_name ?_
        · exact PassesOwn.never
        · rfl
        · refine ji0_range2 jp_int (jv 1) ?_ ?_
          · rfl
          · exact z_range
        · refine pg_name (i := 4) ?_ ?_ ?_
          · exact sc__law_items.nd
          · rfl
          · exact .inl rfl
        · refine jss_cons ?_ ?_
          · refine js_set (i := 5) (M := []) ?_ ?_ ?_ ?_
            · refine JP.zero (k := 1) ?_
              refine jp_lst ?_
              refine ja_cons ?_ ?_
              · refine JP.zero (k := 1) ?_
                refine jp_bin oj_add ?_ jp_int
                refine jp_bin oj_sub ?_ (jv 4)
                refine jp_cal (st := s__law_dip) (ps := ["pouch", "wide"]) (n := 2) (ks := []) (perm := [0, 1]) (j := 1) (l := 1) ?_ ?_ ?_ ?_ ?_ ?_ (len_aC (len_aC len_aN)) jk_nil len_aN
                · exact q__law_dip
                · omega
                · exact hr
                · exact hg
                · exact fun _ _ _ _ _ _ us ws h1 h2 => match us, ws, h1, h2 with | [_, _], [], _, _ => rfl
                · refine ja_cons (jv 0) ?_
                  refine ja_cons ?_ ja_nil
                  refine jp_bin oj_sub ?_ jp_int
                  refine JP.zero (k := 1) ?_
                  exact jp_bin oj_mul jp_int (jv 4)
              · refine ja_cons ?_ ?_
                · exact jp_bin oj_sub (jv 4) jp_int
                · refine ja_cons ?_ ?_
                  · exact jp_bin oj_sub jp_int (jv 4)
                  · refine ja_cons jp_int ?_
                    refine ja_cons ?_ ja_nil
                    refine jp_bin oj_sub jp_int ?_
                    refine jp_callB (cj_min ?_) ?_ ?_ ?_ ?_
                    · rfl
                    · rfl
                    · exact z_min
                    · decide +kernel
                    · refine ja_cons jp_int ?_
                      refine ja_cons ?_ ja_nil
                      exact jp_bin oj_sub (jv 4) jp_int
            · exact sc__law_items.nd
            · rfl
            · exact .inl rfl
          · refine jss_cons ?_ ?_
            · refine js_set (i := 6) (M := []) ?_ ?_ ?_ ?_
              · refine jp_idx ?_ (jv 2) ?_
                · refine JP.zero (k := 1) ?_
                  refine jp_lst ?_
                  refine ja_cons ?_ ?_
                  · refine jp_cal (st := s__law_dip) (ps := ["pouch", "wide"]) (n := 2) (ks := []) (perm := [0, 1]) (j := 1) (l := 1) ?_ ?_ ?_ ?_ ?_ ?_ (len_aC (len_aC len_aN)) jk_nil len_aN
                    · exact q__law_dip
                    · omega
                    · exact hr
                    · exact hg
                    · exact fun _ _ _ _ _ _ us ws h1 h2 => match us, ws, h1, h2 with | [_, _], [], _, _ => rfl
                    · refine ja_cons (jv 0) ?_
                      exact ja_cons jp_int ja_nil
                  · refine ja_cons jp_int ?_
                    refine ja_cons jp_int ?_
                    refine ja_cons jp_int ?_
                    refine ja_cons ?_ ?_
                    · refine jp_idx ?_ ?_ ?_
                      · refine jp_const ?_
                        rfl
                      · refine jp_cal (st := s__law_dip) (ps := ["pouch", "wide"]) (n := 2) (ks := []) (perm := [0, 1]) (j := 1) (l := 1) ?_ ?_ ?_ ?_ ?_ ?_ (len_aC (len_aC len_aN)) jk_nil len_aN
                        · exact q__law_dip
                        · omega
                        · exact hr
                        · exact hg
                        · exact fun _ _ _ _ _ _ us ws h1 h2 => match us, ws, h1, h2 with | [_, _], [], _, _ => rfl
                        · refine ja_cons (jv 0) ?_
                          exact ja_cons jp_int ja_nil
                      · exact fun _ _ => rfl
                    · refine ja_cons ?_ ja_nil
                      refine jp_idx ?_ ?_ ?_
                      · refine jp_const ?_
                        rfl
                      · refine jp_cal (st := s__law_dip) (ps := ["pouch", "wide"]) (n := 2) (ks := []) (perm := [0, 1]) (j := 1) (l := 1) ?_ ?_ ?_ ?_ ?_ ?_ (len_aC (len_aC len_aN)) jk_nil len_aN
                        · exact q__law_dip
                        · omega
                        · exact hr
                        · exact hg
                        · exact fun _ _ _ _ _ _ us ws h1 h2 => match us, ws, h1, h2 with | [_, _], [], _, _ => rfl
                        · refine ja_cons (jv 0) ?_
                          exact ja_cons jp_int ja_nil
                      · exact fun _ _ => rfl
                · exact fun _ _ => rfl
              · exact sc__law_items.nd
              · rfl
              · exact .inl rfl
            · refine jss_cons ?_ jss_nil
              refine js_app (i := 3) (M := []) ?_ ?_ ?_
              · refine jp_idx (jv 5) (jv 6) ?_
                exact fun _ _ => rfl
              · rfl
              · exact .inl rfl
      · refine jss_cons ?_ jss_nil
        exact js_ret (M := [3]) (jv 3)
abbrev s__law_folk : Stmt := topS 13
theorem sc__law_folk : FnScope ["nest"] ["nest"] (defScope s__law_folk) := ⟨rfl, rfl, rfl, by decide +kernel, rfl, by decide +kernel, by decide +kernel⟩
def b__law_folk (R : FnD) : Sv := (sSeq (sRet [] (eIf (bT (eUn (dIsi "int") (eVar 0))) (eLst (aC (eVar 0) aN)) (eUn dSort (eBin dAdd (eCall R [0] (aApp (aC (eIdx (eVar 0) (eC (.int 0))) aN) aN)) (eCall R [0] (aApp (aC (eIdx (eVar 0) (eC (.int 1))) aN) aN))))))
    sNil)
def F__law_folk : Nat → FnD
  | 0 => fun _ _ => none
  | n + 1 => fnD 1 (b__law_folk (F__law_folk n))
theorem ok__law_folk {P : Program} {w : World} {K : PySem.W.Frag} {mg : Str → Option Value} {base : Heap} (D : Dfn K mg "_law_folk" s__law_folk)
    (z_int : mg "int" = none)
    (z_isinstance : mg "isinstance" = none)
    (z_sorted : mg "sorted" = none) : ∀ n : Nat, Cal P w K mg base "_law_folk" s__law_folk ["nest"] (0 + n) (F__law_folk n) 0
  | 0 => cal_none D
  | n + 1 => by
    have q__law_folk := ok__law_folk (P := P) (w := w) (base := base) D z_int z_isinstance z_sorted n
    refine cal_def D sc__law_folk fun f cdv A outer s H hr hg => ?_
    unfold b__law_folk
    refine jss_cons ?_ jss_nil
    refine js_ret (M := []) ?_
    refine jp_if ?_ ?_ ?_
    · refine jt_val ?_ ?_
      · refine jp_isi ist_int (jv 0) ?_ ?_ ?_ ?_ ?_
        · rfl
        · exact z_isinstance
        · rfl
        · exact z_int
        · decide +kernel
      · exact fun _ => rfl
    · refine JP.zero (k := 1) ?_
      refine jp_lst ?_
      exact ja_cons (jv 0) ja_nil
    · refine JP.zero (k := 1) ?_
      refine jp_sorted ?_ ?_ ?_ ?_
      · refine jp_bin oj_add ?_ ?_
        · refine jp_cal (st := s__law_folk) (ps := ["nest"]) (n := 1) (ks := []) (perm := [0]) (j := (0 + n)) (l := (0 + n)) ?_ ?_ ?_ ?_ ?_ ?_ (len_aC len_aN) jk_nil len_aN
          · exact q__law_folk
          · omega
          · exact hr
          · exact hg
          · exact fun _ _ _ _ _ _ us ws h1 h2 => match us, ws, h1, h2 with | [_], [], _, _ => rfl
          · refine ja_cons ?_ ja_nil
            refine jp_idx (jv 0) jp_int ?_
            exact fun _ _ => rfl
        · refine jp_cal (st := s__law_folk) (ps := ["nest"]) (n := 1) (ks := []) (perm := [0]) (j := (0 + n)) (l := (0 + n)) ?_ ?_ ?_ ?_ ?_ ?_ (len_aC len_aN) jk_nil len_aN
          · exact q__law_folk
          · omega
          · exact hr
          · exact hg
          · exact fun _ _ _ _ _ _ us ws h1 h2 => match us, ws, h1, h2 with | [_], [], _, _ => rfl
          · refine ja_cons ?_ ja_nil
            refine jp_idx (jv 0) jp_int ?_
            exact fun _ _ => rfl
      · exact u66 hr
      · rfl
      · exact z_sorted
abbrev s__law_put : Stmt := topS 14
theorem sc__law_put : FnScope ["nest", "item", "fresh", "half"] ["nest", "item", "fresh"] (defScope s__law_put) := ⟨rfl, rfl, rfl, by decide +kernel, rfl, by decide +kernel, by decide +kernel⟩
def c__law_put_1 (R : FnD) : Ev := (eComp (iVal (eVar 0)) (bN 3) tY (eOp cMin (aC (eCall (F__law_folk 22) [0] (aApp (aC (eVar 3) aN) aN)) aN)) [3])
def c__law_put_2 (R : FnD) : Ev := (eComp (iVal (eVar 0)) (bN 3) tY (eCall R [0, 1, 2] (aApp (aC (eVar 3) (aC (eVar 1) (aC (eVar 2) aN))) aN)) [3])
def b__law_put (R : FnD) : Sv := (sSeq (sIf [] (bT (eUn (dIsi "int") (eVar 0)))
    (sSeq (sRet [] (eIf (bT (eBin dEq (eVar 0) (eVar 1))) (eTup (aC (eVar 0) (aC (eVar 2) aN))) (eVar 0)))
    sNil)
    sNil)
    (sSeq (sIf [] (bT (eBin dEq (eOp cMax (aC (c__law_put_1 R) aN)) (eBin dSub (eC (.int 0)) (eVar 1))))
    (sSeq (sRet [] (eTup (aC (eVar 0) (aC (eVar 2) aN))))
    sNil)
    sNil)
    (sSeq (sRet [] (eOp cTuple (aC (c__law_put_2 R) aN)))
    sNil)))
def F__law_put : Nat → FnD
  | 0 => fun _ _ => none
  | n + 1 => fnD 4 (b__law_put (F__law_put n))
theorem ok__law_put {P : Program} {w : World} {K : PySem.W.Frag} {mg : Str → Option Value} {base : Heap} (D : Dfn K mg "_law_put" s__law_put)
    (q__law_folk : Cal P w K mg base "_law_folk" s__law_folk ["nest"] 22 (F__law_folk 22) 0)
    (z_int : mg "int" = none)
    (z_isinstance : mg "isinstance" = none)
    (z_max : mg "max" = none)
    (z_min : mg "min" = none)
    (z_tuple : mg "tuple" = none) : ∀ n : Nat, Cal P w K mg base "_law_put" s__law_put ["nest", "item", "fresh"] (22 + n) (F__law_put n) 0
  | 0 => cal_none D
  | n + 1 => by
    have q__law_put := ok__law_put (P := P) (w := w) (base := base) D q__law_folk z_int z_isinstance z_max z_min z_tuple n
    refine cal_def D sc__law_put fun f cdv A outer s H hr hg => ?_
    unfold b__law_put
    refine jss_cons ?_ ?_
    · refine js_if (M := []) ?_ ?_ jss_nil
      · refine jt_val ?_ ?_
        · refine jp_isi ist_int (jv 0) ?_ ?_ ?_ ?_ ?_
          · rfl
          · exact z_isinstance
          · rfl
          · exact z_int
          · decide +kernel
        · exact fun _ => rfl
      · refine jss_cons ?_ jss_nil
        refine js_ret (M := []) ?_
        refine jp_if ?_ ?_ (jv 0)
        · refine jt_cmp (oj_eq ?_) (jv 0) (jv 1) (nomark _)
          exact u64 hr
        · refine jp_tup ?_
          refine ja_cons (jv 0) ?_
          exact ja_cons (jv 2) ja_nil
    · refine jss_cons ?_ ?_
      · refine js_if (M := []) ?_ ?_ jss_nil
        · refine jt_cmp (oj_eq ?_) ?_ ?_ (nomark _)
          · exact u64 hr
          · refine jp_callB (cj_max ?_) ?_ ?_ ?_ ?_
            · rfl
            · rfl
            · exact z_max
            · decide +kernel
            · refine ja_cons ?_ ja_nil
              refine JP.zero (k := 1) ?_
              refine jp_comp (own := [("half", 3)]) ?_ ?_ ?_ ?_ ?_ jts_nil (fun _ _ _ _ _ => ?_) ho_n ?_
              · rfl
              · exact sc__law_put.nd
              · exact ji_val (jv 0)
              · refine blkOk_by (N := ["nest", "item", "fresh", "half"]) (sc := defScope s__law_put) ?_
                decide +kernel
              · refine jg_n ?_ ?_ ?_
                · exact sc__law_put.nd
                · rfl
                · exact fun _ _ _ _ _ => .inl rfl
              · refine jp_callB (cj_min ?_) ?_ ?_ ?_ ?_
                · rfl
                · rfl
                · exact z_min
                · decide +kernel
                · refine ja_cons ?_ ja_nil
                  refine jp_cal (st := s__law_folk) (ps := ["nest"]) (n := 1) (ks := []) (perm := [0]) (j := 22) (l := (22 + n)) ?_ ?_ ?_ ?_ ?_ ?_ (len_aC len_aN) jk_nil len_aN
                  · exact q__law_folk
                  · omega
                  · exact hr
                  · exact hg
                  · exact fun _ _ _ _ _ _ us ws h1 h2 => match us, ws, h1, h2 with | [_], [], _, _ => rfl
                  · exact ja_cons (jv 3) ja_nil
              · exact fun _ => rfl
          · exact jp_bin oj_sub jp_int (jv 1)
        · refine jss_cons ?_ jss_nil
          refine js_ret (M := []) ?_
          refine jp_tup ?_
          refine ja_cons (jv 0) ?_
          exact ja_cons (jv 2) ja_nil
      · refine jss_cons ?_ jss_nil
        refine js_ret (M := []) ?_
        refine jp_callTy cj_tuple ?_ ?_ ?_ ?_
        · rfl
        · exact z_tuple
        · decide +kernel
        · refine ja_cons ?_ ja_nil
          refine JP.zero (k := 1) ?_
          refine jp_comp (own := [("half", 3)]) ?_ ?_ ?_ ?_ ?_ jts_nil (fun _ _ _ _ _ => ?_) ho_n ?_
          · rfl
          · exact sc__law_put.nd
          · exact ji_val (jv 0)
          · refine blkOk_by (N := ["nest", "item", "fresh", "half"]) (sc := defScope s__law_put) ?_
            decide +kernel
          · refine jg_n ?_ ?_ ?_
            · exact sc__law_put.nd
            · rfl
            · exact fun _ _ _ _ _ => .inl rfl
          · refine jp_cal (st := s__law_put) (ps := ["nest", "item", "fresh"]) (n := 3) (ks := []) (perm := [0, 1, 2]) (j := (22 + n)) (l := (22 + n)) ?_ ?_ ?_ ?_ ?_ ?_ (len_aC (len_aC (len_aC len_aN))) jk_nil len_aN
            · exact q__law_put
            · omega
            · exact hr
            · exact hg
            · exact fun _ _ _ _ _ _ us ws h1 h2 => match us, ws, h1, h2 with | [_, _, _], [], _, _ => rfl
            · refine ja_cons (jv 3) ?_
              refine ja_cons (jv 1) ?_
              exact ja_cons (jv 2) ja_nil
          · exact fun _ => rfl
abbrev s__law_nest : Stmt := topS 15
theorem sc__law_nest : FnScope ["items", "nest", "spot", "item"] ["items"] (defScope s__law_nest) := ⟨rfl, rfl, rfl, by decide +kernel, rfl, by decide +kernel, by decide +kernel⟩
def l__law_nest_1 : Sv := (sSeq (sSet 1 0 [] (eCall (F__law_put 22) [0, 1, 2] (aApp (aC (eVar 1) (aC (eVar 3) (aC (eBin dAdd (eVar 2) (eC (.int 1))) aN))) aN)))
    sNil)
def b__law_nest : Sv := (sSeq (sSet 1 0 [] (eC (.int 0)))
    (sSeq (sFor [] (iU (fun d => (isLst d).map fun ds => enD ds 0) (eVar 0)) (bT2 2 3)
    l__law_nest_1)
    (sSeq (sRet [] (eVar 1))
    sNil)))
def F__law_nest : FnD := fnD 4 b__law_nest
theorem ok__law_nest {P : Program} {w : World} {K : PySem.W.Frag} {mg : Str → Option Value} {base : Heap} (D : Dfn K mg "_law_nest" s__law_nest)
    (q__law_put : Cal P w K mg base "_law_put" s__law_put ["nest", "item", "fresh"] 44 (F__law_put 22) 0)
    (z_enumerate : mg "enumerate" = none) :
    Cal P w K mg base "_law_nest" s__law_nest ["items"] 45 F__law_nest 0 :=
  cal_def D sc__law_nest fun f cdv A outer s H hr hg => by
    unfold b__law_nest
    refine jss_cons ?_ ?_
    · refine js_set (i := 1) (M := []) jp_int ?_ ?_ ?_
      · exact sc__law_nest.nd
      · rfl
      · exact .inl rfl
    · refine jss_cons ?_ ?_
      · refine js_for (M := []) ?_ ?_ ?_ ?_ gspec_tup2 ?_
        · exact PassesOwn.never
        · rfl
        · refine ji_enum (jv 0) ?_ ?_
          · rfl
          · exact z_enumerate
        · refine pg_tup ?_ (pgs_cons (pg_name (i := 2) ?_ ?_ ?_) (pgs_cons (pg_name (i := 3) ?_ ?_ ?_) pgs_nil))
          · rfl
          · exact sc__law_nest.nd
          · rfl
          · exact .inl rfl
          · exact sc__law_nest.nd
          · rfl
          · exact .inl rfl
        · refine jss_cons ?_ jss_nil
          refine js_set (i := 1) (M := []) ?_ ?_ ?_ ?_
          · refine jp_cal (st := s__law_put) (ps := ["nest", "item", "fresh"]) (n := 3) (ks := []) (perm := [0, 1, 2]) (j := 44) (l := 44) ?_ ?_ ?_ ?_ ?_ ?_ (len_aC (len_aC (len_aC len_aN))) jk_nil len_aN
            · exact q__law_put
            · omega
            · exact hr
            · exact hg
            · exact fun _ _ _ _ _ _ us ws h1 h2 => match us, ws, h1, h2 with | [_, _, _], [], _, _ => rfl
            · refine ja_cons (jv 1) ?_
              refine ja_cons (jv 3) ?_
              refine ja_cons ?_ ja_nil
              refine JP.zero (k := 1) ?_
              exact jp_bin oj_add (jv 2) jp_int
          · exact sc__law_nest.nd
          · rfl
          · exact .inl rfl
      · refine jss_cons ?_ jss_nil
        exact js_ret (M := []) (jv 1)
abbrev s__law_lots : Stmt := topS 16
theorem sc__law_lots : FnScope ["nest"] ["nest"] (defScope s__law_lots) := ⟨rfl, rfl, rfl, by decide +kernel, rfl, by decide +kernel, by decide +kernel⟩
def b__law_lots (R : FnD) : Sv := (sSeq (sIf [] (bT (eUn (dIsi "int") (eVar 0)))
    (sSeq (sRet [] (eLst aN))
    sNil)
    sNil)
    (sSeq (sRet [] (eUn dSort (eBin dAdd (eBin dAdd (eLst (aC (eCall (F__law_folk 22) [0] (aApp (aC (eVar 0) aN) aN)) aN)) (eCall R [0] (aApp (aC (eIdx (eVar 0) (eC (.int 0))) aN) aN))) (eCall R [0] (aApp (aC (eIdx (eVar 0) (eC (.int 1))) aN) aN)))))
    sNil))
def F__law_lots : Nat → FnD
  | 0 => fun _ _ => none
  | n + 1 => fnD 1 (b__law_lots (F__law_lots n))
theorem ok__law_lots {P : Program} {w : World} {K : PySem.W.Frag} {mg : Str → Option Value} {base : Heap} (D : Dfn K mg "_law_lots" s__law_lots)
    (q__law_folk : Cal P w K mg base "_law_folk" s__law_folk ["nest"] 22 (F__law_folk 22) 0)
    (z_int : mg "int" = none)
    (z_isinstance : mg "isinstance" = none)
    (z_sorted : mg "sorted" = none) : ∀ n : Nat, Cal P w K mg base "_law_lots" s__law_lots ["nest"] (22 + n) (F__law_lots n) 0
  | 0 => cal_none D
  | n + 1 => by
    have q__law_lots := ok__law_lots (P := P) (w := w) (base := base) D q__law_folk z_int z_isinstance z_sorted n
    refine cal_def D sc__law_lots fun f cdv A outer s H hr hg => ?_
    unfold b__law_lots
    refine jss_cons ?_ ?_
    · refine js_if (M := []) ?_ ?_ jss_nil
      · refine jt_val ?_ ?_
        · refine jp_isi ist_int (jv 0) ?_ ?_ ?_ ?_ ?_
          · rfl
          · exact z_isinstance
          · rfl
          · exact z_int
          · decide +kernel
        · exact fun _ => rfl
      · refine jss_cons ?_ jss_nil
        refine js_ret (M := []) ?_
        refine JP.zero (k := 1) ?_
        exact jp_lst ja_nil
    · refine jss_cons ?_ jss_nil
      refine js_ret (M := []) ?_
      refine JP.zero (k := 1) ?_
      refine jp_sorted ?_ ?_ ?_ ?_
      · refine jp_bin oj_add ?_ ?_
        · refine JP.zero (k := 1) ?_
          refine jp_bin oj_add ?_ ?_
          · refine JP.zero (k := 1) ?_
            refine jp_lst ?_
            refine ja_cons ?_ ja_nil
            refine jp_cal (st := s__law_folk) (ps := ["nest"]) (n := 1) (ks := []) (perm := [0]) (j := 22) (l := (22 + n)) ?_ ?_ ?_ ?_ ?_ ?_ (len_aC len_aN) jk_nil len_aN
            · exact q__law_folk
            · omega
            · exact hr
            · exact hg
            · exact fun _ _ _ _ _ _ us ws h1 h2 => match us, ws, h1, h2 with | [_], [], _, _ => rfl
            · exact ja_cons (jv 0) ja_nil
          · refine jp_cal (st := s__law_lots) (ps := ["nest"]) (n := 1) (ks := []) (perm := [0]) (j := (22 + n)) (l := (22 + n)) ?_ ?_ ?_ ?_ ?_ ?_ (len_aC len_aN) jk_nil len_aN
            · exact q__law_lots
            · omega
            · exact hr
            · exact hg
            · exact fun _ _ _ _ _ _ us ws h1 h2 => match us, ws, h1, h2 with | [_], [], _, _ => rfl
            · refine ja_cons ?_ ja_nil
              refine jp_idx (jv 0) jp_int ?_
              exact fun _ _ => rfl
        · refine jp_cal (st := s__law_lots) (ps := ["nest"]) (n := 1) (ks := []) (perm := [0]) (j := (22 + n)) (l := (22 + n)) ?_ ?_ ?_ ?_ ?_ ?_ (len_aC len_aN) jk_nil len_aN
          · exact q__law_lots
          · omega
          · exact hr
          · exact hg
          · exact fun _ _ _ _ _ _ us ws h1 h2 => match us, ws, h1, h2 with | [_], [], _, _ => rfl
          · refine ja_cons ?_ ja_nil
            refine jp_idx (jv 0) jp_int ?_
            exact fun _ _ => rfl
      · exact u66 hr
      · rfl
      · exact z_sorted
abbrev s__law_rows : Stmt := topS 17
theorem sc__law_rows : FnScope ["many", "found", "fresh", "longer", "row", "item"] ["many"] (defScope s__law_rows) := ⟨rfl, rfl, rfl, by decide +kernel, rfl, by decide +kernel, by decide +kernel⟩
def c__law_rows_1 : Ev := (eComp (iB rg2 (eBin dSub (eC (.int 1)) (eVar 2)) (eVar 2)) (bN 5) tY (eBin dAdd (eVar 4) (eLst (aC (eVar 5) aN))) [5])
def l__law_rows_1 : Sv := (sSeq (sExt 3 [] 0 c__law_rows_1)
    sNil)
def l__law_rows_2 : Sv := (sSeq (sSet 3 1 [] (eLst aN))
    (sSeq (sFor [] (iVal (eVar 1)) (bN 4)
    l__law_rows_1)
    (sSeq (sSet 1 0 [3] (eVar 3))
    sNil)))
def b__law_rows : Sv := (sSeq (sSet 1 0 [] (eC (.list [(.list [])])))
    (sSeq (sFor0 [] (iB rg2 (eC (.int 1)) (eVar 0)) (bN 2)
    l__law_rows_2)
    (sSeq (sRet [] (eVar 1))
    sNil)))
def F__law_rows : FnD := fnD 6 b__law_rows
theorem ok__law_rows {P : Program} {w : World} {K : PySem.W.Frag} {mg : Str → Option Value} {base : Heap} (D : Dfn K mg "_law_rows" s__law_rows)
    (z_range : mg "range" = none) :
    Cal P w K mg base "_law_rows" s__law_rows ["many"] 1 F__law_rows 0 :=
  cal_def D sc__law_rows fun f cdv A outer s H hr hg => by
    unfold b__law_rows
    refine jss_cons ?_ ?_
    · refine js_set (i := 1) (M := []) ?_ ?_ ?_ ?_
      · refine jp_const ?_
        rfl
      · exact sc__law_rows.nd
      · rfl
      · exact .inl rfl
    · refine jss_cons ?_ ?_
      · refine js_for0 (M := []) ?_ ?_ ?_ ?_ gspec_name ?_
        · exact PassesOwn.never
        · rfl
        · refine ji0_range2 jp_int (jv 0) ?_ ?_
          · rfl
          · exact z_range
        · refine pg_name (i := 2) ?_ ?_ ?_
          · exact sc__law_rows.nd
          · rfl
          · exact .inl rfl
        · refine jss_cons ?_ ?_
          · refine js_set (i := 3) (M := []) ?_ ?_ ?_ ?_
            · exact jp_lst ja_nil
            · exact sc__law_rows.nd
            · rfl
            · exact .inl rfl
          · refine jss_cons ?_ ?_
            · refine js_for (M := []) ?_ ?_ ?_ ?_ gspec_name ?_
              · exact PassesOwn.never
              · rfl
              · exact ji_val (jv 1)
              · refine pg_name (i := 4) ?_ ?_ ?_
                · exact sc__law_rows.nd
                · rfl
                · exact .inr rfl
              · refine jss_cons ?_ jss_nil
                refine js_ext (i := 3) (M := []) ?_ ?_ ?_
                · refine jp_comp (own := [("item", 5)]) ?_ ?_ ?_ ?_ ?_ jts_nil (fun _ _ _ _ _ => ?_) ho_n ?_
                  · rfl
                  · exact sc__law_rows.nd
                  · refine ji_range2 ?_ (jv 2) ?_ ?_
                    · exact jp_bin oj_sub jp_int (jv 2)
                    · rfl
                    · exact z_range
                  · refine blkOk_by (N := ["many", "found", "fresh", "longer", "row", "item"]) (sc := defScope s__law_rows) ?_
                    decide +kernel
                  · refine jg_n ?_ ?_ ?_
                    · exact sc__law_rows.nd
                    · rfl
                    · exact fun _ _ _ _ _ => .inl rfl
                  · refine JP.zero (k := 1) ?_
                    refine jp_bin oj_add (jv 4) ?_
                    refine JP.zero (k := 1) ?_
                    refine jp_lst ?_
                    exact ja_cons (jv 5) ja_nil
                  · exact fun _ => rfl
                · rfl
                · exact .inl rfl
            · refine jss_cons ?_ jss_nil
              refine js_set (i := 1) (M := [3]) (jv 3) ?_ ?_ ?_
              · exact sc__law_rows.nd
              · rfl
              · exact .inl rfl
      · refine jss_cons ?_ jss_nil
        exact js_ret (M := []) (jv 1)
abbrev s__law_lot : Stmt := topS 18
theorem sc__law_lot : FnScope ["pouch", "many", "found", "left", "fresh", "turn"] ["pouch", "many"] (defScope s__law_lot) := ⟨rfl, rfl, rfl, by decide +kernel, rfl, by decide +kernel, by decide +kernel⟩
def c__law_lot_1 : Ev := (eComp (iU rg1 (eVar 1)) (bN 4) (bT (eBin dEq (eCall F__law_dip [0, 1] (aApp (aC (eVar 0) (aC (eC (.int 2)) aN)) aN)) (eC (.int 0)))) (eVar 4) [4])
def c__law_lot_2 : Ev := (eComp (iU rg1 (eC (.int 2))) (bN 5) tY (ePopC (eVar 3) (eCall F__law_dip [0, 1] (aApp (aC (eVar 0) (aC (eLenC (eVar 3)) aN)) aN))) [5])
def b__law_lot : Sv := (sSeq (sSet 2 0 [] c__law_lot_1)
    (sSeq (sIf [] (bT (eBin dGt (eOp cLen (aC (eVar 2) aN)) (eC (.int 1))))
    (sSeq (sRet [] (eVar 2))
    sNil)
    sNil)
    (sSeq (sNew 3 (eLRg (r1 (eVar 1))))
    (sSeq (sRet [] (eUn dSort c__law_lot_2))
    sNil))))
def F__law_lot : FnD := fnD 6 b__law_lot
theorem ok__law_lot {P : Program} {w : World} {K : PySem.W.Frag} {mg : Str → Option Value} {base : Heap} (D : Dfn K mg "_law_lot" s__law_lot)
    (q__law_dip : Cal P w K mg base "_law_dip" s__law_dip ["pouch", "wide"] 1 F__law_dip 0)
    (z_len : mg "len" = none)
    (z_list : mg "list" = none)
    (z_range : mg "range" = none)
    (z_sorted : mg "sorted" = none) :
    Cal P w K mg base "_law_lot" s__law_lot ["pouch", "many"] 2 F__law_lot 0 :=
  cal_def D sc__law_lot fun f cdv A outer s H hr hg => by
    unfold b__law_lot
    refine jss_cons ?_ ?_
    · refine js_comp0 (own := [("fresh", 4)]) (i := 2) (M := []) ?_ ?_ ?_ ?_ ?_ ?_ ?_ ?_ ?_ (fun _ _ _ _ _ => (jv 4)) ho_n ?_
      · rfl
      · exact sc__law_lot.nd
      · rfl
      · rfl
      · exact sw_true rfl rfl rfl (by decide +kernel)
      · refine ji_range1 (jv 1) ?_ ?_
        · rfl
        · exact z_range
      · refine blkOk_by (N := ["pouch", "many", "found", "left", "fresh", "turn"]) (sc := defScope s__law_lot) ?_
        decide +kernel
      · refine jg_n ?_ ?_ ?_
        · exact sc__law_lot.nd
        · rfl
        · exact fun _ _ _ _ _ => .inl rfl
      · refine jts_one (fun _ _ _ _ _ => ?_)
        refine jt_cmp (oj_eq ?_) ?_ jp_int (nomark _)
        · exact u64 hr
        · refine jp_cal (st := s__law_dip) (ps := ["pouch", "wide"]) (n := 2) (ks := []) (perm := [0, 1]) (j := 1) (l := 1) ?_ ?_ ?_ ?_ ?_ ?_ (len_aC (len_aC len_aN)) jk_nil len_aN
          · exact q__law_dip
          · omega
          · exact hr
          · exact hg
          · exact fun _ _ _ _ _ _ us ws h1 h2 => match us, ws, h1, h2 with | [_, _], [], _, _ => rfl
          · refine ja_cons (jv 0) ?_
            exact ja_cons jp_int ja_nil
      · exact fun _ => rfl
    · refine jss_cons ?_ ?_
      · refine js_if (M := []) ?_ ?_ jss_nil
        · refine jt_cmp oj_gt ?_ jp_int (nomark _)
          refine jp_callB cj_len ?_ ?_ ?_ ?_
          · rfl
          · exact z_len
          · decide +kernel
          · exact ja_cons (jv 2) ja_nil
        · refine jss_cons ?_ jss_nil
          exact js_ret (M := []) (jv 2)
      · refine jss_cons ?_ ?_
        · refine js_new (i := 3) ?_ ?_ ?_ ?_
          · refine jp_listRg ?_ ?_ ?_ ?_
            · refine jrg_1 (jv 1) ?_ ?_
              · rfl
              · exact z_range
            · rfl
            · rfl
            · exact z_list
          · exact sc__law_lot.nd
          · rfl
          · exact .inr rfl
        · refine jss_cons ?_ jss_nil
          refine js_ret (M := []) ?_
          refine JP.zero (k := 1) ?_
          refine jp_sorted ?_ ?_ ?_ ?_
          · refine jp_comp (own := [("turn", 5)]) ?_ ?_ ?_ ?_ ?_ jts_nil (fun _ _ _ _ _ => ?_) ho_n ?_
            · rfl
            · exact sc__law_lot.nd
            · refine ji_range1 jp_int ?_ ?_
              · rfl
              · exact z_range
            · refine blkOk_by (N := ["pouch", "many", "found", "left", "fresh", "turn"]) (sc := defScope s__law_lot) ?_
              decide +kernel
            · refine jg_n ?_ ?_ ?_
              · exact sc__law_lot.nd
              · rfl
              · exact fun _ _ _ _ _ => .inl rfl
            · refine jp_popC (jv 3) ?_
              refine jp_cal (st := s__law_dip) (ps := ["pouch", "wide"]) (n := 2) (ks := []) (perm := [0, 1]) (j := 1) (l := 1) ?_ ?_ ?_ ?_ ?_ ?_ (len_aC (len_aC len_aN)) jk_nil len_aN
              · exact q__law_dip
              · omega
              · exact hr
              · exact hg
              · exact fun _ _ _ _ _ _ us ws h1 h2 => match us, ws, h1, h2 with | [_, _], [], _, _ => rfl
              · refine ja_cons (jv 0) ?_
                refine ja_cons ?_ ja_nil
                refine jp_lenC (jv 3) ?_ ?_
                · rfl
                · exact z_len
            · exact fun _ => rfl
          · exact u66 hr
          · rfl
          · exact z_sorted
abbrev s__law_cross : Stmt := topS 19
theorem sc__law_cross : FnScope ["lot", "rest", "both", "fresh"] ["lot", "rest"] (defScope s__law_cross) := ⟨rfl, rfl, rfl, by decide +kernel, rfl, by decide +kernel, by decide +kernel⟩
def c__law_cross_1 : Ev := (eComp (iVal (eVar 0)) (bN 3) (bT (eBin dIn (eVar 3) (eVar 1))) (eVar 3) [3])
def b__law_cross : Sv := (sSeq (sSet 2 0 [] c__law_cross_1)
    (sSeq (sRet [] (eChain dLt dLt (eC (.int 0)) (eOp cLen (aC (eVar 2) aN)) (eOp cMin (aC (eOp cLen (aC (eVar 0) aN)) (aC (eOp cLen (aC (eVar 1) aN)) aN)))))
    sNil))
def F__law_cross : FnD := fnD 4 b__law_cross
theorem ok__law_cross {P : Program} {w : World} {K : PySem.W.Frag} {mg : Str → Option Value} {base : Heap} (D : Dfn K mg "_law_cross" s__law_cross)
    (z_len : mg "len" = none)
    (z_min : mg "min" = none) :
    Cal P w K mg base "_law_cross" s__law_cross ["lot", "rest"] 1 F__law_cross 0 :=
  cal_def D sc__law_cross fun f cdv A outer s H hr hg => by
    unfold b__law_cross
    refine jss_cons ?_ ?_
    · refine js_comp0 (own := [("fresh", 3)]) (i := 2) (M := []) ?_ ?_ ?_ ?_ ?_ ?_ ?_ ?_ ?_ (fun _ _ _ _ _ => (jv 3)) ho_n ?_
      · rfl
      · exact sc__law_cross.nd
      · rfl
      · rfl
      · exact sw_true rfl rfl rfl (by decide +kernel)
      · exact ji_val (jv 0)
      · refine blkOk_by (N := ["lot", "rest", "both", "fresh"]) (sc := defScope s__law_cross) ?_
        decide +kernel
      · refine jg_n ?_ ?_ ?_
        · exact sc__law_cross.nd
        · rfl
        · exact fun _ _ _ _ _ => .inl rfl
      · refine jts_one (fun _ _ _ _ _ => ?_)
        refine jt_cmp (oj_in ?_) (jv 3) (jv 1) ?_
        · exact u65 hr
        · rfl
      · exact fun _ => rfl
    · refine jss_cons ?_ jss_nil
      refine js_ret (M := []) ?_
      refine jp_chain (oj_lt ?_) (oj_lt ?_) jp_int ?_ ?_ ?_
      · exact u64 hr
      · exact u64 hr
      · refine jp_callB cj_len ?_ ?_ ?_ ?_
        · rfl
        · exact z_len
        · decide +kernel
        · exact ja_cons (jv 2) ja_nil
      · refine jp_callB (cj_min ?_) ?_ ?_ ?_ ?_
        · rfl
        · rfl
        · exact z_min
        · decide +kernel
        · refine ja_cons ?_ ?_
          · refine jp_callB cj_len ?_ ?_ ?_ ?_
            · rfl
            · exact z_len
            · decide +kernel
            · exact ja_cons (jv 0) ja_nil
          · refine ja_cons ?_ ja_nil
            refine jp_callB cj_len ?_ ?_ ?_ ?_
            · rfl
            · exact z_len
            · decide +kernel
            · exact ja_cons (jv 1) ja_nil
      · rfl
abbrev s__law_is_lot : Stmt := topS 20
theorem sc__law_is_lot : FnScope ["many", "item", "fresh"] ["many", "item"] (defScope s__law_is_lot) := ⟨rfl, rfl, rfl, by decide +kernel, rfl, by decide +kernel, by decide +kernel⟩
def c__law_is_lot_1 : Ev := (eComp (iVal (eVar 1)) (bN 2) (oT (bT (eUn (dIsi "bool") (eVar 2))) (nT (bT (eUn (dIsi "int") (eVar 2))))) (eVar 2) [2])
def b__law_is_lot : Sv := (sSeq (sIf [] (oT (nT (bT (eUn (dIsi "list") (eVar 1)))) (bT (eBin dLt (eOp cLen (aC (eVar 1) aN)) (eC (.int 2)))))
    (sSeq (sRet [] (eC (.bool false)))
    sNil)
    sNil)
    (sSeq (sIf [] (bT (eBin dNe c__law_is_lot_1 (eLst aN)))
    (sSeq (sRet [] (eC (.bool false)))
    sNil)
    sNil)
    (sSeq (sRet [] (eAnd (eBin dEq (eVar 1) (eUn dSortSet (eVar 1))) (eAnd (eBin dLe (eC (.int 0)) (eIdx (eVar 1) (eC (.int 0)))) (eBin dLt (eIdx (eVar 1) (eUn dNeg (eC (.int 1)))) (eVar 0)))))
    sNil)))
def F__law_is_lot : FnD := fnD 3 b__law_is_lot
theorem ok__law_is_lot {P : Program} {w : World} {K : PySem.W.Frag} {mg : Str → Option Value} {base : Heap} (D : Dfn K mg "_law_is_lot" s__law_is_lot)
    (z_bool : mg "bool" = none)
    (z_int : mg "int" = none)
    (z_isinstance : mg "isinstance" = none)
    (z_len : mg "len" = none)
    (z_list : mg "list" = none)
    (z_set : mg "set" = none)
    (z_sorted : mg "sorted" = none) :
    Cal P w K mg base "_law_is_lot" s__law_is_lot ["many", "item"] 1 F__law_is_lot 0 :=
  cal_def D sc__law_is_lot fun f cdv A outer s H hr hg => by
    unfold b__law_is_lot
    refine jss_cons ?_ ?_
    · refine js_if (M := []) ?_ ?_ jss_nil
      · refine jt_pw ?_
        refine jw_or ?_ ?_
        · refine jt_not ?_
          refine jt_val ?_ ?_
          · refine jp_isi ist_list (jv 1) ?_ ?_ ?_ ?_ ?_
            · rfl
            · exact z_isinstance
            · rfl
            · exact z_list
            · decide +kernel
          · exact fun _ => rfl
        · refine jw_or1 ?_
          refine jt_cmp (oj_lt ?_) ?_ jp_int (nomark _)
          · exact u64 hr
          · refine jp_callB cj_len ?_ ?_ ?_ ?_
            · rfl
            · exact z_len
            · decide +kernel
            · exact ja_cons (jv 1) ja_nil
      · refine jss_cons ?_ jss_nil
        exact js_ret (M := []) jp_bl
    · refine jss_cons ?_ ?_
      · refine js_if (M := []) ?_ ?_ jss_nil
        · refine jt_cmp (oj_ne ?_) ?_ ?_ (nomark _)
          · exact u64 hr
          · refine JP.zero (k := 1) ?_
            refine jp_comp (own := [("fresh", 2)]) ?_ ?_ ?_ ?_ ?_ ?_ (fun _ _ _ _ _ => (jv 2)) ho_n ?_
            · rfl
            · exact sc__law_is_lot.nd
            · exact ji_val (jv 1)
            · refine blkOk_by (N := ["many", "item", "fresh"]) (sc := defScope s__law_is_lot) ?_
              decide +kernel
            · refine jg_n ?_ ?_ ?_
              · exact sc__law_is_lot.nd
              · rfl
              · exact fun _ _ _ _ _ => .inl rfl
            · refine jts_one (fun _ _ _ _ _ => ?_)
              refine jt_pw ?_
              refine jw_or ?_ ?_
              · refine jt_val ?_ ?_
                · refine jp_isi ist_bool (jv 2) ?_ ?_ ?_ ?_ ?_
                  · rfl
                  · exact z_isinstance
                  · rfl
                  · exact z_bool
                  · decide +kernel
                · exact fun _ => rfl
              · refine jw_or1 ?_
                refine jt_not ?_
                refine jt_val ?_ ?_
                · refine jp_isi ist_int (jv 2) ?_ ?_ ?_ ?_ ?_
                  · rfl
                  · exact z_isinstance
                  · rfl
                  · exact z_int
                  · decide +kernel
                · exact fun _ => rfl
            · exact fun _ => rfl
          · refine JP.zero (k := 1) ?_
            exact jp_lst ja_nil
        · refine jss_cons ?_ jss_nil
          exact js_ret (M := []) jp_bl
      · refine jss_cons ?_ jss_nil
        refine js_ret (M := []) ?_
        refine jp_and ?_ ?_
        · refine jp_cmp (oj_eq ?_) (jv 1) ?_ (nomark _)
          · exact u64 hr
          · refine JP.zero (k := 1) ?_
            refine jp_sortSet (jv 1) ?_ ?_ ?_ ?_ ?_
            · rfl
            · rfl
            · exact z_sorted
            · rfl
            · exact z_set
        · refine jp_and ?_ ?_
          · refine jp_cmp oj_le jp_int ?_ (nomark _)
            refine jp_idx (jv 1) jp_int ?_
            exact fun _ _ => rfl
          · refine jp_one ?_
            refine jp_cmp (oj_lt ?_) ?_ (jv 0) (nomark _)
            · exact u64 hr
            · refine jp_idx (jv 1) ?_ ?_
              · exact jp_un uj_neg jp_int
              · exact fun _ _ => rfl
abbrev s__law_is_nest : Stmt := topS 21
theorem sc__law_is_nest : FnScope ["item", "spot", "lot", "rest"] ["item"] (defScope s__law_is_nest) := ⟨rfl, rfl, rfl, by decide +kernel, rfl, by decide +kernel, by decide +kernel⟩
def c__law_is_nest_1 : Ev := (eComp (iVal (eVar 0)) (bN 2) (nT (bT (eCall F__law_is_lot [0, 1] (aApp (aC (eBin dAdd (eOp cLen (aC (eVar 0) aN)) (eC (.int 1))) (aC (eVar 2) aN)) aN)))) (eVar 2) [2])
def c__law_is_nest_2 : Ev := (eComp (iVal (eSl (eVar 0) oN (oS (eVar 1)))) (bN 3) (oT (bT (eBin dEq (eVar 3) (eIdx (eVar 0) (eVar 1)))) (bT (eCall F__law_cross [0, 1] (aApp (aC (eVar 3) (aC (eIdx (eVar 0) (eVar 1)) aN)) aN)))) (eVar 3) [3])
def l__law_is_nest_1 : Sv := (sSeq (sIf [] (bT (eBin dNe c__law_is_nest_2 (eLst aN)))
    (sSeq (sRet [] (eC (.bool false)))
    sNil)
    sNil)
    sNil)
def b__law_is_nest : Sv := (sSeq (sIf [] (oT (nT (bT (eUn (dIsi "list") (eVar 0)))) (bT (eBin dGt (eOp cLen (aC (eVar 0) aN)) (eC (.int 19)))))
    (sSeq (sRet [] (eC (.bool false)))
    sNil)
    sNil)
    (sSeq (sIf [] (oT (bT (eBin dNe c__law_is_nest_1 (eLst aN))) (bT (eBin dNe (eVar 0) (eUn dSort (eVar 0)))))
    (sSeq (sRet [] (eC (.bool false)))
    sNil)
    sNil)
    (sSeq (sFor0 [] (iU rg1 (eOp cLen (aC (eVar 0) aN))) (bN 1)
    l__law_is_nest_1)
    (sSeq (sRet [] (eC (.bool true)))
    sNil))))
def F__law_is_nest : FnD := fnD 4 b__law_is_nest
theorem ok__law_is_nest {P : Program} {w : World} {K : PySem.W.Frag} {mg : Str → Option Value} {base : Heap} (D : Dfn K mg "_law_is_nest" s__law_is_nest)
    (q__law_cross : Cal P w K mg base "_law_cross" s__law_cross ["lot", "rest"] 1 F__law_cross 0)
    (q__law_is_lot : Cal P w K mg base "_law_is_lot" s__law_is_lot ["many", "item"] 1 F__law_is_lot 0)
    (z_isinstance : mg "isinstance" = none)
    (z_len : mg "len" = none)
    (z_list : mg "list" = none)
    (z_range : mg "range" = none)
    (z_sorted : mg "sorted" = none) :
    Cal P w K mg base "_law_is_nest" s__law_is_nest ["item"] 2 F__law_is_nest 0 :=
  cal_def D sc__law_is_nest fun f cdv A outer s H hr hg => by
    unfold b__law_is_nest
    refine jss_cons ?_ ?_
    · refine js_if (M := []) ?_ ?_ jss_nil
      · refine jt_pw ?_
        refine jw_or ?_ ?_
        · refine jt_not ?_
          refine jt_val ?_ ?_
          · refine jp_isi ist_list (jv 0) ?_ ?_ ?_ ?_ ?_
            · rfl
            · exact z_isinstance
            · rfl
            · exact z_list
            · decide +kernel
          · exact fun _ => rfl
        · refine jw_or1 ?_
          refine jt_cmp oj_gt ?_ jp_int (nomark _)
          refine jp_callB cj_len ?_ ?_ ?_ ?_
          · rfl
          · exact z_len
          · decide +kernel
          · exact ja_cons (jv 0) ja_nil
      · refine jss_cons ?_ jss_nil
        exact js_ret (M := []) jp_bl
    · refine jss_cons ?_ ?_
      · refine js_if (M := []) ?_ ?_ jss_nil
        · refine jt_pw ?_
          refine jw_or ?_ ?_
          · refine jt_cmp (oj_ne ?_) ?_ ?_ (nomark _)
            · exact u64 hr
            · refine JP.zero (k := 1) ?_
              refine jp_comp (own := [("lot", 2)]) ?_ ?_ ?_ ?_ ?_ ?_ (fun _ _ _ _ _ => (jv 2)) ho_n ?_
              · rfl
              · exact sc__law_is_nest.nd
              · exact ji_val (jv 0)
              · refine blkOk_by (N := ["item", "spot", "lot", "rest"]) (sc := defScope s__law_is_nest) ?_
                decide +kernel
              · refine jg_n ?_ ?_ ?_
                · exact sc__law_is_nest.nd
                · rfl
                · exact fun _ _ _ _ _ => .inl rfl
              · refine jts_one (fun _ _ _ _ _ => ?_)
                refine jt_not ?_
                refine jt_val ?_ ?_
                · refine jp_cal (st := s__law_is_lot) (ps := ["many", "item"]) (n := 2) (ks := []) (perm := [0, 1]) (j := 1) (l := 1) ?_ ?_ ?_ ?_ ?_ ?_ (len_aC (len_aC len_aN)) jk_nil len_aN
                  · exact q__law_is_lot
                  · omega
                  · exact hr
                  · exact hg
                  · exact fun _ _ _ _ _ _ us ws h1 h2 => match us, ws, h1, h2 with | [_, _], [], _, _ => rfl
                  · refine ja_cons ?_ ?_
                    · refine JP.zero (k := 1) ?_
                      refine jp_bin oj_add ?_ jp_int
                      refine jp_callB cj_len ?_ ?_ ?_ ?_
                      · rfl
                      · exact z_len
                      · decide +kernel
                      · exact ja_cons (jv 0) ja_nil
                    · exact ja_cons (jv 2) ja_nil
                · exact fun _ => rfl
              · exact fun _ => rfl
            · refine JP.zero (k := 1) ?_
              exact jp_lst ja_nil
          · refine jw_or1 ?_
            refine jt_cmp (oj_ne ?_) (jv 0) ?_ (nomark _)
            · exact u64 hr
            · refine JP.zero (k := 1) ?_
              refine jp_sorted0 (jv 0) ?_ ?_ ?_
              · exact u66 hr
              · rfl
              · exact z_sorted
        · refine jss_cons ?_ jss_nil
          exact js_ret (M := []) jp_bl
      · refine jss_cons ?_ ?_
        · refine js_for0 (M := []) ?_ ?_ ?_ ?_ gspec_name ?_
          · exact PassesOwn.never
          · rfl
          · refine ji0_range1 ?_ ?_ ?_
            · refine jp_callB cj_len ?_ ?_ ?_ ?_
              · rfl
              · exact z_len
              · decide +kernel
              · exact ja_cons (jv 0) ja_nil
            · rfl
            · exact z_range
          · refine pg_name (i := 1) ?_ ?_ ?_
            · exact sc__law_is_nest.nd
            · rfl
            · exact .inr rfl
          · refine jss_cons ?_ jss_nil
            refine js_if (M := []) ?_ ?_ jss_nil
            · refine jt_cmp (oj_ne ?_) ?_ ?_ (nomark _)
              · exact u64 hr
              · refine JP.zero (k := 1) ?_
                refine jp_comp (own := [("rest", 3)]) ?_ ?_ ?_ ?_ ?_ ?_ (fun _ _ _ _ _ => (jv 3)) ho_n ?_
                · rfl
                · exact sc__law_is_nest.nd
                · refine ji_val ?_
                  refine JP.zero (k := 1) ?_
                  refine jp_slice (jv 0) jo_none ?_
                  exact jo_some (jv 1)
                · refine blkOk_by (N := ["item", "spot", "lot", "rest"]) (sc := defScope s__law_is_nest) ?_
                  decide +kernel
                · refine jg_n ?_ ?_ ?_
                  · exact sc__law_is_nest.nd
                  · rfl
                  · exact fun _ _ _ _ _ => .inl rfl
                · refine jts_one (fun _ _ _ _ _ => ?_)
                  refine jt_pw ?_
                  refine jw_or ?_ ?_
                  · refine jt_cmp (oj_eq ?_) (jv 3) ?_ (nomark _)
                    · exact u64 hr
                    · refine jp_idx (jv 0) (jv 1) ?_
                      exact fun _ _ => rfl
                  · refine jw_or1 ?_
                    refine jt_val ?_ ?_
                    · refine jp_cal (st := s__law_cross) (ps := ["lot", "rest"]) (n := 2) (ks := []) (perm := [0, 1]) (j := 1) (l := 1) ?_ ?_ ?_ ?_ ?_ ?_ (len_aC (len_aC len_aN)) jk_nil len_aN
                      · exact q__law_cross
                      · omega
                      · exact hr
                      · exact hg
                      · exact fun _ _ _ _ _ _ us ws h1 h2 => match us, ws, h1, h2 with | [_, _], [], _, _ => rfl
                      · refine ja_cons (jv 3) ?_
                        refine ja_cons ?_ ja_nil
                        refine jp_idx (jv 0) (jv 1) ?_
                        exact fun _ _ => rfl
                    · exact fun _ => rfl
                · exact fun _ => rfl
              · refine JP.zero (k := 1) ?_
                exact jp_lst ja_nil
            · refine jss_cons ?_ jss_nil
              exact js_ret (M := []) jp_bl
        · refine jss_cons ?_ jss_nil
          exact js_ret (M := []) jp_bl
abbrev s__law_objects : Stmt := topS 22
theorem sc__law_objects : FnScope ["pouch", "lots", "many", "fresh", "found", "spot", "odd", "lot"] ["pouch", "lots"] (defScope s__law_objects) := ⟨rfl, rfl, rfl, by decide +kernel, rfl, by decide +kernel, by decide +kernel⟩
def c__law_objects_1 : Ev := (eComp (iVal (eVar 1)) (bN 7) tY (eOp cTuple (aC (eVar 7) aN)) [7])
def c__law_objects_2 : Ev := (eComp (iVal (eVar 1)) (bN 7) tY (eUn dRevL (eVar 7)) [7])
def c__law_objects_3 : Ev := (eComp (iVal (eVar 6)) (bN 7) tY (eBin dAdd (eBin dAdd (eSl (eVar 1) oN (oS (eVar 5))) (eLst (aC (eVar 7) aN))) (eSl (eVar 1) (oS (eBin dAdd (eVar 5) (eC (.int 1)))) oN)) [7])
def c__law_objects_4 : Ev := (eComp (iB rg2 (eC (.int 2)) (eC (.int 22))) (bN 2) tY (eLRg (r1 (eVar 2))) [2])
def c__law_objects_5 : Ev := (eComp (iB rg2 (eC (.int 2)) (eC (.int 21))) (bN 2) tY (eLRg (r1 (eVar 2))) [2])
def b__law_objects : Sv := (sSeq (sSet 2 0 [] (eBin dAdd (eOp cLen (aC (eVar 1) aN)) (eC (.int 1))))
    (sSeq (sSet 3 0 [] (eCall F__law_lot [0, 1] (aApp (aC (eVar 0) (aC (eOp cMax (aC (eC (.int 2)) (aC (eVar 2) aN))) aN)) aN)))
    (sSeq (sSet 4 1 [] (eC (.list [.none, (.bool true), (.int 0), (.int 1), (.str ""), (.str "0"), (.dict []), (.list []), (.tuple []), (.list [(.list [])]), (.list [(.list [(.int 0)])]), (.list [(.int 0)]), (.list [.none]), (.list [(.list [(.int 0), (.int 1)])]), (.list [(.tuple [(.int 0), (.int 1)])]), (.tuple [(.list [(.int 0), (.int 1)])]), (.list [(.list [(.int 1), (.int 0)])])])))
    (sSeq (sSet 4 1 [4] (eBin dAdd (eVar 4) (eC (.list [(.list [(.list [(.bool false), (.bool true)])]), (.list [(.list [(.int 0), (.bool true)])]), (.list [(.list [(.str "0"), (.str "1")])]), (.list [(.list [(.int 0), (.int 1)]), (.list [(.int 0), (.int 1)])]), (.list [(.list [(.int 0), (.int 1)]), (.list [(.int 0), (.int 1), (.int 2)])]), (.list [(.list [(.int 0), (.int 1), (.int 2)])])]))))
    (sSeq (sSet 4 1 [4] (eBin dAdd (eVar 4) (eC (.list [(.list [(.list [(.int 0), (.int 2)]), (.list [(.int 0), (.int 1), (.int 2)])]), (.list [(.list [(.int 0), (.int 1), (.int 2)]), (.list [(.int 0), (.int 2)])]), (.list [(.list [(.int 0), (.int 1), (.int 2)]), (.list [(.int 1), (.int 2)])]), (.list [(.list [(.int (-1)), (.int 0)])]), (.list [(.list [(.int 0), (.int 1000000000000000000000000000000)])])]))))
    (sSeq (sApp 4 [] 0 (eC (.list [(.list [(.int 0), (.int 2)])])))
    (sSeq (sSet 4 1 [4] (eBin dAdd (eVar 4) (eC (.list [(.list [(.list [(.int 0), (.int 1)]), (.list [(.int 0), (.int 1), (.int 2), (.int 3)]), (.list [(.int 0), (.int 1), (.int 3)])]), (.list [(.list [(.int 0), (.int 1)]), (.list [(.int 0), (.int 1), (.int 2), (.int 3)]), (.list [(.int 2), (.int 3)])]), (.list [(.list [(.int 0), (.int 1)]), (.list [(.int 0), (.int 1), (.int 2), (.int 3)]), (.list [(.int 1), (.int 2)])])]))))
    (sSeq (sSet 4 1 [4] (eBin dAdd (eVar 4) (eLst (aC (eUn dRevL (eVar 1)) (aC (eBin dAdd (eVar 1) (eSl (eVar 1) oN (oS (eC (.int 1))))) (aC (eSl (eVar 1) (oS (eC (.int 1))) oN) (aC (eSl (eVar 1) oN (oS (eUn dNeg (eC (.int 1))))) (aC (eOp cTuple (aC (eVar 1) aN)) (aC (eBin dMul (eVar 1) (eC (.int 2))) aN)))))))))
    (sSeq (sApp 4 [] 0 c__law_objects_1)
    (sSeq (sSet 4 1 [4] (eBin dAdd (eVar 4) (eLst (aC (eUn dSort (eBin dAdd (eVar 1) (eLst (aC (eLRg (r1 (eBin dAdd (eVar 2) (eC (.int 1))))) aN)))) (aC c__law_objects_2 (aC (eBin dAdd (eVar 1) (eLst (aC (eC .none) aN))) (aC (eLst (aC (eVar 1) aN)) aN)))))))
    (sSeq (sIf [] (bT (eBin dNe (eVar 1) (eLst aN)))
    (sSeq (sSet 5 0 [] (eCall F__law_dip [0, 1] (aApp (aC (eVar 0) (aC (eOp cLen (aC (eVar 1) aN)) aN)) aN)))
    (sSeq (sSet 6 0 [] (eLst (aC (eVar 3) (aC (eSl (eIdx (eVar 1) (eVar 5)) oN (oS (eUn dNeg (eC (.int 1))))) (aC (eBin dAdd (eIdx (eVar 1) (eVar 5)) (eLst (aC (eVar 2) aN))) (aC (eBin dAdd (eIdx (eVar 1) (eVar 5)) (eSl (eIdx (eVar 1) (eVar 5)) oN (oS (eC (.int 1))))) (aC (eC .none) (aC (eC (.int 0)) (aC (eC (.str "0")) (aC (eC (.list [.none, (.int 1)])) aN))))))))))
    (sSeq (sSet 4 1 [4] (eBin dAdd (eVar 4) c__law_objects_3))
    (sSeq (sApp 4 [] 0 (eUn dSort (eBin dAdd (eBin dAdd (eSl (eVar 1) oN (oS (eVar 5))) (eLst (aC (eVar 3) aN))) (eSl (eVar 1) (oS (eBin dAdd (eVar 5) (eC (.int 1)))) oN))))
    sNil))))
    sNil)
    (sSeq (sRet [4] (eBin dAdd (eVar 4) (eLst (aC c__law_objects_4 (aC c__law_objects_5 aN)))))
    sNil))))))))))))
def F__law_objects : FnD := fnD 8 b__law_objects
theorem ok__law_objects {P : Program} {w : World} {K : PySem.W.Frag} {mg : Str → Option Value} {base : Heap} (D : Dfn K mg "_law_objects" s__law_objects)
    (q__law_dip : Cal P w K mg base "_law_dip" s__law_dip ["pouch", "wide"] 1 F__law_dip 0)
    (q__law_lot : Cal P w K mg base "_law_lot" s__law_lot ["pouch", "many"] 2 F__law_lot 0)
    (z_len : mg "len" = none)
    (z_list : mg "list" = none)
    (z_max : mg "max" = none)
    (z_range : mg "range" = none)
    (z_sorted : mg "sorted" = none)
    (z_tuple : mg "tuple" = none) :
    Cal P w K mg base "_law_objects" s__law_objects ["pouch", "lots"] 3 F__law_objects 0 :=
  cal_def D sc__law_objects fun f cdv A outer s H hr hg => by
    unfold b__law_objects
    refine jss_cons ?_ ?_
    · refine js_set (i := 2) (M := []) ?_ ?_ ?_ ?_
      · refine JP.zero (k := 1) ?_
        refine jp_bin oj_add ?_ jp_int
        refine jp_callB cj_len ?_ ?_ ?_ ?_
        · rfl
        · exact z_len
        · decide +kernel
        · exact ja_cons (jv 1) ja_nil
      · exact sc__law_objects.nd
      · rfl
      · exact .inl rfl
    · refine jss_cons ?_ ?_
      · refine js_set (i := 3) (M := []) ?_ ?_ ?_ ?_
        · refine jp_cal (st := s__law_lot) (ps := ["pouch", "many"]) (n := 2) (ks := []) (perm := [0, 1]) (j := 2) (l := 2) ?_ ?_ ?_ ?_ ?_ ?_ (len_aC (len_aC len_aN)) jk_nil len_aN
          · exact q__law_lot
          · omega
          · exact hr
          · exact hg
          · exact fun _ _ _ _ _ _ us ws h1 h2 => match us, ws, h1, h2 with | [_, _], [], _, _ => rfl
          · refine ja_cons (jv 0) ?_
            refine ja_cons ?_ ja_nil
            refine jp_callB (cj_max ?_) ?_ ?_ ?_ ?_
            · rfl
            · rfl
            · exact z_max
            · decide +kernel
            · refine ja_cons jp_int ?_
              exact ja_cons (jv 2) ja_nil
        · exact sc__law_objects.nd
        · rfl
        · exact .inl rfl
      · refine jss_cons ?_ ?_
        · refine js_set (i := 4) (M := []) ?_ ?_ ?_ ?_
          · refine jp_constL ?_ ?_
            · rfl
            · decide
          · exact sc__law_objects.nd
          · rfl
          · exact .inl rfl
        · refine jss_cons ?_ ?_
          · refine js_set (i := 4) (M := [4]) ?_ ?_ ?_ ?_
            · refine jp_bin oj_add (jv 4) ?_
              refine jp_const ?_
              rfl
            · exact sc__law_objects.nd
            · rfl
            · exact .inl rfl
          · refine jss_cons ?_ ?_
            · refine js_set (i := 4) (M := [4]) ?_ ?_ ?_ ?_
              · refine jp_bin oj_add (jv 4) ?_
                refine jp_const ?_
                rfl
              · exact sc__law_objects.nd
              · rfl
              · exact .inl rfl
            · refine jss_cons ?_ ?_
              · refine js_app (i := 4) (M := []) ?_ ?_ ?_
                · refine jp_const ?_
                  rfl
                · rfl
                · exact .inl rfl
              · refine jss_cons ?_ ?_
                · refine js_set (i := 4) (M := [4]) ?_ ?_ ?_ ?_
                  · refine jp_bin oj_add (jv 4) ?_
                    refine jp_const ?_
                    rfl
                  · exact sc__law_objects.nd
                  · rfl
                  · exact .inl rfl
                · refine jss_cons ?_ ?_
                  · refine js_set (i := 4) (M := [4]) ?_ ?_ ?_ ?_
                    · refine jp_bin oj_add (jv 4) ?_
                      refine JP.zero (k := 1) ?_
                      refine jp_lst ?_
                      refine ja_cons ?_ ?_
                      · refine JP.zero (k := 1) ?_
                        exact jp_rev (jv 1)
                      · refine ja_cons ?_ ?_
                        · refine JP.zero (k := 1) ?_
                          refine jp_bin oj_add (jv 1) ?_
                          refine JP.zero (k := 1) ?_
                          refine jp_slice (jv 1) jo_none ?_
                          exact jo_some jp_int
                        · refine ja_cons ?_ ?_
                          · refine JP.zero (k := 1) ?_
                            refine jp_slice (jv 1) ?_ jo_none
                            exact jo_some jp_int
                          · refine ja_cons ?_ ?_
                            · refine JP.zero (k := 1) ?_
                              refine jp_slice (jv 1) jo_none ?_
                              refine jo_some ?_
                              exact jp_un uj_neg jp_int
                            · refine ja_cons ?_ ?_
                              · refine jp_callTy cj_tuple ?_ ?_ ?_ ?_
                                · rfl
                                · exact z_tuple
                                · decide +kernel
                                · exact ja_cons (jv 1) ja_nil
                              · refine ja_cons ?_ ja_nil
                                refine JP.zero (k := 1) ?_
                                exact jp_bin oj_mul (jv 1) jp_int
                    · exact sc__law_objects.nd
                    · rfl
                    · exact .inl rfl
                  · refine jss_cons ?_ ?_
                    · refine js_app (i := 4) (M := []) ?_ ?_ ?_
                      · refine JP.zero (k := 1) ?_
                        refine jp_comp (own := [("lot", 7)]) ?_ ?_ ?_ ?_ ?_ jts_nil (fun _ _ _ _ _ => ?_) ho_n ?_
                        · rfl
                        · exact sc__law_objects.nd
                        · exact ji_val (jv 1)
                        · refine blkOk_by (N := ["pouch", "lots", "many", "fresh", "found", "spot", "odd", "lot"]) (sc := defScope s__law_objects) ?_
                          decide +kernel
                        · refine jg_n ?_ ?_ ?_
                          · exact sc__law_objects.nd
                          · rfl
                          · exact fun _ _ _ _ _ => .inl rfl
                        · refine jp_callTy cj_tuple ?_ ?_ ?_ ?_
                          · rfl
                          · exact z_tuple
                          · decide +kernel
                          · exact ja_cons (jv 7) ja_nil
                        · exact fun _ => rfl
                      · rfl
                      · exact .inl rfl
                    · refine jss_cons ?_ ?_
                      · refine js_set (i := 4) (M := [4]) ?_ ?_ ?_ ?_
                        · refine jp_bin oj_add (jv 4) ?_
                          refine JP.zero (k := 1) ?_
                          refine jp_lst ?_
                          refine ja_cons ?_ ?_
                          · refine JP.zero (k := 1) ?_
                            refine jp_sorted ?_ ?_ ?_ ?_
                            · refine jp_bin oj_add (jv 1) ?_
                              refine JP.zero (k := 1) ?_
                              refine jp_lst ?_
                              refine ja_cons ?_ ja_nil
                              refine JP.zero (k := 1) ?_
                              refine jp_listRg ?_ ?_ ?_ ?_
                              · refine jrg_1 ?_ ?_ ?_
                                · refine JP.zero (k := 1) ?_
                                  exact jp_bin oj_add (jv 2) jp_int
                                · rfl
                                · exact z_range
                              · rfl
                              · rfl
                              · exact z_list
                            · exact u66 hr
                            · rfl
                            · exact z_sorted
                          · refine ja_cons ?_ ?_
                            · refine JP.zero (k := 1) ?_
                              refine jp_comp (own := [("lot", 7)]) ?_ ?_ ?_ ?_ ?_ jts_nil (fun _ _ _ _ _ => ?_) ho_n ?_
                              · rfl
                              · exact sc__law_objects.nd
                              · exact ji_val (jv 1)
                              · refine blkOk_by (N := ["pouch", "lots", "many", "fresh", "found", "spot", "odd", "lot"]) (sc := defScope s__law_objects) ?_
                                decide +kernel
                              · refine jg_n ?_ ?_ ?_
                                · exact sc__law_objects.nd
                                · rfl
                                · exact fun _ _ _ _ _ => .inl rfl
                              · refine JP.zero (k := 1) ?_
                                exact jp_rev (jv 7)
                              · exact fun _ => rfl
                            · refine ja_cons ?_ ?_
                              · refine JP.zero (k := 1) ?_
                                refine jp_bin oj_add (jv 1) ?_
                                refine JP.zero (k := 1) ?_
                                refine jp_lst ?_
                                exact ja_cons jp_non ja_nil
                              · refine ja_cons ?_ ja_nil
                                refine JP.zero (k := 1) ?_
                                refine jp_lst ?_
                                exact ja_cons (jv 1) ja_nil
                        · exact sc__law_objects.nd
                        · rfl
                        · exact .inl rfl
                      · refine jss_cons ?_ ?_
                        · refine js_if (M := []) ?_ ?_ jss_nil
                          · refine jt_cmp (oj_ne ?_) (jv 1) ?_ (nomark _)
                            · exact u64 hr
                            · refine JP.zero (k := 1) ?_
                              exact jp_lst ja_nil
                          · refine jss_cons ?_ ?_
                            · refine js_set (i := 5) (M := []) ?_ ?_ ?_ ?_
                              · refine jp_cal (st := s__law_dip) (ps := ["pouch", "wide"]) (n := 2) (ks := []) (perm := [0, 1]) (j := 1) (l := 2) ?_ ?_ ?_ ?_ ?_ ?_ (len_aC (len_aC len_aN)) jk_nil len_aN
                                · exact q__law_dip
                                · omega
                                · exact hr
                                · exact hg
                                · exact fun _ _ _ _ _ _ us ws h1 h2 => match us, ws, h1, h2 with | [_, _], [], _, _ => rfl
                                · refine ja_cons (jv 0) ?_
                                  refine ja_cons ?_ ja_nil
                                  refine jp_callB cj_len ?_ ?_ ?_ ?_
                                  · rfl
                                  · exact z_len
                                  · decide +kernel
                                  · exact ja_cons (jv 1) ja_nil
                              · exact sc__law_objects.nd
                              · rfl
                              · exact .inr rfl
                            · refine jss_cons ?_ ?_
                              · refine js_set (i := 6) (M := []) ?_ ?_ ?_ ?_
                                · refine JP.zero (k := 1) ?_
                                  refine jp_lst ?_
                                  refine ja_cons (jv 3) ?_
                                  refine ja_cons ?_ ?_
                                  · refine JP.zero (k := 1) ?_
                                    refine jp_slice ?_ jo_none ?_
                                    · refine jp_idx (jv 1) (jv 5) ?_
                                      exact fun _ _ => rfl
                                    · refine jo_some ?_
                                      exact jp_un uj_neg jp_int
                                  · refine ja_cons ?_ ?_
                                    · refine JP.zero (k := 1) ?_
                                      refine jp_bin oj_add ?_ ?_
                                      · refine jp_idx (jv 1) (jv 5) ?_
                                        exact fun _ _ => rfl
                                      · refine JP.zero (k := 1) ?_
                                        refine jp_lst ?_
                                        exact ja_cons (jv 2) ja_nil
                                    · refine ja_cons ?_ ?_
                                      · refine JP.zero (k := 1) ?_
                                        refine jp_bin oj_add ?_ ?_
                                        · refine jp_idx (jv 1) (jv 5) ?_
                                          exact fun _ _ => rfl
                                        · refine JP.zero (k := 1) ?_
                                          refine jp_slice ?_ jo_none ?_
                                          · refine jp_idx (jv 1) (jv 5) ?_
                                            exact fun _ _ => rfl
                                          · exact jo_some jp_int
                                      · refine ja_cons jp_non ?_
                                        refine ja_cons jp_int ?_
                                        refine ja_cons jp_str ?_
                                        refine ja_cons ?_ ja_nil
                                        refine jp_const ?_
                                        rfl
                                · exact sc__law_objects.nd
                                · rfl
                                · exact .inl rfl
                              · refine jss_cons ?_ ?_
                                · refine js_set (i := 4) (M := [4]) ?_ ?_ ?_ ?_
                                  · refine jp_bin oj_add (jv 4) ?_
                                    refine JP.zero (k := 1) ?_
                                    refine jp_comp (own := [("lot", 7)]) ?_ ?_ ?_ ?_ ?_ jts_nil (fun _ _ _ _ _ => ?_) ho_n ?_
                                    · rfl
                                    · exact sc__law_objects.nd
                                    · exact ji_val (jv 6)
                                    · refine blkOk_by (N := ["pouch", "lots", "many", "fresh", "found", "spot", "odd", "lot"]) (sc := defScope s__law_objects) ?_
                                      decide +kernel
                                    · refine jg_n ?_ ?_ ?_
                                      · exact sc__law_objects.nd
                                      · rfl
                                      · exact fun _ _ _ _ _ => .inl rfl
                                    · refine JP.zero (k := 1) ?_
                                      refine jp_bin oj_add ?_ ?_
                                      · refine JP.zero (k := 1) ?_
                                        refine jp_bin oj_add ?_ ?_
                                        · refine JP.zero (k := 1) ?_
                                          refine jp_slice (jv 1) jo_none ?_
                                          exact jo_some (jv 5)
                                        · refine JP.zero (k := 1) ?_
                                          refine jp_lst ?_
                                          exact ja_cons (jv 7) ja_nil
                                      · refine JP.zero (k := 1) ?_
                                        refine jp_slice (jv 1) ?_ jo_none
                                        refine jo_some ?_
                                        refine JP.zero (k := 1) ?_
                                        exact jp_bin oj_add (jv 5) jp_int
                                    · exact fun _ => rfl
                                  · exact sc__law_objects.nd
                                  · rfl
                                  · exact .inl rfl
                                · refine jss_cons ?_ jss_nil
                                  refine js_app (i := 4) (M := []) ?_ ?_ ?_
                                  · refine JP.zero (k := 1) ?_
                                    refine jp_sorted ?_ ?_ ?_ ?_
                                    · refine jp_bin oj_add ?_ ?_
                                      · refine JP.zero (k := 1) ?_
                                        refine jp_bin oj_add ?_ ?_
                                        · refine JP.zero (k := 1) ?_
                                          refine jp_slice (jv 1) jo_none ?_
                                          exact jo_some (jv 5)
                                        · refine JP.zero (k := 1) ?_
                                          refine jp_lst ?_
                                          exact ja_cons (jv 3) ja_nil
                                      · refine JP.zero (k := 1) ?_
                                        refine jp_slice (jv 1) ?_ jo_none
                                        refine jo_some ?_
                                        refine JP.zero (k := 1) ?_
                                        exact jp_bin oj_add (jv 5) jp_int
                                    · exact u66 hr
                                    · rfl
                                    · exact z_sorted
                                  · rfl
                                  · exact .inl rfl
                        · refine jss_cons ?_ jss_nil
                          refine js_ret (M := [4]) ?_
                          refine JP.zero (k := 1) ?_
                          refine jp_bin oj_add (jv 4) ?_
                          refine JP.zero (k := 1) ?_
                          refine jp_lst ?_
                          refine ja_cons ?_ ?_
                          · refine JP.zero (k := 1) ?_
                            refine jp_comp (own := [("many", 2)]) ?_ ?_ ?_ ?_ ?_ jts_nil (fun _ _ _ _ _ => ?_) ho_n ?_
                            · rfl
                            · exact sc__law_objects.nd
                            · refine ji_range2 jp_int jp_int ?_ ?_
                              · rfl
                              · exact z_range
                            · refine blkOk_by (N := ["pouch", "lots", "many", "fresh", "found", "spot", "odd", "lot"]) (sc := defScope s__law_objects) ?_
                              decide +kernel
                            · refine jg_n ?_ ?_ ?_
                              · exact sc__law_objects.nd
                              · rfl
                              · exact fun _ _ _ _ _ => .inl rfl
                            · refine JP.zero (k := 1) ?_
                              refine jp_listRg ?_ ?_ ?_ ?_
                              · refine jrg_1 (jv 2) ?_ ?_
                                · rfl
                                · exact z_range
                              · rfl
                              · rfl
                              · exact z_list
                            · exact fun _ => rfl
                          · refine ja_cons ?_ ja_nil
                            refine JP.zero (k := 1) ?_
                            refine jp_comp (own := [("many", 2)]) ?_ ?_ ?_ ?_ ?_ jts_nil (fun _ _ _ _ _ => ?_) ho_n ?_
                            · rfl
                            · exact sc__law_objects.nd
                            · refine ji_range2 jp_int jp_int ?_ ?_
                              · rfl
                              · exact z_range
                            · refine blkOk_by (N := ["pouch", "lots", "many", "fresh", "found", "spot", "odd", "lot"]) (sc := defScope s__law_objects) ?_
                              decide +kernel
                            · refine jg_n ?_ ?_ ?_
                              · exact sc__law_objects.nd
                              · rfl
                              · exact fun _ _ _ _ _ => .inl rfl
                            · refine JP.zero (k := 1) ?_
                              refine jp_listRg ?_ ?_ ?_ ?_
                              · refine jrg_1 (jv 2) ?_ ?_
                                · rfl
                                · exact z_range
                              · rfl
                              · rfl
                              · exact z_list
                            · exact fun _ => rfl
abbrev s__law_right : Stmt := topS 23
theorem sc__law_right : FnScope ["pouch", "lots", "objects_here", "kept", "item", "due"] ["pouch"] (defScope s__law_right) := ⟨rfl, rfl, rfl, by decide +kernel, rfl, by decide +kernel, by decide +kernel⟩
def l__law_right_1 : Sv := (sSeq (sSet 5 0 [] (eCall F__law_is_nest [0] (aApp (aC (eVar 4) aN) aN)))
    (sSeq (sIf [] (bT (eBin dNe (eUn dReprG (eLst (aC (eCall F_is_parting [0] (aApp (aC (eVar 4) aN) aN)) (aC (eCall F_is_parting [0] (aC (eVar 4) aN)) aN)))) (eUn dReprG (eLst (aC (eVar 5) (aC (eVar 5) aN))))))
    (sSeq (sRet [] (eC (.bool false)))
    sNil)
    sNil)
    sNil))
def b__law_right : Sv := (sSeq (sSet 1 0 [] (eCall (F__law_lots 22) [0] (aApp (aC (eCall F__law_nest [0] (aApp (aC (eCall F__law_items [0, 1] (aApp (aC (eVar 0) (aC (eBin dAdd (eC (.int 1)) (eCall F__law_dip [0, 1] (aApp (aC (eVar 0) (aC (eC (.int 20)) aN)) aN))) aN)) aN)) aN) aN)) aN) aN)))
    (sSeq (sSet 2 0 [] (eBin dAdd (eLst (aC (eVar 1) aN)) (eCall F__law_objects [0, 1] (aApp (aC (eVar 0) (aC (eVar 1) aN)) aN))))
    (sSeq (sSet 3 0 [] (eUn dReprG (eVar 2)))
    (sSeq (sFor [] (iVal (eVar 2)) (bN 4)
    l__law_right_1)
    (sSeq (sRet [] (eAnd (eBin dEq (eUn dReprG (eVar 2)) (eVar 3)) (eBin dIs (eCall F_is_parting [0] (aApp (aC (eVar 1) aN) aN)) (eC (.bool true)))))
    sNil)))))
def F__law_right : FnD := fnD 6 b__law_right
theorem ok__law_right {P : Program} {w : World} {K : PySem.W.Frag} {mg : Str → Option Value} {base : Heap} (D : Dfn K mg "_law_right" s__law_right)
    (q_is_parting : Cal P w K mg base "is_parting" s_is_parting ["thing"] 4 F_is_parting 0)
    (q__law_dip : Cal P w K mg base "_law_dip" s__law_dip ["pouch", "wide"] 1 F__law_dip 0)
    (q__law_items : Cal P w K mg base "_law_items" s__law_items ["pouch", "many"] 2 F__law_items 0)
    (q__law_nest : Cal P w K mg base "_law_nest" s__law_nest ["items"] 45 F__law_nest 0)
    (q__law_lots : Cal P w K mg base "_law_lots" s__law_lots ["nest"] 44 (F__law_lots 22) 0)
    (q__law_is_nest : Cal P w K mg base "_law_is_nest" s__law_is_nest ["item"] 2 F__law_is_nest 0)
    (q__law_objects : Cal P w K mg base "_law_objects" s__law_objects ["pouch", "lots"] 3 F__law_objects 0)
    (z_repr : mg "repr" = none) :
    Cal P w K mg base "_law_right" s__law_right ["pouch"] 46 F__law_right 0 :=
  cal_def D sc__law_right fun f cdv A outer s H hr hg => by
    unfold b__law_right
    refine jss_cons ?_ ?_
    · refine js_set (i := 1) (M := []) ?_ ?_ ?_ ?_
      · refine jp_cal (st := s__law_lots) (ps := ["nest"]) (n := 1) (ks := []) (perm := [0]) (j := 44) (l := 45) ?_ ?_ ?_ ?_ ?_ ?_ (len_aC len_aN) jk_nil len_aN
        · exact q__law_lots
        · omega
        · exact hr
        · exact hg
        · exact fun _ _ _ _ _ _ us ws h1 h2 => match us, ws, h1, h2 with | [_], [], _, _ => rfl
        · refine ja_cons ?_ ja_nil
          refine jp_cal (st := s__law_nest) (ps := ["items"]) (n := 1) (ks := []) (perm := [0]) (j := 45) (l := 45) ?_ ?_ ?_ ?_ ?_ ?_ (len_aC len_aN) jk_nil len_aN
          · exact q__law_nest
          · omega
          · exact hr
          · exact hg
          · exact fun _ _ _ _ _ _ us ws h1 h2 => match us, ws, h1, h2 with | [_], [], _, _ => rfl
          · refine ja_cons ?_ ja_nil
            refine jp_cal (st := s__law_items) (ps := ["pouch", "many"]) (n := 2) (ks := []) (perm := [0, 1]) (j := 2) (l := 45) ?_ ?_ ?_ ?_ ?_ ?_ (len_aC (len_aC len_aN)) jk_nil len_aN
            · exact q__law_items
            · omega
            · exact hr
            · exact hg
            · exact fun _ _ _ _ _ _ us ws h1 h2 => match us, ws, h1, h2 with | [_, _], [], _, _ => rfl
            · refine ja_cons (jv 0) ?_
              refine ja_cons ?_ ja_nil
              refine JP.zero (k := 1) ?_
              refine jp_bin oj_add jp_int ?_
              refine jp_cal (st := s__law_dip) (ps := ["pouch", "wide"]) (n := 2) (ks := []) (perm := [0, 1]) (j := 1) (l := 45) ?_ ?_ ?_ ?_ ?_ ?_ (len_aC (len_aC len_aN)) jk_nil len_aN
              · exact q__law_dip
              · omega
              · exact hr
              · exact hg
              · exact fun _ _ _ _ _ _ us ws h1 h2 => match us, ws, h1, h2 with | [_, _], [], _, _ => rfl
              · refine ja_cons (jv 0) ?_
                exact ja_cons jp_int ja_nil
      · exact sc__law_right.nd
      · rfl
      · exact .inl rfl
    · refine jss_cons ?_ ?_
      · refine js_set (i := 2) (M := []) ?_ ?_ ?_ ?_
        · refine JP.zero (k := 1) ?_
          refine jp_bin oj_add ?_ ?_
          · refine JP.zero (k := 1) ?_
            refine jp_lst ?_
            exact ja_cons (jv 1) ja_nil
          · refine jp_cal (st := s__law_objects) (ps := ["pouch", "lots"]) (n := 2) (ks := []) (perm := [0, 1]) (j := 3) (l := 45) ?_ ?_ ?_ ?_ ?_ ?_ (len_aC (len_aC len_aN)) jk_nil len_aN
            · exact q__law_objects
            · omega
            · exact hr
            · exact hg
            · exact fun _ _ _ _ _ _ us ws h1 h2 => match us, ws, h1, h2 with | [_, _], [], _, _ => rfl
            · refine ja_cons (jv 0) ?_
              exact ja_cons (jv 1) ja_nil
        · exact sc__law_right.nd
        · rfl
        · exact .inl rfl
      · refine jss_cons ?_ ?_
        · refine js_set (i := 3) (M := []) ?_ ?_ ?_ ?_
          · refine jp_reprG (jv 2) ?_ ?_ ?_ ?_
            · exact hg
            · exact u66 hr
            · rfl
            · exact z_repr
          · exact sc__law_right.nd
          · rfl
          · exact .inl rfl
        · refine jss_cons ?_ ?_
          · refine js_for (M := []) ?_ ?_ ?_ ?_ gspec_name ?_
            · exact PassesOwn.never
            · rfl
            · exact ji_val (jv 2)
            · refine pg_name (i := 4) ?_ ?_ ?_
              · exact sc__law_right.nd
              · rfl
              · exact .inl rfl
            · refine jss_cons ?_ ?_
              · refine js_set (i := 5) (M := []) ?_ ?_ ?_ ?_
                · refine jp_cal (st := s__law_is_nest) (ps := ["item"]) (n := 1) (ks := []) (perm := [0]) (j := 2) (l := 45) ?_ ?_ ?_ ?_ ?_ ?_ (len_aC len_aN) jk_nil len_aN
                  · exact q__law_is_nest
                  · omega
                  · exact hr
                  · exact hg
                  · exact fun _ _ _ _ _ _ us ws h1 h2 => match us, ws, h1, h2 with | [_], [], _, _ => rfl
                  · exact ja_cons (jv 4) ja_nil
                · exact sc__law_right.nd
                · rfl
                · exact .inl rfl
              · refine jss_cons ?_ jss_nil
                refine js_if (M := []) ?_ ?_ jss_nil
                · refine jt_cmp (oj_ne ?_) ?_ ?_ (nomark _)
                  · exact u64 hr
                  · refine jp_reprG ?_ ?_ ?_ ?_ ?_
                    · refine JP.zero (k := 1) ?_
                      refine jp_lst ?_
                      refine ja_cons ?_ ?_
                      · refine jp_cal (st := s_is_parting) (ps := ["thing"]) (n := 1) (ks := []) (perm := [0]) (j := 4) (l := 45) ?_ ?_ ?_ ?_ ?_ ?_ (len_aC len_aN) jk_nil len_aN
                        · exact q_is_parting
                        · omega
                        · exact hr
                        · exact hg
                        · exact fun _ _ _ _ _ _ us ws h1 h2 => match us, ws, h1, h2 with | [_], [], _, _ => rfl
                        · exact ja_cons (jv 4) ja_nil
                      · refine ja_cons ?_ ja_nil
                        refine jp_cal0 (st := s_is_parting) (ps := ["thing"]) (ks := ["thing"]) (perm := [0]) (j := 4) (l := 45) ?_ ?_ ?_ ?_ ?_ ?_ (len_aC len_aN)
                        · exact q_is_parting
                        · omega
                        · exact hr
                        · exact hg
                        · exact fun _ _ _ _ _ _ us ws h1 h2 => match us, ws, h1, h2 with | [], [_], _, _ => rfl
                        · exact jk_cons (jv 4) jk_nil
                    · exact hg
                    · exact u66 hr
                    · rfl
                    · exact z_repr
                  · refine jp_reprG ?_ ?_ ?_ ?_ ?_
                    · refine JP.zero (k := 1) ?_
                      refine jp_lst ?_
                      refine ja_cons (jv 5) ?_
                      exact ja_cons (jv 5) ja_nil
                    · exact hg
                    · exact u66 hr
                    · rfl
                    · exact z_repr
                · refine jss_cons ?_ jss_nil
                  exact js_ret (M := []) jp_bl
          · refine jss_cons ?_ jss_nil
            refine js_ret (M := []) ?_
            refine jp_and ?_ ?_
            · refine jp_cmp (oj_eq ?_) ?_ (jv 3) (nomark _)
              · exact u64 hr
              · refine jp_reprG (jv 2) ?_ ?_ ?_ ?_
                · exact hg
                · exact u66 hr
                · rfl
                · exact z_repr
            · refine jp_one ?_
              refine jp_cmp oj_is ?_ jp_bl (nomark _)
              refine jp_cal (st := s_is_parting) (ps := ["thing"]) (n := 1) (ks := []) (perm := [0]) (j := 4) (l := 45) ?_ ?_ ?_ ?_ ?_ ?_ (len_aC len_aN) jk_nil len_aN
              · exact q_is_parting
              · omega
              · exact hr
              · exact hg
              · exact fun _ _ _ _ _ _ us ws h1 h2 => match us, ws, h1, h2 with | [_], [], _, _ => rfl
              · exact ja_cons (jv 1) ja_nil
abbrev s__law_all_right : Stmt := topS 24
theorem sc__law_all_right : FnScope ["many", "seen", "row", "lots"] ["many"] (defScope s__law_all_right) := ⟨rfl, rfl, rfl, by decide +kernel, rfl, by decide +kernel, by decide +kernel⟩
def l__law_all_right_1 : Sv := (sSeq (sSet 3 0 [] (eCall (F__law_lots 22) [0] (aApp (aC (eCall F__law_nest [0] (aApp (aC (eVar 2) aN) aN)) aN) aN)))
    (sSeq (sIf [1] (oT (bT (eBin dIsNot (eCall F_is_parting [0] (aApp (aC (eVar 3) aN) aN)) (eC (.bool true)))) (bT (eBin dIn (eVar 3) (eVar 1))))
    (sSeq (sRet [] (eC (.bool false)))
    sNil)
    sNil)
    (sSeq (sApp 1 [] 0 (eVar 3))
    sNil)))
def b__law_all_right : Sv := (sSeq (sSet 1 1 [] (eLst aN))
    (sSeq (sFor [] (iVal (eCall F__law_rows [0] (aApp (aC (eVar 0) aN) aN))) (bN 2)
    l__law_all_right_1)
    (sSeq (sRet [] (eC (.bool true)))
    sNil)))
def F__law_all_right : FnD := fnD 4 b__law_all_right
theorem ok__law_all_right {P : Program} {w : World} {K : PySem.W.Frag} {mg : Str → Option Value} {base : Heap} (D : Dfn K mg "_law_all_right" s__law_all_right)
    (q_is_parting : Cal P w K mg base "is_parting" s_is_parting ["thing"] 4 F_is_parting 0)
    (q__law_nest : Cal P w K mg base "_law_nest" s__law_nest ["items"] 45 F__law_nest 0)
    (q__law_lots : Cal P w K mg base "_law_lots" s__law_lots ["nest"] 44 (F__law_lots 22) 0)
    (q__law_rows : Cal P w K mg base "_law_rows" s__law_rows ["many"] 1 F__law_rows 0) :
    Cal P w K mg base "_law_all_right" s__law_all_right ["many"] 46 F__law_all_right 0 :=
  cal_def D sc__law_all_right fun f cdv A outer s H hr hg => by
    unfold b__law_all_right
    refine jss_cons ?_ ?_
    · refine js_set (i := 1) (M := []) ?_ ?_ ?_ ?_
      · exact jp_lst ja_nil
      · exact sc__law_all_right.nd
      · rfl
      · exact .inl rfl
    · refine jss_cons ?_ ?_
      · refine js_for (M := []) ?_ ?_ ?_ ?_ gspec_name ?_
        · exact PassesOwn.never
        · rfl
        · refine ji_val ?_
          refine jp_cal (st := s__law_rows) (ps := ["many"]) (n := 1) (ks := []) (perm := [0]) (j := 1) (l := 45) ?_ ?_ ?_ ?_ ?_ ?_ (len_aC len_aN) jk_nil len_aN
          · exact q__law_rows
          · omega
          · exact hr
          · exact hg
          · exact fun _ _ _ _ _ _ us ws h1 h2 => match us, ws, h1, h2 with | [_], [], _, _ => rfl
          · exact ja_cons (jv 0) ja_nil
        · refine pg_name (i := 2) ?_ ?_ ?_
          · exact sc__law_all_right.nd
          · rfl
          · exact .inl rfl
        · refine jss_cons ?_ ?_
          · refine js_set (i := 3) (M := []) ?_ ?_ ?_ ?_
            · refine jp_cal (st := s__law_lots) (ps := ["nest"]) (n := 1) (ks := []) (perm := [0]) (j := 44) (l := 45) ?_ ?_ ?_ ?_ ?_ ?_ (len_aC len_aN) jk_nil len_aN
              · exact q__law_lots
              · omega
              · exact hr
              · exact hg
              · exact fun _ _ _ _ _ _ us ws h1 h2 => match us, ws, h1, h2 with | [_], [], _, _ => rfl
              · refine ja_cons ?_ ja_nil
                refine jp_cal (st := s__law_nest) (ps := ["items"]) (n := 1) (ks := []) (perm := [0]) (j := 45) (l := 45) ?_ ?_ ?_ ?_ ?_ ?_ (len_aC len_aN) jk_nil len_aN
                · exact q__law_nest
                · omega
                · exact hr
                · exact hg
                · exact fun _ _ _ _ _ _ us ws h1 h2 => match us, ws, h1, h2 with | [_], [], _, _ => rfl
                · exact ja_cons (jv 2) ja_nil
            · exact sc__law_all_right.nd
            · rfl
            · exact .inl rfl
          · refine jss_cons ?_ ?_
            · refine js_if (M := [1]) ?_ ?_ jss_nil
              · refine jt_pw ?_
                refine jw_or ?_ ?_
                · refine jt_cmp oj_isNot ?_ jp_bl (nomark _)
                  refine jp_cal (st := s_is_parting) (ps := ["thing"]) (n := 1) (ks := []) (perm := [0]) (j := 4) (l := 45) ?_ ?_ ?_ ?_ ?_ ?_ (len_aC len_aN) jk_nil len_aN
                  · exact q_is_parting
                  · omega
                  · exact hr
                  · exact hg
                  · exact fun _ _ _ _ _ _ us ws h1 h2 => match us, ws, h1, h2 with | [_], [], _, _ => rfl
                  · exact ja_cons (jv 3) ja_nil
                · refine jw_or1 ?_
                  refine jt_cmp (oj_in ?_) (jv 3) (jv 1) ?_
                  · exact u65 hr
                  · rfl
              · refine jss_cons ?_ jss_nil
                exact js_ret (M := []) jp_bl
            · refine jss_cons ?_ jss_nil
              refine js_app (i := 1) (M := []) (jv 3) ?_ ?_
              · rfl
              · exact .inl rfl
      · refine jss_cons ?_ jss_nil
        exact js_ret (M := []) jp_bl
abbrev s__law_threes_right : Stmt := topS 25
theorem sc__law_threes_right : FnScope ["every", "count_here", "digits", "lot", "low", "mid", "high", "item", "fresh"] [] (defScope s__law_threes_right) := ⟨rfl, rfl, rfl, by decide +kernel, rfl, by decide +kernel, by decide +kernel⟩
def c__law_threes_right_1 : Ev := (eComp (iU rg1 (eC (.int 4))) (bN 8) (bT (eBin dEq (eBin dMod (eOp cInt (aC (eBin dShr (eVar 2) (eVar 8)) aN)) (eC (.int 2))) (eC (.int 1)))) (eVar 8) [8])
def l__law_threes_right_1 : Sv := (sSeq (sSet 3 0 [] c__law_threes_right_1)
    (sSeq (sIf [] (bT (eBin dGt (eOp cLen (aC (eVar 3) aN)) (eC (.int 1))))
    (sSeq (sApp 0 [] 0 (eVar 3))
    sNil)
    sNil)
    sNil))
def l__law_threes_right_2 : Sv := (sSeq (sSet 7 0 [0] (eLst (aC (eIdx (eVar 0) (eVar 6)) (aC (eIdx (eVar 0) (eVar 5)) (aC (eIdx (eVar 0) (eVar 4)) aN)))))
    (sSeq (sIf [] (bT (eBin dNe (eUn dRepr (eCall F_is_parting [0] (aApp (aC (eVar 7) aN) aN))) (eUn dRepr (eCall F__law_is_nest [0] (aApp (aC (eVar 7) aN) aN)))))
    (sSeq (sRet [] (eC (.bool false)))
    sNil)
    sNil)
    (sSeq (sSet 1 0 [] (eBin dAdd (eVar 1) (eOp cInt (aC (eCall F_is_parting [0] (aApp (aC (eVar 7) aN) aN)) aN))))
    sNil)))
def l__law_threes_right_3 : Sv := (sSeq (sFor0 [] (iU rg1 (eVar 5)) (bN 6)
    l__law_threes_right_2)
    sNil)
def l__law_threes_right_4 : Sv := (sSeq (sFor0 [] (iU rg1 (eVar 4)) (bN 5)
    l__law_threes_right_3)
    sNil)
def b__law_threes_right : Sv := (sSeq (sPar 0 1 1 0 [] [] (eLst aN) (eC (.int 0)))
    (sSeq (sFor0 [] (iU rg1 (eC (.int 16))) (bN 2)
    l__law_threes_right_1)
    (sSeq (sSet 0 0 [0] (eUn dSort (eVar 0)))
    (sSeq (sFor0 [] (iU rg1 (eC (.int 11))) (bN 4)
    l__law_threes_right_4)
    (sSeq (sRet [] (eBin dEq (eVar 1) (eC (.int 15))))
    sNil)))))
def F__law_threes_right : FnD := fnD 9 b__law_threes_right
theorem ok__law_threes_right {P : Program} {w : World} {K : PySem.W.Frag} {mg : Str → Option Value} {base : Heap} (D : Dfn K mg "_law_threes_right" s__law_threes_right)
    (q_is_parting : Cal P w K mg base "is_parting" s_is_parting ["thing"] 4 F_is_parting 0)
    (q__law_is_nest : Cal P w K mg base "_law_is_nest" s__law_is_nest ["item"] 2 F__law_is_nest 0)
    (z_int : mg "int" = none)
    (z_len : mg "len" = none)
    (z_range : mg "range" = none)
    (z_repr : mg "repr" = none)
    (z_sorted : mg "sorted" = none) :
    Cal P w K mg base "_law_threes_right" s__law_threes_right [] 5 F__law_threes_right 0 :=
  cal_def D sc__law_threes_right fun f cdv A outer s H hr hg => by
    unfold b__law_threes_right
    refine jss_cons ?_ ?_
    · refine js_par (i := 0) (j := 1) (M1 := []) (M2 := []) ?_ jp_int ?_ ?_ ?_ ?_ ?_ ?_ ?_ ?_
      · exact jp_lst ja_nil
      · rfl
      · exact sc__law_threes_right.nd
      · rfl
      · rfl
      · decide
      · rfl
      · rfl
      · rfl
    · refine jss_cons ?_ ?_
      · refine js_for0 (M := []) ?_ ?_ ?_ ?_ gspec_name ?_
        · exact PassesOwn.never
        · rfl
        · refine ji0_range1 jp_int ?_ ?_
          · rfl
          · exact z_range
        · refine pg_name (i := 2) ?_ ?_ ?_
          · exact sc__law_threes_right.nd
          · rfl
          · exact .inr rfl
        · refine jss_cons ?_ ?_
          · refine js_comp0 (own := [("fresh", 8)]) (i := 3) (M := []) ?_ ?_ ?_ ?_ ?_ ?_ ?_ ?_ ?_ (fun _ _ _ _ _ => (jv 8)) ho_n ?_
            · rfl
            · exact sc__law_threes_right.nd
            · rfl
            · rfl
            · exact sw_true rfl rfl rfl (by decide +kernel)
            · refine ji_range1 jp_int ?_ ?_
              · rfl
              · exact z_range
            · refine blkOk_by (N := ["every", "count_here", "digits", "lot", "low", "mid", "high", "item", "fresh"]) (sc := defScope s__law_threes_right) ?_
              decide +kernel
            · refine jg_n ?_ ?_ ?_
              · exact sc__law_threes_right.nd
              · rfl
              · exact fun _ _ _ _ _ => .inl rfl
            · refine jts_one (fun _ _ _ _ _ => ?_)
              refine jt_cmp (oj_eq ?_) ?_ jp_int (nomark _)
              · exact u64 hr
              · refine jp_bin oj_mod ?_ jp_int
                refine jp_callTy cj_int ?_ ?_ ?_ ?_
                · rfl
                · exact z_int
                · decide +kernel
                · refine ja_cons ?_ ja_nil
                  exact jp_bin oj_shr (jv 2) (jv 8)
            · exact fun _ => rfl
          · refine jss_cons ?_ jss_nil
            refine js_if (M := []) ?_ ?_ jss_nil
            · refine jt_cmp oj_gt ?_ jp_int (nomark _)
              refine jp_callB cj_len ?_ ?_ ?_ ?_
              · rfl
              · exact z_len
              · decide +kernel
              · exact ja_cons (jv 3) ja_nil
            · refine jss_cons ?_ jss_nil
              refine js_app (i := 0) (M := []) (jv 3) ?_ ?_
              · rfl
              · exact .inl rfl
      · refine jss_cons ?_ ?_
        · refine js_set (i := 0) (M := [0]) ?_ ?_ ?_ ?_
          · refine JP.zero (k := 1) ?_
            refine jp_sorted0 (jv 0) ?_ ?_ ?_
            · exact u66 hr
            · rfl
            · exact z_sorted
          · exact sc__law_threes_right.nd
          · rfl
          · exact .inl rfl
        · refine jss_cons ?_ ?_
          · refine js_for0 (M := []) ?_ ?_ ?_ ?_ gspec_name ?_
            · exact PassesOwn.never
            · rfl
            · refine ji0_range1 jp_int ?_ ?_
              · rfl
              · exact z_range
            · refine pg_name (i := 4) ?_ ?_ ?_
              · exact sc__law_threes_right.nd
              · rfl
              · exact .inl rfl
            · refine jss_cons ?_ jss_nil
              refine js_for0 (M := []) ?_ ?_ ?_ ?_ gspec_name ?_
              · exact PassesOwn.never
              · rfl
              · refine ji0_range1 (jv 4) ?_ ?_
                · rfl
                · exact z_range
              · refine pg_name (i := 5) ?_ ?_ ?_
                · exact sc__law_threes_right.nd
                · rfl
                · exact .inl rfl
              · refine jss_cons ?_ jss_nil
                refine js_for0 (M := []) ?_ ?_ ?_ ?_ gspec_name ?_
                · exact PassesOwn.never
                · rfl
                · refine ji0_range1 (jv 5) ?_ ?_
                  · rfl
                  · exact z_range
                · refine pg_name (i := 6) ?_ ?_ ?_
                  · exact sc__law_threes_right.nd
                  · rfl
                  · exact .inl rfl
                · refine jss_cons ?_ ?_
                  · refine js_set (i := 7) (M := [0]) ?_ ?_ ?_ ?_
                    · refine JP.zero (k := 1) ?_
                      refine jp_lst ?_
                      refine ja_cons ?_ ?_
                      · refine jp_idx (jv 0) (jv 6) ?_
                        exact fun _ _ => rfl
                      · refine ja_cons ?_ ?_
                        · refine jp_idx (jv 0) (jv 5) ?_
                          exact fun _ _ => rfl
                        · refine ja_cons ?_ ja_nil
                          refine jp_idx (jv 0) (jv 4) ?_
                          exact fun _ _ => rfl
                    · exact sc__law_threes_right.nd
                    · rfl
                    · exact .inl rfl
                  · refine jss_cons ?_ ?_
                    · refine js_if (M := []) ?_ ?_ jss_nil
                      · refine jt_cmp (oj_ne ?_) ?_ ?_ (nomark _)
                        · exact u64 hr
                        · refine jp_repr ?_ ?_ ?_ ?_ ?_
                          · refine jp_cal (st := s_is_parting) (ps := ["thing"]) (n := 1) (ks := []) (perm := [0]) (j := 4) (l := 4) ?_ ?_ ?_ ?_ ?_ ?_ (len_aC len_aN) jk_nil len_aN
                            · exact q_is_parting
                            · omega
                            · exact hr
                            · exact hg
                            · exact fun _ _ _ _ _ _ us ws h1 h2 => match us, ws, h1, h2 with | [_], [], _, _ => rfl
                            · exact ja_cons (jv 7) ja_nil
                          · exact hg
                          · exact u66 hr
                          · rfl
                          · exact z_repr
                        · refine jp_repr ?_ ?_ ?_ ?_ ?_
                          · refine jp_cal (st := s__law_is_nest) (ps := ["item"]) (n := 1) (ks := []) (perm := [0]) (j := 2) (l := 4) ?_ ?_ ?_ ?_ ?_ ?_ (len_aC len_aN) jk_nil len_aN
                            · exact q__law_is_nest
                            · omega
                            · exact hr
                            · exact hg
                            · exact fun _ _ _ _ _ _ us ws h1 h2 => match us, ws, h1, h2 with | [_], [], _, _ => rfl
                            · exact ja_cons (jv 7) ja_nil
                          · exact hg
                          · exact u66 hr
                          · rfl
                          · exact z_repr
                      · refine jss_cons ?_ jss_nil
                        exact js_ret (M := []) jp_bl
                    · refine jss_cons ?_ jss_nil
                      refine js_set (i := 1) (M := []) ?_ ?_ ?_ ?_
                      · refine JP.zero (k := 1) ?_
                        refine jp_bin oj_add (jv 1) ?_
                        refine jp_callTy cj_int ?_ ?_ ?_ ?_
                        · rfl
                        · exact z_int
                        · decide +kernel
                        · refine ja_cons ?_ ja_nil
                          refine jp_cal (st := s_is_parting) (ps := ["thing"]) (n := 1) (ks := []) (perm := [0]) (j := 4) (l := 4) ?_ ?_ ?_ ?_ ?_ ?_ (len_aC len_aN) jk_nil len_aN
                          · exact q_is_parting
                          · omega
                          · exact hr
                          · exact hg
                          · exact fun _ _ _ _ _ _ us ws h1 h2 => match us, ws, h1, h2 with | [_], [], _, _ => rfl
                          · exact ja_cons (jv 7) ja_nil
                      · exact sc__law_threes_right.nd
                      · rfl
                      · exact .inl rfl
          · refine jss_cons ?_ jss_nil
            refine js_ret (M := []) ?_
            refine jp_cmp (oj_eq ?_) (jv 1) jp_int (nomark _)
            exact u64 hr
abbrev s_law : Stmt := topS 26
theorem sc_law : FnScope ["script", "at", "pouch", "turn", "many"] ["script"] (defScope s_law) := ⟨rfl, rfl, rfl, by decide +kernel, rfl, by decide +kernel, by decide +kernel⟩
def l_law_1 : Sv := (sSeq (sIf [] (nT (bT (eCall F__law_right [0] (aApp (aC (eVar 2) aN) aN))))
    (sSeq (sRet [] (eC (.bool false)))
    sNil)
    sNil)
    sNil)
def l_law_2 : Sv := (sSeq (sNew 2 (eCall F__law_pouch [0, 1] (aApp (aC (eVar 0) (aC (eVar 1) aN)) aN)))
    (sSeq (sFor0 [] (iU rg1 (eC (.int 2))) (bN 3)
    l_law_1)
    sNil))
def l_law_3 : Sv := (sSeq (sIf [] (nT (bT (eCall F__law_all_right [0] (aApp (aC (eVar 4) aN) aN))))
    (sSeq (sRet [] (eC (.bool false)))
    sNil)
    sNil)
    sNil)
def b_law : Sv := (sSeq (sFor0 [] (iU rg1 (eOp cMax (aC (eC (.int 1)) (aC (eOp cMin (aC (eC (.int 4)) (aC (eOp cLen (aC (eVar 0) aN)) aN))) aN)))) (bN 1)
    l_law_2)
    (sSeq (sFor0 [] (iB rg2 (eC (.int 1)) (eC (.int 6))) (bN 4)
    l_law_3)
    (sSeq (sRet [] (eAnd (eCall F__law_threes_right [] aN) (eAnd (eBin dIs (eCall F_is_parting [0] (aApp (aC (eLst aN) aN) aN)) (eC (.bool true))) (eBin dIs (eCall F_is_parting [0] (aApp (aC (eC (.list [(.list [(.int 0), (.int 1)])])) aN) aN)) (eC (.bool true))))))
    sNil)))
theorem ok_law {P : Program} {w : World} {K : PySem.W.Frag} {mg : Str → Option Value} {base : Heap} {f : Addr} {fd : FuncData} (F : Fun K "law" "law" s_law f fd)
    (q_is_parting : Cal P w K mg base "is_parting" s_is_parting ["thing"] 4 F_is_parting 0)
    (q__law_pouch : Cal P w K mg base "_law_pouch" s__law_pouch ["script", "at"] 1 F__law_pouch 1)
    (q__law_right : Cal P w K mg base "_law_right" s__law_right ["pouch"] 46 F__law_right 0)
    (q__law_all_right : Cal P w K mg base "_law_all_right" s__law_all_right ["many"] 46 F__law_all_right 0)
    (q__law_threes_right : Cal P w K mg base "_law_threes_right" s__law_threes_right [] 5 F__law_threes_right 0)
    (z_len : mg "len" = none)
    (z_max : mg "max" = none)
    (z_min : mg "min" = none)
    (z_range : mg "range" = none) :
    FnG P w K mg base 47 f fd ["script"] (spLaw K 5 b_law) :=
  fng_law F sc_law fun cdv A outer s H hr hg => by
    unfold b_law
    refine jss_cons ?_ ?_
    · refine js_for0 (M := []) ?_ ?_ ?_ ?_ gspec_name ?_
      · exact PassesOwn.never
      · rfl
      · refine ji0_range1 ?_ ?_ ?_
        · refine jp_callB (cj_max ?_) ?_ ?_ ?_ ?_
          · rfl
          · rfl
          · exact z_max
          · decide +kernel
          · refine ja_cons jp_int ?_
            refine ja_cons ?_ ja_nil
            refine jp_callB (cj_min ?_) ?_ ?_ ?_ ?_
            · rfl
            · rfl
            · exact z_min
            · decide +kernel
            · refine ja_cons jp_int ?_
              refine ja_cons ?_ ja_nil
              refine jp_callB cj_len ?_ ?_ ?_ ?_
              · rfl
              · exact z_len
              · decide +kernel
              · exact ja_cons (jv 0) ja_nil
        · rfl
        · exact z_range
      · refine pg_name (i := 1) ?_ ?_ ?_
        · exact sc_law.nd
        · rfl
        · exact .inl rfl
      · refine jss_cons ?_ ?_
        · refine js_new (i := 2) ?_ ?_ ?_ ?_
          · refine jp_cal (st := s__law_pouch) (ps := ["script", "at"]) (n := 2) (ks := []) (perm := [0, 1]) (j := 1) (l := 46) ?_ ?_ ?_ ?_ ?_ ?_ (len_aC (len_aC len_aN)) jk_nil len_aN
            · exact q__law_pouch
            · omega
            · exact hr
            · exact hg
            · exact fun _ _ _ _ _ _ us ws h1 h2 => match us, ws, h1, h2 with | [_, _], [], _, _ => rfl
            · refine ja_cons (jv 0) ?_
              exact ja_cons (jv 1) ja_nil
          · exact sc_law.nd
          · rfl
          · exact .inl rfl
        · refine jss_cons ?_ jss_nil
          refine js_for0 (M := []) ?_ ?_ ?_ ?_ gspec_name ?_
          · exact PassesOwn.never
          · rfl
          · refine ji0_range1 jp_int ?_ ?_
            · rfl
            · exact z_range
          · refine pg_name (i := 3) ?_ ?_ ?_
            · exact sc_law.nd
            · rfl
            · exact .inl rfl
          · refine jss_cons ?_ jss_nil
            refine js_if (M := []) ?_ ?_ jss_nil
            · refine jt_not ?_
              refine jt_val ?_ ?_
              · refine jp_cal (st := s__law_right) (ps := ["pouch"]) (n := 1) (ks := []) (perm := [0]) (j := 46) (l := 46) ?_ ?_ ?_ ?_ ?_ ?_ (len_aC len_aN) jk_nil len_aN
                · exact q__law_right
                · omega
                · exact hr
                · exact hg
                · exact fun _ _ _ _ _ _ us ws h1 h2 => match us, ws, h1, h2 with | [_], [], _, _ => rfl
                · exact ja_cons (jv 2) ja_nil
              · exact fun _ => rfl
            · refine jss_cons ?_ jss_nil
              exact js_ret (M := []) jp_bl
    · refine jss_cons ?_ ?_
      · refine js_for0 (M := []) ?_ ?_ ?_ ?_ gspec_name ?_
        · exact PassesOwn.never
        · rfl
        · refine ji0_range2 jp_int jp_int ?_ ?_
          · rfl
          · exact z_range
        · refine pg_name (i := 4) ?_ ?_ ?_
          · exact sc_law.nd
          · rfl
          · exact .inl rfl
        · refine jss_cons ?_ jss_nil
          refine js_if (M := []) ?_ ?_ jss_nil
          · refine jt_not ?_
            refine jt_val ?_ ?_
            · refine jp_cal (st := s__law_all_right) (ps := ["many"]) (n := 1) (ks := []) (perm := [0]) (j := 46) (l := 46) ?_ ?_ ?_ ?_ ?_ ?_ (len_aC len_aN) jk_nil len_aN
              · exact q__law_all_right
              · omega
              · exact hr
              · exact hg
              · exact fun _ _ _ _ _ _ us ws h1 h2 => match us, ws, h1, h2 with | [_], [], _, _ => rfl
              · exact ja_cons (jv 4) ja_nil
            · exact fun _ => rfl
          · refine jss_cons ?_ jss_nil
            exact js_ret (M := []) jp_bl
      · refine jss_cons ?_ jss_nil
        refine js_ret (M := []) ?_
        refine jp_and ?_ ?_
        · refine jp_cal0 (st := s__law_threes_right) (ps := []) (ks := []) (perm := []) (j := 5) (l := 46) ?_ ?_ ?_ ?_ ?_ jk_nil len_aN
          · exact q__law_threes_right
          · omega
          · exact hr
          · exact hg
          · exact fun _ _ _ _ _ _ us ws h1 h2 => match us, ws, h1, h2 with | [], [], _, _ => rfl
        · refine jp_and ?_ ?_
          · refine jp_cmp oj_is ?_ jp_bl (nomark _)
            refine jp_cal (st := s_is_parting) (ps := ["thing"]) (n := 1) (ks := []) (perm := [0]) (j := 4) (l := 46) ?_ ?_ ?_ ?_ ?_ ?_ (len_aC len_aN) jk_nil len_aN
            · exact q_is_parting
            · omega
            · exact hr
            · exact hg
            · exact fun _ _ _ _ _ _ us ws h1 h2 => match us, ws, h1, h2 with | [_], [], _, _ => rfl
            · refine ja_cons ?_ ja_nil
              refine JP.zero (k := 1) ?_
              exact jp_lst ja_nil
          · refine jp_one ?_
            refine jp_cmp oj_is ?_ jp_bl (nomark _)
            refine jp_cal (st := s_is_parting) (ps := ["thing"]) (n := 1) (ks := []) (perm := [0]) (j := 4) (l := 46) ?_ ?_ ?_ ?_ ?_ ?_ (len_aC len_aN) jk_nil len_aN
            · exact q_is_parting
            · omega
            · exact hr
            · exact hg
            · exact fun _ _ _ _ _ _ us ws h1 h2 => match us, ws, h1, h2 with | [_], [], _, _ => rfl
            · refine ja_cons ?_ ja_nil
              refine jp_const ?_
              rfl
end K01
namespace K01
open PySem PySem.Spec PyProof.Rows L2 J
theorem all_mk {P : Program} {w : World} {K : PySem.W.Frag} {h : Heap} {mg : Str → Option Value} {fa : Addr} (X : K.In h) (G : h.Ns mainGlobals mg) (hfa : mg "law" = some (.ref fa))
    {f0 : Addr} {oc0 kV0 dc0 pm0 cd0 ct0 : Value} {od0 an0 : Option Addr} {sl0 : Array (Option Value)}
    {f1 : Addr} {oc1 kV1 dc1 pm1 cd1 ct1 : Value} {od1 an1 : Option Addr} {sl1 : Array (Option Value)}
    {f2 : Addr} {oc2 kV2 dc2 pm2 cd2 ct2 : Value} {od2 an2 : Option Addr} {sl2 : Array (Option Value)}
    {f3 : Addr} {oc3 kV3 dc3 pm3 cd3 ct3 : Value} {od3 an3 : Option Addr} {sl3 : Array (Option Value)}
    {f4 : Addr} {oc4 kV4 dc4 pm4 cd4 ct4 : Value} {od4 an4 : Option Addr} {sl4 : Array (Option Value)}
    {f5 : Addr} {oc5 kV5 dc5 pm5 cd5 ct5 : Value} {od5 an5 : Option Addr} {sl5 : Array (Option Value)}
    {f6 : Addr} {oc6 kV6 dc6 pm6 cd6 ct6 : Value} {od6 an6 : Option Addr} {sl6 : Array (Option Value)}
    {f7 : Addr} {oc7 kV7 dc7 pm7 cd7 ct7 : Value} {od7 an7 : Option Addr} {sl7 : Array (Option Value)}
    {f8 : Addr} {oc8 kV8 dc8 pm8 cd8 ct8 : Value} {od8 an8 : Option Addr} {sl8 : Array (Option Value)}
    {f9 : Addr} {oc9 kV9 dc9 pm9 cd9 ct9 : Value} {od9 an9 : Option Addr} {sl9 : Array (Option Value)}
    {f10 : Addr} {oc10 kV10 dc10 pm10 cd10 ct10 : Value} {od10 an10 : Option Addr} {sl10 : Array (Option Value)}
    {f11 : Addr} {oc11 kV11 dc11 pm11 cd11 ct11 : Value} {od11 an11 : Option Addr} {sl11 : Array (Option Value)}
    {f12 : Addr} {oc12 kV12 dc12 pm12 cd12 ct12 : Value} {od12 an12 : Option Addr} {sl12 : Array (Option Value)}
    {f13 : Addr} {oc13 kV13 dc13 pm13 cd13 ct13 : Value} {od13 an13 : Option Addr} {sl13 : Array (Option Value)}
    {f14 : Addr} {oc14 kV14 dc14 pm14 cd14 ct14 : Value} {od14 an14 : Option Addr} {sl14 : Array (Option Value)}
    {f15 : Addr} {oc15 kV15 dc15 pm15 cd15 ct15 : Value} {od15 an15 : Option Addr} {sl15 : Array (Option Value)}
    {f16 : Addr} {oc16 kV16 dc16 pm16 cd16 ct16 : Value} {od16 an16 : Option Addr} {sl16 : Array (Option Value)}
    {f17 : Addr} {oc17 kV17 dc17 pm17 cd17 ct17 : Value} {od17 an17 : Option Addr} {sl17 : Array (Option Value)}
    {f18 : Addr} {oc18 kV18 dc18 pm18 cd18 ct18 : Value} {od18 an18 : Option Addr} {sl18 : Array (Option Value)}
    {f19 : Addr} {oc19 kV19 dc19 pm19 cd19 ct19 : Value} {od19 an19 : Option Addr} {sl19 : Array (Option Value)}
    {f20 : Addr} {oc20 kV20 dc20 pm20 cd20 ct20 : Value} {od20 an20 : Option Addr} {sl20 : Array (Option Value)}
    {f21 : Addr} {oc21 kV21 dc21 pm21 cd21 ct21 : Value} {od21 an21 : Option Addr} {sl21 : Array (Option Value)}
    {f22 : Addr} {oc22 kV22 dc22 pm22 cd22 ct22 : Value} {od22 an22 : Option Addr} {sl22 : Array (Option Value)}
    {f23 : Addr} {oc23 kV23 dc23 pm23 cd23 ct23 : Value} {od23 an23 : Option Addr} {sl23 : Array (Option Value)}
    {t_MOST_PERSONS : Tok}
    (a0 : PySem.W.nsIn K mainGlobals "is_integer" = some (some (.ref f0))) (l0 : K.lookup f0 = some ⟨oc0, od0, .func (PySem.W.fnOf "is_integer" "is_integer" (defArgs s_is_integer) (defBody s_is_integer) (defScope s_is_integer) .none kV0 dc0 pm0 an0 cd0 ct0), sl0⟩) (c0 : PySem.W.codeIn K cd0 "is_integer" = true) (k0 : PySem.W.keepIn K (.ref f0) = true)
    (a1 : PySem.W.nsIn K mainGlobals "is_row" = some (some (.ref f1))) (l1 : K.lookup f1 = some ⟨oc1, od1, .func (PySem.W.fnOf "is_row" "is_row" (defArgs s_is_row) (defBody s_is_row) (defScope s_is_row) .none kV1 dc1 pm1 an1 cd1 ct1), sl1⟩) (c1 : PySem.W.codeIn K cd1 "is_row" = true) (k1 : PySem.W.keepIn K (.ref f1) = true)
    (a2 : PySem.W.nsIn K mainGlobals "is_group" = some (some (.ref f2))) (l2 : K.lookup f2 = some ⟨oc2, od2, .func (PySem.W.fnOf "is_group" "is_group" (defArgs s_is_group) (defBody s_is_group) (defScope s_is_group) .none kV2 dc2 pm2 an2 cd2 ct2), sl2⟩) (c2 : PySem.W.codeIn K cd2 "is_group" = true) (k2 : PySem.W.keepIn K (.ref f2) = true)
    (a3 : PySem.W.nsIn K mainGlobals "lies_in" = some (some (.ref f3))) (l3 : K.lookup f3 = some ⟨oc3, od3, .func (PySem.W.fnOf "lies_in" "lies_in" (defArgs s_lies_in) (defBody s_lies_in) (defScope s_lies_in) .none kV3 dc3 pm3 an3 cd3 ct3), sl3⟩) (c3 : PySem.W.codeIn K cd3 "lies_in" = true) (k3 : PySem.W.keepIn K (.ref f3) = true)
    (a4 : PySem.W.nsIn K mainGlobals "parts_in" = some (some (.ref f4))) (l4 : K.lookup f4 = some ⟨oc4, od4, .func (PySem.W.fnOf "parts_in" "parts_in" (defArgs s_parts_in) (defBody s_parts_in) (defScope s_parts_in) .none kV4 dc4 pm4 an4 cd4 ct4), sl4⟩) (c4 : PySem.W.codeIn K cd4 "parts_in" = true) (k4 : PySem.W.keepIn K (.ref f4) = true)
    (a5 : PySem.W.nsIn K mainGlobals "has_parts" = some (some (.ref f5))) (l5 : K.lookup f5 = some ⟨oc5, od5, .func (PySem.W.fnOf "has_parts" "has_parts" (defArgs s_has_parts) (defBody s_has_parts) (defScope s_has_parts) .none kV5 dc5 pm5 an5 cd5 ct5), sl5⟩) (c5 : PySem.W.codeIn K cd5 "has_parts" = true) (k5 : PySem.W.keepIn K (.ref f5) = true)
    (a6 : PySem.W.nsIn K mainGlobals "is_parting" = some (some (.ref f6))) (l6 : K.lookup f6 = some ⟨oc6, od6, .func (PySem.W.fnOf "is_parting" "is_parting" (defArgs s_is_parting) (defBody s_is_parting) (defScope s_is_parting) .none kV6 dc6 pm6 an6 cd6 ct6), sl6⟩) (c6 : PySem.W.codeIn K cd6 "is_parting" = true) (k6 : PySem.W.keepIn K (.ref f6) = true)
    (a7 : PySem.W.nsIn K mainGlobals "_law_pouch" = some (some (.ref f7))) (l7 : K.lookup f7 = some ⟨oc7, od7, .func (PySem.W.fnOf "_law_pouch" "_law_pouch" (defArgs s__law_pouch) (defBody s__law_pouch) (defScope s__law_pouch) .none kV7 dc7 pm7 an7 cd7 ct7), sl7⟩) (c7 : PySem.W.codeIn K cd7 "_law_pouch" = true) (k7 : PySem.W.keepIn K (.ref f7) = true)
    (a8 : PySem.W.nsIn K mainGlobals "_law_dip" = some (some (.ref f8))) (l8 : K.lookup f8 = some ⟨oc8, od8, .func (PySem.W.fnOf "_law_dip" "_law_dip" (defArgs s__law_dip) (defBody s__law_dip) (defScope s__law_dip) .none kV8 dc8 pm8 an8 cd8 ct8), sl8⟩) (c8 : PySem.W.codeIn K cd8 "_law_dip" = true) (k8 : PySem.W.keepIn K (.ref f8) = true)
    (a9 : PySem.W.nsIn K mainGlobals "_law_items" = some (some (.ref f9))) (l9 : K.lookup f9 = some ⟨oc9, od9, .func (PySem.W.fnOf "_law_items" "_law_items" (defArgs s__law_items) (defBody s__law_items) (defScope s__law_items) .none kV9 dc9 pm9 an9 cd9 ct9), sl9⟩) (c9 : PySem.W.codeIn K cd9 "_law_items" = true) (k9 : PySem.W.keepIn K (.ref f9) = true)
    (a10 : PySem.W.nsIn K mainGlobals "_law_folk" = some (some (.ref f10))) (l10 : K.lookup f10 = some ⟨oc10, od10, .func (PySem.W.fnOf "_law_folk" "_law_folk" (defArgs s__law_folk) (defBody s__law_folk) (defScope s__law_folk) .none kV10 dc10 pm10 an10 cd10 ct10), sl10⟩) (c10 : PySem.W.codeIn K cd10 "_law_folk" = true) (k10 : PySem.W.keepIn K (.ref f10) = true)
    (a11 : PySem.W.nsIn K mainGlobals "_law_put" = some (some (.ref f11))) (l11 : K.lookup f11 = some ⟨oc11, od11, .func (PySem.W.fnOf "_law_put" "_law_put" (defArgs s__law_put) (defBody s__law_put) (defScope s__law_put) .none kV11 dc11 pm11 an11 cd11 ct11), sl11⟩) (c11 : PySem.W.codeIn K cd11 "_law_put" = true) (k11 : PySem.W.keepIn K (.ref f11) = true)
    (a12 : PySem.W.nsIn K mainGlobals "_law_nest" = some (some (.ref f12))) (l12 : K.lookup f12 = some ⟨oc12, od12, .func (PySem.W.fnOf "_law_nest" "_law_nest" (defArgs s__law_nest) (defBody s__law_nest) (defScope s__law_nest) .none kV12 dc12 pm12 an12 cd12 ct12), sl12⟩) (c12 : PySem.W.codeIn K cd12 "_law_nest" = true) (k12 : PySem.W.keepIn K (.ref f12) = true)
    (a13 : PySem.W.nsIn K mainGlobals "_law_lots" = some (some (.ref f13))) (l13 : K.lookup f13 = some ⟨oc13, od13, .func (PySem.W.fnOf "_law_lots" "_law_lots" (defArgs s__law_lots) (defBody s__law_lots) (defScope s__law_lots) .none kV13 dc13 pm13 an13 cd13 ct13), sl13⟩) (c13 : PySem.W.codeIn K cd13 "_law_lots" = true) (k13 : PySem.W.keepIn K (.ref f13) = true)
    (a14 : PySem.W.nsIn K mainGlobals "_law_rows" = some (some (.ref f14))) (l14 : K.lookup f14 = some ⟨oc14, od14, .func (PySem.W.fnOf "_law_rows" "_law_rows" (defArgs s__law_rows) (defBody s__law_rows) (defScope s__law_rows) .none kV14 dc14 pm14 an14 cd14 ct14), sl14⟩) (c14 : PySem.W.codeIn K cd14 "_law_rows" = true) (k14 : PySem.W.keepIn K (.ref f14) = true)
    (a15 : PySem.W.nsIn K mainGlobals "_law_lot" = some (some (.ref f15))) (l15 : K.lookup f15 = some ⟨oc15, od15, .func (PySem.W.fnOf "_law_lot" "_law_lot" (defArgs s__law_lot) (defBody s__law_lot) (defScope s__law_lot) .none kV15 dc15 pm15 an15 cd15 ct15), sl15⟩) (c15 : PySem.W.codeIn K cd15 "_law_lot" = true) (k15 : PySem.W.keepIn K (.ref f15) = true)
    (a16 : PySem.W.nsIn K mainGlobals "_law_cross" = some (some (.ref f16))) (l16 : K.lookup f16 = some ⟨oc16, od16, .func (PySem.W.fnOf "_law_cross" "_law_cross" (defArgs s__law_cross) (defBody s__law_cross) (defScope s__law_cross) .none kV16 dc16 pm16 an16 cd16 ct16), sl16⟩) (c16 : PySem.W.codeIn K cd16 "_law_cross" = true) (k16 : PySem.W.keepIn K (.ref f16) = true)
    (a17 : PySem.W.nsIn K mainGlobals "_law_is_lot" = some (some (.ref f17))) (l17 : K.lookup f17 = some ⟨oc17, od17, .func (PySem.W.fnOf "_law_is_lot" "_law_is_lot" (defArgs s__law_is_lot) (defBody s__law_is_lot) (defScope s__law_is_lot) .none kV17 dc17 pm17 an17 cd17 ct17), sl17⟩) (c17 : PySem.W.codeIn K cd17 "_law_is_lot" = true) (k17 : PySem.W.keepIn K (.ref f17) = true)
    (a18 : PySem.W.nsIn K mainGlobals "_law_is_nest" = some (some (.ref f18))) (l18 : K.lookup f18 = some ⟨oc18, od18, .func (PySem.W.fnOf "_law_is_nest" "_law_is_nest" (defArgs s__law_is_nest) (defBody s__law_is_nest) (defScope s__law_is_nest) .none kV18 dc18 pm18 an18 cd18 ct18), sl18⟩) (c18 : PySem.W.codeIn K cd18 "_law_is_nest" = true) (k18 : PySem.W.keepIn K (.ref f18) = true)
    (a19 : PySem.W.nsIn K mainGlobals "_law_objects" = some (some (.ref f19))) (l19 : K.lookup f19 = some ⟨oc19, od19, .func (PySem.W.fnOf "_law_objects" "_law_objects" (defArgs s__law_objects) (defBody s__law_objects) (defScope s__law_objects) .none kV19 dc19 pm19 an19 cd19 ct19), sl19⟩) (c19 : PySem.W.codeIn K cd19 "_law_objects" = true) (k19 : PySem.W.keepIn K (.ref f19) = true)
    (a20 : PySem.W.nsIn K mainGlobals "_law_right" = some (some (.ref f20))) (l20 : K.lookup f20 = some ⟨oc20, od20, .func (PySem.W.fnOf "_law_right" "_law_right" (defArgs s__law_right) (defBody s__law_right) (defScope s__law_right) .none kV20 dc20 pm20 an20 cd20 ct20), sl20⟩) (c20 : PySem.W.codeIn K cd20 "_law_right" = true) (k20 : PySem.W.keepIn K (.ref f20) = true)
    (a21 : PySem.W.nsIn K mainGlobals "_law_all_right" = some (some (.ref f21))) (l21 : K.lookup f21 = some ⟨oc21, od21, .func (PySem.W.fnOf "_law_all_right" "_law_all_right" (defArgs s__law_all_right) (defBody s__law_all_right) (defScope s__law_all_right) .none kV21 dc21 pm21 an21 cd21 ct21), sl21⟩) (c21 : PySem.W.codeIn K cd21 "_law_all_right" = true) (k21 : PySem.W.keepIn K (.ref f21) = true)
    (a22 : PySem.W.nsIn K mainGlobals "_law_threes_right" = some (some (.ref f22))) (l22 : K.lookup f22 = some ⟨oc22, od22, .func (PySem.W.fnOf "_law_threes_right" "_law_threes_right" (defArgs s__law_threes_right) (defBody s__law_threes_right) (defScope s__law_threes_right) .none kV22 dc22 pm22 an22 cd22 ct22), sl22⟩) (c22 : PySem.W.codeIn K cd22 "_law_threes_right" = true) (k22 : PySem.W.keepIn K (.ref f22) = true)
    (a23 : PySem.W.nsIn K mainGlobals "law" = some (some (.ref f23))) (l23 : K.lookup f23 = some ⟨oc23, od23, .func (PySem.W.fnOf "law" "law" (defArgs s_law) (defBody s_law) (defScope s_law) .none kV23 dc23 pm23 an23 cd23 ct23), sl23⟩) (c23 : PySem.W.codeIn K cd23 "law" = true) (k23 : PySem.W.keepIn K (.ref f23) = true)
    (y_abs : PySem.W.nsIn K mainGlobals "abs" = some none)
    (y_all : PySem.W.nsIn K mainGlobals "all" = some none)
    (y_bool : PySem.W.nsIn K mainGlobals "bool" = some none)
    (y_enumerate : PySem.W.nsIn K mainGlobals "enumerate" = some none)
    (y_int : PySem.W.nsIn K mainGlobals "int" = some none)
    (y_isinstance : PySem.W.nsIn K mainGlobals "isinstance" = some none)
    (y_len : PySem.W.nsIn K mainGlobals "len" = some none)
    (y_list : PySem.W.nsIn K mainGlobals "list" = some none)
    (y_max : PySem.W.nsIn K mainGlobals "max" = some none)
    (y_min : PySem.W.nsIn K mainGlobals "min" = some none)
    (y_range : PySem.W.nsIn K mainGlobals "range" = some none)
    (y_repr : PySem.W.nsIn K mainGlobals "repr" = some none)
    (y_set : PySem.W.nsIn K mainGlobals "set" = some none)
    (y_sorted : PySem.W.nsIn K mainGlobals "sorted" = some none)
    (y_tuple : PySem.W.nsIn K mainGlobals "tuple" = some none)
    (y_zip : PySem.W.nsIn K mainGlobals "zip" = some none)
    (x_MOST_PERSONS : PySem.W.nsIn K mainGlobals "MOST_PERSONS" = some (some (.int 20 t_MOST_PERSONS))) :
    ∃ fd : FuncData, (∀ (s : Shared) (v : Value), BindsTo s fd ⟨[v], []⟩ [("script", v)]) ∧ ∀ base : Heap, K.In base → base.Ns mainGlobals mg → FnG P w K mg base 47 fa fd ["script"] (spLaw K 5 b_law) := by
  have e := hfa.symm.trans (PySem.W.mg_of X G a23)
  cases e
  have z_abs : mg "abs" = none := PySem.W.mg_none_of X G y_abs
  have z_all : mg "all" = none := PySem.W.mg_none_of X G y_all
  have z_bool : mg "bool" = none := PySem.W.mg_none_of X G y_bool
  have z_enumerate : mg "enumerate" = none := PySem.W.mg_none_of X G y_enumerate
  have z_int : mg "int" = none := PySem.W.mg_none_of X G y_int
  have z_isinstance : mg "isinstance" = none := PySem.W.mg_none_of X G y_isinstance
  have z_len : mg "len" = none := PySem.W.mg_none_of X G y_len
  have z_list : mg "list" = none := PySem.W.mg_none_of X G y_list
  have z_max : mg "max" = none := PySem.W.mg_none_of X G y_max
  have z_min : mg "min" = none := PySem.W.mg_none_of X G y_min
  have z_range : mg "range" = none := PySem.W.mg_none_of X G y_range
  have z_repr : mg "repr" = none := PySem.W.mg_none_of X G y_repr
  have z_set : mg "set" = none := PySem.W.mg_none_of X G y_set
  have z_sorted : mg "sorted" = none := PySem.W.mg_none_of X G y_sorted
  have z_tuple : mg "tuple" = none := PySem.W.mg_none_of X G y_tuple
  have z_zip : mg "zip" = none := PySem.W.mg_none_of X G y_zip
  have c_MOST_PERSONS := PySem.W.mg_of X G x_MOST_PERSONS
  refine ⟨PySem.W.fnOf "law" "law" (defArgs s_law) (defBody s_law) (defScope s_law) .none kV23 dc23 pm23 an23 cd23 ct23, fun s v => .of_eq rfl, fun base _ _ => ?_⟩
  have q_is_integer := ok_is_integer (P := P) (w := w) (base := base) (dfn_of X G a0 l0 c0 k0) z_bool z_int z_isinstance
  have q_is_row := ok_is_row (P := P) (w := w) (base := base) (dfn_of X G a1 l1 c1 k1) q_is_integer z_all z_isinstance z_list z_zip
  have q_is_group := ok_is_group (P := P) (w := w) (base := base) (dfn_of X G a2 l2 c2 k2) q_is_row z_len
  have q_lies_in := ok_lies_in (P := P) (w := w) (base := base) (dfn_of X G a3 l3 c3 k3) z_all
  have q_parts_in := ok_parts_in (P := P) (w := w) (base := base) (dfn_of X G a4 l4 c4 k4) z_len z_list
  have q_has_parts := ok_has_parts (P := P) (w := w) (base := base) (dfn_of X G a5 l5 c5 k5) q_lies_in q_parts_in z_len
  have q_is_parting := ok_is_parting (P := P) (w := w) (base := base) (dfn_of X G a6 l6 c6 k6) q_is_group q_has_parts z_all z_isinstance z_len z_list z_range z_zip c_MOST_PERSONS
  have q__law_pouch := ok__law_pouch (P := P) (w := w) (base := base) (dfn_of X G a7 l7 c7 k7) z_abs z_int z_len z_max
  have q__law_dip := ok__law_dip (P := P) (w := w) (base := base) (dfn_of X G a8 l8 c8 k8) z_int
  have q__law_items := ok__law_items (P := P) (w := w) (base := base) (dfn_of X G a9 l9 c9 k9) q__law_dip z_min z_range
  have q__law_folk := ok__law_folk (P := P) (w := w) (base := base) (dfn_of X G a10 l10 c10 k10) z_int z_isinstance z_sorted 22
  have q__law_put := ok__law_put (P := P) (w := w) (base := base) (dfn_of X G a11 l11 c11 k11) q__law_folk z_int z_isinstance z_max z_min z_tuple 22
  have q__law_nest := ok__law_nest (P := P) (w := w) (base := base) (dfn_of X G a12 l12 c12 k12) q__law_put z_enumerate
  have q__law_lots := ok__law_lots (P := P) (w := w) (base := base) (dfn_of X G a13 l13 c13 k13) q__law_folk z_int z_isinstance z_sorted 22
  have q__law_rows := ok__law_rows (P := P) (w := w) (base := base) (dfn_of X G a14 l14 c14 k14) z_range
  have q__law_lot := ok__law_lot (P := P) (w := w) (base := base) (dfn_of X G a15 l15 c15 k15) q__law_dip z_len z_list z_range z_sorted
  have q__law_cross := ok__law_cross (P := P) (w := w) (base := base) (dfn_of X G a16 l16 c16 k16) z_len z_min
  have q__law_is_lot := ok__law_is_lot (P := P) (w := w) (base := base) (dfn_of X G a17 l17 c17 k17) z_bool z_int z_isinstance z_len z_list z_set z_sorted
  have q__law_is_nest := ok__law_is_nest (P := P) (w := w) (base := base) (dfn_of X G a18 l18 c18 k18) q__law_cross q__law_is_lot z_isinstance z_len z_list z_range z_sorted
  have q__law_objects := ok__law_objects (P := P) (w := w) (base := base) (dfn_of X G a19 l19 c19 k19) q__law_dip q__law_lot z_len z_list z_max z_range z_sorted z_tuple
  have q__law_right := ok__law_right (P := P) (w := w) (base := base) (dfn_of X G a20 l20 c20 k20) q_is_parting q__law_dip q__law_items q__law_nest q__law_lots q__law_is_nest q__law_objects z_repr
  have q__law_all_right := ok__law_all_right (P := P) (w := w) (base := base) (dfn_of X G a21 l21 c21 k21) q_is_parting q__law_nest q__law_lots q__law_rows
  have q__law_threes_right := ok__law_threes_right (P := P) (w := w) (base := base) (dfn_of X G a22 l22 c22 k22) q_is_parting q__law_is_nest z_int z_len z_range z_repr z_sorted
  exact ok_law (fun_mk l23 c23 k23) q_is_parting q__law_pouch q__law_right q__law_all_right q__law_threes_right z_len z_max z_min z_range
end K01
namespace K01
open PySem PySem.Spec PyProof.Rows L2 J
theorem is_integer_eq (i : Int) (s : STO) : F_is_integer [.int i] s = some (.bool true, s) := by
  simp [F_is_integer, b_is_integer, okM_nil, fzT, fnD, sSeq, sRet, sIf, sSet, sNil, sNever, sEx, sRetN, see, seeI, seeS_sh, seeS_no, seeS_tt, seeS_ff, fz, fzI, fzS_ff, fzS_sh, fzS_no, fzS_ow, fzIf, mkS, eIf, bT, aT, oT, nT, eUn, eVar, eLst, eTup, aC, aN, eCall, aApp, eBin, eIdx, eC, eOp, pick, dIdx, eAnd, eOr, dNot, eChain, dIsi, isMk, isiB, typD, fin_self, dI, dL, eSl, oN, oS, dSl, iVal, iB, iU, isLst, bN, bT2, wipeV, setV, isScal, full]
theorem asc_iter {l : List D} {vw : VW} {s : STO} {i : Nat} (h : vw[i]? = some (some (.list l))) : (iB (fun x y => (isLst x).bind fun ds => (isLst y).map fun es => ziD ds es) (eVar i) (eSl (eVar i) (oS (eC (.int 1))) oN)) vw s = some (ziD l (l.drop 1), s) := by
  simp [iB, eVar, h, eSl, oS, oN, eC, dSl, isLst, cut_tail]
theorem c_row1 (m : Int) (l : List Int) (s : STO) (hl : l.length ≤ 16777216) (vw : VW) (h0 : vw[0]? = some (some (.int m))) (h1 : vw[1]? = some (some (dI l))) (h5 : vw.length = 5) : c_is_row_1 vw s = some (.list (l.map fun x => PyData.bool (decide (0 ≤ x) && decide (x < m))), s) := by
  unfold c_is_row_1
  refine eComp_map l PyData.int (fun x => [(4, .int x)]) _ ?_ hl (fun _ _ => rfl) fun x _ => ?_
  · simp [iVal, eVar, h1]
  · have e0 : (setV (wipeV vw [4]) [(4, .int x)])[0]? = some (some (.int m)) := by simp [setV, wipeV, h0]
    have e4 : (setV (wipeV vw [4]) [(4, .int x)])[4]? = some (some (.int x)) := by simp [setV, wipeV, h5]
    generalize setV (wipeV vw [4]) [(4, .int x)] = vw2 at e0 e4
    simp [eAnd, eCall, aApp, aC, aN, eVar, e4, pick, is_integer_eq, eChain, eC, dLe, dLt, e0]
    by_cases h : 0 ≤ x <;> simp [h]
theorem c_row2 (l : List Int) (s : STO) (hl : l.length ≤ 16777216) (vw : VW) (h1 : vw[1]? = some (some (dI l))) (h5 : vw.length = 5) : c_is_row_2 vw s = some (.list ((l.zip (l.drop 1)).map fun p => PyData.bool (decide (p.1 < p.2))), s) := by
  unfold c_is_row_2
  refine eComp_map (l.zip (l.drop 1)) (fun p => .tuple [.int p.1, .int p.2]) (fun p => [(2, .int p.1), (3, .int p.2)]) _ ?_ ?_ (fun _ _ => rfl) fun x _ => ?_
  · rw [asc_iter h1, ← List.map_drop, zi_map]
  · rw [List.length_zip]; omega
  · have e0 : (setV (wipeV vw [2, 3]) [(2, .int x.1), (3, .int x.2)])[2]? = some (some (.int x.1)) := by simp [setV, wipeV, h5]
    have e4 : (setV (wipeV vw [2, 3]) [(2, .int x.1), (3, .int x.2)])[3]? = some (some (.int x.2)) := by simp [setV, wipeV, h5]
    generalize setV (wipeV vw [2, 3]) [(2, .int x.1), (3, .int x.2)] = vw2 at e0 e4
    simp [eBin, eVar, e4, e0, dLt]
theorem is_row_eq (m : Int) (l : List Int) (s : STO) (hl : l.length ≤ 16777216) : F_is_row [.int m, dI l] s = some (.bool (rowB m l), s) := by
  have h1 := c_row1 m l s hl [some (.int m), some (dI l), none, none, none] rfl rfl rfl
  have h2 := c_row2 l s hl [some (.int m), some (dI l), none, none, none] rfl rfl
  have a1 := cAll_map (fun x : Int => decide (0 ≤ x) && decide (x < m)) l
  have a2 := cAll_map (fun p : Int × Int => decide (p.1 < p.2)) (l.zip (l.drop 1))
  simp only [dI] at h1 h2
  unfold rowB
  cases hb : l.all fun x => decide (0 ≤ x) && decide (x < m) with
  | true =>
    rw [hb] at a1
    simp [F_is_row, b_is_row, okM_nil, fzT, fnD, sSeq, sRet, sIf, sSet, sNil, sNever, sEx, sRetN, see, seeI, seeS_sh, seeS_no, seeS_tt, seeS_ff, fz, fzI, fzS_ff, fzS_sh, fzS_no, fzS_ow, fzIf, mkS, eIf, bT, aT, oT, nT, eUn, eVar, eLst, eTup, aC, aN, eCall, aApp, eBin, eIdx, eC, eOp, pick, dIdx, eAnd, eOr, dNot, eChain, dIsi, isMk, isiB, typD, fin_self, dI, dL, eSl, oN, oS, dSl, iVal, iB, iU, isLst, bN, bT2, wipeV, setV, isScal, full, h1, a1]
    simp only [List.drop_one] at h2 a2
    simp [h2, a2, okM_nil, fzT, fnD, sSeq, sRet, sIf, sSet, sNil, sNever, sEx, sRetN, see, seeI, seeS_sh, seeS_no, seeS_tt, seeS_ff, fz, fzI, fzS_ff, fzS_sh, fzS_no, fzS_ow, fzIf, mkS, eIf, bT, aT, oT, nT, eUn, eVar, eLst, eTup, aC, aN, eCall, aApp, eBin, eIdx, eC, eOp, pick, dIdx, eAnd, eOr, dNot, eChain, dIsi, isMk, isiB, typD, fin_self, dI, dL, eSl, oN, oS, dSl, iVal, iB, iU, isLst, bN, bT2, wipeV, setV, isScal, full]
  | false =>
    rw [hb] at a1
    simp [F_is_row, b_is_row, okM_nil, fzT, fnD, sSeq, sRet, sIf, sSet, sNil, sNever, sEx, sRetN, see, seeI, seeS_sh, seeS_no, seeS_tt, seeS_ff, fz, fzI, fzS_ff, fzS_sh, fzS_no, fzS_ow, fzIf, mkS, eIf, bT, aT, oT, nT, eUn, eVar, eLst, eTup, aC, aN, eCall, aApp, eBin, eIdx, eC, eOp, pick, dIdx, eAnd, eOr, dNot, eChain, dIsi, isMk, isiB, typD, fin_self, dI, dL, eSl, oN, oS, dSl, iVal, iB, iU, isLst, bN, bT2, wipeV, setV, isScal, full, h1, a1]
theorem is_group_eq (m : Int) (l : List Int) (s : STO) (hl : l.length ≤ 16777216) : F_is_group [.int m, dI l] s = some (.bool (rowB m l && decide (1 < l.length)), s) := by
  have h1 := is_row_eq m l s hl
  simp only [dI] at h1
  cases hb : rowB m l with
  | true =>
    rw [hb] at h1
    simp [F_is_group, b_is_group, okM_nil, fzT, fnD, sSeq, sRet, sIf, sSet, sNil, sNever, sEx, sRetN, see, seeI, seeS_sh, seeS_no, seeS_tt, seeS_ff, fz, fzI, fzS_ff, fzS_sh, fzS_no, fzS_ow, fzIf, mkS, eIf, bT, aT, oT, nT, eUn, eVar, eLst, eTup, aC, aN, eCall, aApp, eBin, eIdx, eC, eOp, pick, dIdx, eAnd, eOr, dNot, eChain, dIsi, isMk, isiB, typD, fin_self, dI, dL, eSl, oN, oS, dSl, iVal, iB, iU, isLst, bN, bT2, wipeV, setV, isScal, full, h1, cLen, dGt]
    omega
  | false =>
    rw [hb] at h1
    simp [F_is_group, b_is_group, okM_nil, fzT, fnD, sSeq, sRet, sIf, sSet, sNil, sNever, sEx, sRetN, see, seeI, seeS_sh, seeS_no, seeS_tt, seeS_ff, fz, fzI, fzS_ff, fzS_sh, fzS_no, fzS_ow, fzIf, mkS, eIf, bT, aT, oT, nT, eUn, eVar, eLst, eTup, aC, aN, eCall, aApp, eBin, eIdx, eC, eOp, pick, dIdx, eAnd, eOr, dNot, eChain, dIsi, isMk, isiB, typD, fin_self, dI, dL, eSl, oN, oS, dSl, iVal, iB, iU, isLst, bN, bT2, wipeV, setV, isScal, full, h1]
theorem lies_in_eq (a b : List Int) (s : STO) (hl : a.length ≤ 16777216) : F_lies_in [dI a, dI b] s = some (.bool (a.all fun x => decide (x ∈ b)), s) := by
  have h1 : c_lies_in_1 [some (dI a), some (dI b), none] s = some (.list (a.map fun x => PyData.bool (decide (x ∈ b))), s) := by
    unfold c_lies_in_1
    refine eComp_map a PyData.int (fun x => [(2, .int x)]) _ ?_ hl (fun _ _ => rfl) fun x _ => ?_
    · simp [iVal, eVar]
    · have := dIn_int x b
      simp only [dI] at this
      simp [setV, wipeV, eBin, eVar, this]
  have a1 := cAll_map (fun x : Int => decide (x ∈ b)) a
  simp only [dI] at h1
  simp [F_lies_in, b_lies_in, okM_nil, fzT, fnD, sSeq, sRet, sIf, sSet, sNil, sNever, sEx, sRetN, see, seeI, seeS_sh, seeS_no, seeS_tt, seeS_ff, fz, fzI, fzS_ff, fzS_sh, fzS_no, fzS_ow, fzIf, mkS, eIf, bT, aT, oT, nT, eUn, eVar, eLst, eTup, aC, aN, eCall, aApp, eBin, eIdx, eC, eOp, pick, dIdx, eAnd, eOr, dNot, eChain, dIsi, isMk, isiB, typD, fin_self, dI, dL, eSl, oN, oS, dSl, iVal, iB, iU, isLst, bN, bT2, wipeV, setV, isScal, full, h1, a1]
theorem parts_step (ls : List (List Int)) (h : Int) (r first other : List Int) (s : STO) (x : Slot) :
    l_parts_in_1 [.sh (dL ls), .sh (dI (h :: r)), .sh (dI first), .sh (dI other), x] s = some (.nx, [.sh (dL ls), .sh (dI (h :: r)), .sh (dI (firstStep (h :: r) h first other)), .sh (dI other), x], s) := by
  have hin := dIn_int h other
  simp only [dI] at hin
  unfold firstStep
  by_cases h1 : first.length < other.length
  · by_cases h2 : other.length < (h :: r).length
    · by_cases h3 : h ∈ other
      · rw [if_pos ⟨h1, h2, h3⟩]
        have h2' : (other.length : Int) < r.length + 1 := by simp at h2; omega
        simp [l_parts_in_1, okM_nil, fzT, fnD, sSeq, sRet, sIf, sSet, sNil, sNever, sEx, sRetN, see, seeI, seeS_sh, seeS_no, seeS_tt, seeS_ff, fz, fzI, fzS_ff, fzS_sh, fzS_no, fzS_ow, fzIf, mkS, eIf, bT, aT, oT, nT, eUn, eVar, eLst, eTup, aC, aN, eCall, aApp, eBin, eIdx, eC, eOp, pick, dIdx, eAnd, eOr, dNot, eChain, dIsi, isMk, isiB, typD, fin_self, dI, dL, eSl, oN, oS, dSl, iVal, iB, iU, isLst, bN, bT2, wipeV, setV, isScal, full, cLen, dLt, h1, h2', atI, ixN, hin, h3, cList]
      · rw [if_neg (fun z => h3 z.2.2)]
        have h2' : (other.length : Int) < r.length + 1 := by simp at h2; omega
        simp [l_parts_in_1, okM_nil, fzT, fnD, sSeq, sRet, sIf, sSet, sNil, sNever, sEx, sRetN, see, seeI, seeS_sh, seeS_no, seeS_tt, seeS_ff, fz, fzI, fzS_ff, fzS_sh, fzS_no, fzS_ow, fzIf, mkS, eIf, bT, aT, oT, nT, eUn, eVar, eLst, eTup, aC, aN, eCall, aApp, eBin, eIdx, eC, eOp, pick, dIdx, eAnd, eOr, dNot, eChain, dIsi, isMk, isiB, typD, fin_self, dI, dL, eSl, oN, oS, dSl, iVal, iB, iU, isLst, bN, bT2, wipeV, setV, isScal, full, cLen, dLt, h1, h2', atI, ixN, hin, h3, cList]
    · rw [if_neg (fun z => h2 z.2.1)]
      have h2' : ¬ (other.length : Int) < r.length + 1 := by simp at h2; omega
      simp [l_parts_in_1, okM_nil, fzT, fnD, sSeq, sRet, sIf, sSet, sNil, sNever, sEx, sRetN, see, seeI, seeS_sh, seeS_no, seeS_tt, seeS_ff, fz, fzI, fzS_ff, fzS_sh, fzS_no, fzS_ow, fzIf, mkS, eIf, bT, aT, oT, nT, eUn, eVar, eLst, eTup, aC, aN, eCall, aApp, eBin, eIdx, eC, eOp, pick, dIdx, eAnd, eOr, dNot, eChain, dIsi, isMk, isiB, typD, fin_self, dI, dL, eSl, oN, oS, dSl, iVal, iB, iU, isLst, bN, bT2, wipeV, setV, isScal, full, cLen, dLt, h1, h2', atI, ixN, hin, cList]
  · rw [if_neg (fun z => h1 z.1)]
    simp [l_parts_in_1, okM_nil, fzT, fnD, sSeq, sRet, sIf, sSet, sNil, sNever, sEx, sRetN, see, seeI, seeS_sh, seeS_no, seeS_tt, seeS_ff, fz, fzI, fzS_ff, fzS_sh, fzS_no, fzS_ow, fzIf, mkS, eIf, bT, aT, oT, nT, eUn, eVar, eLst, eTup, aC, aN, eCall, aApp, eBin, eIdx, eC, eOp, pick, dIdx, eAnd, eOr, dNot, eChain, dIsi, isMk, isiB, typD, fin_self, dI, dL, eSl, oN, oS, dSl, iVal, iB, iU, isLst, bN, bT2, wipeV, setV, isScal, full, cLen, dLt, h1, atI, ixN, hin, cList]
theorem parts_loop (h : Int) (r : List Int) (ls0 : List (List Int)) (s : STO) (x : Slot) : ∀ (ls : List (List Int)) (first : List Int) (y : Slot),
    ∃ y', forL (bN 3) l_parts_in_1 (ls.map dI) [.sh (dL ls0), .sh (dI (h :: r)), .sh (dI first), y, x] s = some (.nx, [.sh (dL ls0), .sh (dI (h :: r)), .sh (dI (ls.foldl (firstStep (h :: r) h) first)), y', x], s)
  | [], first, y => ⟨y, rfl⟩
  | o :: ls, first, y => by
    obtain ⟨y', ih⟩ := parts_loop h r ls0 s x ls (firstStep (h :: r) h first o) (.sh (dI o))
    refine ⟨y', ?_⟩
    rw [List.map_cons, forL]
    simp only [bN, Option.bind_some]
    rw [if_pos ⟨by rfl, noTok_dI o⟩]
    show ((l_parts_in_1 [.sh (dL ls0), .sh (dI (h :: r)), .sh (dI first), .sh (dI o), x] s).bind _) = _
    rw [parts_step]
    simp only [Option.bind_some]
    exact ih
theorem parts_in_eq (ls : List (List Int)) (h : Int) (r : List Int) (s : STO) (hl : (h :: r).length ≤ 16777216) :
    F_parts_in [dL ls, dI (h :: r)] s = some (.list [dI (firstOf ls (h :: r) h), dI ((h :: r).filter fun x => !decide (x ∈ firstOf ls (h :: r) h))], s) := by
  obtain ⟨y', hloop⟩ := parts_loop h r ls s .no ls [h] .no
  have hc : ∀ f : List Int, c_parts_in_1 [some (dL ls), some (dI (h :: r)), some (dI f), (seeS false y'), none] s = some (.list (((h :: r).filter fun x => !decide (x ∈ f)).map PyData.int), s) := by
    intro f
    unfold c_parts_in_1
    refine eComp_pure (h :: r) PyData.int (fun x => [(4, .int x)]) (fun x => !decide (x ∈ f)) _ ?_ hl (fun _ _ => rfl) (fun x _ => ?_) fun x _ _ => ?_
    · simp [iVal, eVar]
    · have := dNotIn_int x f
      simp only [dI] at this
      simp [setV, wipeV, bT, eBin, eVar, this]
    · simp [setV, wipeV, eVar]
  have hc := hc (firstOf ls (h :: r) h)
  simp only [dI, dL] at hloop hc
  unfold firstOf at hc ⊢
  have e1 : (h :: r).take 1 = [h] := rfl
  rw [e1] at hc ⊢
  simp only [List.map_cons, List.map_nil] at hloop hc
  simp [F_parts_in, b_parts_in, okM_nil, fzT, fnD, sSeq, sRet, sIf, sSet, sNil, sNever, sEx, sRetN, see, seeI, seeS_sh, seeS_no, seeS_tt, seeS_ff, fz, fzI, fzS_ff, fzS_sh, fzS_no, fzS_ow, fzIf, mkS, eIf, bT, aT, oT, nT, eUn, eVar, eLst, eTup, aC, aN, eCall, aApp, eBin, eIdx, eC, eOp, pick, dIdx, eAnd, eOr, dNot, eChain, dIsi, isMk, isiB, typD, fin_self, dI, dL, eSl, oN, oS, dSl, iVal, iB, iU, isLst, bN, bT2, wipeV, setV, isScal, full, sFor, cut_head, hloop, hc]
theorem has_parts_eq (ls : List (List Int)) (h : Int) (r : List Int) (s : STO) (hl : (h :: r).length ≤ 16777216) (hf : (firstOf ls (h :: r) h).length ≤ 16777216) :
    F_has_parts [dL ls, dI (h :: r)] s = some (.bool (partsB ls (h :: r)), s) := by
  have h1 := parts_in_eq ls h r s hl
  have h2 := lies_in_eq (firstOf ls (h :: r) h) (h :: r) s hf
  have h3 := dIn_row (restOf ls h r) ls
  have hb : partsB ls (h :: r) = ((firstOf ls (h :: r) h).all (fun x => decide (x ∈ h :: r)) && (decide ((restOf ls h r).length = 1) || decide (restOf ls h r ∈ ls))) := rfl
  rw [hb]
  clear hb
  unfold restOf at *
  generalize firstOf ls (h :: r) h = f at *
  generalize (h :: r).filter (fun x => !decide (x ∈ f)) = q at *
  simp only [dI, dL] at h1 h2 h3
  generalize h :: r = g at *
  cases e1 : f.all fun x => decide (x ∈ g) with
  | false =>
    rw [e1] at h2
    simp [F_has_parts, b_has_parts, okM_nil, fzT, fnD, sSeq, sRet, sIf, sSet, sNil, sNever, sEx, sRetN, see, seeI, seeS_sh, seeS_no, seeS_tt, seeS_ff, fz, fzI, fzS_ff, fzS_sh, fzS_no, fzS_ow, fzIf, mkS, eIf, bT, aT, oT, nT, eUn, eVar, eLst, eTup, aC, aN, eCall, aApp, eBin, eIdx, eC, eOp, pick, dIdx, eAnd, eOr, dNot, eChain, dIsi, isMk, isiB, typD, fin_self, dI, dL, eSl, oN, oS, dSl, iVal, iB, iU, isLst, bN, bT2, wipeV, setV, isScal, full, h1, h2, sBind, bL2, allLt, setE]
  | true =>
    rw [e1] at h2
    by_cases e2 : q.length = 1
    · simp [F_has_parts, b_has_parts, okM_nil, fzT, fnD, sSeq, sRet, sIf, sSet, sNil, sNever, sEx, sRetN, see, seeI, seeS_sh, seeS_no, seeS_tt, seeS_ff, fz, fzI, fzS_ff, fzS_sh, fzS_no, fzS_ow, fzIf, mkS, eIf, bT, aT, oT, nT, eUn, eVar, eLst, eTup, aC, aN, eCall, aApp, eBin, eIdx, eC, eOp, pick, dIdx, eAnd, eOr, dNot, eChain, dIsi, isMk, isiB, typD, fin_self, dI, dL, eSl, oN, oS, dSl, iVal, iB, iU, isLst, bN, bT2, wipeV, setV, isScal, full, h1, h2, sBind, bL2, allLt, setE, cLen, dEq, e2, shaped_int, PyData.eqv]
    · have e3 : ((q.length : Int) == 1) = false := by simp; omega
      simp [F_has_parts, b_has_parts, okM_nil, fzT, fnD, sSeq, sRet, sIf, sSet, sNil, sNever, sEx, sRetN, see, seeI, seeS_sh, seeS_no, seeS_tt, seeS_ff, fz, fzI, fzS_ff, fzS_sh, fzS_no, fzS_ow, fzIf, mkS, eIf, bT, aT, oT, nT, eUn, eVar, eLst, eTup, aC, aN, eCall, aApp, eBin, eIdx, eC, eOp, pick, dIdx, eAnd, eOr, dNot, eChain, dIsi, isMk, isiB, typD, fin_self, dI, dL, eSl, oN, oS, dSl, iVal, iB, iU, isLst, bN, bT2, wipeV, setV, isScal, full, h1, h2, h3, sBind, bL2, allLt, setE, cLen, dEq, e2, e3, shaped_int, PyData.eqv]
theorem c_part1 (ls : List (List Int)) (s : STO) (hl : ls.length ≤ 1000) (hg : ∀ g ∈ ls, g.length ≤ 1000) : c_is_parting_1 [some (dL ls), none, none, none] s = some (.list (ls.map fun g => PyData.bool (rowB (ls.length + 1) g && decide (1 < g.length))), s) := by
  unfold c_is_parting_1
  refine eComp_map ls dI (fun g => [(1, dI g)]) _ ?_ (by omega) (fun _ _ => rfl) fun g hgm => ?_
  · simp [iVal, eVar]
  · have h1 := is_group_eq (ls.length + 1) g s (by have := hg g hgm; omega)
    simp only [dI] at h1
    simp [setV, wipeV, okM_nil, fzT, fnD, sSeq, sRet, sIf, sSet, sNil, sNever, sEx, sRetN, see, seeI, seeS_sh, seeS_no, seeS_tt, seeS_ff, fz, fzI, fzS_ff, fzS_sh, fzS_no, fzS_ow, fzIf, mkS, eIf, bT, aT, oT, nT, eUn, eVar, eLst, eTup, aC, aN, eCall, aApp, eBin, eIdx, eC, eOp, pick, dIdx, eAnd, eOr, dNot, eChain, dIsi, isMk, isiB, typD, fin_self, dI, dL, eSl, oN, oS, dSl, iVal, iB, iU, isLst, bN, bT2, wipeV, setV, isScal, full, cLen, dAdd, h1]
theorem c_part2 (ls : List (List Int)) (s : STO) (hl : ls.length ≤ 1000) : c_is_parting_2 [some (dL ls), none, none, none] s = some (.list ((ls.zip (ls.drop 1)).map fun p => PyData.bool (ltI p.1 p.2)), s) := by
  unfold c_is_parting_2
  refine eComp_map (ls.zip (ls.drop 1)) (fun p => .tuple [dI p.1, dI p.2]) (fun p => [(2, dI p.1), (3, dI p.2)]) _ ?_ ?_ (fun _ _ => rfl) fun x _ => ?_
  · rw [asc_iter (l := ls.map dI) rfl, ← List.map_drop, zi_map]
  · rw [List.length_zip]; omega
  · have h1 := dLt_dI x.1 x.2
    simp only [dI] at h1
    simp [setV, wipeV, okM_nil, fzT, fnD, sSeq, sRet, sIf, sSet, sNil, sNever, sEx, sRetN, see, seeI, seeS_sh, seeS_no, seeS_tt, seeS_ff, fz, fzI, fzS_ff, fzS_sh, fzS_no, fzS_ow, fzIf, mkS, eIf, bT, aT, oT, nT, eUn, eVar, eLst, eTup, aC, aN, eCall, aApp, eBin, eIdx, eC, eOp, pick, dIdx, eAnd, eOr, dNot, eChain, dIsi, isMk, isiB, typD, fin_self, dI, dL, eSl, oN, oS, dSl, iVal, iB, iU, isLst, bN, bT2, wipeV, setV, isScal, full, h1]
theorem c_part3 (ls : List (List Int)) (s : STO) (hl : ls.length ≤ 1000) (hg : ∀ g ∈ ls, g.length ≤ 1000 ∧ g ≠ []) : c_is_parting_3 [some (dL ls), none, none, none] s = some (.list (ls.map fun g => PyData.bool (partsB ls g)), s) := by
  have hf : ∀ (l : List (List Int)) (g : List Int) (h : Int) (f : List Int), f.length ≤ 1000 → (∀ x ∈ l, x.length ≤ 1000) → (l.foldl (firstStep g h) f).length ≤ 1000 := by
    intro l
    induction l with
    | nil => intro g h f hf _; exact hf
    | cons a r ih =>
      intro g h f hf hx
      refine ih g h _ ?_ fun x hx' => hx x (List.mem_cons_of_mem _ hx')
      unfold firstStep
      split
      · exact hx a List.mem_cons_self
      · exact hf
  unfold c_is_parting_3
  refine eComp_map ls dI (fun g => [(1, dI g)]) _ ?_ (by omega) (fun _ _ => rfl) fun g hgm => ?_
  · simp [iVal, eVar]
  · obtain ⟨h2, h3⟩ := hg g hgm
    cases g with
    | nil => exact absurd rfl h3
    | cons h r =>
      have h1 := has_parts_eq ls h r s (by omega) (by
        have := hf ls (h :: r) h ((h :: r).take 1) (by simp) fun x hx => (hg x hx).1
        unfold firstOf
        omega)
      simp only [dI, dL] at h1
      simp [setV, wipeV, okM_nil, fzT, fnD, sSeq, sRet, sIf, sSet, sNil, sNever, sEx, sRetN, see, seeI, seeS_sh, seeS_no, seeS_tt, seeS_ff, fz, fzI, fzS_ff, fzS_sh, fzS_no, fzS_ow, fzIf, mkS, eIf, bT, aT, oT, nT, eUn, eVar, eLst, eTup, aC, aN, eCall, aApp, eBin, eIdx, eC, eOp, pick, dIdx, eAnd, eOr, dNot, eChain, dIsi, isMk, isiB, typD, fin_self, dI, dL, eSl, oN, oS, dSl, iVal, iB, iU, isLst, bN, bT2, wipeV, setV, isScal, full]
      simp at h1
      simp [h1]
theorem is_parting_true {ls : List (List Int)} (h : Parting ls) (s : STO) : F_is_parting [dL ls] s = some (.bool true, s) := by
  have h1 := c_part1 ls s (by have := h.few; omega) fun g hg => by have := (h.row g hg).2.2; omega
  have h2 := c_part2 ls s (by have := h.few; omega)
  have h3 := c_part3 ls s (by have := h.few; omega) fun g hg => ⟨by have := (h.row g hg).2.2; omega, fun e => by have := (h.row g hg).2.1; rw [e] at this; simp at this⟩
  have a1 := cAll_map (fun g => rowB (ls.length + 1) g && decide (1 < g.length)) ls
  have a2 := cAll_map (fun p : List Int × List Int => ltI p.1 p.2) (ls.zip (ls.drop 1))
  have a3 := cAll_map (partsB ls) ls
  rw [List.all_eq_true.mpr fun g hg => by rw [(h.row g hg).1, decide_eq_true (h.row g hg).2.1]; rfl] at a1
  rw [List.all_eq_true.mpr fun p hp => h.asc p hp] at a2
  rw [List.all_eq_true.mpr fun g hg => h.prt g hg] at a3
  have hfew := h.few
  have h4 : dGe (.int (ls.map dI).length) (.int 20) = some (.bool false) := by
    show some (PyData.bool (decide (20 ≤ _))) = _
    rw [decide_eq_false (by rw [List.length_map]; omega)]
  have h5 := dNotIn_row (comp (ls.length + 1)) ls
  have h6 : dNe (dL ls) (.list []) = some (.bool (!decide (ls = []))) := by
    have := eqv_dL ls []
    have h7 := shaped_dL ls
    have h8 := shaped_dL []
    simp only [dL, List.map_nil] at this h7 h8 ⊢
    simp [dNe, h7, h8, this]
  refine fnD_rt (e1 := [.sh (dL ls), .no, .no, .no]) (s1 := s) ?_ (fin_self _ _)
  unfold b_is_parting
  refine sSeq_nx (sIf_f (oT_f (nT_ok (b := true) (bT_ok (eUn_ok (eVar_ok rfl) rfl))) (bT_ok (eBin_ok (eOp_ok (aC_ok (eVar_ok rfl) aN_ok) rfl) eC_ok h4))) rfl) ?_
  refine sSeq_nx (sIf_f (nT_ok (b := true) (bT_ok (eOp_ok (aC_ok h1 aN_ok) a1))) rfl) ?_
  refine sSeq_nx (sIf_f (nT_ok (b := true) (bT_ok (eOp_ok (aC_ok h2 aN_ok) a2))) rfl) ?_
  refine sSeq_nx (e1 := [.sh (dL ls), .no, .no, .no]) (s1 := s) ?_ (sSeq_rt (sRet_ok (eOp_ok (aC_ok h3 aN_ok) a3)))
  by_cases hn : ls = []
  · rw [decide_eq_true hn] at h6
    exact sIf_f (aT_f (bT_ok (eBin_ok (eVar_ok rfl) (eLst_ok aN_ok) h6))) rfl
  · have hc : comp (ls.length + 1) ∈ ls := h.all.resolve_left hn
    rw [decide_eq_false hn] at h6
    rw [decide_eq_true hc] at h5
    refine sIf_f (aT_t (bT_ok (eBin_ok (eVar_ok rfl) (eLst_ok aN_ok) h6)) (bT_ok (eBin_ok (d1 := dI (comp (ls.length + 1))) (s1 := s) ?_ (eVar_ok rfl) h5))) rfl
    rw [eLRg_comp (n := ls.length + 1) ?_ (by omega)]
    exact eBin_ok (eOp_ok (aC_ok (eVar_ok rfl) aN_ok) rfl) eC_ok (by show some (PyData.int (((ls.map dI).length : Nat) + 1)) = _; rw [List.length_map]; rfl)
end K01
namespace K01
open PySem PySem.Spec PyProof.Rows L2 J
theorem ix_tok {p q : STO} {ds : List D} {i : Int} {d : D} (h : atI ds i = some d) : dIdx (p ++ .lst ds :: q) (tokD p.length) (.int i) = some d := by
  have e := isTok_tok p.length
  unfold tokD at e ⊢
  unfold dIdx
  simp only
  rw [e, Option.bind_some, mid_cell, Option.bind_some]
  exact h
theorem dip_pos {p q : STO} {a b c w : Int} (ha : 0 < a) (h0 : 0 < w) (hw : w < 2 ^ 200) : F__law_dip [tokD p.length, .int w] (p ++ pchC a b c :: q) = some (.int (a % w), p ++ pchC (a / w) b c :: q) := by
  refine fnD_rt (e1 := [.sh (tokD p.length), .sh (.int w), .sh (.int (a % w)), .no]) (s1 := p ++ pchC (a / w) b c :: q) ?_ (fin_len _ (by rw [List.length_append, List.length_append]; rfl))
  unfold b__law_dip
  have hwa : w.natAbs < 2 ^ 250 := by omega
  refine sSeq_rt (sIf_t (bT_ok (eBin_ok (eIdx_ok (eVar_ok rfl) eC_ok (ix_tok rfl)) eC_ok (dGt_t ha))) ?_)
  refine sSeq_nx (sSet_ok (eBin_ok (eOp_ok (aC_ok (eIdx_ok (eVar_ok rfl) eC_ok (ix_tok rfl)) aN_ok) rfl) (eVar_ok rfl) (dMod_ok h0))) ?_
  refine sSeq_nx (sSto_ok (eBin_ok (eIdx_ok (eVar_ok rfl) eC_ok (ix_tok rfl)) (eVar_ok rfl) (dFdiv_ok h0 hwa)) (eVar_ok rfl) eC_ok mid_cell rfl) ?_
  rw [mid_set]
  exact sSeq_rt (sRet_ok (eVar_ok rfl))
theorem dip_mix {p q : STO} {b c w : Int} (hb : 0 ≤ b) (hb2 : b < 2 ^ 200) (hc : 0 ≤ c) (hc2 : c < 2 ^ 60) (h0 : 0 < w) (hw : w < 2 ^ 200) : ∃ v, 0 ≤ v ∧ v < w ∧ F__law_dip [tokD p.length, .int w] (p ++ pchC 0 b c :: q) = some (.int v, p ++ pchC 0 b (c + 1) :: q) := by
  have k41 : dAdd (.int ((10 : Int) ^ (41 : Int).toNat)) (.int 37) = some (.int (10 ^ 41 + 37)) := rfl
  have k39 : dAdd (.int ((10 : Int) ^ (39 : Int).toNat)) (.int 3) = some (.int (10 ^ 39 + 3)) := rfl
  obtain ⟨m1, e1⟩ : ∃ m1, m1 = (b + 870022201 * (c + 1)) ^ (3 : Int).toNat % (10 ^ 41 + 37) := ⟨_, rfl⟩
  have g1 : 0 ≤ m1 ∧ m1 < 10 ^ 41 + 37 := by rw [e1]; exact ⟨Int.emod_nonneg _ (by decide), Int.emod_lt_of_pos _ (by decide)⟩
  obtain ⟨m2, e2⟩ : ∃ m2, m2 = (m1 + 334214467 * (c + 1)) ^ (3 : Int).toNat % (10 ^ 39 + 3) := ⟨_, rfl⟩
  refine ⟨m2 / 1048583 % w, Int.emod_nonneg _ (by omega), Int.emod_lt_of_pos _ h0, ?_⟩
  refine fnD_rt (e1 := [.sh (tokD p.length), .sh (.int w), .no, .sh (.int m2)]) (s1 := p ++ pchC 0 b (c + 1) :: q) ?_ (fin_len _ (by rw [List.length_append, List.length_append]; rfl))
  unfold b__law_dip
  refine sSeq_nx (sIf_f (bT_ok (eBin_ok (eIdx_ok (eVar_ok rfl) eC_ok (ix_tok rfl)) eC_ok (dGt_f (by decide)))) rfl) ?_
  refine sSeq_nx (sSto_ok (eBin_ok (eIdx_ok (eVar_ok rfl) eC_ok (ix_tok rfl)) eC_ok rfl) (eVar_ok rfl) eC_ok mid_cell rfl) ?_
  rw [mid_set]
  refine sSeq_nx (sSet_ok (eBin_ok (eBin_ok (eOp_ok (aC_ok (eBin_ok (eIdx_ok (eVar_ok rfl) eC_ok (ix_tok rfl)) (eBin_ok eC_ok (eIdx_ok (eVar_ok rfl) eC_ok (ix_tok rfl)) (dMul_ok (by decide) (by omega))) rfl) aN_ok) rfl) eC_ok (dPow_ok (by omega) (by decide))) (eBin_ok (eBin_ok eC_ok eC_ok (dPow_ok (by decide) (by decide))) eC_ok k41) (dMod_ok (by decide)))) ?_
  rw [← e1]
  refine sSeq_nx (sSet_ok (eBin_ok (eBin_ok (eOp_ok (aC_ok (eBin_ok (eVar_ok rfl) (eBin_ok eC_ok (eIdx_ok (eVar_ok rfl) eC_ok (ix_tok rfl)) (dMul_ok (by decide) (by omega))) rfl) aN_ok) rfl) eC_ok (dPow_ok (by omega) (by decide))) (eBin_ok (eBin_ok eC_ok eC_ok (dPow_ok (by decide) (by decide))) eC_ok k39) (dMod_ok (by decide)))) ?_
  rw [← e2]
  exact sSeq_rt (sRet_ok (eBin_ok (eOp_ok (aC_ok (eBin_ok (eVar_ok rfl) eC_ok (dFdiv_ok (by decide) (by decide))) aN_ok) rfl) (eVar_ok rfl) (dMod_ok h0)))
theorem dip_eq {n : Nat} {p q s : STO} (h : Good n p q s) (hn : n < 2 ^ 50) {w : Int} (h0 : 0 < w) (hw : w < 2 ^ 200) : ∃ v s', F__law_dip [tokD p.length, .int w] s = some (.int v, s') ∧ 0 ≤ v ∧ v < w ∧ Good (n + 1) p q s' := by
  obtain ⟨a, b, c, rfl, h1, h2, h3, h4, h5⟩ := h
  by_cases ha : 0 < a
  · exact ⟨_, _, dip_pos ha h0 hw, Int.emod_nonneg _ (by omega), Int.emod_lt_of_pos _ h0, _, _, _, rfl, Int.ediv_nonneg h1 (by omega), h2, h3, h4, by omega⟩
  · have ha : a = 0 := by omega
    subst ha
    obtain ⟨v, g1, g2, g3⟩ := dip_mix (p := p) (q := q) h2 h3 h4 (c := c) (by omega) h0 hw
    exact ⟨v, _, g3, g1, g2, _, _, _, rfl, by omega, h2, h3, by omega, by omega⟩
theorem pouch_eq (ns : List Int) (i : Nat) (hi : i < 100) (hl : ns.length < 1000) (s : STO) : ∃ ds, F__law_pouch [skD (ns.map PyData.int), .int i] s = some (.list ds, s) ∧ ds.all isScal = true ∧ ∀ p q, Good 0 p q (p ++ .lst ds :: q) := by
  obtain ⟨cell, hc⟩ : ∃ cell : Int, eIf (bT (eBin dLt (eVar 1) (eOp cLen (aC (eVar 0) aN)))) (eIdx (eVar 0) (eVar 1)) (eC (.int 0)) (see [] [.sh (skD (ns.map PyData.int)), .sh (.int i), .no]) s = some (.int cell, s) := by
    by_cases h : i < ns.length
    · refine ⟨ns[i], eIf_t (bT_ok (eBin_ok (eVar_ok rfl) (eOp_ok (aC_ok (eVar_ok rfl) aN_ok) rfl) (dLt_t ?_))) (eIdx_ok (eVar_ok rfl) (eVar_ok rfl) (atI_nat rfl ?_))⟩
      · rw [List.length_map]; omega
      · rw [List.getElem?_map, List.getElem?_eq_getElem h]; rfl
    · refine ⟨0, eIf_f (bT_ok (eBin_ok (eVar_ok rfl) (eOp_ok (aC_ok (eVar_ok rfl) aN_ok) rfl) (dLt_f ?_))) rfl⟩
      rw [List.length_map]; omega
  have k18 : dPow (.int 10) (.int 18) = some (.int (10 ^ 18)) := dPow_ok (by decide) (by decide)
  have k38 : dPow (.int 10) (.int 38) = some (.int (10 ^ 38)) := dPow_ok (by decide) (by decide)
  obtain ⟨m, e1⟩ : ∃ m, m = cell % (10 ^ 38 + 133) := ⟨_, rfl⟩
  have g1 : 0 ≤ m ∧ m < 10 ^ 38 + 133 := by rw [e1]; exact ⟨Int.emod_nonneg _ (by decide), Int.emod_lt_of_pos _ (by decide)⟩
  have hmod : dMod (.int cell) (.int (10 ^ 38 + 133)) = some (.int m) := by rw [e1]; exact dMod_ok (by decide)
  obtain ⟨a, ha, ha0⟩ : ∃ a : Int, cMax [.int 0, .int ((if cell < 0 then -cell else cell) - 10 ^ 18)] = some (.int a) ∧ 0 ≤ a := by
    refine ⟨_, rfl, ?_⟩
    split <;> omega
  refine ⟨[.int a, .int (m * 107 + 71 * (i : Int) + 29), .int 0], ?_, rfl, fun p q => ⟨a, _, 0, rfl, ha0, by omega, by omega, by omega, by omega⟩⟩
  refine fnD_rt (e1 := [.sh (skD (ns.map PyData.int)), .sh (.int i), .sh (.int cell)]) (s1 := s) ?_ (fin_self _ _)
  unfold b__law_pouch
  refine sSeq_nx (sSet_ok hc) (sSeq_rt (sRet_ok (eLst_ok (aC_ok (eOp_ok (aC_ok eC_ok (aC_ok (eBin_ok (eOp_ok (aC_ok (eVar_ok rfl) aN_ok) rfl) (eBin_ok eC_ok eC_ok k18) rfl) aN_ok)) ha) (aC_ok (eBin_ok (eBin_ok (eBin_ok (eBin_ok (eOp_ok (aC_ok (eVar_ok rfl) aN_ok) rfl) (eBin_ok (eBin_ok eC_ok eC_ok k38) eC_ok rfl) hmod) eC_ok (dMul_ok (by omega) (by decide))) (eBin_ok eC_ok (eVar_ok rfl) (dMul_ok (by decide) (by omega))) rfl) eC_ok rfl) (aC_ok eC_ok aN_ok))))))
/-! ### nests as data -/
def enc : Nest → D
  | .lf i => .int i
  | .nd a b => .tuple [enc a, enc b]
theorem noTok_enc : ∀ t : Nest, noTok (enc t) = true
  | .lf _ => rfl
  | .nd a b => by rw [enc, noTok, noTokA, noTokA, noTokA, noTok_enc a, noTok_enc b]; rfl
theorem dAdd_dI {a b : List Int} (h : a.length + b.length ≤ 16777216) : dAdd (dI a) (dI b) = some (dI (a ++ b)) := by
  show (if (a.map PyData.int).length + (b.map PyData.int).length ≤ 16777216 then _ else _) = _
  rw [List.length_map, List.length_map, if_pos h, ← List.map_append]
theorem dAdd_dL {a b : List (List Int)} (h : a.length + b.length ≤ 16777216) : dAdd (dL a) (dL b) = some (dL (a ++ b)) := by
  show (if (a.map dI).length + (b.map dI).length ≤ 16777216 then _ else _) = _
  rw [List.length_map, List.length_map, if_pos h, ← List.map_append]
theorem folk_eq : ∀ (n : Nat) (t : Nest), t.dep < n → t.lv.length ≤ 1000 → ∀ s, F__law_folk n [enc t] s = some (dI t.folk, s)
  | 0, t, h, _, s => absurd h (Nat.not_lt_zero _)
  | n + 1, .lf i, h, hl, s => by
    refine fnD_rt (e1 := [.sh (.int i)]) (s1 := s) ?_ (fin_self _ _)
    have : dI (Nest.lf i).folk = .list [.int i] := congrArg (fun l => dI l) (sZ_asc (List.pairwise_singleton _ _))
    rw [this]
    unfold b__law_folk
    exact sSeq_rt (sRet_ok (eIf_t (bT_ok (eUn_ok (eVar_ok rfl) rfl)) (eLst_ok (aC_ok (eVar_ok rfl) aN_ok))))
  | n + 1, .nd a b, h, hl, s => by
    have hl' : a.lv.length + b.lv.length ≤ 1000 := by simpa [Nest.lv] using hl
    have h1 := folk_eq n a (by simp only [Nest.dep] at h; omega) (by omega) s
    have h2 := folk_eq n b (by simp only [Nest.dep] at h; omega) (by omega) s
    refine fnD_rt (e1 := [.sh (enc (.nd a b))]) (s1 := s) ?_ (fin_self _ _)
    have hs : dSort (dI (a.folk ++ b.folk)) = some (dI (Nest.nd a b).folk) := by
      rw [dSort_dI (by rw [List.length_append, Nest.len_folk, Nest.len_folk]; omega)]
      exact congrArg (fun l => some (dI l)) (sZ_eq ((sZ_perm a.lv).append (sZ_perm b.lv)))
    unfold b__law_folk
    refine sSeq_rt (sRet_ok (eIf_f (bT_ok (eUn_ok (eVar_ok rfl) rfl)) (eUn_ok (eBin_ok (eCall_ok (aApp_ok (aC_ok (eIdx_ok (eVar_ok rfl) eC_ok rfl) aN_ok) aN_ok) h1) (eCall_ok (aApp_ok (aC_ok (eIdx_ok (eVar_ok rfl) eC_ok rfl) aN_ok) aN_ok) h2) (dAdd_dI ?_)) hs)))
    rw [Nest.len_folk, Nest.len_folk]; omega
theorem lots_eq : ∀ (n : Nat) (t : Nest), t.dep < n → n ≤ 22 → t.lv.length ≤ 1000 → ∀ s, F__law_lots n [enc t] s = some (dL t.lots, s)
  | 0, t, h, _, _, s => absurd h (Nat.not_lt_zero _)
  | n + 1, .lf i, h, hn, hl, s => by
    refine fnD_rt (e1 := [.sh (.int i)]) (s1 := s) ?_ (fin_self _ _)
    have : (Nest.lf i).lots = [] := List.eq_nil_of_length_eq_zero (len_sR _)
    rw [this]
    unfold b__law_lots
    exact sSeq_rt (sIf_t (bT_ok (eUn_ok (eVar_ok rfl) rfl)) (sSeq_rt (sRet_ok (eLst_ok aN_ok))))
  | n + 1, .nd a b, h, hn, hl, s => by
    have hl' : a.lv.length + b.lv.length ≤ 1000 := by simpa [Nest.lv] using hl
    have h0 := folk_eq 22 (.nd a b) (by omega) hl s
    have h1 := lots_eq n a (by simp only [Nest.dep] at h; omega) (by omega) (by omega) s
    have h2 := lots_eq n b (by simp only [Nest.dep] at h; omega) (by omega) (by omega) s
    have la := Nest.len_lots a
    have lb := Nest.len_lots b
    refine fnD_rt (e1 := [.sh (enc (.nd a b))]) (s1 := s) ?_ (fin_self _ _)
    have e1 : dAdd (.list [dI (Nest.nd a b).folk]) (dL a.lots) = some (dL ([(Nest.nd a b).folk] ++ a.lots)) := dAdd_dL (a := [(Nest.nd a b).folk]) (by simp; omega)
    have e2 : dAdd (dL ([(Nest.nd a b).folk] ++ a.lots)) (dL b.lots) = some (dL ([(Nest.nd a b).folk] ++ a.lots ++ b.lots)) := dAdd_dL (by simp; omega)
    have e3 : dSort (dL ([(Nest.nd a b).folk] ++ a.lots ++ b.lots)) = some (dL (Nest.nd a b).lots) := by
      rw [dSort_dL (by simp; omega)]
      refine congrArg (fun l => some (dL l)) (sR_eq ?_)
      show ((Nest.nd a b).folk :: (a.lots ++ b.lots)).Perm (((Nest.nd a b) :: (a.gr ++ b.gr)).map Nest.folk)
      rw [List.map_cons, List.map_append]
      exact ((sR_perm _).append (sR_perm _)).cons _
    unfold b__law_lots
    refine sSeq_nx (sIf_f (bT_ok (eUn_ok (eVar_ok rfl) rfl)) rfl) (sSeq_rt (sRet_ok (eUn_ok (eBin_ok (eBin_ok (eLst_ok (aC_ok (eCall_ok (aApp_ok (aC_ok (eVar_ok rfl) aN_ok) aN_ok) h0) aN_ok)) (eCall_ok (aApp_ok (aC_ok (eIdx_ok (eVar_ok rfl) eC_ok rfl) aN_ok) aN_ok) h1) e1) (eCall_ok (aApp_ok (aC_ok (eIdx_ok (eVar_ok rfl) eC_ok rfl) aN_ok) aN_ok) h2) e2) e3)))
theorem cMin_dI {l : List Int} {m : Int} (h : m ∈ l) (h2 : ∀ y ∈ l, m ≤ y) : cMin [dI l] = some (.int m) := by
  show (isInts (l.map PyData.int)).bind _ = _
  rw [isInts_map, Option.bind_some, if_neg (List.ne_nil_of_mem h), minL_of h h2]
theorem cMax_dI {l : List Int} {m : Int} (h : m ∈ l) (h2 : ∀ y ∈ l, y ≤ m) : cMax [dI l] = some (.int m) := by
  show (isInts (l.map PyData.int)).bind _ = _
  rw [isInts_map, Option.bind_some, if_neg (List.ne_nil_of_mem h), maxL_of h h2]
theorem put_eq (x f : Int) : ∀ (n : Nat) (t : Nest), t.dep < n → n ≤ 22 → t.lv.length ≤ 1000 → ∀ s, F__law_put n [enc t, .int x, .int f] s = some (enc (t.put x f), s)
  | 0, t, h, _, _, s => absurd h (Nat.not_lt_zero _)
  | n + 1, .lf i, h, hn, hl, s => by
    refine fnD_rt (e1 := [.sh (.int i), .sh (.int x), .sh (.int f), .no]) (s1 := s) ?_ (fin_self _ _)
    unfold b__law_put
    refine sSeq_rt (sIf_t (bT_ok (eUn_ok (eVar_ok rfl) rfl)) (sSeq_rt (sRet_ok ?_)))
    by_cases e : i = x
    · rw [Nest.put, if_pos e]
      exact eIf_t (bT_ok (eBin_ok (eVar_ok rfl) (eVar_ok rfl) (dEq_t e))) (eTup_ok (aC_ok (eVar_ok rfl) (aC_ok (eVar_ok rfl) aN_ok)))
    · rw [Nest.put, if_neg e]
      exact eIf_f (bT_ok (eBin_ok (eVar_ok rfl) (eVar_ok rfl) (dEq_f e))) (eVar_ok rfl)
  | n + 1, .nd a b, h, hn, hl, s => by
    have hl' : a.lv.length + b.lv.length ≤ 1000 := by simpa [Nest.lv] using hl
    have ha := put_eq x f n a (by simp only [Nest.dep] at h; omega) (by omega) (by omega) s
    have hb := put_eq x f n b (by simp only [Nest.dep] at h; omega) (by omega) (by omega) s
    refine fnD_rt (e1 := [.sh (enc (.nd a b)), .sh (.int x), .sh (.int f), .no]) (s1 := s) ?_ (fin_self _ _)
    have hab : ∀ t ∈ [a, b], t = a ∨ t = b := fun t ht => by simpa using ht
    have h1 : ∀ R, c__law_put_1 R (see [] [.sh (enc (.nd a b)), .sh (.int x), .sh (.int f), .no]) s = some (dI [a.mn, b.mn], s) := by
      intro R
      unfold c__law_put_1
      refine eComp_map [a, b] enc (fun t => [(3, enc t)]) (fun t => .int t.mn) (iVal_t (eVar_ok rfl)) (by simp) (fun _ _ => rfl) fun t ht => ?_
      have h2 : F__law_folk 22 [enc t] s = some (dI t.folk, s) := by
        rcases hab t ht with rfl | rfl
        · exact folk_eq 22 _ (by simp only [Nest.dep] at h; omega) (by omega) s
        · exact folk_eq 22 _ (by simp only [Nest.dep] at h; omega) (by omega) s
      exact eOp_ok (aC_ok (eCall_ok (aApp_ok (aC_ok (eVar_ok rfl) aN_ok) aN_ok) h2) aN_ok) (cMin_dI (Nest.mem_folk.mpr t.mn_mem) fun y hy => t.mn_le y (Nest.mem_folk.mp hy))
    have h3 : cMax [dI [a.mn, b.mn]] = some (.int (max a.mn b.mn)) := cMax_dI (by simp; omega) (by simp; omega)
    unfold b__law_put
    refine sSeq_nx (sIf_f (bT_ok (eUn_ok (eVar_ok rfl) rfl)) rfl) ?_
    by_cases e : max a.mn b.mn = 0 - x
    · rw [Nest.put, if_pos e]
      exact sSeq_rt (sIf_t (bT_ok (eBin_ok (eOp_ok (aC_ok (h1 _) aN_ok) h3) (eBin_ok eC_ok (eVar_ok rfl) rfl) (dEq_t e))) (sSeq_rt (sRet_ok (eTup_ok (aC_ok (eVar_ok rfl) (aC_ok (eVar_ok rfl) aN_ok))))))
    · rw [Nest.put, if_neg e]
      refine sSeq_nx (sIf_f (bT_ok (eBin_ok (eOp_ok (aC_ok (h1 _) aN_ok) h3) (eBin_ok eC_ok (eVar_ok rfl) rfl) (dEq_f e))) rfl) (sSeq_rt (sRet_ok (eOp_ok (ds := [.list [enc (a.put x f), enc (b.put x f)]]) (aC_ok ?_ aN_ok) rfl)))
      unfold c__law_put_2
      refine eComp_map [a, b] enc (fun t => [(3, enc t)]) (fun t => enc (t.put x f)) (iVal_t (eVar_ok rfl)) (by simp) (fun _ _ => rfl) fun t ht => ?_
      rcases hab t ht with rfl | rfl
      · exact eCall_ok (aApp_ok (aC_ok (eVar_ok rfl) (aC_ok (eVar_ok rfl) (aC_ok (eVar_ok rfl) aN_ok))) aN_ok) ha
      · exact eCall_ok (aApp_ok (aC_ok (eVar_ok rfl) (aC_ok (eVar_ok rfl) (aC_ok (eVar_ok rfl) aN_ok))) aN_ok) hb
/-- items of newcomers, from person i + 1 on -/
def itemsOk (i : Nat) : List Int → Prop
  | [] => True
  | x :: r => 0 - (i + 1 : Int) < x ∧ x < i + 1 ∧ itemsOk (i + 1) r
def Nest.grow (i : Nat) (t : Nest) : List Int → Nest
  | [] => t
  | x :: r => Nest.grow (i + 1) (t.put x (i + 1 : Nat)) r
theorem grow_of : ∀ (l : List Int) (i : Nat) (t : Nest), t.Of (i + 1) → itemsOk i l → (Nest.grow i t l).Of (i + 1 + l.length)
  | [], i, t, h, _ => h
  | x :: r, i, t, h, h2 => by
    have h3 := h.put (x := x) (by have := h2.1; omega) (by have := h2.2.1; omega)
    have := grow_of r (i + 1) _ h3 h2.2.2
    rw [List.length_cons, show i + 1 + (r.length + 1) = i + 1 + 1 + r.length by omega]
    exact this
theorem nest_loop (D0 : D) : ∀ (l : List Int) (i : Nat) (t : Nest) (s : STO) (w x : Slot), t.Of (i + 1) → i + 1 + l.length ≤ 20 → itemsOk i l →
    ∃ w' x', forL (bT2 2 3) l__law_nest_1 (enD (l.map PyData.int) i) [.sh D0, .sh (enc t), w, x] s = some (.nx, [.sh D0, .sh (enc (Nest.grow i t l)), w', x'], s)
  | [], i, t, s, w, x, _, _, _ => ⟨w, x, rfl⟩
  | y :: r, i, t, s, w, x, ht, hl, ho => by
    rw [List.length_cons] at hl
    have h3 := ht.put (x := y) (by have := ho.1; omega) (by have := ho.2.1; omega)
    have hlen := ht.len
    have hd := t.dep_lt
    have h1 := put_eq y (i + 1 : Nat) 22 t (by omega) (by omega) (by omega) s
    obtain ⟨w', x', h4⟩ := nest_loop D0 r (i + 1) _ s (.sh (.int i)) (.sh (.int y)) h3 (by omega) ho.2.2
    refine ⟨w', x', ?_⟩
    rw [List.map_cons, enD, forL]
    simp only [bT2, Option.bind_some]
    rw [if_pos ⟨by rfl, by rfl⟩]
    show ((l__law_nest_1 [.sh D0, .sh (enc t), .sh (.int i), .sh (.int y)] s).bind _) = _
    have h5 : l__law_nest_1 [.sh D0, .sh (enc t), .sh (.int i), .sh (.int y)] s = some (.nx, [.sh D0, .sh (enc (t.put y (i + 1 : Nat))), .sh (.int i), .sh (.int y)], s) := by
      unfold l__law_nest_1
      exact sSeq_nx (sSet_ok (eCall_ok (aApp_ok (aC_ok (eVar_ok rfl) (aC_ok (eVar_ok rfl) (aC_ok (eBin_ok (eVar_ok rfl) eC_ok rfl) aN_ok))) aN_ok) h1)) rfl
    rw [h5]
    simp only [Option.bind_some]
    exact h4
theorem nest_eq {l : List Int} (hl : l.length < 20) (ho : itemsOk 0 l) (s : STO) : F__law_nest [dI l] s = some (enc (Nest.grow 0 (.lf 0) l), s) := by
  obtain ⟨w, x, h1⟩ := nest_loop (dI l) l 0 (.lf 0) s .no .no Nest.of_zero (by omega) ho
  refine fnD_rt (e1 := [.sh (dI l), .sh (enc (Nest.grow 0 (.lf 0) l)), w, x]) (s1 := s) ?_ (fin_self _ _)
  unfold b__law_nest
  exact sSeq_nx (sSet_ok (d := .int 0) eC_ok) (sSeq_nx (sFor_ok (iU_ok (eVar_ok rfl) rfl) h1) (sSeq_rt (sRet_ok (eVar_ok rfl))))
theorem idx_mem {l : List Int} {i : Int} (h : 0 ≤ i ∧ i < l.length) (s : STO) : ∃ x, dIdx s (dI l) (.int i) = some (.int x) ∧ x ∈ l := by
  have h3 : i.toNat < l.length := by omega
  refine ⟨l[i.toNat], atI_nat (n := i.toNat) (by omega) ?_, List.getElem_mem h3⟩
  rw [List.getElem?_map, List.getElem?_eq_getElem h3]
  rfl
theorem sApp_ok {i k : Nat} {g : Ev} {env : J.Env} {s s1 : STO} {d : D} {ds : List D} (h1 : g (see [] env) s = some (d, s1)) (h2 : env[i]? = some (.ow (k + 1) (.list ds))) (hl : ds.length < 16777216) : sApp i [] k g env s = some (.nx, env.set i (.ow (k + 1) (.list (ds ++ [d]))), s1) := by
  unfold sApp
  rw [h1, Option.bind_some, fzIf_nil, h2]
  show (if k = k ∧ ds.length < 16777216 then _ else _) = _
  rw [if_pos ⟨rfl, hl⟩]
abbrev envI (p : STO) (many style : Int) (found : List Int) (u x y : Slot) : J.Env := [(.sh (tokD p.length)), .sh (.int many), .sh (.int style), .ow 1 (dI found), u, x, y]
theorem items_turn {many style fresh : Int} {found : List Int} {x y : Slot} {n : Nat} {p q s : STO} (hg : Good n p q s) (hn : n < 2 ^ 49) (hs : 0 ≤ style ∧ style < 6) (hf : 1 ≤ fresh ∧ fresh ≤ 1000) (hl : found.length ≤ 1000) :
    ∃ v x' y' s', l__law_items_1 (envI p many style found (.sh (.int fresh)) x y) s = some (.nx, envI p many style (found ++ [v]) (.sh (.int fresh)) x' y', s') ∧ 0 - fresh < v ∧ v < fresh ∧ Good (n + 4) p q s' := by
  obtain ⟨v1, s1, e1, a1, b1, g1⟩ := dip_eq hg (by omega) (w := 2 * fresh - 1) (by omega) (by omega)
  obtain ⟨v2, s2, e2, a2, b2, g2⟩ := dip_eq g1 (by omega) (w := 5) (by omega) (by omega)
  obtain ⟨v3, s3, e3, a3, b3, g3⟩ := dip_eq g2 (by omega) (w := 2) (by omega) (by omega)
  obtain ⟨v4, s4, e4, a4, b4, g4⟩ := dip_eq g3 (by omega) (w := 2) (by omega) (by omega)
  obtain ⟨u3, q3, m3⟩ := idx_mem (l := [0, 3]) (i := v3) ⟨a3, by simpa using b3⟩ s3
  obtain ⟨u4, q4, m4⟩ := idx_mem (l := [0, 4]) (i := v4) ⟨a4, by simpa using b4⟩ s4
  obtain ⟨u0, q0, m⟩ := idx_mem (l := [v2, 0, 1, 2, u3, u4]) (i := style) ⟨hs.1, by simpa using hs.2⟩ s4
  have hm : 0 ≤ u0 ∧ u0 < 5 := by
    simp only [List.mem_cons, List.not_mem_nil, or_false] at m m3 m4
    omega
  obtain ⟨v, r, mv⟩ := idx_mem (l := [v1 - fresh + 1, fresh - 1, 1 - fresh, 0, 0 - (if fresh - 1 < 1 then fresh - 1 else 1)]) (i := u0) ⟨hm.1, by simpa using hm.2⟩ s4
  have hv : 0 - fresh < v ∧ v < fresh := by
    simp only [List.mem_cons, List.not_mem_nil, or_false] at mv
    split at mv <;> omega
  refine ⟨v, .sh (dI [v1 - fresh + 1, fresh - 1, 1 - fresh, 0, 0 - (if fresh - 1 < 1 then fresh - 1 else 1)]), .sh (.int u0), s4, ?_, hv.1, hv.2, g4⟩
  unfold l__law_items_1
  refine sSeq_nx (sSet_ok (d := dI [v1 - fresh + 1, fresh - 1, 1 - fresh, 0, 0 - (if fresh - 1 < 1 then fresh - 1 else 1)]) (s1 := s1) (eLst_ok (aC_ok (eBin_ok (eBin_ok (eCall_ok (aApp_ok (aC_ok (eVar_ok rfl) (aC_ok (eBin_ok (eBin_ok eC_ok (eVar_ok rfl) (dMul_ok (by decide) (by omega))) eC_ok rfl) aN_ok)) aN_ok) e1) (eVar_ok rfl) rfl) eC_ok rfl) (aC_ok (eBin_ok (eVar_ok rfl) eC_ok rfl) (aC_ok (eBin_ok eC_ok (eVar_ok rfl) rfl) (aC_ok eC_ok (aC_ok (eBin_ok eC_ok (eOp_ok (aC_ok eC_ok (aC_ok (eBin_ok (eVar_ok rfl) eC_ok rfl) aN_ok)) rfl) rfl) aN_ok))))))) ?_
  refine sSeq_nx (sSet_ok (d := .int u0) (s1 := s4) (eIdx_ok (d1 := dI [v2, 0, 1, 2, u3, u4]) (eLst_ok (aC_ok (eCall_ok (aApp_ok (aC_ok (eVar_ok rfl) (aC_ok eC_ok aN_ok)) aN_ok) e2) (aC_ok eC_ok (aC_ok eC_ok (aC_ok eC_ok (aC_ok (eIdx_ok eC_ok (eCall_ok (aApp_ok (aC_ok (eVar_ok rfl) (aC_ok eC_ok aN_ok)) aN_ok) e3) q3) (aC_ok (eIdx_ok eC_ok (eCall_ok (aApp_ok (aC_ok (eVar_ok rfl) (aC_ok eC_ok aN_ok)) aN_ok) e4) q4) aN_ok))))))) (eVar_ok rfl) q0)) ?_
  refine sSeq_nx (sApp_ok (d := .int v) (s1 := s4) (ds := found.map PyData.int) (eIdx_ok (eVar_ok rfl) (eVar_ok rfl) r) rfl (by rw [List.length_map]; omega)) ?_
  exact congrArg (fun d => some (Out.nx, ([(.sh (tokD p.length)), .sh (.int many), .sh (.int style), .ow 1 d, .sh (.int fresh), .sh (dI [v1 - fresh + 1, fresh - 1, 1 - fresh, 0, 0 - (if fresh - 1 < 1 then fresh - 1 else 1)]), .sh (.int u0)] : J.Env), s4)) (show PyData.list (found.map PyData.int ++ [PyData.int v]) = dI (found ++ [v]) from congrArg PyData.list (List.map_append (f := PyData.int) (l₁ := found) (l₂ := [v])).symm)
theorem itemsOk_snoc : ∀ (l : List Int) (i : Nat) (v : Int), itemsOk i l → 0 - (i + l.length + 1 : Int) < v → v < i + l.length + 1 → itemsOk i (l ++ [v])
  | [], i, v, _, h1, h2 => ⟨by simpa using h1, by simpa using h2, trivial⟩
  | x :: r, i, v, h, h1, h2 => ⟨h.1, h.2.1, itemsOk_snoc r (i + 1) v h.2.2 (by simp at h1 ⊢; omega) (by simp at h2 ⊢; omega)⟩
theorem items_loop {p q : STO} {many style : Int} (hs : 0 ≤ style ∧ style < 6) : ∀ (k : Nat) (found : List Int) (u x y : Slot) (n : Nat) (s : STO), Good n p q s → n + 4 * k < 2 ^ 48 → found.length + k ≤ 500 → itemsOk 0 found →
    ∃ l u' x' y' s', forL (bN 4) l__law_items_1 (rgD (1 + found.length) 1 k) (envI p many style found u x y) s = some (.nx, envI p many style (found ++ l) u' x' y', s') ∧ l.length = k ∧ itemsOk 0 (found ++ l) ∧ Good (n + 4 * k) p q s'
  | 0, found, u, x, y, n, s, hg, _, _, ho => ⟨[], u, x, y, s, by rw [List.append_nil]; rfl, rfl, by rwa [List.append_nil], hg⟩
  | k + 1, found, u, x, y, n, s, hg, hn, hl, ho => by
    obtain ⟨v, x1, y1, s1, e1, h1, h2, g1⟩ := items_turn (many := many) (style := style) (fresh := 1 + found.length) (found := found) (x := x) (y := y) hg (by omega) hs (by omega) (by omega)
    have ho1 : itemsOk 0 (found ++ [v]) := itemsOk_snoc found 0 v ho (by simp; omega) (by simp; omega)
    obtain ⟨l, u2, x2, y2, s2, e2, h3, h4, g2⟩ := items_loop hs k (found ++ [v]) (.sh (.int (1 + found.length))) x1 y1 (n + 4) s1 g1 (by omega) (by simp; omega) ho1
    refine ⟨v :: l, u2, x2, y2, s2, ?_, by simp [h3], by rw [List.append_cons]; exact h4, by rw [show n + 4 * (k + 1) = n + 4 + 4 * k by omega]; exact g2⟩
    have er : rgD (1 + (found.length : Int)) 1 (k + 1) = .int (1 + found.length) :: rgD (1 + ((found ++ [v]).length : Int)) 1 k := by
      unfold rgD
      rw [List.range_succ_eq_map, List.map_cons, List.map_map]
      refine congr (congrArg _ ?_) (List.map_congr_left fun i _ => ?_)
      · simp
      · simp only [Function.comp, List.length_append, List.length_cons, List.length_nil]
        congr 1
        omega
    rw [er, forL]
    simp only [bN, Option.bind_some]
    rw [if_pos ⟨by rfl, by rfl⟩]
    show ((l__law_items_1 (envI p many style found (.sh (.int (1 + found.length))) x y) s).bind _) = _
    rw [e1]
    simp only [Option.bind_some]
    rw [List.append_assoc] at e2
    exact e2
theorem sPar_ok {i j k1 k2 : Nat} {f g : Ev} {env : J.Env} {s s1 s2 : STO} {d1 d2 : D} (h1 : f (see [] env) s = some (d1, s1)) (h2 : g (see [] env) s1 = some (d2, s2)) (hi : decide (i < env.length) = true := by rfl) (hj : decide (j < env.length) = true := by rfl) : sPar i j k1 k2 [] [] f g env s = some (.nx, (env.set i (mkS k1 d1)).set j (mkS k2 d2), s2) := by
  unfold sPar
  rw [if_pos ⟨of_decide_eq_true hi, of_decide_eq_true hj⟩, h1, Option.bind_some, fzIf_nil, h2]
  show some (Out.nx, ((fzIf k2 d2 [] s2 env).set i _).set j _, s2) = _
  rw [fzIf_nil]
theorem items_eq {many : Nat} {n : Nat} {p q s : STO} (hg : Good n p q s) (hn : n < 2 ^ 47) (hm : 1 ≤ many ∧ many ≤ 20) : ∃ l s', F__law_items [tokD p.length, .int many] s = some (dI l, s') ∧ l.length + 1 = many ∧ itemsOk 0 l ∧ Good (n + 100) p q s' := by
  obtain ⟨v, s1, e1, a1, b1, g1⟩ := dip_eq hg (by omega) (w := 6) (by omega) (by omega)
  obtain ⟨l, u2, x2, y2, s2, e2, h3, h4, g2⟩ := items_loop (many := many) ⟨a1, b1⟩ (many - 1) [] .no .no .no (n + 1) s1 g1 (by omega) (by simp; omega) trivial
  rw [List.nil_append] at e2 h4
  refine ⟨l, s2, ?_, by omega, h4, g2.mono (by omega)⟩
  refine fnD_rt (e1 := envI p many v l u2 x2 y2) (s1 := s2) ?_ (hg.fin g2 _)
  unfold b__law_items
  refine sSeq_nx (sPar_ok (eCall_ok (aApp_ok (aC_ok (eVar_ok rfl) (aC_ok eC_ok aN_ok)) aN_ok) e1) (eLst_ok aN_ok)) (sSeq_nx (sFor0_ok (ds := rgD (1 + ([] : List Int).length) 1 (many - 1)) (s1 := s1) (iB_ok eC_ok (eVar_ok rfl) ?_) e2) (sSeq_rt (sRet_ok (eVar_ok rfl))))
  rw [rg2_eq, if_pos ⟨inRg_nat (n := 1) (by omega), inRg_nat (by omega)⟩]
  rw [show (((many : Int) - 1)).toNat = many - 1 by omega]
  rfl
end K01
namespace K01
open PySem PySem.Spec PyProof.Rows L2 J
theorem dIsi_eq {T : String} {d : D} (h : isMk d = false) : dIsi T d = some (.bool (isiB T (typD d))) := by
  unfold dIsi
  rw [h]
  rfl
theorem is_integer_any {d : D} (h : isMk d = false) (s : STO) : F_is_integer [d] s = some (.bool (isI d), s) := by
  refine fnD_rt (e1 := [.sh d]) (s1 := s) ?_ (fin_self _ _)
  unfold b_is_integer
  have e1 := dIsi_eq (T := "int") h
  have e2 := dIsi_eq (T := "bool") h
  cases d with
  | bool b => exact sSeq_rt (sRet_ok (eAnd_t (eUn_ok (eVar_ok rfl) e1) (eUn_ok (eUn_ok (eVar_ok rfl) e2) rfl)))
  | int i => exact sSeq_rt (sRet_ok (eAnd_t (eUn_ok (eVar_ok rfl) e1) (eUn_ok (eUn_ok (eVar_ok rfl) e2) rfl)))
  | _ => exact sSeq_rt (sRet_ok (eAnd_f (eUn_ok (eVar_ok rfl) e1)))
theorem chain_in (m i : Int) {f1 f2 f3 : Ev} {vw : VW} {s : STO} (h1 : f1 vw s = some (.int 0, s)) (h2 : f2 vw s = some (.int i, s)) (h3 : f3 vw s = some (.int m, s)) : eChain dLe dLt f1 f2 f3 vw s = some (.bool (decide (0 ≤ i) && decide (i < m)), s) := by
  unfold eChain
  rw [h1, Option.bind_some, h2, Option.bind_some]
  show ((some (PyData.bool (decide (0 ≤ i)))).bind _) = _
  rw [Option.bind_some]
  cases decide (0 ≤ i) with
  | true =>
    simp only
    rw [h3, Option.bind_some]
    rfl
  | false => rfl
theorem c_row1_any (m : Int) {es : List D} (h : Safe (.list es)) (s : STO) (vw : VW) (h0 : vw[0]? = some (some (.int m))) (h1 : vw[1]? = some (some (.list es))) (h5 : vw.length = 5) : c_is_row_1 vw s = some (.list (es.map fun x => PyData.bool (inI m x)), s) := by
  have hl := h.len
  unfold c_is_row_1
  refine eComp_map es id (fun x => [(4, x)]) _ (by rw [List.map_id]; exact iVal_l (eVar_ok h1)) (by omega) (fun _ _ => rfl) fun x hx => ?_
  have e0 : (setV (wipeV vw [4]) [(4, x)])[0]? = some (some (.int m)) := by simp [setV, wipeV, h0]
  have e4 : (setV (wipeV vw [4]) [(4, x)])[4]? = some (some x) := by simp [setV, wipeV, h5]
  generalize setV (wipeV vw [4]) [(4, x)] = vw2 at e0 e4
  have hi := is_integer_any (h.mem x hx).nomk s
  cases x with
  | int i => exact eAnd_t (eCall_ok (aApp_ok (aC_ok (eVar_ok e4) aN_ok) aN_ok) hi) (chain_in m i eC_ok (eVar_ok e4) (eVar_ok e0))
  | _ => exact eAnd_f (eCall_ok (aApp_ok (aC_ok (eVar_ok e4) aN_ok) aN_ok) hi)
theorem all_inI {m : Int} : ∀ {es : List D}, es.all (inI m) = true → ∃ l, isIntsD es = some l ∧ (l.all fun x => decide (0 ≤ x) && decide (x < m)) = true
  | [], _ => ⟨[], rfl, rfl⟩
  | d :: r, h => by
    rw [List.all_cons, Bool.and_eq_true] at h
    obtain ⟨l, h1, h2⟩ := all_inI h.2
    cases d with
    | int i => exact ⟨i :: l, by rw [isIntsD, h1]; rfl, by rw [List.all_cons, h2, Bool.and_true]; exact h.1⟩
    | _ => exact absurd h.1 (by simp [inI])
theorem is_row_any (m : Int) {d : D} (h : Safe d) (s : STO) : F_is_row [.int m, d] s = some (.bool (rowD m d), s) := by
  have e1 := dIsi_eq (T := "list") h.nomk
  by_cases hd : ∃ es, d = .list es
  · obtain ⟨es, rfl⟩ := hd
    have h1 := c_row1_any m h s [some (.int m), some (.list es), none, none, none] rfl rfl rfl
    have a1 := cAll_map (inI m) es
    cases q : es.all (inI m) with
    | true =>
      rw [q] at a1
      obtain ⟨l, g1, g2⟩ := all_inI q
      have ee := isIntsD_some g1
      subst ee
      have hl := h.len
      rw [List.length_map] at hl
      have h2 := c_row2 l s (by omega) [some (.int m), some (dI l), none, none, none] rfl rfl
      have a2 := cAll_map (fun p : Int × Int => decide (p.1 < p.2)) (l.zip (l.drop 1))
      have er : rowD m (.list (l.map PyData.int)) = (l.zip (l.drop 1)).all fun p => decide (p.1 < p.2) := by
        rw [show PyData.list (l.map PyData.int) = dI l from rfl, rowD_dI]
        unfold rowB
        rw [g2]; rfl
      rw [er]
      refine fnD_rt (e1 := [.sh (.int m), .sh (.list (l.map PyData.int)), .no, .no, .no]) (s1 := s) ?_ (fin_self _ _)
      unfold b_is_row
      exact sSeq_nx (sIf_f (oT_f (nT_ok (b := true) (bT_ok (eUn_ok (eVar_ok rfl) e1))) (nT_ok (b := true) (bT_ok (eOp_ok (aC_ok h1 aN_ok) a1)))) rfl) (sSeq_rt (sRet_ok (eOp_ok (aC_ok h2 aN_ok) a2)))
    | false =>
      rw [q] at a1
      have er : rowD m (.list es) = false := by
        unfold rowD
        simp only
        cases g : isIntsD es with
        | none => rfl
        | some l =>
          have ee := isIntsD_some g
          subst ee
          show rowB m l = false
          unfold rowB
          have : (l.all fun x => decide (0 ≤ x) && decide (x < m)) = false := by
            rw [← q, List.all_map]; rfl
          rw [this]; rfl
      rw [er]
      refine fnD_rt (e1 := [.sh (.int m), .sh (.list es), .no, .no, .no]) (s1 := s) ?_ (fin_self _ _)
      unfold b_is_row
      exact sSeq_rt (sIf_t (oT_f (nT_ok (b := true) (bT_ok (eUn_ok (eVar_ok rfl) e1))) (nT_ok (b := false) (bT_ok (eOp_ok (aC_ok h1 aN_ok) a1)))) (sSeq_rt (sRet_ok eC_ok)))
  · have er : rowD m d = false := by
      cases d <;> first | rfl | exact absurd ⟨_, rfl⟩ hd
    have et : isiB "list" (typD d) = false := by
      cases d <;> first | rfl | exact absurd ⟨_, rfl⟩ hd
    rw [er]
    rw [et] at e1
    refine fnD_rt (e1 := [.sh (.int m), .sh d, .no, .no, .no]) (s1 := s) ?_ (fin_self _ _)
    unfold b_is_row
    exact sSeq_rt (sIf_t (oT_t (nT_ok (b := false) (bT_ok (eUn_ok (eVar_ok rfl) e1)))) (sSeq_rt (sRet_ok eC_ok)))
theorem dGt_len (n : Nat) (k : Int) : dGt (.int n) (.int k) = some (.bool (decide (k < (n : Int)))) := rfl
theorem is_group_any (m : Int) {d : D} (h : Safe d) (s : STO) : F_is_group [.int m, d] s = some (.bool (grpD m d), s) := by
  have h1 := is_row_any m h s
  refine fnD_rt (e1 := [.sh (.int m), .sh d]) (s1 := s) ?_ (fin_self _ _)
  unfold b_is_group
  unfold grpD
  cases q : rowD m d with
  | false =>
    rw [q] at h1
    exact sSeq_rt (sRet_ok (eAnd_f (eCall_ok (aApp_ok (aC_ok (eVar_ok rfl) (aC_ok (eVar_ok rfl) aN_ok)) aN_ok) h1)))
  | true =>
    rw [q] at h1
    cases d with
    | list es =>
      refine sSeq_rt (sRet_ok (eAnd_t (eCall_ok (aApp_ok (aC_ok (eVar_ok rfl) (aC_ok (eVar_ok rfl) aN_ok)) aN_ok) h1) (eBin_ok (eOp_ok (aC_ok (eVar_ok rfl) aN_ok) rfl) eC_ok ?_)))
      show some (PyData.bool (decide ((1 : Int) < (es.length : Nat)))) = some (PyData.bool (true && decide (1 < es.length)))
      rw [Bool.true_and]
      congr 2
      exact decide_eq_decide.mpr (by omega)
    | _ => cases q
theorem row_len {m : Nat} {g : List Int} (h : rowB m g = true) : g.length ≤ m := by
  obtain ⟨h1, h2⟩ := rowB_iff.mp h
  have := nodup_len (l := g) (m := comp m) (asc_nodup h2) fun x hx => mem_comp.mpr (h1 x hx)
  rwa [comp_len] at this
theorem is_parting_rows {ls : List (List Int)} (hfew : ls.length < 20) (hr : ∀ g ∈ ls, rowB (ls.length + 1) g = true ∧ 1 < g.length) (s : STO) : F_is_parting [dL ls] s = some (.bool (partB ls), s) := by
  have hrl : ∀ g ∈ ls, g.length ≤ 20 := fun g hg => by
    have := row_len (m := ls.length + 1) (hr g hg).1
    omega
  have h1 := c_part1 ls s (by omega) fun g hg => by have := hrl g hg; omega
  have h2 := c_part2 ls s (by omega)
  have h3 := c_part3 ls s (by omega) fun g hg => ⟨by have := hrl g hg; omega, fun e => by have := (hr g hg).2; rw [e] at this; simp at this⟩
  have a1 := cAll_map (fun g => rowB (ls.length + 1) g && decide (1 < g.length)) ls
  have a2 := cAll_map (fun p : List Int × List Int => ltI p.1 p.2) (ls.zip (ls.drop 1))
  have a3 := cAll_map (partsB ls) ls
  rw [List.all_eq_true.mpr fun g hg => by rw [(hr g hg).1, decide_eq_true (hr g hg).2]; rfl] at a1
  have h4 : dGe (.int (ls.map dI).length) (.int 20) = some (.bool false) := by
    show some (PyData.bool (decide (20 ≤ _))) = _
    rw [decide_eq_false (by rw [List.length_map]; omega)]
  have h5 := dNotIn_row (comp (ls.length + 1)) ls
  have h6 := dNe_dL ls []
  have hc : eLRg (r1 (eBin dAdd (eOp cLen (aC (eVar 0) aN)) (eC (.int 1)))) (see [] [.sh (dL ls), .no, .no, .no]) s = some (dI (comp (ls.length + 1)), s) := by
    rw [eLRg_comp (n := ls.length + 1) ?_ (by omega)]
    exact eBin_ok (eOp_ok (aC_ok (eVar_ok rfl) aN_ok) rfl) eC_ok (by show some (PyData.int (((ls.map dI).length : Nat) + 1)) = _; rw [List.length_map]; rfl)
  refine fnD_rt (e1 := [.sh (dL ls), .no, .no, .no]) (s1 := s) ?_ (fin_self _ _)
  unfold b_is_parting
  unfold partB
  refine sSeq_nx (sIf_f (oT_f (nT_ok (b := true) (bT_ok (eUn_ok (eVar_ok rfl) rfl))) (bT_ok (eBin_ok (eOp_ok (aC_ok (eVar_ok rfl) aN_ok) rfl) eC_ok h4))) rfl) ?_
  refine sSeq_nx (sIf_f (nT_ok (b := true) (bT_ok (eOp_ok (aC_ok h1 aN_ok) a1))) rfl) ?_
  cases q2 : (ls.zip (ls.drop 1)).all fun p => ltI p.1 p.2 with
  | false =>
    rw [q2] at a2
    exact sSeq_rt (sIf_t (nT_ok (b := false) (bT_ok (eOp_ok (aC_ok h2 aN_ok) a2))) (sSeq_rt (sRet_ok eC_ok)))
  | true =>
    rw [q2] at a2
    refine sSeq_nx (sIf_f (nT_ok (b := true) (bT_ok (eOp_ok (aC_ok h2 aN_ok) a2))) rfl) ?_
    rw [Bool.true_and]
    by_cases hn : ls = []
    · rw [decide_eq_true hn] at h6 ⊢
      rw [Bool.true_or, Bool.true_and]
      refine sSeq_nx (sIf_f (aT_f (bT_ok (eBin_ok (eVar_ok rfl) (eLst_ok aN_ok) h6))) rfl) (sSeq_rt (sRet_ok (eOp_ok (aC_ok h3 aN_ok) a3)))
    · rw [decide_eq_false hn] at h6 ⊢
      rw [Bool.false_or]
      by_cases hcm : comp (ls.length + 1) ∈ ls
      · rw [decide_eq_true hcm] at h5 ⊢
        rw [Bool.true_and]
        refine sSeq_nx (sIf_f (aT_t (bT_ok (eBin_ok (eVar_ok rfl) (eLst_ok aN_ok) h6)) (bT_ok (eBin_ok hc (eVar_ok rfl) h5))) rfl) (sSeq_rt (sRet_ok (eOp_ok (aC_ok h3 aN_ok) a3)))
      · rw [decide_eq_false hcm] at h5 ⊢
        rw [Bool.false_and]
        exact sSeq_rt (sIf_t (aT_t (bT_ok (eBin_ok (eVar_ok rfl) (eLst_ok aN_ok) h6)) (bT_ok (eBin_ok hc (eVar_ok rfl) h5))) (sSeq_rt (sRet_ok eC_ok)))
theorem c_part1_any {ds : List D} (h : Safe (.list ds)) (s : STO) : c_is_parting_1 [some (.list ds), none, none, none] s = some (.list (ds.map fun g => PyData.bool (grpD (ds.length + 1) g)), s) := by
  have hl := h.len
  unfold c_is_parting_1
  refine eComp_map ds id (fun g => [(1, g)]) _ (by rw [List.map_id]; exact iVal_l (eVar_ok rfl)) (by omega) (fun _ _ => rfl) fun g hg => ?_
  exact eCall_ok (aApp_ok (aC_ok (eBin_ok (eOp_ok (aC_ok (eVar_ok rfl) aN_ok) rfl) eC_ok rfl) (aC_ok (eVar_ok rfl) aN_ok)) aN_ok) (is_group_any (ds.length + 1) (h.mem g hg) s)
/-- is_parting of any datum -/
theorem is_parting_any {d : D} (h : Safe d ∨ d = .dict []) (s : STO) : F_is_parting [d] s = some (.bool (judge d), s) := by
  have hmk : isMk d = false := by
    rcases h with h | h
    · exact h.nomk
    · subst h; rfl
  have e1 := dIsi_eq (T := "list") hmk
  by_cases hd : ∃ ds, d = .list ds
  · obtain ⟨ds, rfl⟩ := hd
    have h := h.resolve_right (fun z => nomatch z)
    have h4 : dGe (.int ds.length) (.int 20) = some (.bool (decide (20 ≤ (ds.length : Int)))) := rfl
    by_cases hl : ds.length < 20
    · rw [decide_eq_false (by omega)] at h4
      have a1 := cAll_map (grpD (ds.length + 1)) ds
      have h1 := c_part1_any h s
      cases q : ds.all (grpD (ds.length + 1)) with
      | true =>
        obtain ⟨e2, e3⟩ := all_rows q
        have e4 : ds.length = (ds.map toRow).length := by rw [List.length_map]
        rw [e2]
        rw [e4] at e3 hl
        show F_is_parting [dL (ds.map toRow)] s = _
        rw [is_parting_rows hl (fun g hg => e3 g hg) s]
        have := judge_dL hl (fun g hg => e3 g hg)
        exact congrArg (fun b => some (PyData.bool b, s)) this.symm
      | false =>
        rw [q] at a1
        have ej : judge (.list ds) = false := by
          show (decide (ds.length < 20) && (ds.all (grpD (ds.length + 1)) && _)) = false
          rw [q]; simp
        rw [ej]
        refine fnD_rt (e1 := [.sh (.list ds), .no, .no, .no]) (s1 := s) ?_ (fin_self _ _)
        unfold b_is_parting
        refine sSeq_nx (sIf_f (oT_f (nT_ok (b := true) (bT_ok (eUn_ok (eVar_ok rfl) e1))) (bT_ok (eBin_ok (eOp_ok (aC_ok (eVar_ok rfl) aN_ok) rfl) eC_ok h4))) rfl) ?_
        exact sSeq_rt (sIf_t (nT_ok (b := false) (bT_ok (eOp_ok (aC_ok h1 aN_ok) a1))) (sSeq_rt (sRet_ok eC_ok)))
    · rw [decide_eq_true (by omega)] at h4
      have ej : judge (.list ds) = false := by
        show (decide (ds.length < 20) && _) = false
        rw [decide_eq_false hl]; rfl
      rw [ej]
      refine fnD_rt (e1 := [.sh (.list ds), .no, .no, .no]) (s1 := s) ?_ (fin_self _ _)
      unfold b_is_parting
      exact sSeq_rt (sIf_t (oT_f (nT_ok (b := true) (bT_ok (eUn_ok (eVar_ok rfl) e1))) (bT_ok (eBin_ok (eOp_ok (aC_ok (eVar_ok rfl) aN_ok) rfl) eC_ok h4))) (sSeq_rt (sRet_ok eC_ok)))
  · have er : judge d = false := by
      cases d <;> first | rfl | exact absurd ⟨_, rfl⟩ hd
    have et : isiB "list" (typD d) = false := by
      cases d <;> first | rfl | exact absurd ⟨_, rfl⟩ hd
    rw [er]
    rw [et] at e1
    refine fnD_rt (e1 := [.sh d, .no, .no, .no]) (s1 := s) ?_ (fin_self _ _)
    unfold b_is_parting
    exact sSeq_rt (sIf_t (oT_t (nT_ok (b := false) (bT_ok (eUn_ok (eVar_ok rfl) e1)))) (sSeq_rt (sRet_ok eC_ok)))
end K01
namespace K01
open PySem PySem.Spec PyProof.Rows L2 J
theorem cut_upto {α : Type} (l : List α) (n : Nat) (h : n ≤ l.length) : cutL l none (some (n : Int)) = l.take n := by
  unfold cutL
  rw [show HT.sIx l.length l.length (some (n : Int)) = min n l.length from HT.sIx_nat l.length _ n, HT.sIx_none]
  rw [show min n l.length = n by omega]
  rfl
theorem cut_from {α : Type} (l : List α) (n : Nat) (h : n ≤ l.length) : cutL l (some (n : Int)) none = l.drop n := by
  unfold cutL
  rw [show HT.sIx l.length 0 (some (n : Int)) = min n l.length from HT.sIx_nat l.length 0 n, HT.sIx_none]
  rw [show min n l.length = n by omega]
  rw [show l.length - n = (l.drop n).length by rw [List.length_drop], List.take_length]
theorem eSl_ok {f : Ev} {lo hi : VW → STO → Option (Option Int × STO)} {vw : VW} {s s1 s2 s3 : STO} {d1 d : D} {o1 o2 : Option Int} (h1 : f vw s = some (d1, s1)) (h2 : lo vw s1 = some (o1, s2)) (h3 : hi vw s2 = some (o2, s3)) (h4 : dSl d1 o1 o2 = some d) : eSl f lo hi vw s = some (d, s3) := by
  unfold eSl
  rw [h1, Option.bind_some, h2, Option.bind_some, h3, Option.bind_some, h4]
  rfl
theorem oS_ok {f : Ev} {vw : VW} {s s1 : STO} {i : Int} (h : f vw s = some (.int i, s1)) : oS f vw s = some (some i, s1) := by
  unfold oS
  rw [h]
  rfl
theorem oN_ok {vw : VW} {s : STO} : oN vw s = some (none, s) := rfl
theorem cross_eq (g h : List Int) (hl : g.length < 64) (s : STO) : F__law_cross [dI g, dI h] s = some (.bool (crossB g h), s) := by
  obtain ⟨b, eb⟩ : ∃ b, b = g.filter fun x => decide (x ∈ h) := ⟨_, rfl⟩
  have h1 : c__law_cross_1 (see [] [.sh (dI g), .sh (dI h), .no, .no]) s = some (dI b, s) := by
    unfold c__law_cross_1
    have := eComp_pure (fi := iVal (eVar 0)) (bd := bN 3) (fc := bT (eBin dIn (eVar 3) (eVar 1))) (fe := eVar 3) (own := [3]) (vw := see [] [.sh (dI g), .sh (dI h), .no, .no]) (s := s) g PyData.int (fun x => [(3, .int x)]) (fun x => decide (x ∈ h)) (fun x => .int x) (iVal_l (eVar_ok rfl)) (by omega) (fun _ _ => rfl)
      (fun x _ => bT_ok (eBin_ok (eVar_ok rfl) (eVar_ok rfl) (dIn_int x h))) (fun x _ _ => eVar_ok rfl)
    rw [this, eb]
  refine fnD_rt (e1 := [.sh (dI g), .sh (dI h), .sh (dI b), .no]) (s1 := s) ?_ (fin_self _ _)
  unfold b__law_cross
  refine sSeq_nx (sSet_ok h1) (sSeq_rt (sRet_ok ?_))
  have hv : ∀ (i : Nat) (l : List Int), [some (dI g), some (dI h), some (dI b), none][i]? = some (some (dI l)) → eOp cLen (aC (eVar i) aN) [some (dI g), some (dI h), some (dI b), none] s = some (.int l.length, s) := fun i l hi =>
    eOp_ok (aC_ok (eVar_ok hi) aN_ok) (by show some (PyData.int ((l.map PyData.int).length : Nat)) = _; rw [List.length_map])
  show eChain dLt dLt (eC (.int 0)) (eOp cLen (aC (eVar 2) aN)) (eOp cMin (aC (eOp cLen (aC (eVar 0) aN)) (aC (eOp cLen (aC (eVar 1) aN)) aN))) [some (dI g), some (dI h), some (dI b), none] s = _
  have hmin : eOp cMin (aC (eOp cLen (aC (eVar 0) aN)) (aC (eOp cLen (aC (eVar 1) aN)) aN)) [some (dI g), some (dI h), some (dI b), none] s = some (.int ((min g.length h.length : Nat) : Int), s) :=
    eOp_ok (aC_ok (hv 0 g rfl) (aC_ok (hv 1 h rfl) aN_ok)) (by
      show some (PyData.int (if (h.length : Int) < (g.length : Int) then (h.length : Int) else (g.length : Int))) = _
      congr 2
      split <;> omega)
  unfold eChain
  rw [show eC (.int 0) [some (dI g), some (dI h), some (dI b), none] s = some (.int 0, s) from rfl, Option.bind_some, hv 2 b rfl, Option.bind_some]
  show ((some (PyData.bool (decide ((0 : Int) < (b.length : Int))))).bind _) = _
  rw [Option.bind_some]
  unfold crossB
  rw [← eb]
  have c1 : decide ((0 : Int) < (b.length : Int)) = decide (0 < b.length) := decide_eq_decide.mpr (by omega)
  rw [c1]
  cases decide (0 < b.length) with
  | true =>
    simp only
    rw [hmin, Option.bind_some]
    show some (PyData.bool (decide ((b.length : Int) < ((min g.length h.length : Nat) : Int))), s) = _
    rw [Bool.true_and]
    congr 3
    exact decide_eq_decide.mpr (by omega)
  | false => rfl
theorem not_int_lay {d : D} (h : isMk d = false) : ((isiB "bool" (typD d)) || !(isiB "int" (typD d))) = !(isI d) := by
  cases d <;> rfl
theorem c_is_lot {es : List D} (h : Safe (.list es)) (m : Int) (s : STO) : c__law_is_lot_1 (see [] [.sh (.int m), .sh (.list es), .no]) s = some (.list (es.filter fun d => !isI d), s) := by
  have hl := h.len
  unfold c__law_is_lot_1
  have := eComp_pure (fi := iVal (eVar 1)) (bd := bN 2) (fc := oT (bT (eUn (dIsi "bool") (eVar 2))) (nT (bT (eUn (dIsi "int") (eVar 2))))) (fe := eVar 2) (own := [2]) (vw := see [] [.sh (.int m), .sh (.list es), .no]) (s := s) es id (fun x => [(2, x)]) (fun x => !isI x) (fun x => x) (by rw [List.map_id]; exact iVal_l (eVar_ok rfl)) (by omega) (fun _ _ => rfl)
    (fun x hx => by
      have hk := (h.mem x hx).nomk
      have e1 := dIsi_eq (T := "bool") hk
      have e2 := dIsi_eq (T := "int") hk
      have e3 := not_int_lay hk
      rw [← e3]
      cases q : isiB "bool" (typD x) with
      | true =>
        rw [q] at e1
        rw [Bool.true_or]
        exact oT_t (bT_ok (eUn_ok (eVar_ok rfl) e1))
      | false =>
        rw [q] at e1
        rw [Bool.false_or]
        exact oT_f (bT_ok (eUn_ok (eVar_ok rfl) e1)) (nT_ok (bT_ok (eUn_ok (eVar_ok rfl) e2)))) (fun x _ _ => eVar_ok rfl)
  rw [this, List.map_id']
theorem dSortSet_dI {l : List Int} (h : l.length < 64) : dSortSet (dI l) = some (dI (setI l)) := by
  show (isIntsD (l.map PyData.int)).bind _ = _
  rw [isIntsD_map, Option.bind_some, if_pos h]
theorem dEq_dI (a b : List Int) : dEq (dI a) (dI b) = some (.bool (decide (a = b))) := by
  show (if SeqAt.shaped (dI a) = true ∧ SeqAt.shaped (dI b) = true then some (PyData.bool (PyData.eqv (dI a) (dI b))) else none) = _
  rw [if_pos ⟨shaped_dI a, shaped_dI b⟩, eqv_dI]
theorem atI_last {l : List Int} {z : Int} (h : l.getLast? = some z) : atI (l.map PyData.int) (-1) = some (.int z) := by
  have hne : l ≠ [] := fun e => by rw [e] at h; cases h
  have hp := List.length_pos_iff.mpr hne
  unfold atI ixN
  rw [if_neg (by omega), List.length_map, if_pos (by omega), Option.bind_some, List.getElem?_map]
  have : ((-1 : Int) + (l.length : Nat)).toNat = l.length - 1 := by omega
  rw [this, ← List.getLast?_eq_getElem?, h]
  rfl
/-- the law's own judge of lots -/
theorem is_lot_any (m : Int) {d : D} (h : Safe d) (s : STO) : F__law_is_lot [.int m, d] s = some (.bool (grpD m d), s) := by
  have e1 := dIsi_eq (T := "list") h.nomk
  refine fnD_rt (e1 := [.sh (.int m), .sh d, .no]) (s1 := s) ?_ (fin_self _ _)
  unfold b__law_is_lot
  by_cases hd : ∃ es, d = .list es
  · obtain ⟨es, rfl⟩ := hd
    have hl := h.len
    have h4 : dLt (.int es.length) (.int 2) = some (.bool (decide ((es.length : Int) < 2))) := rfl
    by_cases h2 : es.length < 2
    · rw [decide_eq_true (by omega)] at h4
      have eg : grpD m (.list es) = false := by
        unfold grpD
        rw [show lenD (.list es) = es.length from rfl, decide_eq_false (by omega), Bool.and_false]
      rw [eg]
      exact sSeq_rt (sIf_t (oT_f (nT_ok (b := true) (bT_ok (eUn_ok (eVar_ok rfl) e1))) (bT_ok (eBin_ok (eOp_ok (aC_ok (eVar_ok rfl) aN_ok) rfl) eC_ok h4))) (sSeq_rt (sRet_ok eC_ok)))
    · rw [decide_eq_false (by omega)] at h4
      refine sSeq_nx (sIf_f (oT_f (nT_ok (b := true) (bT_ok (eUn_ok (eVar_ok rfl) e1))) (bT_ok (eBin_ok (eOp_ok (aC_ok (eVar_ok rfl) aN_ok) rfl) eC_ok h4))) rfl) ?_
      have hc := c_is_lot h m s
      have hn := dNe_nil0 (h.sub (es := es.filter fun d => !isI d) (fun d hd => (List.mem_filter.mp hd).1) (List.length_filter_le _ _))
      cases q : es.all isI with
      | false =>
        have : (es.filter fun d => !isI d).isEmpty = false := by
          cases z : (es.filter fun d => !isI d) with
          | cons _ _ => rfl
          | nil =>
            have := List.filter_eq_nil_iff.mp z
            rw [List.all_eq_true.mpr fun d hd => by simpa using this d hd] at q
            cases q
        rw [this] at hn
        have eg : grpD m (.list es) = false := by
          unfold grpD rowD
          simp only
          have := isIntsD_iff es
          rw [q] at this
          cases z : isIntsD es with
          | none => rfl
          | some l => rw [z] at this; cases this
        rw [eg]
        exact sSeq_rt (sIf_t (bT_ok (eBin_ok hc (eLst_ok aN_ok) hn)) (sSeq_rt (sRet_ok eC_ok)))
      | true =>
        have : (es.filter fun d => !isI d) = [] := List.filter_eq_nil_iff.mpr fun d hd => by simp [List.all_eq_true.mp q d hd]
        rw [this] at hc hn
        refine sSeq_nx (sIf_f (bT_ok (eBin_ok hc (eLst_ok aN_ok) hn)) rfl) (sSeq_rt (sRet_ok ?_))
        have hs := isIntsD_iff es
        rw [q] at hs
        obtain ⟨l, el⟩ := Option.isSome_iff_exists.mp hs
        have := isIntsD_some el
        subst this
        rw [List.length_map] at h2 hl
        rw [show PyData.list (l.map PyData.int) = dI l from rfl, grpD_dI, decide_eq_true (show 1 < l.length by omega), Bool.and_true]
        have ee := dEq_dI l (setI l)
        match l, h2 with
        | a :: r, h2 =>
          obtain ⟨z, ez⟩ : ∃ z, (a :: r).getLast? = some z := ⟨_, List.getLast?_eq_some_getLast (by simp)⟩
          by_cases ha : (a :: r).Pairwise (· < ·)
          · rw [decide_eq_true (setI_asc.mpr ha).symm] at ee
            have er : rowB m (a :: r) = (decide (0 ≤ a) && decide (z < m)) := by
              have := asc_ends (m := m) ha ez
              cases q2 : rowB m (a :: r) with
              | true =>
                obtain ⟨g1, g2⟩ := this.mp (rowB_iff.mp q2).1
                rw [decide_eq_true g1, decide_eq_true g2]; rfl
              | false =>
                cases q3 : (decide (0 ≤ a) && decide (z < m)) with
                | false => rfl
                | true =>
                  rw [Bool.and_eq_true, decide_eq_true_eq, decide_eq_true_eq] at q3
                  rw [rowB_iff.mpr ⟨this.mpr q3, ha⟩] at q2
                  cases q2
            rw [er]
            refine eAnd_t (eBin_ok (eVar_ok rfl) (eUn_ok (eVar_ok rfl) (dSortSet_dI hl)) ee) ?_
            have h0 : eBin dLe (eC (.int 0)) (eIdx (eVar 1) (eC (.int 0))) (see [] [.sh (.int m), .sh (dI (a :: r)), .no]) s = some (.bool (decide (0 ≤ a)), s) := eBin_ok eC_ok (eIdx_ok (eVar_ok rfl) eC_ok (d := .int a) (atI_nat (n := 0) rfl rfl)) rfl
            cases q5 : decide (0 ≤ a) with
            | false =>
              rw [q5] at h0
              exact eAnd_f h0
            | true =>
              rw [q5] at h0
              exact eAnd_t h0 (eBin_ok (eIdx_ok (eVar_ok rfl) (eUn_ok eC_ok rfl) (atI_last ez)) (eVar_ok rfl) rfl)
          · rw [decide_eq_false (fun e => ha (setI_asc.mp e.symm))] at ee
            have er : rowB m (a :: r) = false := by
              cases q2 : rowB m (a :: r) with
              | false => rfl
              | true => exact absurd (rowB_iff.mp q2).2 ha
            rw [er]
            exact eAnd_f (eBin_ok (eVar_ok rfl) (eUn_ok (eVar_ok rfl) (dSortSet_dI hl)) ee)
        | [], h2 => exact absurd (Nat.zero_lt_two) h2
  · have er : grpD m d = false := by
      cases d <;> first | rfl | exact absurd ⟨_, rfl⟩ hd
    have et : isiB "list" (typD d) = false := by
      cases d <;> first | rfl | exact absurd ⟨_, rfl⟩ hd
    rw [er]
    rw [et] at e1
    exact sSeq_rt (sIf_t (oT_t (nT_ok (b := false) (bT_ok (eUn_ok (eVar_ok rfl) e1)))) (sSeq_rt (sRet_ok eC_ok)))
end K01
namespace K01
open PySem PySem.Spec PyProof.Rows L2 J
theorem c_nest1 {ds : List D} (h : Safe (.list ds)) (s : STO) : c__law_is_nest_1 (see [] [.sh (.list ds), .no, .no, .no]) s = some (.list (ds.filter fun d => !grpD (ds.length + 1) d), s) := by
  have hl := h.len
  unfold c__law_is_nest_1
  have := eComp_pure (fi := iVal (eVar 0)) (bd := bN 2) (fc := nT (bT (eCall F__law_is_lot [0, 1] (aApp (aC (eBin dAdd (eOp cLen (aC (eVar 0) aN)) (eC (.int 1))) (aC (eVar 2) aN)) aN)))) (fe := eVar 2) (own := [2]) (vw := see [] [.sh (.list ds), .no, .no, .no]) (s := s) ds id (fun x => [(2, x)]) (fun x => !grpD (ds.length + 1) x) (fun x => x) (by rw [List.map_id]; exact iVal_l (eVar_ok rfl)) (by omega) (fun _ _ => rfl)
    (fun x hx => nT_ok (bT_ok (eCall_ok (aApp_ok (aC_ok (eBin_ok (eOp_ok (aC_ok (eVar_ok rfl) aN_ok) rfl) eC_ok rfl) (aC_ok (eVar_ok rfl) aN_ok)) aN_ok) (is_lot_any (ds.length + 1) (h.mem x hx) s)))) (fun x _ _ => eVar_ok rfl)
  rw [this, List.map_id']
/-- lots ahead of place i that are the one there, or cross it -/
def badB (ls : List (List Int)) (i : Nat) (r : List Int) : Bool := decide (r = ls.getD i []) || crossB r (ls.getD i [])
theorem c_nest2 {ls : List (List Int)} (hl : ls.length < 64) (hg : ∀ g ∈ ls, g.length < 64) {i : Nat} (hi : i < ls.length) (s : STO) : c__law_is_nest_2 (see [] [.sh (dL ls), .sh (.int i), .no, .no]) s = some (dL ((ls.take i).filter (badB ls i)), s) := by
  have hidx : ∀ (vw : VW), vw[0]? = some (some (dL ls)) → vw[1]? = some (some (.int i)) → eIdx (eVar 0) (eVar 1) vw s = some (dI (ls.getD i []), s) := fun vw h0 h1 => eIdx_ok (eVar_ok h0) (eVar_ok h1) (atI_nat (n := i) rfl (by
    rw [List.getElem?_map, List.getElem?_eq_getElem hi, List.getD_eq_getElem?_getD, List.getElem?_eq_getElem hi]; rfl))
  unfold c__law_is_nest_2
  have hsl : iVal (eSl (eVar 0) oN (oS (eVar 1))) (see [] [.sh (dL ls), .sh (.int i), .no, .no]) s = some ((ls.take i).map dI, s) := by
    refine iVal_l (eSl_ok (eVar_ok rfl) oN_ok (oS_ok (eVar_ok rfl)) ?_)
    show some (PyData.list (cutL (ls.map dI) none (some (i : Int)))) = _
    rw [cut_upto _ _ (by rw [List.length_map]; omega), ← List.map_take]
  have := eComp_pure (fi := iVal (eSl (eVar 0) oN (oS (eVar 1)))) (bd := bN 3) (fc := oT (bT (eBin dEq (eVar 3) (eIdx (eVar 0) (eVar 1)))) (bT (eCall F__law_cross [0, 1] (aApp (aC (eVar 3) (aC (eIdx (eVar 0) (eVar 1)) aN)) aN)))) (fe := eVar 3) (own := [3]) (vw := see [] [.sh (dL ls), .sh (.int i), .no, .no]) (s := s) (ls.take i) dI (fun r => [(3, dI r)]) (badB ls i) dI hsl (by rw [List.length_take]; omega) (fun _ _ => rfl)
    (fun r hr => by
      have h1 := dEq_dI r (ls.getD i [])
      have h2 := cross_eq r (ls.getD i []) (hg r (List.mem_of_mem_take hr)) s
      unfold badB
      cases q : decide (r = ls.getD i []) with
      | true =>
        rw [q] at h1
        rw [Bool.true_or]
        exact oT_t (bT_ok (eBin_ok (eVar_ok rfl) (hidx _ rfl rfl) h1))
      | false =>
        rw [q] at h1
        rw [Bool.false_or]
        exact oT_f (bT_ok (eBin_ok (eVar_ok rfl) (hidx _ rfl rfl) h1)) (bT_ok (eCall_ok (aApp_ok (aC_ok (eVar_ok rfl) (aC_ok (hidx _ rfl rfl) aN_ok)) aN_ok) h2))) (fun x _ _ => eVar_ok rfl)
  rw [this]
theorem nest_loop2 {ls : List (List Int)} (hl : ls.length < 64) (hg : ∀ g ∈ ls, g.length < 64) (s : STO) : ∀ (k j : Nat) (x : Slot), j + k = ls.length →
    ∃ e, forL (bN 1) l__law_is_nest_1 ((List.range' j k).map fun i : Nat => PyData.int i) [.sh (dL ls), x, .no, .no] s = some ((if (List.range' j k).all (fun i => (ls.take i).all fun r => !badB ls i r) then Out.nx else .rt (.bool false)), e, s) ∧ ((List.range' j k).all (fun i => (ls.take i).all fun r => !badB ls i r) = true → ∃ y, e = [.sh (dL ls), y, .no, .no])
  | 0, j, x, _ => ⟨[.sh (dL ls), x, .no, .no], rfl, fun _ => ⟨x, rfl⟩⟩
  | k + 1, j, x, hj => by
    have hc := c_nest2 hl hg (i := j) (by omega) s
    have hn := dNe_nil (es := ((ls.take j).filter (badB ls j)).map dI) (shaped_dL _)
    rw [List.range'_succ, List.map_cons, forL]
    simp only [bN, Option.bind_some]
    rw [if_pos ⟨by rfl, by rfl⟩]
    show ∃ e, ((l__law_is_nest_1 [.sh (dL ls), .sh (.int j), .no, .no] s).bind _) = _ ∧ _
    rw [List.all_cons]
    cases q : (ls.take j).all fun r => !badB ls j r with
    | true =>
      have : (ls.take j).filter (badB ls j) = [] := List.filter_eq_nil_iff.mpr fun r hr => by have := List.all_eq_true.mp q r hr; simpa using this
      rw [this] at hc hn
      have ht : l__law_is_nest_1 [.sh (dL ls), .sh (.int j), .no, .no] s = some (.nx, [.sh (dL ls), .sh (.int j), .no, .no], s) := by
        unfold l__law_is_nest_1
        exact sSeq_nx (sIf_f (bT_ok (eBin_ok hc (eLst_ok aN_ok) hn)) rfl) rfl
      rw [ht]
      simp only [Option.bind_some]
      rw [Bool.true_and]
      exact nest_loop2 hl hg s k (j + 1) (.sh (.int j)) (by omega)
    | false =>
      have : (((ls.take j).filter (badB ls j)).map dI).isEmpty = false := by
        cases z : (ls.take j).filter (badB ls j) with
        | cons _ _ => rfl
        | nil =>
          have := List.filter_eq_nil_iff.mp z
          rw [List.all_eq_true.mpr fun r hr => by simpa using this r hr] at q
          cases q
      rw [this] at hn
      have ht : l__law_is_nest_1 [.sh (dL ls), .sh (.int j), .no, .no] s = some (.rt (.bool false), [.sh (dL ls), .sh (.int j), .no, .no], s) := by
        unfold l__law_is_nest_1
        exact sSeq_rt (sIf_t (bT_ok (eBin_ok hc (eLst_ok aN_ok) hn)) (sSeq_rt (sRet_ok eC_ok)))
      rw [ht]
      simp only [Option.bind_some]
      rw [Bool.false_and]
      exact ⟨_, rfl, fun z => nomatch z⟩
/-- the law's own judge of partings -/
theorem is_nest_any {d : D} (h : Safe d ∨ d = .dict []) (s : STO) : F__law_is_nest [d] s = some (.bool (judge d), s) := by
  have hmk : isMk d = false := by
    rcases h with h | h
    · exact h.nomk
    · subst h; rfl
  have e1 := dIsi_eq (T := "list") hmk
  by_cases hd : ∃ ds, d = .list ds
  · obtain ⟨ds, rfl⟩ := hd
    have h := h.resolve_right (fun z => nomatch z)
    have h4 : dGt (.int ds.length) (.int 19) = some (.bool (decide ((19 : Int) < (ds.length : Int)))) := rfl
    by_cases hl : ds.length < 20
    · rw [decide_eq_false (by omega)] at h4
      have hc := c_nest1 h s
      have hn := dNe_nil0 (h.sub (es := ds.filter fun d => !grpD (ds.length + 1) d) (fun d hd => (List.mem_filter.mp hd).1) (List.length_filter_le _ _))
      cases q : ds.all (grpD (ds.length + 1)) with
      | true =>
        have hz : (ds.filter fun d => !grpD (ds.length + 1) d) = [] := List.filter_eq_nil_iff.mpr fun d hd => by simp [List.all_eq_true.mp q d hd]
        rw [hz] at hc hn
        obtain ⟨e2, e3⟩ := all_rows q
        have e4 : ds.length = (ds.map toRow).length := by rw [List.length_map]
        rw [e4] at e3 hl
        have e5 : judge (.list ds) = partB (ds.map toRow) := by
          have := judge_dL hl (fun g hg => e3 g hg)
          rw [← this]
          exact congrArg (fun x => judge (.list x)) e2
        obtain ⟨ls, els⟩ : ∃ ls, ls = ds.map toRow := ⟨_, rfl⟩
        rw [← els] at e2 e3 e5 hl
        rw [e5]
        subst e2
        clear els e4
        have hg : ∀ g ∈ ls, g.length < 64 := fun g hg => by
          have := row_len (m := ls.length + 1) (e3 g hg).1
          omega
        have hnp := (nest_part e3 hl).1
        rw [← hnp]
        have h6 := dNe_dL ls (sR ls)
        have h7 : eUn dSort (eVar 0) (see [] [.sh (dL ls), .no, .no, .no]) s = some (dL (sR ls), s) := eUn_ok (eVar_ok rfl) (dSort_dL (by omega))
        have r1 : nestB ls = (decide (sR ls = ls) && (List.range' 0 ls.length).all fun i => (ls.take i).all fun r => !badB ls i r) := by
          unfold nestB badB
          rw [List.range_eq_range']
        rw [r1]
        by_cases hs : sR ls = ls
        · rw [decide_eq_true hs.symm] at h6
          rw [decide_eq_true hs, Bool.true_and]
          obtain ⟨e, g1, g2⟩ := nest_loop2 (ls := ls) (by omega) hg s ls.length 0 .no (by omega)
          have hr : (List.range' 0 ls.length).map (fun i : Nat => PyData.int i) = (comp ls.length).map PyData.int := by
            unfold comp
            rw [List.map_map, List.range_eq_range']
            rfl
          rw [hr] at g1
          have hfor : sFor0 [] (iU rg1 (eOp cLen (aC (eVar 0) aN))) (bN 1) l__law_is_nest_1 [.sh (dL ls), .no, .no, .no] s = _ := sFor0_ok (ds := (comp ls.length).map PyData.int) (s1 := s) (iU_ok (d := .int ls.length) (eOp_ok (aC_ok (eVar_ok rfl) aN_ok) (by show some (PyData.int ((ls.map dI).length : Nat)) = _; rw [List.length_map])) (rg1_ok (by omega))) g1
          cases q2 : (List.range' 0 ls.length).all fun i => (ls.take i).all fun r => !badB ls i r with
          | true =>
            rw [q2] at hfor
            obtain ⟨y, rfl⟩ := g2 q2
            refine fnD_rt (e1 := [.sh (dL ls), y, .no, .no]) (s1 := s) ?_ (fin_self _ _)
            unfold b__law_is_nest
            refine sSeq_nx (sIf_f (oT_f (nT_ok (b := true) (bT_ok (eUn_ok (eVar_ok rfl) e1))) (bT_ok (eBin_ok (eOp_ok (aC_ok (eVar_ok rfl) aN_ok) rfl) eC_ok h4))) rfl) ?_
            refine sSeq_nx (sIf_f (oT_f (bT_ok (eBin_ok hc (eLst_ok aN_ok) hn)) (bT_ok (eBin_ok (eVar_ok rfl) h7 h6))) rfl) ?_
            exact sSeq_nx hfor (sSeq_rt (sRet_ok eC_ok))
          | false =>
            rw [q2] at hfor
            refine fnD_rt (e1 := e) (s1 := s) ?_ (fin_self _ _)
            unfold b__law_is_nest
            refine sSeq_nx (sIf_f (oT_f (nT_ok (b := true) (bT_ok (eUn_ok (eVar_ok rfl) e1))) (bT_ok (eBin_ok (eOp_ok (aC_ok (eVar_ok rfl) aN_ok) rfl) eC_ok h4))) rfl) ?_
            refine sSeq_nx (sIf_f (oT_f (bT_ok (eBin_ok hc (eLst_ok aN_ok) hn)) (bT_ok (eBin_ok (eVar_ok rfl) h7 h6))) rfl) ?_
            exact sSeq_rt hfor
        · rw [decide_eq_false (fun e => hs e.symm)] at h6
          rw [decide_eq_false hs, Bool.false_and]
          refine fnD_rt (e1 := [.sh (dL ls), .no, .no, .no]) (s1 := s) ?_ (fin_self _ _)
          unfold b__law_is_nest
          refine sSeq_nx (sIf_f (oT_f (nT_ok (b := true) (bT_ok (eUn_ok (eVar_ok rfl) e1))) (bT_ok (eBin_ok (eOp_ok (aC_ok (eVar_ok rfl) aN_ok) rfl) eC_ok h4))) rfl) ?_
          exact sSeq_rt (sIf_t (oT_f (bT_ok (eBin_ok hc (eLst_ok aN_ok) hn)) (bT_ok (eBin_ok (eVar_ok rfl) h7 h6))) (sSeq_rt (sRet_ok eC_ok)))
      | false =>
        have ej : judge (.list ds) = false := by
          show (decide (ds.length < 20) && (ds.all (grpD (ds.length + 1)) && _)) = false
          rw [q]; simp
        rw [ej]
        have : (ds.filter fun d => !grpD (ds.length + 1) d).isEmpty = false := by
          cases z : (ds.filter fun d => !grpD (ds.length + 1) d) with
          | cons _ _ => rfl
          | nil =>
            have := List.filter_eq_nil_iff.mp z
            rw [List.all_eq_true.mpr fun d hd => by simpa using this d hd] at q
            cases q
        rw [this] at hn
        refine fnD_rt (e1 := [.sh (.list ds), .no, .no, .no]) (s1 := s) ?_ (fin_self _ _)
        unfold b__law_is_nest
        refine sSeq_nx (sIf_f (oT_f (nT_ok (b := true) (bT_ok (eUn_ok (eVar_ok rfl) e1))) (bT_ok (eBin_ok (eOp_ok (aC_ok (eVar_ok rfl) aN_ok) rfl) eC_ok h4))) rfl) ?_
        exact sSeq_rt (sIf_t (oT_t (bT_ok (eBin_ok hc (eLst_ok aN_ok) hn))) (sSeq_rt (sRet_ok eC_ok)))
    · rw [decide_eq_true (by omega)] at h4
      have ej : judge (.list ds) = false := by
        show (decide (ds.length < 20) && _) = false
        rw [decide_eq_false hl]; rfl
      rw [ej]
      refine fnD_rt (e1 := [.sh (.list ds), .no, .no, .no]) (s1 := s) ?_ (fin_self _ _)
      unfold b__law_is_nest
      exact sSeq_rt (sIf_t (oT_f (nT_ok (b := true) (bT_ok (eUn_ok (eVar_ok rfl) e1))) (bT_ok (eBin_ok (eOp_ok (aC_ok (eVar_ok rfl) aN_ok) rfl) eC_ok h4))) (sSeq_rt (sRet_ok eC_ok)))
  · have er : judge d = false := by
      cases d <;> first | rfl | exact absurd ⟨_, rfl⟩ hd
    have et : isiB "list" (typD d) = false := by
      cases d <;> first | rfl | exact absurd ⟨_, rfl⟩ hd
    rw [er]
    rw [et] at e1
    refine fnD_rt (e1 := [.sh d, .no, .no, .no]) (s1 := s) ?_ (fin_self _ _)
    unfold b__law_is_nest
    exact sSeq_rt (sIf_t (oT_t (nT_ok (b := false) (bT_ok (eUn_ok (eVar_ok rfl) e1)))) (sSeq_rt (sRet_ok eC_ok)))
end K01
namespace K01
open PySem PySem.Spec PyProof.Rows L2 J
/-- a comprehension whose steps change what stands in the cells -/
theorem compL_rel {bd : Bd} {fc : EvT} {fe : Ev} {own : List Nat} {vw : VW} (I : Nat → STO → Prop) (R : D → Prop) : ∀ (l : List D) (n : Nat) (s : STO), I n s →
    (∀ i d s, l[i]? = some d → I (n + i) s → ∃ b t s1, bd d = some b ∧ fc (setV (wipeV vw own) b) s = some (t, s1) ∧ (t = true → ∃ d' s2, fe (setV (wipeV vw own) b) s1 = some (d', s2) ∧ R d' ∧ I (n + i + 1) s2) ∧ (t = false → I (n + i + 1) s1)) →
    ∃ res s', compL bd fc fe own vw l s = some (res, s') ∧ (∀ x ∈ res, R x) ∧ res.length ≤ l.length ∧ I (n + l.length) s'
  | [], n, s, h, _ => ⟨[], s, rfl, (fun _ z => nomatch z), Nat.le_refl _, h⟩
  | d :: r, n, s, h, step => by
    obtain ⟨b, t, s1, h1, h2, h3, h4⟩ := step 0 d s rfl h
    have nx : ∀ s2, I (n + 1) s2 → ∃ res s', compL bd fc fe own vw r s2 = some (res, s') ∧ (∀ x ∈ res, R x) ∧ res.length ≤ r.length ∧ I (n + 1 + r.length) s' := fun s2 hs => compL_rel I R r (n + 1) s2 hs fun i d' s' hd hI => by
      have := step (i + 1) d' s' (by simpa using hd) (by rw [show n + (i + 1) = n + 1 + i by omega]; exact hI)
      rw [show n + (i + 1) + 1 = n + 1 + i + 1 by omega] at this
      exact this
    rw [show n + (d :: r).length = n + 1 + r.length by rw [List.length_cons]; omega]
    rw [compL, h1, Option.bind_some, h2, Option.bind_some]
    cases t with
    | true =>
      obtain ⟨d', s2, g1, g2, g3⟩ := h3 rfl
      obtain ⟨res, s', k1, k2, k3, k4⟩ := nx s2 g3
      rw [if_pos rfl, g1, Option.bind_some, k1]
      refine ⟨d' :: res, s', rfl, fun x hx => ?_, by simp; omega, k4⟩
      rcases List.mem_cons.mp hx with rfl | hx
      · exact g2
      · exact k2 x hx
    | false =>
      obtain ⟨res, s', k1, k2, k3, k4⟩ := nx s1 (h4 rfl)
      rw [if_neg Bool.false_ne_true, k1]
      exact ⟨res, s', rfl, k2, by simp; omega, k4⟩
theorem eComp_rel {fi : EvI} {bd : Bd} {fc : EvT} {fe : Ev} {own : List Nat} {vw : VW} {s s0 : STO} {l : List D} (I : Nat → STO → Prop) (R : D → Prop) (hi : fi vw s = some (l, s0)) (hl : l.length ≤ 16777216) (n : Nat) (h : I n s0)
    (step : ∀ i d s, l[i]? = some d → I (n + i) s → ∃ b t s1, bd d = some b ∧ fc (setV (wipeV vw own) b) s = some (t, s1) ∧ (t = true → ∃ d' s2, fe (setV (wipeV vw own) b) s1 = some (d', s2) ∧ R d' ∧ I (n + i + 1) s2) ∧ (t = false → I (n + i + 1) s1)) :
    ∃ res s', eComp fi bd fc fe own vw s = some (.list res, s') ∧ (∀ x ∈ res, R x) ∧ res.length ≤ l.length ∧ I (n + l.length) s' := by
  obtain ⟨res, s', h1, h2, h3, h4⟩ := compL_rel I R l n s0 h step
  refine ⟨res, s', ?_, h2, h3, h4⟩
  unfold eComp
  rw [hi, Option.bind_some]
  simp only
  rw [if_pos hl, h1]
  rfl
theorem ints_of {m : Int} : ∀ {res : List D}, (∀ x ∈ res, ∃ i : Int, x = .int i ∧ 0 ≤ i ∧ i < m) → ∃ l : List Int, PyData.list res = dI l ∧ res.length = l.length ∧ ∀ x ∈ l, 0 ≤ x ∧ x < m
  | [], _ => ⟨[], rfl, rfl, fun _ z => nomatch z⟩
  | d :: r, h => by
    obtain ⟨i, rfl, h1, h2⟩ := h d List.mem_cons_self
    obtain ⟨l, h3, h4, h5⟩ := ints_of (res := r) fun x hx => h x (List.mem_cons_of_mem _ hx)
    injection h3 with h3
    refine ⟨i :: l, by rw [h3]; rfl, by simp [h4], fun x hx => ?_⟩
    rcases List.mem_cons.mp hx with rfl | hx
    · exact ⟨h1, h2⟩
    · exact h5 x hx
theorem comp_get {n i : Nat} {d : D} (h : ((comp n).map PyData.int)[i]? = some d) : d = .int i ∧ i < n := by
  unfold comp at h
  rw [List.map_map, List.getElem?_map] at h
  cases e : (List.range n)[i]? with
  | none => rw [e] at h; cases h
  | some j =>
    rw [e] at h
    obtain ⟨h1, h2⟩ := List.getElem?_eq_some_iff.mp e
    rw [List.getElem_range] at h2
    subst h2
    rw [List.length_range] at h1
    cases h
    exact ⟨rfl, h1⟩
/-- cells that hold no token -/
def plainS (p : STO) : Prop := ∀ n, p.all (cellLt n) = true
theorem plainS_app {p q : STO} (h : plainS p) (h2 : plainS q) : plainS (p ++ q) := fun n => by rw [List.all_append, h n, h2 n]; rfl
theorem plainS_pch (a b c : Int) : plainS [pchC a b c] := fun n => rfl
theorem plainS_nil : plainS [] := fun n => rfl
theorem _root_.J.Good.plain {n : Nat} {p q s : STO} (h : Good n p q s) (hp : plainS p) (hq : plainS q) : plainS s := by
  obtain ⟨a, b, c, rfl, _⟩ := h
  intro n
  rw [List.all_append, List.all_cons, hp n, hq n]
  rfl
theorem tokLt_ints (n : Nat) : ∀ l : List Int, tokLtA n (l.map PyData.int) = true
  | [] => rfl
  | x :: r => by rw [List.map_cons, tokLtA, tokLt_ints n r]; rfl
theorem tokLt_dI (n : Nat) (l : List Int) : tokLt n (dI l) = true := by
  show tokLt n (.list (l.map PyData.int)) = true
  rw [tokLt]; exact tokLt_ints n l
/-- the cell behind all others -/
theorem _root_.J.Good.last {n : Nat} {p q s : STO} {c : Cell} (h : Good n p (q ++ [c]) s) : s[p.length + 1 + q.length]? = some c := by
  obtain ⟨a, b, d, rfl, _⟩ := h
  rw [List.getElem?_append_right (by omega), show p.length + 1 + q.length - p.length = q.length + 1 by omega, List.getElem?_cons_succ, List.getElem?_append_right (Nat.le_refl _), Nat.sub_self]
  rfl
theorem _root_.J.Good.setLast {n : Nat} {p q s : STO} {c e : Cell} (h : Good n p (q ++ [c]) s) : Good n p (q ++ [e]) (s.set (p.length + 1 + q.length) e) := by
  obtain ⟨a, b, d, rfl, h'⟩ := h
  refine ⟨a, b, d, ?_, h'⟩
  rw [List.set_append_right _ _ (by omega), show p.length + 1 + q.length - p.length = q.length + 1 by omega, List.set_cons_succ, List.set_append_right _ _ (Nat.le_refl _), Nat.sub_self]
  rfl
theorem _root_.J.Good.snoc {n : Nat} {p q s : STO} (h : Good n p q s) (c : Cell) : Good n p (q ++ [c]) (s ++ [c]) := by
  obtain ⟨a, b, d, rfl, h'⟩ := h
  exact ⟨a, b, d, by rw [List.append_assoc]; rfl, h'⟩
theorem _root_.J.Good.cut {n : Nat} {p q s : STO} {c : Cell} (h : Good n p (q ++ [c]) s) : Good n p q (s.take (p.length + 1 + q.length)) ∧ s.length = p.length + 1 + q.length + 1 := by
  obtain ⟨a, b, d, rfl, h'⟩ := h
  refine ⟨⟨a, b, d, ?_, h'⟩, by simp; omega⟩
  rw [show p ++ pchC a b d :: (q ++ [c]) = (p ++ pchC a b d :: q) ++ [c] by simp, List.take_append_of_le_length (by simp; omega), List.take_of_length_le (by simp; omega)]
theorem sNew_ok {i : Nat} {f : Ev} {env : J.Env} {s s1 : STO} {ds : List D} (h1 : f (see [] env) s = some (.list ds, s1)) (hi : decide (i < env.length) = true := by rfl) : sNew i f env s = some (.nx, env.set i (.sh (tokD s1.length)), s1 ++ [.lst ds]) := by
  unfold sNew
  refine sSeq_nx (sSet_ok h1 hi) ?_
  have hl : i < env.length := of_decide_eq_true hi
  unfold sCell
  rw [show (env.set i (mkS 1 (.list ds)))[i]? = some (.ow 1 (.list ds)) by rw [List.getElem?_set, if_pos rfl, if_pos hl]; rfl]
  simp only [List.set_set]
theorem pop_ok {f g : Ev} {vw : VW} {s s1 s2 : STO} {j m : Nat} {n : Int} {ds0 ds : List D} {d : D} (h1 : f vw s = some (tokD j, s1)) (h2 : cellL s1 j = some ds0) (h3 : g vw s1 = some (.int n, s2)) (h4 : cellL s2 j = some ds) (hl : ds.length ≤ 16777216) (h5 : ixN ds.length n = some m) (h6 : ds[m]? = some d) : ePopC f g vw s = some (d, s2.set j (.lst (ds.eraseIdx m))) := by
  unfold ePopC
  rw [h1, Option.bind_some, isTok_tok, Option.bind_some, h2, Option.bind_some, h3, Option.bind_some]
  simp only
  rw [h4, Option.bind_some, if_pos hl, h5, Option.bind_some, h6]
  rfl
theorem lenC_ok {f : Ev} {vw : VW} {s s1 : STO} {j : Nat} {ds : List D} (h1 : f vw s = some (tokD j, s1)) (h2 : cellL s1 j = some ds) : eLenC f vw s = some (.int ds.length, s1) := by
  unfold eLenC
  rw [h1, Option.bind_some, isTok_tok, Option.bind_some, h2]
  rfl
theorem _root_.J.Good.cellLast {n : Nat} {p q s : STO} {ds : List D} (h : Good n p (q ++ [.lst ds]) s) : cellL s (p.length + 1 + q.length) = some ds := by
  unfold cellL
  rw [h.last]
theorem map_erase {α β : Type} (f : α → β) : ∀ (l : List α) (k : Nat), (l.eraseIdx k).map f = (l.map f).eraseIdx k
  | [], _ => rfl
  | _ :: _, 0 => rfl
  | x :: r, k + 1 => congrArg (f x :: ·) (map_erase f r k)
/-- a drawn lot -/
theorem lot_eq {n many : Nat} {p q s : STO} (hg : Good n p q s) (hn : n < 2 ^ 40) (hm : 2 ≤ many ∧ many ≤ 25) (hp : plainS p) (hq : plainS q) :
    ∃ l s', F__law_lot [tokD p.length, .int many] s = some (dI l, s') ∧ l.length ≤ many ∧ (∀ x ∈ l, 0 ≤ x ∧ x < many) ∧ Good (n + many + 2) p q s' := by
  obtain ⟨res, s1, e1, r1, l1, g1⟩ := eComp_rel (fi := iU rg1 (eVar 1)) (bd := bN 4) (fc := bT (eBin dEq (eCall F__law_dip [0, 1] (aApp (aC (eVar 0) (aC (eC (.int 2)) aN)) aN)) (eC (.int 0)))) (fe := eVar 4) (own := [4]) (vw := see [] [.sh (tokD p.length), .sh (.int many), .no, .no, .no, .no]) (s := s) (s0 := s) (l := (comp many).map PyData.int)
    (fun i s => Good i p q s ∧ i ≤ n + many) (fun d => ∃ i : Int, d = .int i ∧ 0 ≤ i ∧ i < many) (iU_ok (eVar_ok rfl) (rg1_ok (by omega))) (by rw [List.length_map, comp_len]; omega) n ⟨hg, by omega⟩ (fun i d s hd hI => by
      obtain ⟨rfl, hi⟩ := comp_get hd
      obtain ⟨v, s1, e1, _, _, g1⟩ := dip_eq hI.1 (by omega) (w := 2) (by decide) (by decide)
      have hv : eCall F__law_dip [0, 1] (aApp (aC (eVar 0) (aC (eC (.int 2)) aN)) aN) (setV (wipeV (see [] [.sh (tokD p.length), .sh (.int many), .no, .no, .no, .no]) [4]) [(4, .int i)]) s = some (.int v, s1) := eCall_ok (aApp_ok (aC_ok (eVar_ok rfl) (aC_ok eC_ok aN_ok)) aN_ok) e1
      exact ⟨_, decide (v = 0), s1, rfl, bT_ok (eBin_ok hv eC_ok (dEq_int v 0)), fun _ => ⟨_, s1, eVar_ok rfl, ⟨i, rfl, by omega, by omega⟩, g1, by omega⟩, fun _ => ⟨g1, by omega⟩⟩)
  rw [List.length_map, comp_len] at l1 g1
  obtain ⟨l, el, ll, rl⟩ := ints_of r1
  rw [el] at e1
  have hlen : eBin dGt (eOp cLen (aC (eVar 2) aN)) (eC (.int 1)) (see [] [.sh (tokD p.length), .sh (.int many), .sh (dI l), .no, .no, .no]) s1 = some (.bool (decide ((1 : Int) < (l.length : Int))), s1) :=
    eBin_ok (eOp_ok (aC_ok (eVar_ok rfl) aN_ok) (by show some (PyData.int ((l.map PyData.int).length : Nat)) = _; rw [List.length_map])) eC_ok rfl
  by_cases hb : 1 < l.length
  · rw [decide_eq_true (by omega)] at hlen
    refine ⟨l, s1, ?_, by omega, rl, g1.1.mono (by omega)⟩
    refine fnD_rt (e1 := [.sh (tokD p.length), .sh (.int many), .sh (dI l), .no, .no, .no]) (s1 := s1) ?_ (hg.fin g1.1 _)
    unfold b__law_lot
    exact sSeq_nx (sSet_ok e1) (sSeq_rt (sIf_t (bT_ok hlen) (sSeq_rt (sRet_ok (eVar_ok rfl)))))
  · rw [decide_eq_false (by omega)] at hlen
    have hs1 := g1.1.len
    have g2 := g1.1.snoc (.lst ((comp many).map PyData.int))
    obtain ⟨res2, s3, e3, r3, l3, g3⟩ := eComp_rel (fi := iU rg1 (eC (.int 2))) (bd := bN 5) (fc := tY) (fe := ePopC (eVar 3) (eCall F__law_dip [0, 1] (aApp (aC (eVar 0) (aC (eLenC (eVar 3)) aN)) aN))) (own := [5]) (vw := see [] [.sh (tokD p.length), .sh (.int many), .sh (dI l), .sh (tokD s1.length), .no, .no]) (s := s1 ++ [.lst ((comp many).map PyData.int)]) (s0 := s1 ++ [.lst ((comp many).map PyData.int)]) (l := (comp 2).map PyData.int)
      (fun i s => ∃ m : List Int, Good (n + many + i) p (q ++ [.lst (m.map PyData.int)]) s ∧ m.length + i = many ∧ ∀ x ∈ m, 0 ≤ x ∧ x < many) (fun d => ∃ i : Int, d = .int i ∧ 0 ≤ i ∧ i < many) (iU_ok eC_ok (rg1_ok (n := 2) (by omega))) (by decide) 0
      ⟨comp many, g2, by rw [comp_len]; omega, fun x hx => mem_comp.mp hx⟩ (fun i d s hd hI => by
        obtain ⟨rfl, hi⟩ := comp_get hd
        obtain ⟨m, gm, lm, rm⟩ := hI
        rw [Nat.zero_add] at gm lm
        obtain ⟨v, s2, e2, v0, v1, g2'⟩ := dip_eq gm (by omega) (w := m.length) (by omega) (by omega)
        have hvl : v.toNat < m.length := by omega
        have h6 : (m.map PyData.int)[v.toNat]? = some (.int m[v.toNat]) := by rw [List.getElem?_map, List.getElem?_eq_getElem hvl]; rfl
        have hpop := pop_ok (f := eVar 3) (g := eCall F__law_dip [0, 1] (aApp (aC (eVar 0) (aC (eLenC (eVar 3)) aN)) aN)) (vw := setV (wipeV (see [] [.sh (tokD p.length), .sh (.int many), .sh (dI l), .sh (tokD s1.length), .no, .no]) [5]) [(5, .int i)]) (s := s) (s1 := s) (s2 := s2) (j := p.length + 1 + q.length) (m := v.toNat) (n := v) (by rw [← hs1]; exact eVar_ok rfl) gm.cellLast
          (eCall_ok (aApp_ok (aC_ok (eVar_ok rfl) (aC_ok (lenC_ok (j := p.length + 1 + q.length) (by rw [← hs1]; exact eVar_ok rfl) gm.cellLast) aN_ok)) aN_ok) (by rw [List.length_map]; exact e2)) g2'.cellLast (by rw [List.length_map]; omega) (ixN_nat (n := v.toNat) (by omega) (by rw [List.length_map]; exact hvl)) h6
        refine ⟨_, true, s, rfl, rfl, fun _ => ⟨_, _, hpop, ⟨_, rfl, rm _ (List.getElem_mem hvl)⟩, m.eraseIdx v.toNat, ?_, ?_, fun x hx => rm x (List.mem_of_mem_eraseIdx hx)⟩, fun z => nomatch z⟩
        · rw [map_erase]
          have := g2'.setLast (e := .lst ((m.map PyData.int).eraseIdx v.toNat))
          exact this.mono (by omega)
        · have := List.length_eraseIdx_of_lt hvl
          omega)
    obtain ⟨m, gm, lm, rm⟩ := g3
    obtain ⟨l2, el2, ll2, rl2⟩ := ints_of r3
    rw [el2] at e3
    rw [show ((comp 2).map PyData.int).length = 2 from rfl] at l3 gm lm
    have hc := gm.cut
    have hpl := (gm.plain hp (plainS_app hq (show plainS [Cell.lst (m.map PyData.int)] from fun n => by rw [List.all_cons, List.all_nil, Bool.and_true]; exact tokLt_ints n m)))
    refine ⟨sZ l2, s3.take (p.length + 1 + q.length), ?_, by rw [len_sZ]; omega, fun x hx => rl2 x (mem_sZ.mp hx), hc.1.mono (by omega)⟩
    refine fnD_rt (d := dI (sZ l2)) (e1 := [.sh (tokD p.length), .sh (.int many), .sh (dI l), .sh (tokD s1.length), .no, .no]) (s1 := s3) ?_ ?_
    · unfold b__law_lot
      refine sSeq_nx (sSet_ok e1) (sSeq_nx (sIf_f (bT_ok hlen) rfl) (sSeq_nx (sNew_ok (eLRg_comp (eVar_ok rfl) (by omega))) (sSeq_rt (sRet_ok (eUn_ok e3 (dSort_dI (by omega)))))))
    · have := hpl (p.length + 1 + q.length)
      rw [List.all_eq_true] at this
      unfold fin
      rw [hg.len, if_neg (by omega), if_pos ⟨tokLt_dI _ _, List.all_eq_true.mpr fun c hc => this c (List.mem_of_mem_take hc)⟩]
end K01
namespace K01
open PySem PySem.Spec PyProof.Rows L2 J
theorem mem_cutL {α : Type} {l : List α} {a b : Option Int} {x : α} (h : x ∈ cutL l a b) : x ∈ l := by
  unfold cutL at h
  exact List.mem_of_mem_drop (List.mem_of_mem_take h)
theorem len_cutL {α : Type} {l : List α} {a b : Option Int} : (cutL l a b).length ≤ l.length := by
  unfold cutL
  rw [List.length_take, List.length_drop]
  omega
theorem cutL_map {α β : Type} (f : α → β) (l : List α) (a b : Option Int) : cutL (l.map f) a b = (cutL l a b).map f := by
  unfold cutL
  rw [List.length_map, List.map_take, List.map_drop]
/-- objects found so far -/
structure ObL (L : List D) (k : Nat) : Prop where
  all : ∀ d ∈ L, Ob d
  len : L.length ≤ k
theorem ObL.app {L M : List D} {k j : Nat} (h : ObL L k) (h2 : ObL M j) : ObL (L ++ M) (k + j) := ⟨fun d hd => by
  rcases List.mem_append.mp hd with hd | hd
  · exact h.all d hd
  · exact h2.all d hd, by rw [List.length_append]; have := h.len; have := h2.len; omega⟩
theorem obL_const {L : List D} (h : L.all obB = true) : ObL L L.length := ⟨fun d hd => obB_ob (List.all_eq_true.mp h d hd), Nat.le_refl _⟩
abbrev envO (p : STO) (ls : List (List Int)) (fr : List Int) (L : List D) (x5 x6 : Slot) : J.Env := [.sh (tokD p.length), .sh (dL ls), .sh (.int (ls.length + 1)), .sh (dI fr), .ow 1 (.list L), x5, x6, .no]
theorem fz_one {i : Nat} {env : J.Env} {x : Slot} : (fz [i] env).set i x = env.set i x := by
  apply List.ext_getElem?
  intro j
  rw [List.getElem?_set, List.getElem?_set]
  have hl : (fz [i] env).length = env.length := fzI_len [i] 0 env
  by_cases c : i = j
  · subst c
    rw [if_pos rfl, if_pos rfl, hl]
  · rw [if_neg c, if_neg c, fz_get]
    have : [i].contains j = false := by simp; exact fun e => c e.symm
    rw [this]
    cases env[j]? with
    | none => rfl
    | some s => show some (fzS false s) = some s; rw [fzS_ff]
theorem fzIf_one {i k : Nat} {d : D} {s : STO} {env : J.Env} {x : Slot} : (fzIf k d [i] s env).set i x = env.set i x := by
  unfold fzIf
  split
  · rfl
  · exact fz_one
theorem add_ok {E : Ev} {p : STO} {ls : List (List Int)} {fr : List Int} {L M : List D} {x5 x6 : Slot} {s s1 : STO} (hE : E (see [4] (envO p ls fr L x5 x6)) s = some (.list M, s1)) (hl : L.length ≤ 1000) (hm : M.length ≤ 1000) :
    sSet 4 1 [4] (eBin dAdd (eVar 4) E) (envO p ls fr L x5 x6) s = some (.nx, envO p ls fr (L ++ M) x5 x6, s1) := by
  have h : eBin dAdd (eVar 4) E (see [4] (envO p ls fr L x5 x6)) s = some (.list (L ++ M), s1) := eBin_ok (eVar_ok rfl) hE (by
    show (if L.length + M.length ≤ 16777216 then _ else _) = _
    rw [if_pos (by omega)])
  rw [sSet_okM h rfl, fzIf_one]
  rfl
theorem app_ok {E : Ev} {p : STO} {ls : List (List Int)} {fr : List Int} {L : List D} {d : D} {x5 x6 : Slot} {s s1 : STO} (hE : E (see [] (envO p ls fr L x5 x6)) s = some (d, s1)) (hl : L.length ≤ 1000) :
    sApp 4 [] 0 E (envO p ls fr L x5 x6) s = some (.nx, envO p ls fr (L ++ [d]) x5 x6, s1) := by
  rw [sApp_ok (k := 0) (ds := L) hE rfl (by omega)]
  rfl
/-- rows of small numbers -/
structure Rows (ls : List (List Int)) : Prop where
  few : ls.length ≤ 19
  row : ∀ g ∈ ls, (∀ x ∈ g, 0 ≤ x ∧ x < 20) ∧ g.length ≤ 20
theorem Rows.nice {ls : List (List Int)} (h : Rows ls) : ∀ d ∈ ls.map dI, Nice 3 130 d := fun d hd => by
  obtain ⟨g, hg, rfl⟩ := List.mem_map.mp hd
  obtain ⟨h1, h2⟩ := h.row g hg
  exact (Nice.row (fun x hx => by have := h1 x hx; omega) (by omega)).mono (by omega) (Nat.le_refl _)
theorem ob_list {xs : List D} (h : ∀ d ∈ xs, Nice 3 130 d) (hl : xs.length ≤ 60) : Ob (.list xs) := (Nice.list h (by omega)).ob (by omega) (by omega)
theorem ob_tuple {xs : List D} (h : ∀ d ∈ xs, Nice 3 130 d) (hl : xs.length ≤ 60) : Ob (.tuple xs) := (Nice.tuple h (by omega)).ob (by omega) (by omega)
theorem nice_row {l : List Int} (h : ∀ x ∈ l, 0 ≤ x ∧ x < 1000) (hl : l.length ≤ 25) : Nice 3 130 (dI l) := (Nice.row h hl).mono (by omega) (Nat.le_refl _)
theorem comp_nice {n : Nat} (h : n ≤ 25) : Nice 3 130 (dI (comp n)) := nice_row (fun x hx => by have := mem_comp.mp hx; omega) (by rw [comp_len]; exact h)
section
variable {p : STO} {ls : List (List Int)} {fr : List Int} {L : List D} {x5 x6 : Slot} {s : STO} {vw : VW}
theorem len_ls (h1 : vw[1]? = some (some (dL ls))) : eOp cLen (aC (eVar 1) aN) vw s = some (.int ls.length, s) := eOp_ok (aC_ok (eVar_ok h1) aN_ok) (by show some (PyData.int ((ls.map dI).length : Nat)) = _; rw [List.length_map])
theorem six (hr : Rows ls) (h1 : vw[1]? = some (some (dL ls))) : ∃ M, eLst (aC (eUn dRevL (eVar 1)) (aC (eBin dAdd (eVar 1) (eSl (eVar 1) oN (oS (eC (.int 1))))) (aC (eSl (eVar 1) (oS (eC (.int 1))) oN) (aC (eSl (eVar 1) oN (oS (eUn dNeg (eC (.int 1))))) (aC (eOp cTuple (aC (eVar 1) aN)) (aC (eBin dMul (eVar 1) (eC (.int 2))) aN)))))) vw s = some (.list M, s) ∧ ObL M 6 := by
  have hf := hr.few
  have hn := hr.nice
  have hl : (ls.map dI).length = ls.length := List.length_map _
  obtain ⟨xs, hxs⟩ : ∃ xs, xs = ls.map dI := ⟨_, rfl⟩
  have hv : vw[1]? = some (some (.list xs)) := by rw [hxs]; exact h1
  rw [← hxs] at hn hl
  refine ⟨[.list xs.reverse, .list (xs ++ cutL xs none (some 1)), .list (cutL xs (some 1) none), .list (cutL xs none (some (-1))), .tuple xs, .list (List.replicate 2 xs).flatten], ?_, ?_, ?_⟩
  · refine eLst_ok (aC_ok (eUn_ok (eVar_ok hv) rfl) (aC_ok (eBin_ok (eVar_ok hv) (eSl_ok (eVar_ok hv) oN_ok (oS_ok eC_ok) rfl) ?_) (aC_ok (eSl_ok (eVar_ok hv) (oS_ok eC_ok) oN_ok rfl) (aC_ok (eSl_ok (eVar_ok hv) oN_ok (oS_ok (eUn_ok eC_ok rfl)) rfl) (aC_ok (eOp_ok (aC_ok (eVar_ok hv) aN_ok) rfl) (aC_ok (eBin_ok (eVar_ok hv) eC_ok ?_) aN_ok)))))) rfl
    · show (if xs.length + (cutL xs none (some 1)).length ≤ 16777216 then _ else _) = _
      have := len_cutL (l := xs) (a := none) (b := some 1)
      rw [if_pos (by omega)]
    · show (if (2 : Int) ≤ 16777216 ∧ -16777216 ≤ (2 : Int) ∧ xs.length * (2 : Int).toNat ≤ 16777216 then _ else _) = _
      rw [if_pos ⟨by decide, by decide, by show xs.length * 2 ≤ _; omega⟩]
      rfl
  · intro d hd
    have hx : ∀ a b, ∀ d ∈ cutL xs a b, Nice 3 130 d := fun a b d hd => hn d (mem_cutL hd)
    have hlc : ∀ a b, (cutL xs a b).length ≤ xs.length := fun a b => len_cutL
    simp only [List.mem_cons, List.not_mem_nil, or_false] at hd
    rcases hd with rfl | rfl | rfl | rfl | rfl | rfl
    · exact ob_list (fun d hd => hn d (List.mem_reverse.mp hd)) (by rw [List.length_reverse]; omega)
    · refine ob_list (fun d hd => ?_) (by rw [List.length_append]; have := hlc none (some 1); omega)
      rcases List.mem_append.mp hd with hd | hd
      · exact hn d hd
      · exact hx _ _ d hd
    · exact ob_list (hx _ _) (by have := hlc (some 1) none; omega)
    · exact ob_list (hx _ _) (by have := hlc none (some (-1)); omega)
    · exact ob_tuple hn (by omega)
    · have e : (List.replicate 2 xs).flatten = xs ++ xs := by simp [List.replicate]
      rw [e]
      refine ob_list (fun d hd => ?_) (by rw [List.length_append]; omega)
      rcases List.mem_append.mp hd with hd | hd
      · exact hn d hd
      · exact hn d hd
  · exact Nat.le_refl _
theorem c_obj1 (hr : Rows ls) (h1 : vw[1]? = some (some (dL ls))) (hl : vw.length = 8) : ∃ d, c__law_objects_1 vw s = some (d, s) ∧ Ob d := by
  have hf := hr.few
  refine ⟨.list (ls.map fun g => .tuple (g.map PyData.int)), ?_, ob_list (fun d hd => ?_) (by rw [List.length_map]; omega)⟩
  · unfold c__law_objects_1
    refine eComp_map ls dI (fun g => [(7, dI g)]) _ (iVal_l (eVar_ok h1)) (by omega) (fun _ _ => rfl) fun g hg => ?_
    exact eOp_ok (aC_ok (eVar_ok (d := dI g) (by simp [setV, wipeV, hl])) aN_ok) rfl
  · obtain ⟨g, hg, rfl⟩ := List.mem_map.mp hd
    obtain ⟨h3, h4⟩ := hr.row g hg
    exact (Nice.trow (fun x hx => by have := h3 x hx; omega) (by omega)).mono (by omega) (Nat.le_refl _)
theorem c_obj2 (hr : Rows ls) (h1 : vw[1]? = some (some (dL ls))) (hl : vw.length = 8) : ∃ d, c__law_objects_2 vw s = some (d, s) ∧ Ob d := by
  have hf := hr.few
  refine ⟨.list (ls.map fun g => dI g.reverse), ?_, ob_list (fun d hd => ?_) (by rw [List.length_map]; omega)⟩
  · unfold c__law_objects_2
    refine eComp_map ls dI (fun g => [(7, dI g)]) _ (iVal_l (eVar_ok h1)) (by omega) (fun _ _ => rfl) fun g hg => ?_
    exact eUn_ok (eVar_ok (d := dI g) (by simp [setV, wipeV, hl])) (by show some (PyData.list (g.map PyData.int).reverse) = _; rw [← List.map_reverse])
  · obtain ⟨g, hg, rfl⟩ := List.mem_map.mp hd
    obtain ⟨h3, h4⟩ := hr.row g hg
    exact nice_row (fun x hx => by have := h3 x (List.mem_reverse.mp hx); omega) (by rw [List.length_reverse]; omega)
theorem four_eq (hr : Rows ls) (h1 : vw[1]? = some (some (dL ls))) (h2 : vw[2]? = some (some (.int (ls.length + 1)))) (hl : vw.length = 8) : ∃ M, eLst (aC (eUn dSort (eBin dAdd (eVar 1) (eLst (aC (eLRg (r1 (eBin dAdd (eVar 2) (eC (.int 1))))) aN)))) (aC c__law_objects_2 (aC (eBin dAdd (eVar 1) (eLst (aC (eC .none) aN))) (aC (eLst (aC (eVar 1) aN)) aN)))) vw s = some (.list M, s) ∧ ObL M 4 := by
  have hf := hr.few
  have hn := hr.nice
  obtain ⟨d2, e2, o2⟩ := c_obj2 (s := s) hr h1 hl
  have h3 : eLRg (r1 (eBin dAdd (eVar 2) (eC (.int 1)))) vw s = some (dI (comp (ls.length + 2)), s) := eLRg_comp (n := ls.length + 2) (eBin_ok (eVar_ok h2) eC_ok rfl) (by omega)
  have h4 : dAdd (dL ls) (dL [comp (ls.length + 2)]) = some (dL (ls ++ [comp (ls.length + 2)])) := dAdd_dL (by simp; omega)
  refine ⟨[dL (sR (ls ++ [comp (ls.length + 2)])), d2, .list (ls.map dI ++ [.none]), .list [dL ls]], ?_, ?_, Nat.le_refl _⟩
  · refine eLst_ok (aC_ok (eUn_ok (eBin_ok (eVar_ok h1) (eLst_ok (aC_ok h3 aN_ok) (ds := [dI (comp (ls.length + 2))])) h4) (dSort_dL (by simp; omega))) (aC_ok e2 (aC_ok (eBin_ok (eVar_ok h1) (eLst_ok (aC_ok eC_ok aN_ok)) ?_) (aC_ok (eLst_ok (aC_ok (eVar_ok h1) aN_ok)) aN_ok)))) rfl
    show (if (ls.map dI).length + 1 ≤ 16777216 then _ else _) = _
    rw [if_pos (by rw [List.length_map]; omega)]
  · intro d hd
    simp only [List.mem_cons, List.not_mem_nil, or_false] at hd
    rcases hd with rfl | rfl | rfl | rfl
    · refine ob_list (fun d hd => ?_) (by rw [List.length_map, len_sR, List.length_append]; simp; omega)
      obtain ⟨g, hg, rfl⟩ := List.mem_map.mp hd
      rcases List.mem_append.mp (mem_sR.mp hg) with hg | hg
      · exact hn _ (List.mem_map.mpr ⟨g, hg, rfl⟩)
      · rw [List.mem_singleton.mp hg]; exact comp_nice (by omega)
    · exact o2
    · refine ob_list (fun d hd => ?_) (by simp; omega)
      rcases List.mem_append.mp hd with hd | hd
      · exact hn d hd
      · rw [List.mem_singleton.mp hd]
        exact ⟨⟨rfl, by decide, rfl, by decide +kernel⟩, rfl⟩
    · have h5 : Nice 4 2510 (dL ls) := (Nice.list hn (by rw [List.length_map]; omega)).mono (by omega) (by rw [List.length_map]; omega)
      exact (Nice.list (ds := [dL ls]) (fun d hd => by rw [List.mem_singleton.mp hd]; exact h5) (show 1 < 64 by decide)).ob (by decide) (by show 2 + (2510 + 2) * 1 ≤ 10000; decide)
theorem c_obj3 (hr : Rows ls) {odd : List D} {v : Nat} (hv : v < ls.length) (h1 : vw[1]? = some (some (dL ls))) (h5 : vw[5]? = some (some (.int v))) (h6 : vw[6]? = some (some (.list odd))) (hl : vw.length = 8) (ho : ∀ d ∈ odd, Nice 3 130 d) (hol : odd.length ≤ 20) :
    ∃ M, c__law_objects_3 vw s = some (.list M, s) ∧ ObL M odd.length := by
  have hf := hr.few
  have hn := hr.nice
  refine ⟨odd.map fun d => .list (((ls.take v).map dI ++ [d]) ++ (ls.drop (v + 1)).map dI), ?_, fun d hd => ?_, by rw [List.length_map]; exact Nat.le_refl _⟩
  · unfold c__law_objects_3
    refine eComp_map odd id (fun d => [(7, d)]) _ (by rw [List.map_id]; exact iVal_l (eVar_ok h6)) (by omega) (fun _ _ => rfl) fun d hd => ?_
    have g1 : (setV (wipeV vw [7]) [(7, d)])[1]? = some (some (dL ls)) := by simp [setV, wipeV, h1]
    have g5 : (setV (wipeV vw [7]) [(7, d)])[5]? = some (some (.int v)) := by simp [setV, wipeV, h5]
    have g7 : (setV (wipeV vw [7]) [(7, d)])[7]? = some (some d) := by simp [setV, wipeV, hl]
    generalize setV (wipeV vw [7]) [(7, d)] = vw2 at g1 g5 g7
    have e1 : dSl (dL ls) none (some (v : Int)) = some (.list ((ls.take v).map dI)) := by
      show some (PyData.list (cutL (ls.map dI) none (some (v : Int)))) = _
      rw [cut_upto _ _ (by rw [List.length_map]; omega), ← List.map_take]
    have e2 : dSl (dL ls) (some ((v : Int) + 1)) none = some (.list ((ls.drop (v + 1)).map dI)) := by
      show some (PyData.list (cutL (ls.map dI) (some ((v + 1 : Nat) : Int)) none)) = _
      rw [cut_from _ _ (by rw [List.length_map]; omega), ← List.map_drop]
    have l1 : ((ls.take v).map dI).length ≤ 19 := by rw [List.length_map, List.length_take]; omega
    have l2 : ((ls.drop (v + 1)).map dI).length ≤ 19 := by rw [List.length_map, List.length_drop]; omega
    refine eBin_ok (eBin_ok (eSl_ok (eVar_ok g1) oN_ok (oS_ok (eVar_ok g5)) e1) (eLst_ok (aC_ok (eVar_ok g7) aN_ok)) (d := .list ((ls.take v).map dI ++ [d])) ?_) (eSl_ok (eVar_ok g1) (oS_ok (eBin_ok (eVar_ok g5) eC_ok rfl)) oN_ok e2) ?_
    · show (if ((ls.take v).map dI).length + 1 ≤ 16777216 then _ else _) = _
      rw [if_pos (by omega)]
    · show (if ((ls.take v).map dI ++ [d]).length + ((ls.drop (v + 1)).map dI).length ≤ 16777216 then _ else _) = _
      rw [if_pos (by rw [List.length_append]; simp only [List.length_cons, List.length_nil]; omega)]
  · obtain ⟨o, ho', rfl⟩ := List.mem_map.mp hd
    have l1 : ((ls.take v).map dI).length ≤ 19 := by rw [List.length_map, List.length_take]; omega
    have l2 : ((ls.drop (v + 1)).map dI).length ≤ 19 := by rw [List.length_map, List.length_drop]; omega
    refine ob_list (fun d hd => ?_) (by rw [List.length_append, List.length_append]; simp only [List.length_cons, List.length_nil]; omega)
    rcases List.mem_append.mp hd with hd | hd
    · rcases List.mem_append.mp hd with hd | hd
      · obtain ⟨g, hg, rfl⟩ := List.mem_map.mp hd
        exact hn _ (List.mem_map.mpr ⟨g, List.mem_of_mem_take hg, rfl⟩)
      · rw [List.mem_singleton.mp hd]; exact ho o ho'
    · obtain ⟨g, hg, rfl⟩ := List.mem_map.mp hd
      exact hn _ (List.mem_map.mpr ⟨g, List.mem_of_mem_drop hg, rfl⟩)
theorem rg_nat (k : Nat) : rgD 2 1 k = ((List.range' 2 k).map fun i : Nat => PyData.int i) := by
  unfold rgD
  rw [List.range'_eq_map_range, List.map_map]
  refine List.map_congr_left fun i _ => ?_
  simp
theorem comps_eq {k : Nat} {hi : Int} (he : hi = 2 + k) (hk : k ≤ 20) (hl : vw.length = 8) : ∃ d, eComp (iB rg2 (eC (.int 2)) (eC (.int hi))) (bN 2) tY (eLRg (r1 (eVar 2))) [2] vw s = some (d, s) ∧ Ob d := by
  subst he
  refine ⟨.list ((List.range' 2 k).map fun i => dI (comp i)), ?_, ob_list (fun d hd => ?_) (by rw [List.length_map, List.length_range']; omega)⟩
  · refine eComp_map (List.range' 2 k) (fun i : Nat => PyData.int i) (fun i => [(2, .int (i : Nat))]) _ (iB_ok eC_ok eC_ok ?_) (by rw [List.length_range']; omega) (fun _ _ => rfl) fun i hi => ?_
    · rw [rg2_eq, if_pos ⟨inRg_nat (n := 2) (by omega), by
        have := inRg_nat (n := 2 + k) (by omega)
        rwa [Int.natCast_add] at this⟩]
      rw [show ((2 : Int) + (k : Int) - 2).toNat = k by omega, rg_nat]
    · have := List.mem_range'_1.mp hi
      exact eLRg_comp (eVar_ok (by simp [setV, wipeV, hl])) (by omega)
  · obtain ⟨i, hi, rfl⟩ := List.mem_map.mp hd
    have := List.mem_range'_1.mp hi
    exact comp_nice (by omega)
def obC1 : List D := [.none, (.bool true), (.int 0), (.int 1), (.str ""), (.str "0"), (.dict []), (.list []), (.tuple []), (.list [(.list [])]), (.list [(.list [(.int 0)])]), (.list [(.int 0)]), (.list [.none]), (.list [(.list [(.int 0), (.int 1)])]), (.list [(.tuple [(.int 0), (.int 1)])]), (.tuple [(.list [(.int 0), (.int 1)])]), (.list [(.list [(.int 1), (.int 0)])])]
def obC2 : List D := [(.list [(.list [(.bool false), (.bool true)])]), (.list [(.list [(.int 0), (.bool true)])]), (.list [(.list [(.str "0"), (.str "1")])]), (.list [(.list [(.int 0), (.int 1)]), (.list [(.int 0), (.int 1)])]), (.list [(.list [(.int 0), (.int 1)]), (.list [(.int 0), (.int 1), (.int 2)])]), (.list [(.list [(.int 0), (.int 1), (.int 2)])])]
def obC3 : List D := [(.list [(.list [(.int 0), (.int 2)]), (.list [(.int 0), (.int 1), (.int 2)])]), (.list [(.list [(.int 0), (.int 1), (.int 2)]), (.list [(.int 0), (.int 2)])]), (.list [(.list [(.int 0), (.int 1), (.int 2)]), (.list [(.int 1), (.int 2)])]), (.list [(.list [(.int (-1)), (.int 0)])]), (.list [(.list [(.int 0), (.int 1000000000000000000000000000000)])])]
def obC4 : List D := [(.list [(.int 0), (.int 2)])]
def obC5 : List D := [(.list [(.list [(.int 0), (.int 1)]), (.list [(.int 0), (.int 1), (.int 2), (.int 3)]), (.list [(.int 0), (.int 1), (.int 3)])]), (.list [(.list [(.int 0), (.int 1)]), (.list [(.int 0), (.int 1), (.int 2), (.int 3)]), (.list [(.int 2), (.int 3)])]), (.list [(.list [(.int 0), (.int 1)]), (.list [(.int 0), (.int 1), (.int 2), (.int 3)]), (.list [(.int 1), (.int 2)])])]
theorem obC1_ok : ObL obC1 20 := ⟨(obL_const (by decide +kernel)).all, by decide⟩
theorem obC2_ok : ObL obC2 10 := ⟨(obL_const (by decide +kernel)).all, by decide⟩
theorem obC3_ok : ObL obC3 10 := ⟨(obL_const (by decide +kernel)).all, by decide⟩
theorem obC4_ok : ObL [.list obC4] 1 := ⟨(obL_const (L := [.list obC4]) (by decide +kernel)).all, by decide⟩
theorem obC5_ok : ObL obC5 10 := ⟨(obL_const (by decide +kernel)).all, by decide⟩
theorem obl_one {d : D} (h : Ob d) : ObL [d] 1 := ⟨fun x hx => by rw [List.mem_singleton.mp hx]; exact h, Nat.le_refl _⟩
/-- the objects of a parting -/
theorem objects_eq {n : Nat} {p q : STO} {s : STO} {ls : List (List Int)} (hr : Rows ls) (hg : Good n p q s) (hn : n < 2 ^ 39) (hp : plainS p) (hq : plainS q) :
    ∃ L s', F__law_objects [tokD p.length, dL ls] s = some (.list L, s') ∧ (∀ d ∈ L, Ob d) ∧ L.length ≤ 200 ∧ Good (n + 100) p q s' := by
  have hf := hr.few
  have hnn := hr.nice
  obtain ⟨fr, s1, e1, l1, rr1, g1⟩ := lot_eq (many := max 2 (ls.length + 1)) hg (by omega) (by omega) hp hq
  have hmax : eOp cMax (aC (eC (.int 2)) (aC (eVar 2) aN)) (see [] [.sh (tokD p.length), .sh (dL ls), .sh (.int (ls.length + 1)), .no, .no, .no, .no, .no]) s = some (.int ((max 2 (ls.length + 1) : Nat) : Int), s) := eOp_ok (aC_ok eC_ok (aC_ok (eVar_ok rfl) aN_ok)) (by
    have : (if ((ls.length : Int) + 1) > 2 then ((ls.length : Int) + 1) else 2) = ((max 2 (ls.length + 1) : Nat) : Int) := by split <;> omega
    rw [← this]
    rfl)
  have nfr : Nice 3 130 (dI fr) := nice_row (fun x hx => by have := rr1 x hx; omega) (by omega)
  have o3 := (obC1_ok.app obC2_ok).app obC3_ok
  have o4 := o3.app obC4_ok
  have o5 := o4.app obC5_ok
  obtain ⟨M6, e6, p6⟩ := six (s := s1) (vw := see [4] (envO p ls fr ((((obC1 ++ obC2) ++ obC3) ++ [.list obC4]) ++ obC5) .no .no)) hr rfl
  have o6 := o5.app p6
  generalize hL5 : (((obC1 ++ obC2) ++ obC3) ++ [.list obC4]) ++ obC5 = L5 at o5 e6 o6
  obtain ⟨d7, e7, p7⟩ := c_obj1 (s := s1) (vw := see [] (envO p ls fr (L5 ++ M6) .no .no)) hr rfl rfl
  have o7 := o6.app (obl_one p7)
  obtain ⟨M8, e8, p8⟩ := four_eq (s := s1) (vw := see [4] (envO p ls fr ((L5 ++ M6) ++ [d7]) .no .no)) hr rfl rfl rfl
  have o8 := o7.app p8
  -- up to the first test
  have head : ∀ (rest : Sv) (R), rest (envO p ls fr (((L5 ++ M6) ++ [d7]) ++ M8) .no .no) s1 = R → (sSeq (sSet 2 0 [] (eBin dAdd (eOp cLen (aC (eVar 1) aN)) (eC (.int 1))))
    (sSeq (sSet 3 0 [] (eCall F__law_lot [0, 1] (aApp (aC (eVar 0) (aC (eOp cMax (aC (eC (.int 2)) (aC (eVar 2) aN))) aN)) aN)))
    (sSeq (sSet 4 1 [] (eC (.list obC1)))
    (sSeq (sSet 4 1 [4] (eBin dAdd (eVar 4) (eC (.list obC2))))
    (sSeq (sSet 4 1 [4] (eBin dAdd (eVar 4) (eC (.list obC3))))
    (sSeq (sApp 4 [] 0 (eC (.list obC4)))
    (sSeq (sSet 4 1 [4] (eBin dAdd (eVar 4) (eC (.list obC5))))
    (sSeq (sSet 4 1 [4] (eBin dAdd (eVar 4) (eLst (aC (eUn dRevL (eVar 1)) (aC (eBin dAdd (eVar 1) (eSl (eVar 1) oN (oS (eC (.int 1))))) (aC (eSl (eVar 1) (oS (eC (.int 1))) oN) (aC (eSl (eVar 1) oN (oS (eUn dNeg (eC (.int 1))))) (aC (eOp cTuple (aC (eVar 1) aN)) (aC (eBin dMul (eVar 1) (eC (.int 2))) aN)))))))))
    (sSeq (sApp 4 [] 0 c__law_objects_1)
    (sSeq (sSet 4 1 [4] (eBin dAdd (eVar 4) (eLst (aC (eUn dSort (eBin dAdd (eVar 1) (eLst (aC (eLRg (r1 (eBin dAdd (eVar 2) (eC (.int 1))))) aN)))) (aC c__law_objects_2 (aC (eBin dAdd (eVar 1) (eLst (aC (eC .none) aN))) (aC (eLst (aC (eVar 1) aN)) aN)))))))
    rest)))))))))) [.sh (tokD p.length), .sh (dL ls), .no, .no, .no, .no, .no, .no] s = R := by
    intro rest R hR
    refine sSeq_nx (sSet_ok (d := .int (ls.length + 1)) (s1 := s) (eBin_ok (len_ls rfl) eC_ok rfl)) ?_
    refine sSeq_nx (sSet_ok (d := dI fr) (s1 := s1) (eCall_ok (aApp_ok (aC_ok (eVar_ok rfl) (aC_ok hmax aN_ok)) aN_ok) e1)) ?_
    refine sSeq_nx (sSet_ok (d := .list obC1) (s1 := s1) eC_ok) ?_
    have k1 := obC1_ok.len
    have k2 := obC2_ok.len
    have k3 := obC3_ok.len
    have k5 := obC5_ok.len
    have n2 := (obC1_ok.app obC2_ok).len
    have n3 := o3.len
    have n4 := o4.len
    have n5 := o5.len
    have n6 := o6.len
    have n7 := o7.len
    have q6 := p6.len
    have q8 := p8.len
    refine sSeq_nx (add_ok (L := obC1) (M := obC2) eC_ok (by omega) (by omega)) ?_
    refine sSeq_nx (add_ok (L := obC1 ++ obC2) (M := obC3) eC_ok (by omega) (by omega)) ?_
    refine sSeq_nx (app_ok (L := (obC1 ++ obC2) ++ obC3) (d := .list obC4) eC_ok (by omega)) ?_
    refine sSeq_nx (add_ok (L := ((obC1 ++ obC2) ++ obC3) ++ [.list obC4]) (M := obC5) eC_ok (by omega) (by omega)) ?_
    rw [hL5]
    refine sSeq_nx (add_ok (L := L5) (M := M6) e6 (by omega) (by omega)) ?_
    refine sSeq_nx (app_ok (L := L5 ++ M6) (d := d7) e7 (by omega)) ?_
    exact sSeq_nx (add_ok (L := (L5 ++ M6) ++ [d7]) (M := M8) e8 (by omega) (by omega)) hR
  have tail : ∀ (L : List D) (x5 x6 : Slot) (s2 : STO), ObL L 150 → ∃ M, sRet [4] (eBin dAdd (eVar 4) (eLst (aC c__law_objects_4 (aC c__law_objects_5 aN)))) (envO p ls fr L x5 x6) s2 = some (.rt (.list (L ++ M)), envO p ls fr L x5 x6, s2) ∧ ObL M 2 := by
    intro L x5 x6 s2 hL
    obtain ⟨d1, f1, b1⟩ := comps_eq (k := 20) (hi := 22) (s := s2) (vw := see [4] (envO p ls fr L x5 x6)) (by decide) (by omega) rfl
    obtain ⟨d2, f2, b2⟩ := comps_eq (k := 19) (hi := 21) (s := s2) (vw := see [4] (envO p ls fr L x5 x6)) (by decide) (by omega) rfl
    refine ⟨[d1, d2], ?_, fun d hd => ?_, Nat.le_refl _⟩
    · have hll := hL.len
      refine sRet_ok (eBin_ok (eVar_ok rfl) (eLst_ok (aC_ok f1 (aC_ok f2 aN_ok)) rfl) ?_)
      show (if L.length + 2 ≤ 16777216 then _ else _) = _
      rw [if_pos (by omega)]
    · simp only [List.mem_cons, List.not_mem_nil, or_false] at hd
      rcases hd with rfl | rfl
      · exact b1
      · exact b2
  generalize hL8 : ((L5 ++ M6) ++ [d7]) ++ M8 = L8 at head o8
  have hL8' : ObL L8 100 := ⟨o8.all, by have := o8.len; omega⟩
  clear hL8 o8 o7 o6 o5 o4 o3 e8 e7 e6 hL5
  have hne := dNe_dL ls []
  by_cases hl0 : ls = []
  · rw [decide_eq_true hl0] at hne
    obtain ⟨M, t1, t2⟩ := tail L8 .no .no s1 ⟨hL8'.all, by have := hL8'.len; omega⟩
    refine ⟨L8 ++ M, s1, ?_, (hL8'.app t2).all, by have := (hL8'.app t2).len; omega, g1.mono (by omega)⟩
    refine fnD_rt (d := .list (L8 ++ M)) (e1 := envO p ls fr L8 .no .no) (s1 := s1) ?_ (hg.fin g1 _)
    unfold b__law_objects
    refine head _ _ ?_
    exact sSeq_nx (sIf_f (bT_ok (eBin_ok (eVar_ok rfl) (eLst_ok aN_ok) hne)) rfl) (sSeq_rt t1)
  · rw [decide_eq_false hl0] at hne
    have hpos := List.length_pos_iff.mpr hl0
    obtain ⟨v, s2, e2, v0, v1, g2⟩ := dip_eq g1 (by omega) (w := ls.length) (by omega) (by omega)
    obtain ⟨w, hw⟩ : ∃ w : Nat, v = w := ⟨v.toNat, by omega⟩
    subst hw
    have hwl : w < ls.length := by omega
    obtain ⟨hg1, hg2⟩ := hr.row _ (List.getElem_mem hwl)
    have hidx : ∀ (vw : VW) (s : STO), vw[1]? = some (some (dL ls)) → vw[5]? = some (some (.int w)) → eIdx (eVar 1) (eVar 5) vw s = some (dI ls[w], s) := fun vw s h1 h5 => eIdx_ok (eVar_ok h1) (eVar_ok h5) (atI_nat (n := w) rfl (by rw [List.getElem?_map, List.getElem?_eq_getElem hwl]; rfl))
    have hcl : (cutL ls[w] none (some (-1))).length ≤ ls[w].length := len_cutL
    have hct : (cutL ls[w] none (some 1)).length ≤ ls[w].length := len_cutL
    let odd : List D := [dI fr, dI (cutL ls[w] none (some (-1))), dI (ls[w] ++ [(ls.length : Int) + 1]), dI (ls[w] ++ cutL ls[w] none (some 1)), .none, .int 0, .str "0", .list [.none, .int 1]]
    have hodd : ∀ d ∈ odd, Nice 3 130 d := fun d hd => by
      simp only [odd, List.mem_cons, List.not_mem_nil, or_false] at hd
      rcases hd with rfl | rfl | rfl | rfl | rfl | rfl | rfl | rfl
      · exact nfr
      · exact nice_row (fun x hx => by have := hg1 x (mem_cutL hx); omega) (by omega)
      · refine nice_row (fun x hx => ?_) (by rw [List.length_append]; simp; omega)
        rcases List.mem_append.mp hx with hx | hx
        · have := hg1 x hx; omega
        · rw [List.mem_singleton.mp hx]; omega
      · refine nice_row (fun x hx => ?_) ?_
        · rcases List.mem_append.mp hx with hx | hx
          · have := hg1 x hx; omega
          · have := hg1 x (mem_cutL hx); omega
        · rw [List.length_append]
          have : (cutL ls[w] none (some 1)).length ≤ 1 := by
            rw [cutL, List.length_take]
            show min (HT.sIx _ _ (some ((1 : Nat) : Int)) - HT.sIx _ 0 none) _ ≤ 1
            rw [HT.sIx_nat, HT.sIx_none]; omega
          omega
      · exact ⟨⟨rfl, by decide, rfl, by decide +kernel⟩, rfl⟩
      · exact (Nice.int (by decide) (by decide)).mono (by decide) (by decide)
      · exact ⟨⟨by decide +kernel, by decide, by decide +kernel, by decide +kernel⟩, rfl⟩
      · exact ⟨⟨rfl, by decide, rfl, by decide +kernel⟩, rfl⟩
    obtain ⟨M3, f3, b3⟩ := c_obj3 (s := s2) (vw := see [4] (envO p ls fr L8 (.sh (.int w)) (.sh (.list odd)))) (odd := odd) (v := w) hr hwl rfl rfl rfl rfl hodd (by show 8 ≤ 20; decide)
    have h9 := hL8'.app b3
    have hsort : ∀ vw : VW, vw[1]? = some (some (dL ls)) → vw[3]? = some (some (dI fr)) → vw[5]? = some (some (.int w)) → eUn dSort (eBin dAdd (eBin dAdd (eSl (eVar 1) oN (oS (eVar 5))) (eLst (aC (eVar 3) aN))) (eSl (eVar 1) (oS (eBin dAdd (eVar 5) (eC (.int 1)))) oN)) vw s2 = some (dL (sR ((ls.take w ++ [fr]) ++ ls.drop (w + 1))), s2) := by
      intro vw h1 h3 h5
      have e1 : dSl (dL ls) none (some (w : Int)) = some (dL (ls.take w)) := by
        show some (PyData.list (cutL (ls.map dI) none (some (w : Int)))) = _
        rw [cut_upto _ _ (by rw [List.length_map]; omega), ← List.map_take]
      have e2 : dSl (dL ls) (some ((w : Int) + 1)) none = some (dL (ls.drop (w + 1))) := by
        show some (PyData.list (cutL (ls.map dI) (some ((w + 1 : Nat) : Int)) none)) = _
        rw [cut_from _ _ (by rw [List.length_map]; omega), ← List.map_drop]
      exact eUn_ok (eBin_ok (eBin_ok (eSl_ok (eVar_ok h1) oN_ok (oS_ok (eVar_ok h5)) e1) (eLst_ok (aC_ok (eVar_ok h3) aN_ok)) (dAdd_dL (a := ls.take w) (b := [fr]) (by rw [List.length_take]; simp; omega))) (eSl_ok (eVar_ok h1) (oS_ok (eBin_ok (eVar_ok h5) eC_ok rfl)) oN_ok e2) (dAdd_dL (by rw [List.length_append, List.length_take, List.length_drop]; simp; omega))) (dSort_dL (by rw [List.length_append, List.length_append, List.length_take, List.length_drop]; simp; omega))
    have b4 : Ob (dL (sR ((ls.take w ++ [fr]) ++ ls.drop (w + 1)))) := by
      refine ob_list (fun d hd => ?_) (by rw [List.length_map, len_sR, List.length_append, List.length_append, List.length_take, List.length_drop]; simp; omega)
      obtain ⟨g, hgm, rfl⟩ := List.mem_map.mp hd
      rcases List.mem_append.mp (mem_sR.mp hgm) with hgm | hgm
      · rcases List.mem_append.mp hgm with hgm | hgm
        · exact hnn _ (List.mem_map.mpr ⟨g, List.mem_of_mem_take hgm, rfl⟩)
        · rw [List.mem_singleton.mp hgm]; exact nfr
      · exact hnn _ (List.mem_map.mpr ⟨g, List.mem_of_mem_drop hgm, rfl⟩)
    have h10 := h9.app (obl_one b4)
    have ho8 : odd.length = 8 := rfl
    obtain ⟨M, t1, t2⟩ := tail ((L8 ++ M3) ++ [dL (sR ((ls.take w ++ [fr]) ++ ls.drop (w + 1)))]) (.sh (.int w)) (.sh (.list odd)) s2 ⟨h10.all, by have := h10.len; omega⟩
    have h11 := h10.app t2
    refine ⟨_, s2, ?_, h11.all, by have := h11.len; omega, g2.mono (by omega)⟩
    refine fnD_rt (d := .list (((L8 ++ M3) ++ [dL (sR ((ls.take w ++ [fr]) ++ ls.drop (w + 1)))]) ++ M)) (e1 := envO p ls fr ((L8 ++ M3) ++ [dL (sR ((ls.take w ++ [fr]) ++ ls.drop (w + 1)))]) (.sh (.int w)) (.sh (.list odd))) (s1 := s2) ?_ (hg.fin g2 _)
    unfold b__law_objects
    refine head _ _ ?_
    have lenL := hL8'.len
    have len3 := b3.len
    refine sSeq_nx (sIf_t (bT_ok (eBin_ok (eVar_ok rfl) (eLst_ok aN_ok) hne)) ?_) (sSeq_rt t1)
    refine sSeq_nx (sSet_ok (d := .int w) (s1 := s2) (eCall_ok (aApp_ok (aC_ok (eVar_ok rfl) (aC_ok (len_ls rfl) aN_ok)) aN_ok) e2)) ?_
    refine sSeq_nx (sSet_ok (d := .list odd) (s1 := s2) (eLst_ok (aC_ok (eVar_ok rfl) (aC_ok (eSl_ok (hidx _ _ rfl rfl) oN_ok (oS_ok (eUn_ok eC_ok rfl)) ?_) (aC_ok (eBin_ok (hidx _ _ rfl rfl) (eLst_ok (aC_ok (eVar_ok rfl) aN_ok)) (dAdd_dI (b := [(ls.length : Int) + 1]) ?_)) (aC_ok (eBin_ok (hidx _ _ rfl rfl) (eSl_ok (hidx _ _ rfl rfl) oN_ok (oS_ok eC_ok) ?_) (dAdd_dI (b := cutL ls[w] none (some 1)) ?_)) (aC_ok eC_ok (aC_ok eC_ok (aC_ok eC_ok (aC_ok eC_ok aN_ok)))))))) rfl)) ?_
    · show some (PyData.list (cutL (ls[w].map PyData.int) none (some (-1)))) = _
      rw [cutL_map]
    · simp; omega
    · show some (PyData.list (cutL (ls[w].map PyData.int) none (some 1))) = _
      rw [cutL_map]
    · omega
    · refine sSeq_nx (add_ok (L := L8) (M := M3) (x5 := .sh (.int w)) (x6 := .sh (.list odd)) f3 (by omega) (by omega)) ?_
      exact sSeq_nx (app_ok (L := L8 ++ M3) (x5 := .sh (.int w)) (x6 := .sh (.list odd)) (hsort _ rfl rfl rfl) (by have := h9.len; omega)) rfl
end
end K01
namespace K01
open PySem PySem.Spec PyProof.Rows L2 J
theorem bools_ob (b : Bool) : Ob (.bool b) := obB_ob (by cases b <;> decide +kernel)
theorem bools_repr (b : Bool) : dReprG (.list [.bool b, .bool b]) = some (.str (PyData.shown (.list [.bool b, .bool b]))) := obs_repr (fun d hd => by
  have : d = .bool b := by simpa using hd
  rw [this]; exact bools_ob b) (by show 2 ≤ 1000; decide)
theorem right_turn (a b c d w : Slot) {item : D} (h : Ob item) (s : STO) : l__law_right_1 [a, b, c, d, .sh item, w] s = some (.nx, [a, b, c, d, .sh item, .sh (.bool (judge item))], s) := by
  have h1 := is_nest_any h.saf s
  have h2 := is_parting_any h.saf s
  have h3 := bools_repr (judge item)
  have v4 : ∀ w, (see [] [a, b, c, d, .sh item, w])[4]? = some (some item) := fun w => rfl
  unfold l__law_right_1
  refine sSeq_nx (sSet_ok (d := .bool (judge item)) (s1 := s) (eCall_ok (aApp_ok (aC_ok (eVar_ok (v4 _)) aN_ok) aN_ok) h1)) ?_
  refine sSeq_nx (sIf_f (bT_ok (eBin_ok (eUn_ok (eLst_ok (aC_ok (eCall_ok (aApp_ok (aC_ok (eVar_ok (v4 _)) aN_ok) aN_ok) h2) (aC_ok (eCall_ok (aC_ok (eVar_ok (v4 _)) aN_ok) h2) aN_ok))) h3) (eUn_ok (eLst_ok (aC_ok (eVar_ok rfl) (aC_ok (eVar_ok rfl) aN_ok))) h3) (dNe_str _))) rfl) rfl
theorem right_loop (a b c d : Slot) (s : STO) : ∀ (ds : List D) (x y : Slot), (∀ i ∈ ds, Ob i) → ∃ x' y', forL (bN 4) l__law_right_1 ds [a, b, c, d, x, y] s = some (.nx, [a, b, c, d, x', y'], s)
  | [], x, y, _ => ⟨x, y, rfl⟩
  | i :: r, x, y, h => by
    obtain ⟨x', y', ih⟩ := right_loop a b c d s r (.sh i) (.sh (.bool (judge i))) fun j hj => h j (List.mem_cons_of_mem _ hj)
    refine ⟨x', y', ?_⟩
    rw [forL]
    simp only [bN, Option.bind_some]
    rw [if_pos ⟨by rfl, (h i List.mem_cons_self).tok⟩]
    show ((l__law_right_1 [a, b, c, d, .sh i, y] s).bind _) = _
    rw [right_turn a b c d y (h i List.mem_cons_self) s]
    simp only [Option.bind_some]
    exact ih
theorem rows_of {t : Nest} {m : Nat} (h : t.Of m) (hm : m ≤ 20) : Rows t.lots := by
  have hl := h.lots_len
  refine ⟨by omega, fun g hg => ?_⟩
  obtain ⟨X, hX, rfl⟩ := Nest.mem_lots.mp hg
  have h1 := Nest.gr_sublist hX
  refine ⟨fun x hx => ?_, ?_⟩
  · have := h.mem.mp (h1.subset (Nest.mem_folk.mp hx)); omega
  · rw [Nest.len_folk]
    have := h1.length_le
    have := h.len
    omega
/-- the lots of drawn items -/
theorem drawn_lots {n : Nat} {p q s : STO} (hg : Good n p q s) (hn : n < 2 ^ 38) : ∃ (t : Nest) (m : Nat) (s' : STO), t.Of m ∧ m ≤ 20 ∧ Good (n + 101) p q s' ∧
    ∀ env : J.Env, (see [] env)[0]? = some (some (tokD p.length)) → eCall (F__law_lots 22) [0] (aApp (aC (eCall F__law_nest [0] (aApp (aC (eCall F__law_items [0, 1] (aApp (aC (eVar 0) (aC (eBin dAdd (eC (.int 1)) (eCall F__law_dip [0, 1] (aApp (aC (eVar 0) (aC (eC (.int 20)) aN)) aN))) aN)) aN)) aN) aN)) aN) aN) (see [] env) s = some (dL t.lots, s') := by
  obtain ⟨v, s1, e1, v0, v1, g1⟩ := dip_eq hg (by omega) (w := 20) (by decide) (by decide)
  obtain ⟨w, hw⟩ : ∃ w : Nat, v = w := ⟨v.toNat, by omega⟩
  subst hw
  obtain ⟨l, s2, e2, l2, ho, g2⟩ := items_eq (many := 1 + w) g1 (by omega) (by omega)
  have hof := grow_of l 0 (.lf 0) Nest.of_zero ho
  have h3 := nest_eq (l := l) (by omega) ho s2
  have hlen := hof.len
  have hdep := (Nest.grow 0 (.lf 0) l).dep_lt
  have h4 := lots_eq 22 (Nest.grow 0 (.lf 0) l) (by omega) (by omega) (by omega) s2
  refine ⟨Nest.grow 0 (.lf 0) l, 0 + 1 + l.length, s2, hof, by omega, g2.mono (by omega), fun env h0 => ?_⟩
  refine eCall_ok (aApp_ok (aC_ok (eCall_ok (aApp_ok (aC_ok (eCall_ok (aApp_ok (aC_ok (eVar_ok h0) (aC_ok (eBin_ok eC_ok (eCall_ok (aApp_ok (aC_ok (eVar_ok h0) (aC_ok eC_ok aN_ok)) aN_ok) e1) rfl) aN_ok)) aN_ok) ?_) aN_ok) aN_ok) h3) aN_ok) aN_ok) h4
  have : ((1 : Int) + (w : Int)) = ((1 + w : Nat) : Int) := by omega
  show F__law_items [tokD p.length, .int ((1 : Int) + (w : Int))] s1 = _
  rw [this]
  exact e2
theorem dEq_str (x : Str) : dEq (.str x) (.str x) = some (.bool true) := by
  show some (PyData.bool (x == x)) = _
  rw [beq_self_eq_true]
theorem right_eq {n : Nat} {p q s : STO} (hg : Good n p q s) (hn : n < 2 ^ 37) (hp : plainS p) (hq : plainS q) : ∃ s', F__law_right [tokD p.length] s = some (.bool true, s') ∧ Good (n + 300) p q s' := by
  obtain ⟨t, m, s1, hof, hm, g1, e1⟩ := drawn_lots hg (by omega)
  have hr := rows_of hof hm
  obtain ⟨L, s2, e2, hob, hlen, g2⟩ := objects_eq hr g1 (by omega) hp hq
  have hall : ∀ d ∈ dL t.lots :: L, Ob d := fun d hd => by
    rcases List.mem_cons.mp hd with rfl | hd
    · exact ob_list hr.nice (by rw [List.length_map]; have := hr.few; omega)
    · exact hob d hd
  have hrep := obs_repr hall (by rw [List.length_cons]; omega)
  have hj : judge (dL t.lots) = true := hof.judge hm
  have hpa := is_parting_any (d := dL t.lots) (hall _ List.mem_cons_self).saf s2
  rw [hj] at hpa
  obtain ⟨x, y, e3⟩ := right_loop (.sh (tokD p.length)) (.sh (dL t.lots)) (.sh (.list (dL t.lots :: L))) (.sh (.str (PyData.shown (.list (dL t.lots :: L))))) s2 (dL t.lots :: L) .no .no hall
  refine ⟨s2, ?_, g2.mono (by omega)⟩
  refine fnD_rt (d := .bool true) (e1 := [.sh (tokD p.length), .sh (dL t.lots), .sh (.list (dL t.lots :: L)), .sh (.str (PyData.shown (.list (dL t.lots :: L)))), x, y]) (s1 := s2) ?_ (hg.fin g2 _)
  unfold b__law_right
  refine sSeq_nx (sSet_ok (d := dL t.lots) (s1 := s1) (e1 _ rfl)) ?_
  refine sSeq_nx (sSet_ok (d := .list (dL t.lots :: L)) (s1 := s2) (eBin_ok (eLst_ok (aC_ok (eVar_ok rfl) aN_ok)) (eCall_ok (aApp_ok (aC_ok (eVar_ok rfl) (aC_ok (eVar_ok rfl) aN_ok)) aN_ok) e2) ?_)) ?_
  · show (if 1 + L.length ≤ 16777216 then _ else _) = _
    rw [if_pos (by omega)]
    rfl
  · refine sSeq_nx (sSet_ok (d := .str (PyData.shown (.list (dL t.lots :: L)))) (s1 := s2) (eUn_ok (eVar_ok rfl) hrep)) ?_
    refine sSeq_nx (sFor_ok (ds := dL t.lots :: L) (s1 := s2) (iVal_l (eVar_ok rfl)) e3) ?_
    exact sSeq_rt (sRet_ok (eAnd_t (eBin_ok (eUn_ok (eVar_ok rfl) hrep) (eVar_ok rfl) (dEq_str _)) (eBin_ok (eCall_ok (aApp_ok (aC_ok (eVar_ok rfl) aN_ok) aN_ok) hpa) eC_ok rfl)))
end K01
namespace K01
open PySem PySem.Spec PyProof.Rows L2 J
theorem sExt_ok {i k : Nat} {g : Ev} {env : J.Env} {s s1 : STO} {ds es : List D} (h1 : g (see [] env) s = some (.list es, s1)) (h2 : env[i]? = some (.ow (k + 1) (.list ds))) (hl : ds.length + es.length ≤ 16777216) : sExt i [] k g env s = some (.nx, env.set i (.ow (k + 1) (.list (ds ++ es))), s1) := by
  unfold sExt
  rw [h1, Option.bind_some, fzIf_nil, h2]
  show (if k = k ∧ ds.length + es.length ≤ 16777216 then _ else _) = _
  rw [if_pos ⟨rfl, hl⟩]
theorem c_rows (f : Nat) (hf : 1 ≤ f ∧ f ≤ 100) (row : List Int) (hr : row.length ≤ 1000) (s : STO) (vw : VW) (h2 : vw[2]? = some (some (.int f))) (h4 : vw[4]? = some (some (dI row))) (hl : vw.length = 6) : c__law_rows_1 vw s = some (dL (extR f row), s) := by
  unfold c__law_rows_1
  have := eComp_map (fi := iB rg2 (eBin dSub (eC (.int 1)) (eVar 2)) (eVar 2)) (bd := bN 5) (fe := eBin dAdd (eVar 4) (eLst (aC (eVar 5) aN))) (own := [5]) (vw := vw) (s := s) (List.range (2 * f - 1)) (fun i : Nat => PyData.int (1 - (f : Int) + i)) (fun i : Nat => [(5, PyData.int (1 - (f : Int) + i))]) (fun i : Nat => dI (row ++ [1 - (f : Int) + i]))
    (iB_ok (eBin_ok eC_ok (eVar_ok h2) rfl) (eVar_ok h2) (by
      rw [rg2_eq, if_pos ⟨by unfold inRg; rw [Bool.and_eq_true, decide_eq_true_eq, decide_eq_true_eq]; omega, inRg_nat (by omega)⟩]
      unfold rgD
      rw [show ((f : Int) - (1 - (f : Int))).toNat = 2 * f - 1 by omega]
      simp)) (by rw [List.length_range]; omega) (fun _ _ => rfl) (fun i hi => by
      have g4 : (setV (wipeV vw [5]) [(5, PyData.int (1 - (f : Int) + (i : Nat)))])[4]? = some (some (dI row)) := by simp [setV, wipeV, h4]
      have g5 : (setV (wipeV vw [5]) [(5, PyData.int (1 - (f : Int) + (i : Nat)))])[5]? = some (some (.int (1 - (f : Int) + i))) := by simp [setV, wipeV, hl]
      exact eBin_ok (eVar_ok g4) (eLst_ok (aC_ok (eVar_ok g5) aN_ok)) (dAdd_dI (b := [1 - (f : Int) + i]) (by simp; omega)))
  rw [this]
  unfold extR dL
  rw [List.map_map]
  rfl
theorem ext_len (f : Nat) (row : List Int) : (extR f row).length = 2 * f - 1 := by unfold extR; rw [List.length_map, List.length_range]
theorem rows_in (many : Slot) (F0 : Slot) (f : Nat) (hf : 1 ≤ f ∧ f ≤ 100) (s : STO) : ∀ (R acc : List (List Int)) (x y : Slot), (∀ r ∈ R, r.length ≤ 1000) → acc.length + R.length * 200 ≤ 100000 →
    ∃ x' , forL (bN 4) l__law_rows_1 (R.map dI) [many, F0, .sh (.int f), .ow 1 (dL acc), x, y] s = some (.nx, [many, F0, .sh (.int f), .ow 1 (dL (acc ++ R.flatMap (extR f))), x', y], s)
  | [], acc, x, y, _, _ => ⟨x, by rw [List.flatMap_nil, List.append_nil]; rfl⟩
  | r :: R, acc, x, y, h, hl => by
    have hle := ext_len f r
    rw [List.length_cons] at hl
    obtain ⟨x', ih⟩ := rows_in many F0 f hf s R (acc ++ extR f r) (.sh (dI r)) y (fun q hq => h q (List.mem_cons_of_mem _ hq)) (by rw [List.length_append, hle]; omega)
    refine ⟨x', ?_⟩
    rw [List.map_cons, forL]
    simp only [bN, Option.bind_some]
    rw [if_pos ⟨by rfl, noTok_dI r⟩]
    show ((l__law_rows_1 [many, F0, .sh (.int f), .ow 1 (dL acc), .sh (dI r), y] s).bind _) = _
    have h1 := c_rows f hf r (h r List.mem_cons_self) s (see [] [many, F0, .sh (.int f), .ow 1 (dL acc), .sh (dI r), y]) rfl rfl rfl
    have h2 : l__law_rows_1 [many, F0, .sh (.int f), .ow 1 (dL acc), .sh (dI r), y] s = some (.nx, [many, F0, .sh (.int f), .ow 1 (dL (acc ++ extR f r)), .sh (dI r), y], s) := by
      unfold l__law_rows_1
      refine sSeq_nx (sExt_ok (k := 0) (ds := acc.map dI) (es := (extR f r).map dI) h1 rfl (by rw [List.length_map, List.length_map, hle]; omega)) ?_
      rw [← List.map_append]
      rfl
    rw [h2]
    simp only [Option.bind_some]
    rw [List.flatMap_cons, ← List.append_assoc]
    exact ih
theorem rowsT_len : ∀ k < 5, (rowsT k).length ≤ 105 ∧ ∀ r ∈ rowsT k, r.length ≤ 1000 := by decide +kernel
theorem rows_turn (many : D) {k : Nat} (hk : k + 1 < 5) (s : STO) (a b c : Slot) : ∃ x y z, l__law_rows_2 [.sh many, .sh (dL (rowsT k)), .sh (.int (k + 1 : Nat)), a, b, c] s = some (.nx, [.sh many, .sh (dL (rowsT (k + 1))), .sh (.int (k + 1 : Nat)), x, y, z], s) := by
  obtain ⟨h1, h2⟩ := rowsT_len k (by omega)
  obtain ⟨x', h3⟩ := rows_in (.sh many) (.sh (dL (rowsT k))) (k + 1) (by omega) s (rowsT k) [] b c h2 (by simp; omega)
  rw [List.nil_append, show (rowsT k).flatMap (extR (k + 1)) = rowsT (k + 1) from rfl] at h3
  refine ⟨.sh (dL (rowsT (k + 1))), x', c, ?_⟩
  unfold l__law_rows_2
  refine sSeq_nx (sSet_ok (d := .list []) (s1 := s) (eLst_ok aN_ok)) ?_
  refine sSeq_nx (sFor_ok (ds := (rowsT k).map dI) (s1 := s) (iVal_l (eVar_ok rfl)) (by rw [fz, fzI_nil]; exact h3)) ?_
  refine sSeq_nx (e1 := [.sh many, .sh (dL (rowsT (k + 1))), .sh (.int (k + 1 : Nat)), .sh (dL (rowsT (k + 1))), x', c]) (s1 := s) ?_ rfl
  rw [sSet_okM (d := dL (rowsT (k + 1))) (s1 := s) (eVar_ok rfl) rfl]
  unfold fzIf
  rw [if_neg (by show ¬ ((false && _) = true); simp)]
  simp [fz, fzI, fzS, fzS_ff, mkS]
  exact ⟨by cases x' <;> rfl, by cases c <;> rfl⟩
theorem rows_eq {k : Nat} (hk : k < 5) (s : STO) : F__law_rows [.int (k + 1 : Nat)] s = some (dL (rowsT k), s) := by
  have loop : ∀ (j i : Nat) (a b c w : Slot), i + j < 5 → ∃ a' b' c' w', forL (bN 2) l__law_rows_2 (rgD ((i : Int) + 1) 1 j) [.sh (.int (k + 1 : Nat)), .sh (dL (rowsT i)), w, a, b, c] s = some (.nx, [.sh (.int (k + 1 : Nat)), .sh (dL (rowsT (i + j))), w', a', b', c'], s) := by
    intro j
    induction j with
    | zero => exact fun i a b c w _ => ⟨a, b, c, w, rfl⟩
    | succ j ih =>
      intro i a b c w h
      obtain ⟨x, y, z, h1⟩ := rows_turn (.int (k + 1 : Nat)) (k := i) (by omega) s a b c
      obtain ⟨a', b', c', w', h2⟩ := ih (i + 1) x y z (.sh (.int (i + 1 : Nat))) (by omega)
      refine ⟨a', b', c', w', ?_⟩
      have er : rgD ((i : Int) + 1) 1 (j + 1) = .int (i + 1 : Nat) :: rgD (((i + 1 : Nat) : Int) + 1) 1 j := by
        unfold rgD
        rw [List.range_succ_eq_map, List.map_cons, List.map_map]
        refine congr (congrArg _ ?_) (List.map_congr_left fun i _ => ?_)
        · simp
        · simp only [Function.comp]
          congr 1
          omega
      rw [er, forL]
      simp only [bN, Option.bind_some]
      rw [if_pos ⟨by rfl, by rfl⟩]
      show ((l__law_rows_2 [.sh (.int (k + 1 : Nat)), .sh (dL (rowsT i)), .sh (.int (i + 1 : Nat)), a, b, c] s).bind _) = _
      rw [h1]
      simp only [Option.bind_some]
      rw [show i + (j + 1) = i + 1 + j by omega]
      exact h2
  obtain ⟨a, b, c, w, h⟩ := loop k 0 .no .no .no .no (by omega)
  rw [Nat.zero_add] at h
  refine fnD_rt (d := dL (rowsT k)) (e1 := [.sh (.int (k + 1 : Nat)), .sh (dL (rowsT k)), w, a, b, c]) (s1 := s) ?_ (fin_self _ _)
  unfold b__law_rows
  refine sSeq_nx (sSet_ok (d := dL (rowsT 0)) (s1 := s) eC_ok) (sSeq_nx (sFor0_ok (ds := rgD ((0 : Nat) + 1 : Int) 1 k) (s1 := s) (iB_ok eC_ok (eVar_ok rfl) ?_) h) (sSeq_rt (sRet_ok (eVar_ok rfl))))
  rw [rg2_eq, if_pos ⟨inRg_nat (n := 1) (by omega), inRg_nat (by omega)⟩]
  rw [show (((k + 1 : Nat) : Int) - 1).toNat = k by omega]
  rfl
/-! ### all partings of few -/
theorem dIn_lots (x : List (List Int)) (l : List (List (List Int))) : dIn (dL x) (.list (l.map dL)) = some (.bool (decide (x ∈ l))) := by
  have hl : SeqAt.shaped (.list (l.map dL)) = true := by
    refine shaped_of ?_ ?_
    · rw [PyData.canLay0]; exact lay_all fun d hd => by obtain ⟨y, _, rfl⟩ := List.mem_map.mp hd; exact lay_dL y
    · rw [PyData.depth]
      have := dep_all (n := 3) (ds := l.map dL) fun d hd => by obtain ⟨y, _, rfl⟩ := List.mem_map.mp hd; exact depth_dL y
      omega
  simp only [dIn]
  rw [if_pos ⟨shaped_dL x, hl⟩]
  congr 2
  unfold hasD
  rw [Bool.eq_iff_iff, List.any_eq_true, decide_eq_true_iff]
  constructor
  · rintro ⟨z, hz, e⟩
    obtain ⟨i, hi, rfl⟩ := List.mem_map.mp hz
    rw [eqv_dL] at e
    rw [← of_decide_eq_true e]; exact hi
  · intro h
    exact ⟨dL x, List.mem_map.mpr ⟨x, h, rfl⟩, by rw [eqv_dL]; simp⟩
theorem grow_same : ∀ (l : List Int) (i : Nat) (t : Nest), Nest.grow i t l = growT i t l
  | [], _, _ => rfl
  | x :: r, i, t => grow_same r (i + 1) _
def okItems : Nat → List Int → Bool
  | _, [] => true
  | i, x :: r => decide (0 - (i + 1 : Int) < x) && decide (x < i + 1) && okItems (i + 1) r
theorem okItems_ok : ∀ (l : List Int) (i : Nat), okItems i l = true → itemsOk i l
  | [], _, _ => trivial
  | x :: r, i, h => by
    rw [okItems, Bool.and_eq_true, Bool.and_eq_true, decide_eq_true_eq, decide_eq_true_eq] at h
    exact ⟨h.1.1, h.1.2, okItems_ok r (i + 1) h.2⟩
theorem rows_items : ∀ k < 5, ∀ r ∈ rowsT k, okItems 0 r = true ∧ r.length = k := by decide +kernel
theorem few_turn (many : D) {k : Nat} (hk : k < 5) {r : List Int} (hr : r ∈ rowsT k) {seen : List (List (List Int))} (hn : (growT 0 (.lf 0) r).lots ∉ seen) (hs : seen.length ≤ 1000) (w : Slot) (s : STO) (hsc : s.all scalCell = true) :
    l__law_all_right_1 [.sh many, .ow 1 (.list (seen.map dL)), .sh (dI r), w] s = some (.nx, [.sh many, .ow 1 (.list ((seen ++ [(growT 0 (.lf 0) r).lots]).map dL)), .sh (dI r), .sh (dL (growT 0 (.lf 0) r).lots)], s) := by
  obtain ⟨ho, hl⟩ := rows_items k hk r hr
  have hi := okItems_ok r 0 ho
  have h1 := nest_eq (l := r) (by omega) hi s
  have hof := grow_of r 0 (.lf 0) Nest.of_zero hi
  rw [grow_same] at h1 hof
  have hlen := hof.len
  have hdep := (growT 0 (.lf 0) r).dep_lt
  have h2 := lots_eq 22 (growT 0 (.lf 0) r) (by omega) (by omega) (by omega) s
  have hj := hof.judge (by omega)
  have hrow := rows_of hof (by omega)
  generalize growT 0 (.lf 0) r = t at *
  have h3 := is_parting_any (d := dL t.lots) (ob_list hrow.nice (by rw [List.length_map]; have := hrow.few; omega)).saf s
  rw [hj] at h3
  have h4 := dIn_lots t.lots seen
  rw [decide_eq_false hn] at h4
  have hm : okM [1] s = true := by unfold okM; rw [hsc]; rfl
  unfold l__law_all_right_1
  refine sSeq_nx (sSet_ok (d := dL t.lots) (s1 := s) (eCall_ok (aApp_ok (aC_ok (eCall_ok (aApp_ok (aC_ok (eVar_ok rfl) aN_ok) aN_ok) h1) aN_ok) aN_ok) h2)) ?_
  refine sSeq_nx (sIf_f (oT_f (bT_ok (eBin_ok (eCall_ok (aApp_ok (aC_ok (eVar_ok rfl) aN_ok) aN_ok) h3) eC_ok rfl)) (bT_ok (eBin_ok (eVar_ok rfl) (eVar_ok rfl) h4))) rfl hm) ?_
  refine sSeq_nx (sApp_ok (k := 0) (ds := seen.map dL) (d := dL t.lots) (eVar_ok rfl) rfl (by rw [List.length_map]; omega)) ?_
  rw [List.map_append]
  rfl
theorem few_loop (many : D) {k : Nat} (hk : k < 5) (s : STO) (hsc : s.all scalCell = true) : ∀ (R : List (List Int)) (seen : List (List (List Int))) (v w : Slot), (∀ r ∈ R, r ∈ rowsT k) → (seen ++ R.map fun r => (growT 0 (.lf 0) r).lots).Nodup → seen.length + R.length ≤ 1000 →
    ∃ e, forL (bN 2) l__law_all_right_1 (R.map dI) [.sh many, .ow 1 (.list (seen.map dL)), v, w] s = some (.nx, e, s)
  | [], seen, v, w, _, _, _ => ⟨_, rfl⟩
  | r :: R, seen, v, w, h, hn, hl => by
    rw [List.length_cons] at hl
    have h1 : (growT 0 (.lf 0) r).lots ∉ seen := fun z => (List.nodup_append.mp hn).2.2 _ z _ (by rw [List.map_cons]; exact List.mem_cons_self) rfl
    have h2 := few_turn many hk (h r List.mem_cons_self) h1 (by omega) w s hsc
    obtain ⟨e, ih⟩ := few_loop many hk s hsc R (seen ++ [(growT 0 (.lf 0) r).lots]) (.sh (dI r)) (.sh (dL (growT 0 (.lf 0) r).lots)) (fun q hq => h q (List.mem_cons_of_mem _ hq)) (by rw [List.append_assoc]; exact hn) (by rw [List.length_append]; simp; omega)
    refine ⟨e, ?_⟩
    rw [List.map_cons, forL]
    simp only [bN, Option.bind_some]
    rw [if_pos ⟨by rfl, noTok_dI r⟩]
    show ((l__law_all_right_1 [.sh many, .ow 1 (.list (seen.map dL)), .sh (dI r), w] s).bind _) = _
    rw [h2]
    simp only [Option.bind_some]
    exact ih
theorem all_right_eq {k : Nat} (hk : k < 5) (s : STO) (hsc : s.all scalCell = true) : F__law_all_right [.int (k + 1 : Nat)] s = some (.bool true, s) := by
  obtain ⟨h1, _⟩ := rowsT_len k hk
  obtain ⟨e, h2⟩ := few_loop (.int (k + 1 : Nat)) hk s hsc (rowsT k) [] .no .no (fun r hr => hr) (by rw [List.nil_append]; exact lots_few hk) (by simp; omega)
  refine fnD_rt (d := .bool true) (e1 := e) (s1 := s) ?_ (fin_self _ _)
  unfold b__law_all_right
  refine sSeq_nx (sSet_ok (d := .list []) (s1 := s) (eLst_ok aN_ok)) (sSeq_nx (sFor_ok (ds := (rowsT k).map dI) (s1 := s) (iVal_l (eCall_ok (aApp_ok (aC_ok (eVar_ok rfl) aN_ok) aN_ok) (rows_eq hk s))) (by rw [fz, fzI_nil]; exact h2)) (sSeq_rt (sRet_ok eC_ok)))
end K01
namespace K01
open PySem PySem.Spec PyProof.Rows L2 J
theorem sR_is {l m : List (List Int)} (h : l.Perm m) (hs : m.Pairwise (fun a b => leI a b = true)) : sR l = m := (sR_eq h).trans (sR_of hs)
def bits (d : Nat) : List Int := (comp 4).filter fun f => decide (((d : Int) / 2 ^ f.toNat) % 2 = 1)
theorem c_bits (d : Nat) (s : STO) (vw : VW) (h2 : vw[2]? = some (some (.int d))) (hl : vw.length = 9) : c__law_threes_right_1 vw s = some (dI (bits d), s) := by
  unfold c__law_threes_right_1
  have := eComp_pure (fi := iU rg1 (eC (.int 4))) (bd := bN 8) (fc := bT (eBin dEq (eBin dMod (eOp cInt (aC (eBin dShr (eVar 2) (eVar 8)) aN)) (eC (.int 2))) (eC (.int 1)))) (fe := eVar 8) (own := [8]) (vw := vw) (s := s) (comp 4) PyData.int (fun f => [(8, .int f)]) (fun f => decide (((d : Int) / 2 ^ f.toNat) % 2 = 1)) (fun f => .int f) (iU_ok eC_ok (rg1_ok (n := 4) (by omega))) (by decide) (fun _ _ => rfl)
    (fun f hf => by
      have g2 : (setV (wipeV vw [8]) [(8, .int f)])[2]? = some (some (.int d)) := by simp [setV, wipeV, h2]
      have g8 : (setV (wipeV vw [8]) [(8, .int f)])[8]? = some (some (.int f)) := by simp [setV, wipeV, hl]
      have h0 := (mem_comp.mp hf).1
      refine bT_ok (eBin_ok (eBin_ok (eOp_ok (aC_ok (eBin_ok (eVar_ok g2) (eVar_ok g8) (d := .int ((d : Int) / 2 ^ f.toNat)) ?_) aN_ok) rfl) eC_ok (dMod_ok (by decide))) eC_ok (dEq_int _ _))
      show (if 0 ≤ f then some (PyData.int ((d : Int) / 2 ^ f.toNat)) else none) = _
      rw [if_pos h0]) (fun f hf _ => eVar_ok (by simp [setV, wipeV, hl]))
  rw [this]
  rfl
def rawT : Nat → Nat → List (List Int)
  | _, 0 => []
  | j, k + 1 => (if 1 < (bits j).length then [bits j] else []) ++ rawT (j + 1) k
theorem raw_all : rawT 0 16 = [[0, 1], [0, 2], [1, 2], [0, 1, 2], [0, 3], [1, 3], [0, 1, 3], [2, 3], [0, 2, 3], [1, 2, 3], [0, 1, 2, 3]] := by decide +kernel
theorem raw_loop (s : STO) (c : Slot) (a4 a5 a6 a7 a8 : Slot) : ∀ (k j : Nat) (acc : List (List Int)) (x y : Slot), acc.length + k ≤ 100 →
    ∃ x' y', forL (bN 2) l__law_threes_right_1 ((List.range' j k).map fun i : Nat => PyData.int i) [.ow 1 (dL acc), c, x, y, a4, a5, a6, a7, a8] s = some (.nx, [.ow 1 (dL (acc ++ rawT j k)), c, x', y', a4, a5, a6, a7, a8], s)
  | 0, j, acc, x, y, _ => ⟨x, y, by rw [rawT, List.append_nil]; rfl⟩
  | k + 1, j, acc, x, y, hl => by
    have h1 := c_bits j s (see [] [.ow 1 (dL acc), c, .sh (.int j), y, a4, a5, a6, a7, a8]) rfl rfl
    have hlen : ∀ env : J.Env, (see [] env)[3]? = some (some (dI (bits j))) → bT (eBin dGt (eOp cLen (aC (eVar 3) aN)) (eC (.int 1))) (see [] env) s = some (decide (1 < (bits j).length), s) := fun env h => by
      have : decide ((1 : Int) < ((bits j).length : Int)) = decide (1 < (bits j).length) := decide_eq_decide.mpr (by omega)
      rw [← this]
      exact bT_ok (eBin_ok (eOp_ok (aC_ok (eVar_ok h) aN_ok) (by show some (PyData.int (((bits j).map PyData.int).length : Nat)) = _; rw [List.length_map])) eC_ok rfl)
    have h2 : l__law_threes_right_1 [.ow 1 (dL acc), c, .sh (.int j), y, a4, a5, a6, a7, a8] s = some (.nx, [.ow 1 (dL (acc ++ (if 1 < (bits j).length then [bits j] else []))), c, .sh (.int j), .sh (dI (bits j)), a4, a5, a6, a7, a8], s) := by
      unfold l__law_threes_right_1
      refine sSeq_nx (sSet_ok h1) ?_
      by_cases hb : 1 < (bits j).length
      · rw [if_pos hb]
        have h3 := hlen [.ow 1 (dL acc), c, .sh (.int j), .sh (dI (bits j)), a4, a5, a6, a7, a8] rfl
        rw [decide_eq_true hb] at h3
        refine sSeq_nx (sIf_t h3 (sSeq_nx (sApp_ok (k := 0) (ds := acc.map dI) (d := dI (bits j)) (eVar_ok rfl) rfl (by rw [List.length_map]; omega)) rfl)) ?_
        have : PyData.list (acc.map dI ++ [dI (bits j)]) = dL (acc ++ [bits j]) := congrArg PyData.list (List.map_append (f := dI) (l₁ := acc) (l₂ := [bits j])).symm
        rw [← this]
        rfl
      · rw [if_neg hb, List.append_nil]
        have h3 := hlen [.ow 1 (dL acc), c, .sh (.int j), .sh (dI (bits j)), a4, a5, a6, a7, a8] rfl
        rw [decide_eq_false hb] at h3
        exact sSeq_nx (sIf_f h3 rfl) rfl
    have hl2 : (acc ++ (if 1 < (bits j).length then [bits j] else [])).length ≤ acc.length + 1 := by
      rw [List.length_append]
      split <;> simp
    obtain ⟨x', y', ih⟩ := raw_loop s c a4 a5 a6 a7 a8 k (j + 1) (acc ++ (if 1 < (bits j).length then [bits j] else [])) (.sh (.int j)) (.sh (dI (bits j))) (by omega)
    refine ⟨x', y', ?_⟩
    rw [List.range'_succ, List.map_cons, forL]
    simp only [bN, Option.bind_some]
    rw [if_pos ⟨by rfl, by rfl⟩]
    show ((l__law_threes_right_1 [.ow 1 (dL acc), c, .sh (.int j), y, a4, a5, a6, a7, a8] s).bind _) = _
    rw [h2]
    simp only [Option.bind_some]
    rw [rawT, ← List.append_assoc]
    exact ih
/-- a loop over whole numbers that adds up -/
theorem forL_sum {slot : Nat} {body : Sv} {s : STO} (P : Nat → J.Env → Prop) (f : Nat → Nat) (hlen : ∀ c env, P c env → slot < env.length) : ∀ (k j c : Nat) (env : J.Env), P c env →
    (∀ i c env, j ≤ i → i < j + k → P c env → ∃ env', body (env.set slot (.sh (.int i))) s = some (.nx, env', s) ∧ P (c + f i) env') →
    ∃ env', forL (bN slot) body ((List.range' j k).map fun i : Nat => PyData.int i) env s = some (.nx, env', s) ∧ P (c + ((List.range' j k).map f).sum) env'
  | 0, j, c, env, h, _ => ⟨env, rfl, by simpa using h⟩
  | k + 1, j, c, env, h, step => by
    obtain ⟨e1, h1, h2⟩ := step j c env (Nat.le_refl _) (by omega) h
    obtain ⟨e2, h3, h4⟩ := forL_sum P f hlen k (j + 1) (c + f j) e1 h2 fun i c' env' hi1 hi2 => step i c' env' (by omega) (by omega)
    refine ⟨e2, ?_, ?_⟩
    · rw [List.range'_succ, List.map_cons, forL]
      simp only [bN, Option.bind_some]
      rw [if_pos ⟨by simp [allLt, hlen c env h], by rfl⟩]
      show ((body (env.set slot (.sh (.int j))) s).bind _) = _
      rw [h1]
      exact h3
    · rw [List.range'_succ, List.map_cons, List.sum_cons, ← Nat.add_assoc]
      exact h4
theorem fz0 {a : D} {r : J.Env} {k : Nat} {d : D} {s : STO} : fzIf k d [0] s (.sh a :: r) = .sh a :: r := by
  unfold fzIf
  split
  · rfl
  · apply List.ext_getElem?
    intro j
    rw [fz_get]
    cases j with
    | zero => rfl
    | succ j =>
      have : [0].contains (j + 1) = false := by simp
      rw [this]
      cases (Slot.sh a :: r)[j + 1]? with
      | none => rfl
      | some x => show some (fzS false x) = some x; rw [fzS_ff]
theorem every_rows : ∀ h < 11, rowB 4 (every4.getD h []) = true ∧ 1 < (every4.getD h []).length ∧ (every4.getD h []).length ≤ 4 ∧ every4[h]? = some (every4.getD h []) := by decide +kernel
theorem three_turn (l m h c : Nat) (hl : l < 11) (hm : m < 11) (hh : h < 11) (a2 a3 a7 a8 : Slot) (s : STO) :
    l__law_threes_right_2 [.sh (dL every4), .sh (.int c), a2, a3, .sh (.int l), .sh (.int m), .sh (.int h), a7, a8] s = some (.nx, [.sh (dL every4), .sh (.int (c + (if partB (three h m l) = true then 1 else 0) : Nat)), a2, a3, .sh (.int l), .sh (.int m), .sh (.int h), .sh (dL (three h m l)), a8], s) := by
  obtain ⟨l1, l2, l3, l4⟩ := every_rows l hl
  obtain ⟨m1, m2, m3, m4⟩ := every_rows m hm
  obtain ⟨h1, h2, h3, h4⟩ := every_rows h hh
  have hall : ∀ g ∈ three h m l, rowB ((three h m l).length + 1) g = true ∧ 1 < g.length := fun g hg => by
    simp only [three, List.mem_cons, List.not_mem_nil, or_false] at hg
    rcases hg with rfl | rfl | rfl
    · exact ⟨h1, h2⟩
    · exact ⟨m1, m2⟩
    · exact ⟨l1, l2⟩
  have hsafe : Safe (dL (three h m l)) := safe_rows (by show 3 < 64; decide) fun g hg => by
    simp only [three, List.mem_cons, List.not_mem_nil, or_false] at hg
    rcases hg with rfl | rfl | rfl <;> omega
  have hj : judge (dL (three h m l)) = partB (three h m l) := judge_dL (by show 3 < 20; decide) hall
  have e1 := is_parting_any (.inl hsafe) s
  have e2 := is_nest_any (.inl hsafe) s
  rw [hj] at e1 e2
  have gi : ∀ (vw : VW) (i n : Nat), vw[0]? = some (some (dL every4)) → vw[i]? = some (some (.int n)) → every4[n]? = some (every4.getD n []) → eIdx (eVar 0) (eVar i) vw s = some (dI (every4.getD n []), s) := fun vw i n g0 g1 g2 => eIdx_ok (eVar_ok g0) (eVar_ok g1) (atI_nat (n := n) rfl (by rw [List.getElem?_map, g2]; rfl))
  unfold l__law_threes_right_2
  refine sSeq_nx (e1 := [.sh (dL every4), .sh (.int c), a2, a3, .sh (.int l), .sh (.int m), .sh (.int h), .sh (dL (three h m l)), a8]) (s1 := s) ?_ ?_
  · rw [sSet_okM (d := dL (three h m l)) (s1 := s) (eLst_ok (aC_ok (gi _ 6 h rfl rfl h4) (aC_ok (gi _ 5 m rfl rfl m4) (aC_ok (gi _ 4 l rfl rfl l4) aN_ok)))) rfl, fz0]
    rfl
  · generalize three h m l = it at *
    refine sSeq_nx (sIf_f (bT_ok (eBin_ok (eUn_ok (eCall_ok (aApp_ok (aC_ok (eVar_ok rfl) aN_ok) aN_ok) e1) rfl) (eUn_ok (eCall_ok (aApp_ok (aC_ok (eVar_ok rfl) aN_ok) aN_ok) e2) rfl) (dNe_str _))) rfl) ?_
    refine sSeq_nx (sSet_ok (d := .int (c + (if partB it = true then 1 else 0) : Nat)) (s1 := s) (eBin_ok (eVar_ok rfl) (eOp_ok (aC_ok (eCall_ok (aApp_ok (aC_ok (eVar_ok rfl) aN_ok) aN_ok) e1) aN_ok) rfl) ?_)) rfl
    show some (PyData.int ((c : Int) + (if partB it = true then 1 else 0))) = _
    congr 2
    split <;> simp
end K01
namespace K01
open PySem PySem.Spec PyProof.Rows L2 J
def P3 (l m c : Nat) (env : J.Env) : Prop := ∃ a2 a3 a6 a7 a8, env = [.sh (dL every4), .sh (.int c), a2, a3, .sh (.int l), .sh (.int m), a6, a7, a8]
def P2 (l c : Nat) (env : J.Env) : Prop := ∃ a2 a3 a5 a6 a7 a8, env = [.sh (dL every4), .sh (.int c), a2, a3, .sh (.int l), a5, a6, a7, a8]
def P1 (c : Nat) (env : J.Env) : Prop := ∃ a2 a3 a4 a5 a6 a7 a8, env = [.sh (dL every4), .sh (.int c), a2, a3, a4, a5, a6, a7, a8]
theorem rng_comp (n : Nat) : (List.range' 0 n).map (fun i : Nat => PyData.int i) = (comp n).map PyData.int := by
  unfold comp
  rw [List.map_map, List.range_eq_range']
  rfl
theorem loop3 (l m : Nat) (hl : l < 11) (hm : m < 11) (s : STO) (c : Nat) (env : J.Env) (h : P3 l m c env) : ∃ env', l__law_threes_right_3 env s = some (.nx, env', s) ∧ P3 l m (c + cnt3 m l m) env' := by
  obtain ⟨e1, h1, h2⟩ := forL_sum (slot := 6) (body := l__law_threes_right_2) (s := s) (P3 l m) (fun h => if partB (three h m l) = true then 1 else 0) (fun c env h => by obtain ⟨_, _, _, _, _, rfl⟩ := h; simp) m 0 c env h (fun i c env _ hi hP => by
    obtain ⟨a2, a3, a6, a7, a8, rfl⟩ := hP
    exact ⟨_, three_turn l m i c hl hm (by omega) a2 a3 a7 a8 s, a2, a3, _, _, a8, rfl⟩)
  refine ⟨e1, ?_, by unfold cnt3; rw [List.range_eq_range']; exact h2⟩
  rw [rng_comp] at h1
  obtain ⟨a2, a3, a6, a7, a8, rfl⟩ := h
  unfold l__law_threes_right_3
  exact sSeq_nx (sFor0_ok (ds := (comp m).map PyData.int) (s1 := s) (iU_ok (eVar_ok rfl) (rg1_ok (by omega))) h1) rfl
theorem loop2 (l : Nat) (hl : l < 11) (s : STO) (c : Nat) (env : J.Env) (h : P2 l c env) : ∃ env', l__law_threes_right_4 env s = some (.nx, env', s) ∧ P2 l (c + cnt2 l l) env' := by
  obtain ⟨e1, h1, h2⟩ := forL_sum (slot := 5) (body := l__law_threes_right_3) (s := s) (P2 l) (fun m => cnt3 m l m) (fun c env h => by obtain ⟨_, _, _, _, _, _, rfl⟩ := h; simp) l 0 c env h (fun i c env _ hi hP => by
    obtain ⟨a2, a3, a5, a6, a7, a8, rfl⟩ := hP
    obtain ⟨e, g1, b2, b3, b6, b7, b8, rfl⟩ := loop3 l i hl (by omega) s c [.sh (dL every4), .sh (.int c), a2, a3, .sh (.int l), .sh (.int i), a6, a7, a8] ⟨a2, a3, a6, a7, a8, rfl⟩
    exact ⟨_, g1, b2, b3, _, b6, b7, b8, rfl⟩)
  refine ⟨e1, ?_, by unfold cnt2; rw [List.range_eq_range']; exact h2⟩
  rw [rng_comp] at h1
  obtain ⟨a2, a3, a5, a6, a7, a8, rfl⟩ := h
  unfold l__law_threes_right_4
  exact sSeq_nx (sFor0_ok (ds := (comp l).map PyData.int) (s1 := s) (iU_ok (eVar_ok rfl) (rg1_ok (by omega))) h1) rfl
theorem threes_eq (s : STO) : F__law_threes_right [] s = some (.bool true, s) := by
  obtain ⟨x, y, h1⟩ := raw_loop s (.sh (.int 0)) .no .no .no .no .no 16 0 [] .no .no (by decide)
  rw [List.nil_append, raw_all, rng_comp] at h1
  obtain ⟨e2, h2, h3⟩ := forL_sum (slot := 4) (body := l__law_threes_right_4) (s := s) P1 (fun l => cnt2 l l) (fun c env h => by obtain ⟨_, _, _, _, _, _, _, rfl⟩ := h; simp) 11 0 0 [.sh (dL every4), .sh (.int (0 : Nat)), x, y, .no, .no, .no, .no, .no] ⟨x, y, .no, .no, .no, .no, .no, rfl⟩ (fun i c env _ hi hP => by
    obtain ⟨a2, a3, a4, a5, a6, a7, a8, rfl⟩ := hP
    obtain ⟨e, g1, b2, b3, b5, b6, b7, b8, rfl⟩ := loop2 i (by omega) s c [.sh (dL every4), .sh (.int c), a2, a3, .sh (.int i), a5, a6, a7, a8] ⟨a2, a3, a5, a6, a7, a8, rfl⟩
    exact ⟨_, g1, b2, b3, _, b5, b6, b7, b8, rfl⟩)
  have hc : 0 + ((List.range' 0 11).map fun l => cnt2 l l).sum = 15 := by
    have := cnt_all
    unfold cnt1 at this
    rw [List.range_eq_range'] at this
    rw [Nat.zero_add]
    exact this
  rw [hc] at h3
  rw [rng_comp] at h2
  obtain ⟨a2, a3, a4, a5, a6, a7, a8, rfl⟩ := h3
  have hs : sR [[0, 1], [0, 2], [1, 2], [0, 1, 2], [0, 3], [1, 3], [0, 1, 3], [2, 3], [0, 2, 3], [1, 2, 3], [0, 1, 2, 3]] = every4 := sR_is (by decide) (by decide)
  refine fnD_rt (d := .bool true) (e1 := [.sh (dL every4), .sh (.int (15 : Nat)), a2, a3, a4, a5, a6, a7, a8]) (s1 := s) ?_ (fin_self _ _)
  unfold b__law_threes_right
  refine sSeq_nx (sPar_ok (d1 := .list []) (d2 := .int 0) (s1 := s) (s2 := s) (eLst_ok aN_ok) eC_ok) ?_
  refine sSeq_nx (sFor0_ok (ds := (comp 16).map PyData.int) (s1 := s) (iU_ok eC_ok (rg1_ok (n := 16) (by omega))) h1) ?_
  refine sSeq_nx (e1 := [.sh (dL every4), .sh (.int (0 : Nat)), x, y, .no, .no, .no, .no, .no]) (s1 := s) ?_ ?_
  · rw [sSet_okM (d := dL every4) (s1 := s) (eUn_ok (eVar_ok rfl) (by rw [← hs]; exact dSort_dL (by decide))) rfl, fzIf_one]
    rfl
  · refine sSeq_nx (sFor0_ok (ds := (comp 11).map PyData.int) (s1 := s) (iU_ok eC_ok (rg1_ok (n := 11) (by omega))) h2) ?_
    exact sSeq_rt (sRet_ok (eBin_ok (eVar_ok rfl) eC_ok (dEq_t (by decide))))
/-! ### the law -/
def pouches (s : STO) : Prop := plainS s ∧ s.all scalCell = true
theorem good_pouches {n : Nat} {p s : STO} (h : Good n p [] s) (hp : pouches p) : pouches s := by
  refine ⟨h.plain hp.1 plainS_nil, ?_⟩
  obtain ⟨a, b, c, rfl, _⟩ := h
  rw [List.all_append, hp.2]
  rfl
theorem turn1 {n : Nat} {p s : STO} (hg : Good n p [] s) (hn : n < 2 ^ 30) (hp : pouches p) (a0 a1 a3 a4 : Slot) : ∃ s', l_law_1 [a0, a1, .sh (tokD p.length), a3, a4] s = some (.nx, [a0, a1, .sh (tokD p.length), a3, a4], s') ∧ Good (n + 300) p [] s' := by
  obtain ⟨s', e1, g1⟩ := right_eq hg (by omega) hp.1 plainS_nil
  refine ⟨s', ?_, g1⟩
  unfold l_law_1
  exact sSeq_nx (sIf_f (nT_ok (b := true) (bT_ok (eCall_ok (aApp_ok (aC_ok (eVar_ok rfl) aN_ok) aN_ok) e1))) rfl) rfl
theorem forL_cons {i : Nat} {body : Sv} {d : D} {r : List D} {env env1 : J.Env} {s s1 : STO} {R : Option (Out × J.Env × STO)} (hi : i < env.length) (hd : noTok d = true)
    (h : body (env.set i (.sh d)) s = some (.nx, env1, s1)) (h2 : forL (bN i) body r env1 s1 = R) : forL (bN i) body (d :: r) env s = R := by
  rw [forL]
  simp only [bN, Option.bind_some]
  rw [if_pos ⟨by simp [allLt, hi], hd⟩]
  show ((body (env.set i (.sh d)) s).bind _) = _
  rw [h]
  exact h2
theorem comp2 : (comp 2).map PyData.int = [.int 0, .int 1] := rfl
theorem two_turns {body : Sv} {a0 a1 a2 x3 a4 : Slot} {s s1 s2 : STO} (e2 : body [a0, a1, a2, .sh (.int 0), a4] s = some (.nx, [a0, a1, a2, .sh (.int 0), a4], s1))
    (e3 : body [a0, a1, a2, .sh (.int 1), a4] s1 = some (.nx, [a0, a1, a2, .sh (.int 1), a4], s2)) : forL (bN 3) body ((comp 2).map PyData.int) [a0, a1, a2, x3, a4] s = some (.nx, [a0, a1, a2, .sh (.int 1), a4], s2) := by
  rw [comp2]
  exact forL_cons (by simp) rfl e2 (forL_cons (by simp) rfl e3 rfl)
theorem cell_turn (ns : List Int) (hns : ns.length < 1000) (i : Nat) (hi : i < 100) {s : STO} (hs : pouches s) (x3 : Slot) (x2 : Slot) : ∃ x2' x3' s', l_law_2 [.sh (skD (ns.map PyData.int)), .sh (.int i), x2, x3, .no] s = some (.nx, [.sh (skD (ns.map PyData.int)), .sh (.int i), x2', x3', .no], s') ∧ pouches s' := by
  obtain ⟨ds, e1, hsc, hG⟩ := pouch_eq ns i hi hns s
  have g0 := hG s []
  generalize skD (ns.map PyData.int) = sk at *
  obtain ⟨s1, e2, g1⟩ := turn1 g0 (by omega) hs (.sh sk) (.sh (.int i)) (.sh (.int 0)) .no
  obtain ⟨s2, e3, g2⟩ := turn1 g1 (by omega) hs (.sh sk) (.sh (.int i)) (.sh (.int 1)) .no
  have hp2 := good_pouches g2 hs
  clear g2 g1 g0 hG
  refine ⟨.sh (tokD s.length), .sh (.int 1), s2, ?_, hp2⟩
  have hfor := two_turns (x3 := x3) e2 e3
  clear e2 e3
  unfold l_law_2
  refine sSeq_nx (sNew_ok (s1 := s) (eCall_ok (aApp_ok (aC_ok (eVar_ok rfl) (aC_ok (eVar_ok rfl) aN_ok)) aN_ok) e1)) ?_
  refine sSeq_nx (e1 := [.sh sk, .sh (.int i), .sh (tokD s.length), .sh (.int 1), .no]) (s1 := s2) ?_ rfl
  refine sFor0_ok (ds := (comp 2).map PyData.int) (s1 := s ++ [.lst ds]) ?_ (by exact hfor)
  exact iU_ok eC_ok (rg1_ok (n := 2) (by omega))
theorem cells (ns : List Int) (hns : ns.length < 1000) : ∀ (k j : Nat) (y x w : Slot) (s : STO), j + k ≤ 100 → pouches s →
    ∃ y' x' w' s', forL (bN 1) l_law_2 ((List.range' j k).map fun i : Nat => PyData.int i) [.sh (skD (ns.map PyData.int)), y, x, w, .no] s = some (.nx, [.sh (skD (ns.map PyData.int)), y', x', w', .no], s') ∧ pouches s'
  | 0, j, y, x, w, s, _, hp => ⟨y, x, w, s, rfl, hp⟩
  | k + 1, j, y, x, w, s, hj, hp => by
    obtain ⟨x1, w1, s1, e1, p1⟩ := cell_turn ns hns j (by omega) hp w x
    obtain ⟨y2, x2, w2, s2, e2, p2⟩ := cells ns hns k (j + 1) (.sh (.int j)) x1 w1 s1 (by omega) p1
    refine ⟨y2, x2, w2, s2, ?_, p2⟩
    rw [List.range'_succ, List.map_cons]
    exact forL_cons (by simp) rfl e1 e2
theorem few_step (a0 a1 a2 a3 : Slot) (s : STO) (z : Int) (h : F__law_all_right [.int z] s = some (.bool true, s)) : l_law_3 [a0, a1, a2, a3, .sh (.int z)] s = some (.nx, [a0, a1, a2, a3, .sh (.int z)], s) := by
  unfold l_law_3
  exact sSeq_nx (sIf_f (nT_ok (b := true) (bT_ok (eCall_ok (aApp_ok (aC_ok (eVar_ok rfl) aN_ok) aN_ok) h))) rfl) rfl
theorem few_goes (a0 a1 a2 a3 : Slot) (s : STO) : ∀ (zs : List Int) (x : Slot), (∀ z ∈ zs, F__law_all_right [.int z] s = some (.bool true, s)) → ∃ x', forL (bN 4) l_law_3 (zs.map PyData.int) [a0, a1, a2, a3, x] s = some (.nx, [a0, a1, a2, a3, x'], s)
  | [], x, _ => ⟨x, rfl⟩
  | z :: r, x, h => by
    obtain ⟨x', ih⟩ := few_goes a0 a1 a2 a3 s r (.sh (.int z)) fun y hy => h y (List.mem_cons_of_mem _ hy)
    refine ⟨x', ?_⟩
    rw [List.map_cons]
    exact forL_cons (by simp) rfl (few_step a0 a1 a2 a3 s z (h z List.mem_cons_self)) ih
theorem few_all (a0 a1 a2 a3 : Slot) (s : STO) (hp : pouches s) (x : Slot) : ∃ x', forL (bN 4) l_law_3 (([1, 2, 3, 4, 5] : List Int).map PyData.int) [a0, a1, a2, a3, x] s = some (.nx, [a0, a1, a2, a3, x'], s) := by
  refine few_goes a0 a1 a2 a3 s _ x fun z hz => ?_
  have h1 : ∃ k : Nat, k < 5 ∧ z = ((k + 1 : Nat) : Int) := by
    simp only [List.mem_cons, List.not_mem_nil, or_false] at hz
    exact ⟨(z - 1).toNat, by omega, by omega⟩
  obtain ⟨k, hk, rfl⟩ := h1
  exact all_right_eq hk s hp.2
theorem rg16 : rg2 (.int 1) (.int 6) = some (([1, 2, 3, 4, 5] : List Int).map PyData.int) := by
  have h1 : inRg 1 = true := inRg_nat (n := 1) (by omega)
  have h6 : inRg 6 = true := inRg_nat (n := 6) (by omega)
  exact rg2_eq.trans ((if_pos ⟨h1, h6⟩).trans rfl)
theorem law_true : ∀ ns : List Int, ns.length ≤ 63 → fnD 5 b_law [skD (ns.map PyData.int)] [] = some (.bool true, []) := by
  intro ns hns
  obtain ⟨m, hm, hm2⟩ : ∃ m : Nat, m ≤ 4 ∧ eOp cMax (aC (eC (.int 1)) (aC (eOp cMin (aC (eC (.int 4)) (aC (eOp cLen (aC (eVar 0) aN)) aN))) aN)) (see [] [.sh (skD (ns.map PyData.int)), .no, .no, .no, .no]) [] = some (.int m, []) := by
    refine ⟨max 1 (min 4 ns.length), by omega, ?_⟩
    refine eOp_ok (aC_ok eC_ok (aC_ok (eOp_ok (aC_ok eC_ok (aC_ok (eOp_ok (aC_ok (eVar_ok rfl) aN_ok) rfl) aN_ok)) rfl) aN_ok)) ?_
    show some (PyData.int _) = some (PyData.int _)
    rw [List.length_map]
    congr 2
    split <;> split <;> omega
  obtain ⟨y, x, w, s, e1, hp⟩ := cells ns (by omega) m 0 .no .no .no [] (by omega) ⟨plainS_nil, rfl⟩
  rw [rng_comp] at e1
  obtain ⟨x4, e2⟩ := few_all (.sh (skD (ns.map PyData.int))) y x w s hp .no
  have p0 := is_parting_any (d := dL []) (.inl (safe_rows (by decide) (by simp))) s
  have p1 := is_parting_any (d := dL [[0, 1]]) (.inl (safe_rows (by decide) (by decide))) s
  have j0 : judge (dL []) = true := by decide +kernel
  have j1 : judge (dL [[0, 1]]) = true := by decide +kernel
  rw [j0] at p0
  rw [j1] at p1
  refine fnD_rt (d := .bool true) (e1 := [.sh (skD (ns.map PyData.int)), y, x, w, x4]) (s1 := s) ?_ ?_
  · unfold b_law
    refine sSeq_nx (e1 := [.sh (skD (ns.map PyData.int)), y, x, w, .no]) (s1 := s) (sFor0_ok (ds := (comp m).map PyData.int) (s1 := []) (iU_ok hm2 (rg1_ok (by omega))) e1) ?_
    refine sSeq_nx (e1 := [.sh (skD (ns.map PyData.int)), y, x, w, x4]) (s1 := s) (sFor0_ok (ds := ([1, 2, 3, 4, 5] : List Int).map PyData.int) (s1 := s) (iB_ok eC_ok eC_ok rg16) e2) ?_
    exact sSeq_rt (sRet_ok (eAnd_t (eCall_ok aN_ok (threes_eq s)) (eAnd_t (eBin_ok (eCall_ok (aApp_ok (aC_ok (eLst_ok aN_ok) aN_ok) aN_ok) p0) eC_ok rfl) (eBin_ok (eCall_ok (aApp_ok (aC_ok eC_ok aN_ok) aN_ok) p1) eC_ok rfl))))
  · unfold fin
    by_cases h : s.length = ([] : STO).length
    · rw [if_pos h, List.eq_nil_of_length_eq_zero h]
    · rw [if_neg h]
      rfl
end K01
open PySem PySem.W PyProof.Rows
set_option maxHeartbeats 0 in
theorem PySem.Challenge.cw_twopartings_k01_partings_judged_holds : PySem.Challenge.rw_twopartings_k01_partings_judged.Holds := by
  w_on; o_law; k_head; (case hw => w_witness2)
  k_fill
  refine J.walk_g (l := PySem.Challenge.rw_twopartings_k01_partings_judged) (n := 63) (k := 47) (x := "script") rfl (by decide) rfl ⟨rfl, by decide, by decide⟩ (fun w h Y => PySem.W.kIn_of Y) ?F K01.law_true
  case F =>
    intro w mg fa h KX G hmg
    refine' K01.all_mk KX G hmg ?a0 ?l0 ?c0 ?k0 ?a1 ?l1 ?c1 ?k1 ?a2 ?l2 ?c2 ?k2 ?a3 ?l3 ?c3 ?k3 ?a4 ?l4 ?c4 ?k4 ?a5 ?l5 ?c5 ?k5 ?a6 ?l6 ?c6 ?k6 ?a7 ?l7 ?c7 ?k7 ?a8 ?l8 ?c8 ?k8 ?a9 ?l9 ?c9 ?k9 ?a10 ?l10 ?c10 ?k10 ?a11 ?l11 ?c11 ?k11 ?a12 ?l12 ?c12 ?k12 ?a13 ?l13 ?c13 ?k13 ?a14 ?l14 ?c14 ?k14 ?a15 ?l15 ?c15 ?k15 ?a16 ?l16 ?c16 ?k16 ?a17 ?l17 ?c17 ?k17 ?a18 ?l18 ?c18 ?k18 ?a19 ?l19 ?c19 ?k19 ?a20 ?l20 ?c20 ?k20 ?a21 ?l21 ?c21 ?k21 ?a22 ?l22 ?c22 ?k22 ?a23 ?l23 ?c23 ?k23 ?y_abs ?y_all ?y_bool ?y_enumerate ?y_int ?y_isinstance ?y_len ?y_list ?y_max ?y_min ?y_range ?y_repr ?y_set ?y_sorted ?y_tuple ?y_zip ?x_MOST_PERSONS
    (case a0 => k_is); (case l0 => k_is); (case c0 => k_is); (case k0 => k_is); (case a1 => k_is); (case l1 => k_is); (case c1 => k_is); (case k1 => k_is); (case a2 => k_is); (case l2 => k_is); (case c2 => k_is); (case k2 => k_is); (case a3 => k_is); (case l3 => k_is); (case c3 => k_is); (case k3 => k_is); (case a4 => k_is); (case l4 => k_is); (case c4 => k_is); (case k4 => k_is); (case a5 => k_is); (case l5 => k_is); (case c5 => k_is); (case k5 => k_is); (case a6 => k_is); (case l6 => k_is); (case c6 => k_is); (case k6 => k_is); (case a7 => k_is); (case l7 => k_is); (case c7 => k_is); (case k7 => k_is); (case a8 => k_is); (case l8 => k_is); (case c8 => k_is); (case k8 => k_is); (case a9 => k_is); (case l9 => k_is); (case c9 => k_is); (case k9 => k_is); (case a10 => k_is); (case l10 => k_is); (case c10 => k_is); (case k10 => k_is); (case a11 => k_is); (case l11 => k_is); (case c11 => k_is); (case k11 => k_is); (case a12 => k_is); (case l12 => k_is); (case c12 => k_is); (case k12 => k_is); (case a13 => k_is); (case l13 => k_is); (case c13 => k_is); (case k13 => k_is); (case a14 => k_is); (case l14 => k_is); (case c14 => k_is); (case k14 => k_is); (case a15 => k_is); (case l15 => k_is); (case c15 => k_is); (case k15 => k_is); (case a16 => k_is); (case l16 => k_is); (case c16 => k_is); (case k16 => k_is); (case a17 => k_is); (case l17 => k_is); (case c17 => k_is); (case k17 => k_is); (case a18 => k_is); (case l18 => k_is); (case c18 => k_is); (case k18 => k_is); (case a19 => k_is); (case l19 => k_is); (case c19 => k_is); (case k19 => k_is); (case a20 => k_is); (case l20 => k_is); (case c20 => k_is); (case k20 => k_is); (case a21 => k_is); (case l21 => k_is); (case c21 => k_is); (case k21 => k_is); (case a22 => k_is); (case l22 => k_is); (case c22 => k_is); (case k22 => k_is); (case a23 => k_is); (case l23 => k_is); (case c23 => k_is); (case k23 => k_is); (case y_abs => k_is); (case y_all => k_is); (case y_bool => k_is); (case y_enumerate => k_is); (case y_int => k_is); (case y_isinstance => k_is); (case y_len => k_is); (case y_list => k_is); (case y_max => k_is); (case y_min => k_is); (case y_range => k_is); (case y_repr => k_is); (case y_set => k_is); (case y_sorted => k_is); (case y_tuple => k_is); (case y_zip => k_is); (case x_MOST_PERSONS => k_is)
