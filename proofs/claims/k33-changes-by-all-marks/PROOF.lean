import PyProof.Rows.All
import Wide.All
import OpenK.AllK
import Wide.FinOn
import HandS.ForMost
import HandS.Deep
import HandS.Walk
import HandS.IsInst
import HandS.Conv
import HandS.Wide
import HandS.WideBits
import HandS.TupLe
import HandS.Style
import HandS.Zip
import HandS.Flow
import HandS.NoneIn
import HandS.Lambda
import KE.SortData
import HandS.RevRange
import HandS.Rev
import HandS.Defaults
import HandS.RaiseMore
import HandS.Ends
import HandS.SetFor
import HandS.Strs
import HandS.DictSubView
import KE.KDictSum
import KE.KDictWalk
import HandS.Iter
import HandS.Star
import KE.DataMinMax
import HandS.DictComp
import PyProof.ReprLen
import PySem.Challenge.RW_twopartings_k33_changes_by_all_marks
set_option Elab.async false
set_option linter.all false
set_option maxRecDepth 100000
set_option maxHeartbeats 4000000
namespace J
open PySem PySem.Spec PyProof.Rows L2

abbrev D := PySem.PyData
abbrev VW := List (Option D)
/-- what a cell holds: a list or a dict that may change, a table of code objects, a dict that changes no more -/
inductive Cell where
  | lst (ds : List D)
  | dct (t : Bool) (es : List (D × D))
  | tbl (q : Str)
  | fdc (t : Bool) (es : List (D × D))
abbrev STO := List Cell
/-- the token that stands for a cell -/
def tokD (i : Nat) : D := .dict [(.none, .int i)]
/-- the datum of the script's list -/
def skD (ds : List D) : D := .dict [(.none, .list ds)]
def kD : Key → D
  | .inl i => .int i
  | .inr x => .str x

open Classical in
/-- the heap without what A hides -/
noncomputable def hid (A : Addr → Prop) (H : Hp) : Hp := fun a => if A a then none else H a
theorem hid_eq {A : Addr → Prop} {H : Hp} {a : Addr} {o : HO} : hid A H a = some o ↔ ¬ A a ∧ H a = some o := by
  unfold hid
  by_cases h : A a
  · simp [h]
  · simp [h]

mutual
inductive Rp (K : PySem.W.Frag) (S : List Addr) (H : Hp) : V → D → Prop
  | non : Rp K S H .non .none
  | bl (b : Bool) : Rp K S H (.bl b) (.bool b)
  | int (i : Int) : Rp K S H (.int i) (.int i)
  | str (x : Str) : Rp K S H (.str x) (.str x)
  | lst {a : Addr} {xs : List V} {ds : List D} : Rd H a (.lst xs) → RpA K S H xs ds → Rp K S H (.ref a) (.list ds)
  | tup {a : Addr} {xs : List V} {ds : List D} : H a = some (.tup xs) → RpA K S H xs ds → Rp K S H (.ref a) (.tuple ds)
  | dK {a : Addr} {o : Obj} {kvs : List (Key × V)} {es : List (D × D)} : H a = some (.frz o (.dK kvs)) → RpK K S H kvs es → Rp K S H (.ref a) (.dict es)
  | dT {a : Addr} {o : Obj} {p : List Key × V} {kvs : List (List Key × V)} {es : List (D × D)} : H a = some (.frz o (.dT (p :: kvs))) → RpT K S H (p :: kvs) es → Rp K S H (.ref a) (.dict es)
  | tok {a : Addr} {i : Nat} : S[i]? = some a → Rp K S H (.ref a) (tokD i)
  | sk {a : Addr} {xs : List V} {ds : List D} : SqL K H a xs → RpA K S H xs ds → Rp K S H (.ref a) (skD ds)
  | rK {a : Addr} {o : Obj} {kvs : List (Key × V)} {es : List (D × D)} : H a = some (.frz o (.dK kvs)) → RpK K S H kvs es → Rp K S H (.ref a) (.dict ((.none, .bool false) :: es))
  | rT {a : Addr} {o : Obj} {kvs : List (List Key × V)} {es : List (D × D)} : H a = some (.frz o (.dT kvs)) → RpT K S H kvs es → Rp K S H (.ref a) (.dict ((.none, .bool true) :: es))
inductive RpA (K : PySem.W.Frag) (S : List Addr) (H : Hp) : List V → List D → Prop
  | nil : RpA K S H [] []
  | cons {v : V} {vs : List V} {d : D} {ds : List D} : Rp K S H v d → RpA K S H vs ds → RpA K S H (v :: vs) (d :: ds)
inductive RpK (K : PySem.W.Frag) (S : List Addr) (H : Hp) : List (Key × V) → List (D × D) → Prop
  | nil : RpK K S H [] []
  | cons {k : Key} {v : V} {r : List (Key × V)} {d : D} {es : List (D × D)} : Rp K S H v d → RpK K S H r es → RpK K S H ((k, v) :: r) ((kD k, d) :: es)
inductive RpT (K : PySem.W.Frag) (S : List Addr) (H : Hp) : List (List Key × V) → List (D × D) → Prop
  | nil : RpT K S H [] []
  | cons {k : List Key} {v : V} {r : List (List Key × V)} {d : D} {es : List (D × D)} : Rp K S H v d → RpT K S H r es → RpT K S H ((k, v) :: r) ((.tuple (k.map kD), d) :: es)
end

theorem Rd.le {H H' : Hp} {a : Addr} {u : HO} (e : Same H H') (h : Rd H a u) : Rd H' a u := by
  rcases h with h | ⟨o, h⟩
  · exact .inl (e _ _ h)
  · exact .inr ⟨o, e _ _ h⟩

section
variable {K : PySem.W.Frag} {S : List Addr} {H H' : Hp}
theorem Rp.le (e : Same H H') {v : V} {d : D} (h : Rp K S H v d) : Rp K S H' v d :=
  Rp.rec (motive_1 := fun v d _ => Rp K S H' v d) (motive_2 := fun v d _ => RpA K S H' v d) (motive_3 := fun v d _ => RpK K S H' v d) (motive_4 := fun v d _ => RpT K S H' v d)
    .non .bl .int .str (fun s _ h => .lst (Rd.le e s) h) (fun s _ h => .tup (e _ _ s) h) (fun s _ h => .dK (e _ _ s) h) (fun s _ h => .dT (e _ _ s) h) .tok (fun s _ h => .sk (L2.Same.seq e s) h) (fun s _ h => .rK (e _ _ s) h) (fun s _ h => .rT (e _ _ s) h)
    .nil (fun _ _ a b => .cons a b) .nil (fun _ _ a b => .cons a b) .nil (fun _ _ a b => .cons a b) h
theorem RpA.le (e : Same H H') : ∀ {vs : List V} {ds : List D}, RpA K S H vs ds → RpA K S H' vs ds
  | _, _, .nil => .nil
  | _, _, .cons a b => .cons (a.le e) (b.le e)
theorem RpK.le (e : Same H H') : ∀ {vs : List (Key × V)} {ds : List (D × D)}, RpK K S H vs ds → RpK K S H' vs ds
  | _, _, .nil => .nil
  | _, _, .cons a b => .cons (a.le e) (b.le e)
theorem RpT.le (e : Same H H') : ∀ {vs : List (List Key × V)} {ds : List (D × D)}, RpT K S H vs ds → RpT K S H' vs ds
  | _, _, .nil => .nil
  | _, _, .cons a b => .cons (a.le e) (b.le e)
theorem RpK.key : ∀ {vs : List (Key × V)} {ds : List (D × D)}, RpK K S H vs ds → ∀ p ∈ ds, ∃ k, p.1 = kD k
  | _, _, .nil, _, h => nomatch h
  | _, _, .cons (k := k) a b, p, h => by
    rcases List.mem_cons.mp h with rfl | h
    · exact ⟨k, rfl⟩
    · exact b.key p h
theorem RpT.key : ∀ {vs : List (List Key × V)} {ds : List (D × D)}, RpT K S H vs ds → ∀ p ∈ ds, ∃ k : List Key, p.1 = .tuple (k.map kD)
  | _, _, .nil, _, h => nomatch h
  | _, _, .cons (k := k) a b, p, h => by
    rcases List.mem_cons.mp h with rfl | h
    · exact ⟨k, rfl⟩
    · exact b.key p h
theorem RpA.length : ∀ {vs : List V} {ds : List D}, RpA K S H vs ds → vs.length = ds.length
  | _, _, .nil => rfl
  | _, _, .cons _ b => congrArg (· + 1) b.length
theorem RpA.get : ∀ {vs : List V} {ds : List D} {i : Nat} {d : D}, RpA K S H vs ds → ds[i]? = some d → ∃ v, vs[i]? = some v ∧ Rp K S H v d
  | _, _, _, _, .nil, h => by simp at h
  | _, _, 0, d, .cons a b, h => by simp at h; subst h; exact ⟨_, rfl, a⟩
  | _, _, i + 1, d, .cons a b, h => by
    obtain ⟨v, e, r⟩ := RpA.get (i := i) b (by simpa using h)
    exact ⟨v, by simpa using e, r⟩
theorem RpA.getV : ∀ {vs : List V} {ds : List D} {i : Nat} {v : V}, RpA K S H vs ds → vs[i]? = some v → ∃ d, ds[i]? = some d ∧ Rp K S H v d
  | _, _, _, _, .nil, h => by simp at h
  | _, _, 0, d, .cons a b, h => by simp at h; subst h; exact ⟨_, rfl, a⟩
  | _, _, i + 1, d, .cons a b, h => by
    obtain ⟨v, e, r⟩ := RpA.getV (i := i) b (by simpa using h)
    exact ⟨v, by simpa using e, r⟩
theorem RpA.append : ∀ {vs ws : List V} {ds es : List D}, RpA K S H vs ds → RpA K S H ws es → RpA K S H (vs ++ ws) (ds ++ es)
  | _, _, _, _, .nil, h => h
  | _, _, _, _, .cons a b, h => .cons a (b.append h)
theorem RpA.take : ∀ {vs : List V} {ds : List D} (n : Nat), RpA K S H vs ds → RpA K S H (vs.take n) (ds.take n)
  | _, _, 0, _ => .nil
  | _, _, _ + 1, .nil => .nil
  | _, _, n + 1, .cons a b => .cons a (b.take n)
theorem RpA.drop : ∀ {vs : List V} {ds : List D} (n : Nat), RpA K S H vs ds → RpA K S H (vs.drop n) (ds.drop n)
  | _, _, 0, h => h
  | _, _, _ + 1, .nil => .nil
  | _, _, n + 1, .cons a b => b.drop n
theorem RpA.set {v : V} {d : D} (r : Rp K S H v d) : ∀ {vs : List V} {ds : List D} (n : Nat), RpA K S H vs ds → RpA K S H (vs.set n v) (ds.set n d)
  | _, _, _, .nil => .nil
  | _, _, 0, .cons a b => .cons r b
  | _, _, n + 1, .cons a b => .cons a (b.set r n)
theorem RpA.reverse : ∀ {vs : List V} {ds : List D}, RpA K S H vs ds → RpA K S H vs.reverse ds.reverse
  | _, _, .nil => .nil
  | _, _, .cons a b => by rw [List.reverse_cons, List.reverse_cons]; exact b.reverse.append (.cons a .nil)
theorem RpA.ints : ∀ {vs : List V} {ns : List Int}, RpA K S H vs (ns.map PyData.int) → vs = ns.map V.int
  | _, [], .nil => rfl
  | _, n :: ns, .cons a b => by cases a; rw [b.ints]; rfl
theorem RpA.of_ints : ∀ (ns : List Int), RpA K S H (ns.map V.int) (ns.map PyData.int)
  | [] => .nil
  | n :: ns => .cons (.int n) (RpA.of_ints ns)
end

/-- what the store may not be kept of -/
def Ext (S : List Addr) (H H' : Hp) : Prop := ∀ a o, a ∉ S → H a = some o → H' a = some o
theorem Ext.refl {S : List Addr} {H : Hp} : Ext S H H := fun _ _ _ h => h
theorem Ext.trans {S : List Addr} {H H1 H2 : Hp} (a : Ext S H H1) (b : Ext S H1 H2) : Ext S H H2 := fun c o n h => b c o n (a c o n h)
theorem Ext.of {S : List Addr} {H H' : Hp} (h : Same H H') : Ext S H H' := fun a o _ e => h a o e

mutual
inductive Ow (K : PySem.W.Frag) (S : List Addr) (A : Addr → Prop) (H : Hp) : Nat → V → D → List Addr → Prop
  | sh {v : V} {d : D} : Rp K S (hid A H) v d → Ow K S A H 0 v d []
  | at {k : Nat} {v : V} {d : D} : (∀ ds, d ≠ .list ds) → True → Rp K S (hid A H) v d → Ow K S A H (k + 1) v d []
  | lst {k : Nat} {a : Addr} {vs : List V} {ds : List D} {F : List Addr} : H a = some (.lst vs) → OwA K S A H k vs ds F → Ow K S A H (k + 1) (.ref a) (.list ds) (a :: F)
inductive OwA (K : PySem.W.Frag) (S : List Addr) (A : Addr → Prop) (H : Hp) : Nat → List V → List D → List Addr → Prop
  | nil {k : Nat} : OwA K S A H k [] [] []
  | cons {k : Nat} {v : V} {vs : List V} {d : D} {ds : List D} {F G : List Addr} : Ow K S A H k v d F → OwA K S A H k vs ds G → OwA K S A H k (v :: vs) (d :: ds) (F ++ G)
end

section
variable {K : PySem.W.Frag} {S : List Addr} {A A' : Addr → Prop} {H H' : Hp}
theorem hid_le (h : ∀ a, A' a → A a) : Same (hid A H) (hid A' H) := fun a o e => by
  rw [hid_eq] at e ⊢
  exact ⟨fun z => e.1 (h a z), e.2⟩
mutual
/-- what was owned is given to all -/
theorem Ow.rp : ∀ {k : Nat} {v : V} {d : D} {F : List Addr}, Ow K S A H k v d F → (∀ a, A' a → A a) → (∀ a ∈ F, ¬ A' a) → Rp K S (hid A' H) v d
  | _, _, _, _, .sh r, h, _ => r.le (hid_le h)
  | _, _, _, _, .at _ _ r, h, _ => r.le (hid_le h)
  | _, _, _, _, .lst e t, h, hF => .lst (.inl (hid_eq.mpr ⟨hF _ List.mem_cons_self, e⟩)) (t.rp h fun a ha => hF a (List.mem_cons_of_mem _ ha))
theorem OwA.rp : ∀ {k : Nat} {vs : List V} {ds : List D} {F : List Addr}, OwA K S A H k vs ds F → (∀ a, A' a → A a) → (∀ a ∈ F, ¬ A' a) → RpA K S (hid A' H) vs ds
  | _, _, _, _, .nil, _, _ => .nil
  | _, _, _, _, .cons a b, h, hF => .cons (a.rp h fun a ha => hF a (List.mem_append_left _ ha)) (b.rp h fun a ha => hF a (List.mem_append_right _ ha))
end
theorem hid_move (e : Ext S H H') (hS : ∀ a, a ∈ S → A a) (hA : ∀ a, A' a → A a ∨ H a = none) : Same (hid A H) (hid A' H') := fun a o q => by
  rw [hid_eq] at q ⊢
  refine ⟨fun z => ?_, e a o (fun z => q.1 (hS a z)) q.2⟩
  rcases hA a z with z | z
  · exact q.1 z
  · rw [z] at q; exact nomatch q.2
mutual
/-- the heap went on -/
theorem Ow.mv (hs : Same (hid A H) (hid A' H')) : ∀ {k : Nat} {v : V} {d : D} {F : List Addr}, Ow K S A H k v d F → (∀ a ∈ F, ∀ o, H a = some o → H' a = some o) → Ow K S A' H' k v d F
  | _, _, _, _, .sh r, _ => .sh (r.le hs)
  | _, _, _, _, .at h1 h2 r, _ => .at h1 h2 (r.le hs)
  | _, _, _, _, .lst q t, h => .lst (h _ List.mem_cons_self _ q) (t.mv hs fun a ha => h a (List.mem_cons_of_mem _ ha))
theorem OwA.mv (hs : Same (hid A H) (hid A' H')) : ∀ {k : Nat} {v : List V} {d : List D} {F : List Addr}, OwA K S A H k v d F → (∀ a ∈ F, ∀ o, H a = some o → H' a = some o) → OwA K S A' H' k v d F
  | _, _, _, _, .nil, _ => .nil
  | _, _, _, _, .cons a b, h => .cons (a.mv hs fun a ha => h a (List.mem_append_left _ ha)) (b.mv hs fun a ha => h a (List.mem_append_right _ ha))
end
theorem Ow.move (e : Ext S H H') (hS : ∀ a, a ∈ S → A a) (hA : ∀ a, A' a → A a ∨ H a = none) {k : Nat} {v : V} {d : D} {F : List Addr} (o : Ow K S A H k v d F) (h : ∀ a ∈ F, a ∉ S) : Ow K S A' H' k v d F :=
  o.mv (hid_move e hS hA) fun a ha o q => e a o (h a ha) q
theorem OwA.move (e : Ext S H H') (hS : ∀ a, a ∈ S → A a) (hA : ∀ a, A' a → A a ∨ H a = none) {k : Nat} {v : List V} {d : List D} {F : List Addr} (o : OwA K S A H k v d F) (h : ∀ a ∈ F, a ∉ S) : OwA K S A' H' k v d F :=
  o.mv (hid_move e hS hA) fun a ha o q => e a o (h a ha) q
theorem OwA.length : ∀ {k : Nat} {vs : List V} {ds : List D} {F : List Addr}, OwA K S A H k vs ds F → vs.length = ds.length
  | _, _, _, _, .nil => rfl
  | _, _, _, _, .cons _ b => congrArg (· + 1) b.length
theorem OwA.append : ∀ {k : Nat} {vs ws : List V} {ds es : List D} {F G : List Addr}, OwA K S A H k vs ds F → OwA K S A H k ws es G → OwA K S A H k (vs ++ ws) (ds ++ es) (F ++ G)
  | _, _, _, _, _, _, _, .nil, h => h
  | _, _, _, _, _, _, _, .cons a b, h => by rw [List.append_assoc]; exact .cons a (b.append h)
theorem OwA.zero : ∀ {vs : List V} {ds : List D}, RpA K S (hid A H) vs ds → OwA K S A H 0 vs ds []
  | _, _, .nil => .nil
  | _, _, .cons a b => .cons (F := []) (.sh a) (OwA.zero b)
mutual
/-- owned less deep -/
theorem Ow.weak : ∀ {k : Nat} {v : V} {d : D} {F : List Addr} (j : Nat), Ow K S A H k v d F → j ≤ k → F.Nodup → ∃ F', F'.Sublist F ∧ ∀ A', (∀ a, A' a → A a) → (∀ a ∈ F, A' a → a ∈ F') → Ow K S A' H j v d F'
  | _, _, _, F, 0, o, _, _ => ⟨[], List.nil_sublist _, fun A' h1 h2 => .sh (o.rp h1 fun a ha z => by simpa using h2 a ha z)⟩
  | _, _, _, _, j + 1, .at h1 h2 r, _, _ => ⟨[], List.nil_sublist _, fun A' q _ => .at h1 h2 (r.le (hid_le q))⟩
  | _, _, _, _, j + 1, .lst (a := a) e t, hk, nd => by
    obtain ⟨F', s, h⟩ := t.weak j (Nat.le_of_succ_le_succ hk) (List.nodup_cons.mp nd).2
    refine ⟨a :: F', s.cons_cons a, fun A' q1 q2 => .lst e (h A' q1 fun b hb z => ?_)⟩
    rcases List.mem_cons.mp (q2 b (List.mem_cons_of_mem _ hb) z) with rfl | w
    · exact absurd hb (List.nodup_cons.mp nd).1
    · exact w
theorem OwA.weak : ∀ {k : Nat} {v : List V} {d : List D} {F : List Addr} (j : Nat), OwA K S A H k v d F → j ≤ k → F.Nodup → ∃ F', F'.Sublist F ∧ ∀ A', (∀ a, A' a → A a) → (∀ a ∈ F, A' a → a ∈ F') → OwA K S A' H j v d F'
  | _, _, _, _, _, .nil, _, _ => ⟨[], List.Sublist.refl _, fun A' _ _ => .nil⟩
  | _, _, _, _, j, .cons (F := F) (G := G) a b, hk, nd => by
    obtain ⟨n1, n2, n3⟩ := List.nodup_append.mp nd
    obtain ⟨F1, s1, h1⟩ := a.weak j hk n1
    obtain ⟨F2, s2, h2⟩ := b.weak j hk n2
    refine ⟨F1 ++ F2, s1.append s2, fun A' q1 q2 => .cons (h1 A' q1 fun x hx z => ?_) (h2 A' q1 fun x hx z => ?_)⟩
    · rcases List.mem_append.mp (q2 x (List.mem_append_left _ hx) z) with w | w
      · exact w
      · exact absurd rfl (n3 x hx x (s2.subset w))
    · rcases List.mem_append.mp (q2 x (List.mem_append_right _ hx) z) with w | w
      · exact absurd rfl (n3 x (s1.subset w) x hx)
      · exact w
end
end
end J
namespace J
open PySem PySem.Spec PyProof.Rows L2

abbrev Ev := VW → STO → Option (D × STO)
abbrev EvA := VW → STO → Option (List D × STO)
abbrev EvT := VW → STO → Option (Bool × STO)
abbrev Sg := L2.St

def isScal : D → Bool
  | .none => true
  | .bool _ => true
  | .int _ => true
  | .str _ => true
  | _ => false
theorem scal_rp {K : PySem.W.Frag} {S S' : List Addr} {H H' : Hp} {v : V} {d : D} (h : isScal d = true) (p : Rp K S H v d) : Rp K S' H' v d := by
  cases p with
  | non => exact .non
  | bl b => exact .bl b
  | int i => exact .int i
  | str x => exact .str x
  | _ => exact absurd h (by simp [isScal, tokD, skD])
theorem scal_rpa {K : PySem.W.Frag} {S S' : List Addr} {H H' : Hp} : ∀ {v : List V} {d : List D}, (∀ x ∈ d, isScal x = true) → RpA K S H v d → RpA K S' H' v d
  | _, _, _, .nil => .nil
  | _, _, h, .cons a b => .cons (scal_rp (h _ List.mem_cons_self) a) (scal_rpa (fun x hx => h x (List.mem_cons_of_mem _ hx)) b)
/-- what stands at a cell's address -/
def CellOk (K : PySem.W.Frag) (S : List Addr) (A : Addr → Prop) (H : Hp) (a : Addr) : Cell → Prop
  | .lst ds => ∃ vs, H a = some (.lst vs) ∧ RpA K S (hid A H) vs ds
  | .dct false es => ∃ kvs, H a = some (.dK kvs) ∧ RpK K S (hid A H) kvs es
  | .dct true es => ∃ kvs, H a = some (.dT kvs) ∧ RpT K S (hid A H) kvs es
  | .tbl q => LamX.TabS H a q
  | .fdc false es => ∃ o kvs, H a = some (.frz o (.dK kvs)) ∧ RpK K S (hid A H) kvs es
  | .fdc true es => ∃ o kvs, H a = some (.frz o (.dT kvs)) ∧ RpT K S (hid A H) kvs es
/-- what is hidden is there, and no tuple -/
def Hdn (x : Option HO) : Prop := x ≠ none ∧ ∀ xs, x ≠ some (.tup xs)
/-- the world at a place: what is hidden stands, the cells are told -/
structure Wd (K : PySem.W.Frag) (S : List Addr) (A : Addr → Prop) (H : Hp) (sto : STO) : Prop where
  alt : ∀ a, A a → Hdn (H a)
  hS : ∀ a, a ∈ S → A a
  nds : S.Nodup
  len : S.length = sto.length
  st : ∀ (i : Nat) (a : Addr) (c : Cell), S[i]? = some a → sto[i]? = some c → CellOk K S A H a c
def RdV (K : PySem.W.Frag) (S : List Addr) (A : Addr → Prop) (σ : Sg) (H : Hp) (vw : VW) : Prop := vw.length ≤ σ.length ∧ ∀ (i : Nat) (d : D), vw[i]? = some (some d) → ∃ v, σ[i]? = some (some v) ∧ Rp K S (hid A H) v d
/-- F more are hidden -/
abbrev plus (F : List Addr) (A : Addr → Prop) : Addr → Prop := fun a => a ∈ F ∨ A a
structure Res (K : PySem.W.Frag) (S : List Addr) (A : Addr → Prop) (H : Hp) (sto : STO) (k : Nat) (H' : Hp) (v : V) (d : D) (F : List Addr) : Prop where
  ext : Ext S H H'
  wd : Wd K S (plus F A) H' sto
  nd : F.Nodup
  fr : ∀ a ∈ F, H a = none
  ow : Ow K S (plus F A) H' k v d F
structure ResA (K : PySem.W.Frag) (S : List Addr) (A : Addr → Prop) (H : Hp) (sto : STO) (k : Nat) (H' : Hp) (v : List V) (d : List D) (F : List Addr) : Prop where
  ext : Ext S H H'
  wd : Wd K S (plus F A) H' sto
  nd : F.Nodup
  fr : ∀ a ∈ F, H a = none
  ow : OwA K S (plus F A) H' k v d F

theorem noF {P : Addr → Prop} : ∀ a ∈ ([] : List Addr), P a := fun _ h => nomatch h
theorem plus_nil {A : Addr → Prop} : plus [] A = A := by funext a; simp [plus]
theorem plus_append {F G : List Addr} {A : Addr → Prop} : plus G (plus F A) = plus (F ++ G) A := by
  funext a; simp only [plus, List.mem_append, eq_iff_iff]
  constructor
  · rintro (h | h | h)
    · exact .inl (.inr h)
    · exact .inl (.inl h)
    · exact .inr h
  · rintro ((h | h) | h)
    · exact .inr (.inl h)
    · exact .inl h
    · exact .inr (.inr h)
section
variable {K : PySem.W.Frag} {S : List Addr} {A A' : Addr → Prop} {H H' : Hp} {sto sto' : STO} {σ : Sg} {vw : VW} {k j : Nat} {v u : V} {d e : D} {F G : List Addr} {a : Addr} {o : HO}
theorem Wd.al (w : Wd K S A H sto) : ∀ a, A a → H a ≠ none := fun a h => (w.alt a h).1
theorem Wd.live (w : Wd K S A H sto) (h : H a = none) : a ∉ S := fun e => w.al a (w.hS a e) h
theorem Wd.cell {i : Nat} {a : Addr} (w : Wd K S A H sto) (h : S[i]? = some a) : ∃ c, sto[i]? = some c ∧ CellOk K S A H a c := by
  have hl := (List.getElem?_eq_some_iff.mp h).1
  have hl2 : i < sto.length := by rw [← w.len]; exact hl
  exact ⟨sto[i], List.getElem?_eq_getElem hl2, w.st i a _ h (List.getElem?_eq_getElem hl2)⟩
theorem codeO_ne {c : Addr} {q : Str} : (∀ vs, LamX.CodeO c q ≠ .lst vs) ∧ (∀ vs, LamX.CodeO c q ≠ .dK vs) ∧ (∀ vs, LamX.CodeO c q ≠ .dT vs) ∧ ∀ vs, LamX.CodeO c q ≠ .tbl vs := by
  unfold LamX.CodeO
  exact ⟨fun vs z => (by cases z), fun vs z => (by cases z), fun vs z => (by cases z), fun vs z => (by cases z)⟩
theorem codeO_nf {c : Addr} {q : Str} {o : Obj} {u : HO} : LamX.CodeO c q ≠ .frz o u := by
  unfold LamX.CodeO
  exact fun z => by cases z
theorem tab_keep {P : Addr} {q : Str} (t : LamX.TabS H P q) (k : ∀ o, H P = some o → H' P = some o) (kt : ∀ c, H c = some (LamX.CodeO c q) → H' c = some (LamX.CodeO c q)) : LamX.TabS H' P q := by
  obtain ⟨ps, h1, h2, h3⟩ := t
  refine ⟨ps, k _ h1, h2, fun pos cv hc => ?_⟩
  obtain ⟨c, e1, e2⟩ := h3 pos cv hc
  exact ⟨c, e1, kt c e2⟩
theorem CellOk.keep {c : Cell} (h : CellOk K S A H a c) (e : Same (hid A H) (hid A' H')) (k : ∀ o, H a = some o → H' a = some o) (kt : ∀ c q, H c = some (LamX.CodeO c q) → H' c = some (LamX.CodeO c q)) : CellOk K S A' H' a c := by
  cases c with
  | lst ds => obtain ⟨vs, h1, h2⟩ := h; exact ⟨vs, k _ h1, h2.le e⟩
  | dct t es =>
    cases t with
    | false => obtain ⟨kvs, h1, h2⟩ := h; exact ⟨kvs, k _ h1, h2.le e⟩
    | true => obtain ⟨kvs, h1, h2⟩ := h; exact ⟨kvs, k _ h1, h2.le e⟩
  | tbl q => exact tab_keep h k fun c => kt c q
  | fdc t es =>
    cases t with
    | false => obtain ⟨o, kvs, h1, h2⟩ := h; exact ⟨o, kvs, k _ h1, h2.le e⟩
    | true => obtain ⟨o, kvs, h1, h2⟩ := h; exact ⟨o, kvs, k _ h1, h2.le e⟩
theorem CellOk.hdn {c : Cell} (h : CellOk K S A H a c) : Hdn (H a) := by
  cases c with
  | lst ds => obtain ⟨vs, h1, h2⟩ := h; rw [h1]; exact ⟨(fun z => nomatch z), fun _ z => nomatch z⟩
  | dct t es =>
    cases t with
    | false => obtain ⟨vs, h1, h2⟩ := h; rw [h1]; exact ⟨(fun z => nomatch z), fun _ z => nomatch z⟩
    | true => obtain ⟨vs, h1, h2⟩ := h; rw [h1]; exact ⟨(fun z => nomatch z), fun _ z => nomatch z⟩
  | tbl p => obtain ⟨ps, h1, _⟩ := h; rw [h1]; exact ⟨(fun z => nomatch z), fun _ z => nomatch z⟩
  | fdc t es =>
    cases t with
    | false => obtain ⟨o, vs, h1, h2⟩ := h; rw [h1]; exact ⟨(fun z => nomatch z), fun _ z => nomatch z⟩
    | true => obtain ⟨o, vs, h1, h2⟩ := h; rw [h1]; exact ⟨(fun z => nomatch z), fun _ z => nomatch z⟩
theorem CellOk.notCode {c : Cell} {q : Str} (h : CellOk K S A H a c) : H a ≠ some (LamX.CodeO a q) := fun z => by
  cases c with
  | lst ds => obtain ⟨vs, h1, h2⟩ := h; rw [h1] at z; exact codeO_ne.1 _ (Option.some.inj z).symm
  | dct t es =>
    cases t with
    | false => obtain ⟨kvs, h1, h2⟩ := h; rw [h1] at z; exact codeO_ne.2.1 _ (Option.some.inj z).symm
    | true => obtain ⟨kvs, h1, h2⟩ := h; rw [h1] at z; exact codeO_ne.2.2.1 _ (Option.some.inj z).symm
  | tbl p =>
    obtain ⟨ps, h1, _⟩ := h
    rw [h1] at z; exact codeO_ne.2.2.2 _ (Option.some.inj z).symm
  | fdc t es =>
    cases t with
    | false => obtain ⟨o, kvs, h1, _⟩ := h; rw [h1] at z; exact codeO_nf (Option.some.inj z).symm
    | true => obtain ⟨o, kvs, h1, _⟩ := h; rw [h1] at z; exact codeO_nf (Option.some.inj z).symm
theorem Wd.code {c : Addr} {q : Str} (w : Wd K S A H sto) (h : H c = some (LamX.CodeO c q)) : c ∉ S := fun z => by
  obtain ⟨i, hi, e⟩ := List.getElem_of_mem z
  obtain ⟨cc, _, ok⟩ := w.cell (i := i) (a := c) (by rw [List.getElem?_eq_getElem hi, e])
  exact ok.notCode h
theorem Wd.keeps {K : PySem.W.Frag} (w : Wd K S A H sto) (al : ∀ a, A' a → Hdn (H' a)) (hS : ∀ a, a ∈ S → A' a) (e : Same (hid A H) (hid A' H')) (k : ∀ a ∈ S, ∀ o, H a = some o → H' a = some o) (kt : ∀ c q, H c = some (LamX.CodeO c q) → H' c = some (LamX.CodeO c q)) : Wd K S A' H' sto :=
  ⟨al, hS, w.nds, w.len, fun i a c h1 h2 => (w.st i a c h1 h2).keep e (k a (List.mem_of_getElem? h1)) kt⟩
theorem Wd.notA (w : Wd K S A H sto) (h : H a = none) : ¬ A a := fun e => w.al a e h
theorem RdV.move (r : RdV K S A σ H vw) (e : Ext S H H') (hS : ∀ a, a ∈ S → A a) (hA : ∀ a, A' a → A a ∨ H a = none) : RdV K S A' σ H' vw := ⟨r.1, fun i d h => by
  obtain ⟨v, e1, e2⟩ := r.2 i d h
  exact ⟨v, e1, e2.le (hid_move e hS hA)⟩⟩
theorem some_of_same (e : Same H H') (h : H a ≠ none) : H' a ≠ none := fun z => by
  cases q : H a with
  | none => exact h q
  | some o => rw [e a o q] at z; cases z
theorem hdn_of_same (e : Same H H') (h : Hdn (H a)) : Hdn (H' a) := by
  cases q : H a with
  | none => exact absurd q h.1
  | some o =>
    rw [q] at h
    rw [e a o q]
    exact h
/-- the heap grew, and so did what is hidden, by new objects -/
theorem Wd.grow (w : Wd K S A H sto) (e : Same H H') (hA : ∀ a, A' a → A a ∨ (H a = none ∧ Hdn (H' a))) (hA2 : ∀ a, A a → A' a) : Wd K S A' H' sto := by
  refine w.keeps (fun a ha => ?_) (fun a h => hA2 a (w.hS a h)) (hid_move (Ext.of e) w.hS fun a h => (hA a h).imp id (·.1)) (fun a _ o h => e a o h) fun c q h => e _ _ h
  rcases hA a ha with z | z
  · exact hdn_of_same e (w.alt a z)
  · exact z.2
/-- a hidden object was changed -/
theorem hid_upd {D : Addr} (h : A D) : hid A (upd H D o) = hid A H := by
  funext a
  unfold hid
  by_cases z : A a
  · rw [if_pos z, if_pos z]
  · rw [if_neg z, if_neg z]
    exact upd_ne fun e => z (e ▸ h)
theorem Wd.upd {D : Addr} (w : Wd K S A H sto) (h : A D) (hS : D ∉ S) (hL : ∃ vs, H D = some (.lst vs)) (ho : ∀ xs, o ≠ .tup xs := by intro _ z; cases z) : Wd K S A (upd H D o) sto := by
  refine w.keeps (fun a ha => ?_) w.hS (by rw [hid_upd h]; exact fun _ _ h => h) (fun a ha x hx => ?_) fun c q hc => ?_
  · by_cases e : a = D
    · rw [e, upd_same]; exact ⟨(fun z => nomatch z), fun xs z => ho xs (Option.some.inj z)⟩
    · rw [upd_ne e]; exact w.alt a ha
  · rw [upd_ne (fun e : a = D => hS (e ▸ ha))]; exact hx
  · rw [upd_ne (fun e => ?_)]
    · exact hc
    · obtain ⟨vs, hv⟩ := hL
      rw [e] at hc
      rw [hv] at hc
      exact codeO_ne.1 _ (Option.some.inj hc).symm
theorem same_upd (h : H a = none) : Same H (upd H a o) := fun b x e => by
  rw [upd_ne (ne_of_none e h)]
  exact e
/-- less is hidden -/
theorem Wd.less (w : Wd K S A H sto) (h : ∀ a, A' a → A a) (hS : ∀ a, a ∈ S → A' a) : Wd K S A' H sto := by
  exact w.keeps (fun a ha => w.alt a (h a ha)) hS (hid_le h) (fun _ _ _ h => h) fun _ _ h => h
theorem Res.live (w : Wd K S A H sto) (r : Res K S A H sto' k H' v d F) : ∀ a ∈ F, a ∉ S := fun a ha => w.live (r.fr a ha)
theorem Res.rp (w : Wd K S A H sto) (r : Res K S A H sto' k H' v d F) : Rp K S (hid A H') v d := r.ow.rp (fun a h => .inr h) fun a ha => w.notA (r.fr a ha)
theorem ResA.rp {v : List V} {d : List D} (w : Wd K S A H sto) (r : ResA K S A H sto' k H' v d F) : RpA K S (hid A H') v d := r.ow.rp (fun a h => .inr h) fun a ha => w.notA (r.fr a ha)
/-- the freed result -/
theorem Res.zero (w : Wd K S A H sto) (r : Res K S A H sto' k H' v d F) : Res K S A H sto' 0 H' v d [] :=
  ⟨r.ext, by rw [plus_nil]; exact r.wd.less (fun a h => .inr h) w.hS, .nil, noF, .sh (by rw [plus_nil]; exact r.rp w)⟩
theorem Res.weak (w : Wd K S A H sto) (r : Res K S A H sto' k H' v d F) (h : j ≤ k) : ∃ G, Res K S A H sto' j H' v d G := by
  obtain ⟨G, s, q⟩ := r.ow.weak j h r.nd
  refine ⟨G, r.ext, r.wd.less (fun a h => h.imp (fun z => s.subset z) id) fun a e => .inr (w.hS a e), r.nd.sublist s, fun a ha => r.fr a (s.subset ha), ?_⟩
  refine q _ (fun a h => h.imp (fun z => s.subset z) id) fun a ha z => ?_
  rcases z with z | z
  · exact z
  · exact absurd z (w.notA (r.fr a ha))
/-- data that bear nothing that may change -/
def atomic (d : D) : Prop := (∀ ds, d ≠ .list ds) ∧ True
theorem atomic_dict (es : List (D × D)) : atomic (.dict es) := ⟨(fun _ h => nomatch h), trivial⟩
theorem Ow.atom (h : atomic d) (r : Rp K S (hid A H) v d) : Ow K S A H k v d [] := by
  cases k with
  | zero => exact .sh r
  | succ k => exact .at h.1 h.2 r
theorem Res.atom (w : Wd K S A H sto) (h : atomic d) (r : Rp K S (hid A H) v d) : Res K S A H sto k H v d [] :=
  ⟨Ext.refl, by rw [plus_nil]; exact w, .nil, noF, by rw [plus_nil]; exact .atom h r⟩
theorem Res.shared (w : Wd K S A H sto) (r : Rp K S (hid A H) v d) : Res K S A H sto 0 H v d [] :=
  ⟨Ext.refl, by rw [plus_nil]; exact w, .nil, noF, by rw [plus_nil]; exact .sh r⟩
/-- one more step behind -/
theorem Res.after {H1 : Hp} (e : Ext S H H1) (r : Res K S A H1 sto' k H' v d F) (hn : ∀ a ∈ F, H a = none) : Res K S A H sto' k H' v d F := ⟨e.trans r.ext, r.wd, r.nd, hn, r.ow⟩
theorem none_of_ext (e : Ext S H H') (hS : a ∉ S) (h : H' a = none) : H a = none := by
  cases q : H a with
  | none => rfl
  | some o => rw [e a o hS q] at h; cases h
theorem atomic_int (i : Int) : atomic (.int i) := ⟨(fun _ h => nomatch h), trivial⟩
theorem atomic_bool (b : Bool) : atomic (.bool b) := ⟨(fun _ h => nomatch h), trivial⟩
theorem atomic_none : atomic .none := ⟨(fun _ h => nomatch h), trivial⟩
theorem atomic_str (x : Str) : atomic (.str x) := ⟨(fun _ h => nomatch h), trivial⟩
theorem atomic_tuple (xs : List D) : atomic (.tuple xs) := ⟨(fun _ h => nomatch h), trivial⟩
/-- a new list of owned things -/
theorem Res.lst {vs : List V} {ds : List D} {p : Addr} {H0 : Hp} {sto0 : STO} (w : Wd K S A H0 sto0) (r : ResA K S A H0 sto k H vs ds F) (hp : H p = none) : Res K S A H0 sto (k + 1) (upd H p (.lst vs)) (.ref p) (.list ds) (p :: F) := by
  have hpF : p ∉ F := fun h => r.wd.al p (.inl h) hp
  have sm : Same H (upd H p (.lst vs)) := same_upd hp
  have hp0 : H0 p = none := by
    cases q : H0 p with
    | none => rfl
    | some o =>
      by_cases z : p ∈ S
      · exact absurd hp (r.wd.al p (.inr (w.hS p z)))
      · rw [r.ext p o z q] at hp; cases hp
  refine ⟨r.ext.trans (Ext.of sm), r.wd.grow sm (fun a h => ?_) (fun a h => h.imp (List.mem_cons_of_mem _) id), List.nodup_cons.mpr ⟨hpF, r.nd⟩, fun a ha => ?_, .lst upd_same (r.ow.move (Ext.of sm) r.wd.hS (fun a h => ?_) fun a ha => w.live (r.fr a ha))⟩
  · rcases h with h | h
    · rcases List.mem_cons.mp h with rfl | h
      · exact .inr ⟨hp, by rw [upd_same]; exact ⟨(fun z => nomatch z), fun _ z => nomatch z⟩⟩
      · exact .inl (.inl h)
    · exact .inl (.inr h)
  · rcases List.mem_cons.mp ha with rfl | ha
    · exact hp0
    · exact r.fr a ha
  · rcases h with h | h
    · rcases List.mem_cons.mp h with rfl | h
      · exact .inr hp
      · exact .inl (.inl h)
    · exact .inl (.inr h)
/-- a new tuple of things that are given to all -/
theorem Res.tup {vs : List V} {ds : List D} {p : Addr} {H0 : Hp} {sto0 : STO} (w : Wd K S A H0 sto0) (r : ResA K S A H0 sto 0 H vs ds F) (hp : H p = none) : Res K S A H0 sto k (upd H p (.tup vs)) (.ref p) (.tuple ds) [] := by
  have sm : Same H (upd H p (.tup vs)) := same_upd hp
  have w1 : Wd K S A H sto := r.wd.less (fun a h => .inr h) w.hS
  refine ⟨r.ext.trans (Ext.of sm), by rw [plus_nil]; exact w1.grow sm (fun a h => .inl h) (fun a h => h), .nil, noF, ?_⟩
  rw [plus_nil]
  refine .atom (atomic_tuple ds) (.tup (hid_eq.mpr ⟨w1.notA hp, upd_same⟩) ((r.rp w).le (hid_move (Ext.of sm) w.hS fun a h => .inl h)))
theorem ResA.nil (w : Wd K S A H sto) : ResA K S A H sto k H [] [] [] := ⟨Ext.refl, by rw [plus_nil]; exact w, .nil, noF, .nil⟩
/-- given to all: a list of things -/
theorem ResA.shared {vs : List V} {ds : List D} (w : Wd K S A H sto) (r : RpA K S (hid A H) vs ds) : ResA K S A H sto 0 H vs ds [] := ⟨Ext.refl, by rw [plus_nil]; exact w, .nil, noF, by rw [plus_nil]; exact .zero r⟩
theorem ResA.zero {v : List V} {d : List D} (w : Wd K S A H sto) (r : ResA K S A H sto' k H' v d F) : ResA K S A H sto' 0 H' v d [] :=
  ⟨r.ext, by rw [plus_nil]; exact r.wd.less (fun a h => .inr h) w.hS, .nil, noF, by rw [plus_nil]; exact .zero (r.rp w)⟩
/-- two results, one behind the other -/
theorem ResA.cons {sto1 sto2 : STO} {H1 H2 : Hp} {vs : List V} {ds : List D} (w : Wd K S A H sto) (r : Res K S A H sto1 k H1 v d F) (q : ResA K S (plus F A) H1 sto2 k H2 vs ds G) : ResA K S A H sto2 k H2 (v :: vs) (d :: ds) (F ++ G) := by
  have hlive : ∀ a ∈ G, a ∉ S := fun a ha => r.wd.live (q.fr a ha)
  refine ⟨r.ext.trans q.ext, by rw [← plus_append]; exact q.wd, List.nodup_append.mpr ⟨r.nd, q.nd, fun x hx y hy e => ?_⟩, fun a ha => ?_, ?_⟩
  · subst e
    exact r.wd.al x (.inl hx) (q.fr x hy)
  · rcases List.mem_append.mp ha with h | h
    · exact r.fr a h
    · exact none_of_ext r.ext (hlive a h) (q.fr a h)
  · rw [← plus_append]
    refine .cons (r.ow.move q.ext r.wd.hS (fun a h => ?_) (r.live w)) q.ow
    rcases h with h | h
    · exact .inr (q.fr a h)
    · exact .inl h
end

/-! ### the judgements -/
section
/-- an expression's own reading, the widest -/
def wpE (X : Cx) (e : Expr) : TE := fun σ H Q => ∀ pins s, Inv X pins σ H s → wpAny (model X.prog X.w) X.A (eval e X.env) (EP X pins σ Q) X.xe s
theorem wpE_pe {X : Cx} {e : Expr} : PE X e (wpE X e) := ⟨fun pins s σ H Q I h => h pins s I⟩
def wpT (X : Cx) (e : Expr) : TT := fun σ H Q => ∀ pins s, Inv X pins σ H s → wpAny (model X.prog X.w) X.A (isTrue e X.env (eval e X.env)) (TP X pins σ Q) X.xe s
theorem wpT_pt {X : Cx} {e : Expr} : PT X e (wpT X e) := ⟨fun pins s σ H Q I h => h pins s I⟩
def wpW (X : Cx) (e : Expr) : TT := fun σ H Q => ∀ whole pins s, Inv X pins σ H s → wpAny (model X.prog X.w) X.A (isTrue e X.env whole) (TP X pins σ Q) X.xe s
theorem wpW_pw {X : Cx} {e : Expr} : PW X e (wpW X e) := ⟨fun whole pins s σ H Q I h => h whole pins s I⟩
def wpA (X : Cx) (es : List Expr) : TA := fun σ H Q => ∀ pos pins s, Inv X pins σ H s → wpAny (model X.prog X.w) X.A (spliced (backTo pos (starEach es X.env))) (AP X pins σ Q) X.xe s
theorem wpA_pa {X : Cx} {es : List Expr} : PA X es (wpA X es) := ⟨fun pos pins s σ H Q I h => h pos pins s I⟩
def wpS (X : Cx) (st : Stmt) : TS := fun D σ H => ∀ pins s, Inv X pins σ H s → wpAny (model X.prog X.w) X.A (exec st X.env) (SP X pins D) X.xe s
theorem wpS_ps {X : Cx} {st : Stmt} : PS X st (wpS X st) := ⟨fun pins s σ H D I h => h pins s I⟩
def wpSs (X : Cx) (st : List Stmt) : TS := fun D σ H => ∀ pins s, Inv X pins σ H s → wpAny (model X.prog X.w) X.A (execs st X.env) (SP X pins D) X.xe s
theorem wpSs_pss {X : Cx} {st : List Stmt} : PSs X st (wpSs X st) := ⟨fun pins s σ H D I h => h pins s I⟩
/-- by a rule of the layer -/
theorem wpE.by {X : Cx} {e : Expr} {t : TE} (h : PE X e t) {σ : Sg} {H : Hp} {Q : VK} (q : t σ H Q) : wpE X e σ H Q := fun pins s I => h.run pins s σ H Q I q
theorem wpT.by {X : Cx} {e : Expr} {t : TT} (h : PT X e t) {σ : Sg} {H : Hp} {Q : Bool → Hp → Prop} (q : t σ H Q) : wpT X e σ H Q := fun pins s I => h.run pins s σ H Q I q
theorem wpW.by {X : Cx} {e : Expr} {t : TT} (h : PW X e t) {σ : Sg} {H : Hp} {Q : Bool → Hp → Prop} (q : t σ H Q) : wpW X e σ H Q := fun wh pins s I => h.run wh pins s σ H Q I q
theorem wpA.by {X : Cx} {e : List Expr} {t : TA} (h : PA X e t) {σ : Sg} {H : Hp} {Q : List V → Hp → Prop} (q : t σ H Q) : wpA X e σ H Q := fun pos pins s I => h.run pos pins s σ H Q I q
theorem wpS.by {X : Cx} {e : Stmt} {t : TS} (h : PS X e t) {σ : Sg} {H : Hp} {D : Ends} (q : t D σ H) : wpS X e D σ H := fun pins s I => h.run pins s σ H D I q
theorem wpSs.by {X : Cx} {e : List Stmt} {t : TS} (h : PSs X e t) {σ : Sg} {H : Hp} {D : Ends} (q : t D σ H) : wpSs X e D σ H := fun pins s I => h.run pins s σ H D I q

/-- e is told by f: its value, owned to depth k -/
def JP (X : Cx) (e : Expr) (f : Ev) (k : Nat) : Prop := ∀ A S σ H vw sto d sto' (Q : VK), Wd X.K S A H sto → RdV X.K S A σ H vw → f vw sto = some (d, sto') →
  (∀ v H' F, Res X.K S A H sto' k H' v d F → Q v H') → wpE X e σ H Q
def JA (X : Cx) (es : List Expr) (f : EvA) (k : Nat) : Prop := ∀ A S σ H vw sto d sto' (Q : List V → Hp → Prop), Wd X.K S A H sto → RdV X.K S A σ H vw → f vw sto = some (d, sto') →
  (∀ v H' F, ResA X.K S A H sto' k H' v d F → Q v H') → wpA X es σ H Q
def JT (X : Cx) (e : Expr) (f : EvT) : Prop := ∀ A S σ H vw sto b sto' (Q : Bool → Hp → Prop), Wd X.K S A H sto → RdV X.K S A σ H vw → f vw sto = some (b, sto') →
  (∀ H', Ext S H H' → Wd X.K S A H' sto' → Q b H') → wpT X e σ H Q
def JW (X : Cx) (e : Expr) (f : EvT) : Prop := ∀ A S σ H vw sto b sto' (Q : Bool → Hp → Prop), Wd X.K S A H sto → RdV X.K S A σ H vw → f vw sto = some (b, sto') →
  (∀ H', Ext S H H' → Wd X.K S A H' sto' → Q b H') → wpW X e σ H Q
variable {X : Cx} {e a b : Expr} {es : List Expr} {f g : Ev} {fs : EvA} {k j : Nat}
theorem JP.weak (h : JP X e f k) (hj : j ≤ k) : JP X e f j := fun A S σ H vw sto d sto' Q w r q z => h A S σ H vw sto d sto' Q w r q fun v H' F rs => by
  obtain ⟨G, rs'⟩ := rs.weak w hj
  exact z v H' G rs'
theorem JP.zero (h : JP X e f k) : JP X e f 0 := h.weak (Nat.zero_le _)
/-- its value given to all -/
theorem JP.use (h : JP X e f k) {A : Addr → Prop} {S : List Addr} {σ : Sg} {H : Hp} {vw : VW} {sto sto' : STO} {d : D} {Q : VK} (w : Wd X.K S A H sto) (r : RdV X.K S A σ H vw) (q : f vw sto = some (d, sto'))
    (z : ∀ v H', Ext S H H' → Wd X.K S A H' sto' → RdV X.K S A σ H' vw → Rp X.K S (hid A H') v d → Q v H') : wpE X e σ H Q := h A S σ H vw sto d sto' Q w r q fun v H' F rs =>
  z v H' rs.ext (rs.wd.less (fun a h => .inr h) w.hS) (r.move rs.ext w.hS fun a h => .inl h) (rs.rp w)
theorem JA.use (h : JA X es fs k) {A : Addr → Prop} {S : List Addr} {σ : Sg} {H : Hp} {vw : VW} {sto sto' : STO} {d : List D} {Q : List V → Hp → Prop} (w : Wd X.K S A H sto) (r : RdV X.K S A σ H vw) (q : fs vw sto = some (d, sto'))
    (z : ∀ v H', Ext S H H' → Wd X.K S A H' sto' → RdV X.K S A σ H' vw → RpA X.K S (hid A H') v d → Q v H') : wpA X es σ H Q := h A S σ H vw sto d sto' Q w r q fun v H' F rs =>
  z v H' rs.ext (rs.wd.less (fun a h => .inr h) w.hS) (r.move rs.ext w.hS fun a h => .inl h) (rs.rp w)
end
end J
namespace J
open PySem PySem.Spec PyProof.Rows L2

/-- ints that a product, a power, a quotient may meet -/
def small (i : Int) : Bool := decide (i.natAbs < 2 ^ 4000)
theorem small_log {i : Int} (h : small i = true) : i.natAbs.log2 < 4000 := PySem.Flt.log2_lt_of (by decide) (of_decide_eq_true h)

section
variable {K : PySem.W.Frag} {S : List Addr} {A A' : Addr → Prop} {H H' : Hp} {sto sto' : STO} {x y : V} {d e : D}
/-! ### what stands for a datum -/
theorem Rp.intI {i : Int} (h : Rp K S H x (.int i)) : x = .int i := by cases h; rfl
theorem Rp.strI {i : Str} (h : Rp K S H x (.str i)) : x = .str i := by cases h; rfl
theorem Rp.blI {i : Bool} (h : Rp K S H x (.bool i)) : x = .bl i := by cases h; rfl
theorem Rp.nonI (h : Rp K S H x .none) : x = .non := by cases h; rfl
theorem Rp.lstI {ds : List D} (h : Rp K S H x (.list ds)) : ∃ a xs, x = .ref a ∧ Rd H a (.lst xs) ∧ RpA K S H xs ds := by
  cases h with
  | lst h1 h2 => exact ⟨_, _, rfl, h1, h2⟩
theorem Rp.tupI {ds : List D} (h : Rp K S H x (.tuple ds)) : ∃ a xs, x = .ref a ∧ Rd H a (.tup xs) ∧ RpA K S H xs ds := by
  cases h with
  | tup h1 h2 => exact ⟨_, _, rfl, .inl h1, h2⟩
theorem Rp.tupI' {ds : List D} (h : Rp K S H x (.tuple ds)) : ∃ a xs, x = .ref a ∧ H a = some (.tup xs) ∧ RpA K S H xs ds := by
  cases h with
  | tup h1 h2 => exact ⟨_, _, rfl, h1, h2⟩
theorem same_hid : Same (hid A H) H := fun a o e => (hid_eq.mp e).2
theorem Rp.out (h : Rp K S (hid A H) x d) : Rp K S H x d := h.le same_hid
theorem RpA.out {x : List V} {d : List D} (h : RpA K S (hid A H) x d) : RpA K S H x d := h.le same_hid
theorem _root_.L2.Rd.out {a : Addr} {u : HO} (h : Rd (hid A H) a u) : Rd H a u := Rd.le same_hid h
/-- without dicts it is data of the layer -/
theorem Rp.dp (h : Rp K S H x d) : d.canLay0 = true → Dp K H x d :=
  Rp.rec (motive_1 := fun v d _ => d.canLay0 = true → Dp K H v d) (motive_2 := fun v d _ => PyData.canLayAll0 d = true → DpAll K H v d) (motive_3 := fun _ _ _ => True) (motive_4 := fun _ _ _ => True)
    (fun _ => .non) (fun b _ => .bl b) (fun i _ => .int i) (fun x _ => .str x) (fun s _ h c => .lst (.inl s) (h (by simpa [PyData.canLay0] using c))) (fun s _ h c => .tup (.inl (.inl s)) (h (by simpa [PyData.canLay0] using c)))
    (fun _ _ _ c => absurd c (by simp [PyData.canLay0])) (fun _ _ _ c => absurd c (by simp [PyData.canLay0])) (fun _ c => by unfold tokD at c; simp [PyData.canLay0] at c) (fun _ _ _ c => by unfold skD at c; simp [PyData.canLay0] at c) (fun _ _ _ c => absurd c (by simp [PyData.canLay0])) (fun _ _ _ c => absurd c (by simp [PyData.canLay0]))
    (fun _ => .nil) (fun _ _ a b c => by
      have c' := Bool.and_eq_true_iff.mp (by simpa [PyData.canLayAll0] using c)
      exact .cons (a c'.1) (b c'.2)) trivial (fun _ _ _ _ => trivial) trivial (fun _ _ _ _ => trivial) h
theorem shaped_lay (h : SeqAt.shaped d = true) : d.canLay0 = true := SeqAt.canLay_of_shaped h
end

/-! ### two-place operations -/
/-- the operation F is told by op -/
def OpJ (X : Cx) (F : Value → Value → Sem Value) (op : D → D → Option D) (k : Nat) : Prop := ∀ d1 d2 d, op d1 d2 = some d → ∃ r, OpR X F r ∧ ∀ A S H sto x y Q, Wd X.K S A H sto → Rp X.K S (hid A H) x d1 → Rp X.K S (hid A H) y d2 →
  (∀ v H' F', Res X.K S A H sto k H' v d F' → Q v H') → r x y H Q
def UnJ (X : Cx) (F : Value → Sem Value) (op : D → Option D) (k : Nat) : Prop := ∀ d1 d, op d1 = some d → ∃ r, UnR X F r ∧ ∀ A S H sto x Q, Wd X.K S A H sto → Rp X.K S (hid A H) x d1 →
  (∀ v H' F', Res X.K S A H sto k H' v d F' → Q v H') → r x H Q
def eVar (i : Nat) : Ev := fun vw s => match vw[i]? with
  | some (some d) => some (d, s)
  | _ => none
def eC (d : D) : Ev := fun _ s => some (d, s)
def eBin (op : D → D → Option D) (f g : Ev) : Ev := fun vw s => (f vw s).bind fun p => (g vw p.2).bind fun q => (op p.1 q.1).map fun r => (r, q.2)
def eUn (op : D → Option D) (f : Ev) : Ev := fun vw s => (f vw s).bind fun p => (op p.1).map fun r => (r, p.2)
theorem eBin_some {op : D → D → Option D} {f g : Ev} {vw : VW} {s s' : STO} {d : D} (h : eBin op f g vw s = some (d, s')) : ∃ x s1 y, f vw s = some (x, s1) ∧ g vw s1 = some (y, s') ∧ op x y = some d := by
  unfold eBin at h
  cases e1 : f vw s with
  | none => rw [e1] at h; cases h
  | some p =>
    rw [e1, Option.bind_some] at h
    cases e2 : g vw p.2 with
    | none => rw [e2] at h; cases h
    | some q =>
      rw [e2, Option.bind_some] at h
      cases e3 : op p.1 q.1 with
      | none => rw [e3] at h; cases h
      | some r =>
        rw [e3] at h
        cases h
        exact ⟨p.1, p.2, q.1, rfl, e2, e3⟩
theorem eUn_some {op : D → Option D} {f : Ev} {vw : VW} {s s' : STO} {d : D} (h : eUn op f vw s = some (d, s')) : ∃ x, f vw s = some (x, s') ∧ op x = some d := by
  unfold eUn at h
  cases e1 : f vw s with
  | none => rw [e1] at h; cases h
  | some p =>
    rw [e1, Option.bind_some] at h
    cases e3 : op p.1 with
    | none => rw [e3] at h; cases h
    | some r =>
      rw [e3] at h
      cases h
      exact ⟨p.1, rfl, e3⟩
section
variable {X : Cx} {e a b c : Expr} {es : List Expr} {f g : Ev} {fs : EvA} {k j : Nat} {pos p : Pos} {op : D → D → Option D}
/-- a then b, both given to all -/
theorem JP.use2 {k j : Nat} (ha : JP X a f k) (hb : JP X b g j) {A : Addr → Prop} {S : List Addr} {σ : Sg} {H : Hp} {vw : VW} {sto s1 s2 : STO} {x y : D} {R : V → V → Hp → Prop} (w : Wd X.K S A H sto) (r : RdV X.K S A σ H vw)
    (e1 : f vw sto = some (x, s1)) (e2 : g vw s1 = some (y, s2))
    (z : ∀ v u H', Ext S H H' → Wd X.K S A H' s2 → RdV X.K S A σ H' vw → Rp X.K S (hid A H') v x → Rp X.K S (hid A H') u y → R v u H') : wpE X a σ H fun v H1 => wpE X b σ H1 fun u H2 => R v u H2 :=
  ha.use w r e1 fun v H1 x1 w1 r1 p1 => hb.use w1 r1 e2 fun u H2 x2 w2 r2 p2 => z v u H2 (x1.trans x2) w2 r2 (p1.le (hid_move x2 w1.hS fun a h => .inl h)) p2
theorem jp_bin {o : Operator} (ho : OpJ X (binaryOp o) op k) (ha : JP X a f 0) (hb : JP X b g 0) : JP X (.BinOp a o b pos) (eBin op f g) k := fun A S σ H vw sto d sto' Q w r q z => by
  obtain ⟨x, s1, y, e1, e2, e3⟩ := eBin_some q
  obtain ⟨rr, h1, h2⟩ := ho x y d e3
  refine wpE.by (pe_op h1 wpE_pe wpE_pe) (ha.use2 hb w r e1 e2 fun v u H' x' w' r' p1 p2 => h2 A S H' sto' v u Q w' p1 p2 fun v' H2 F' rs => z v' H2 F' (rs.after x' fun a ha => none_of_ext x' (w'.live (rs.fr a ha)) (rs.fr a ha)))
theorem jp_un {o : UnaryOp} {op : D → Option D} (ho : UnJ X (unaryOp o) op k) (ha : JP X a f 0) : JP X (.UnaryOp o a pos) (eUn op f) k := fun A S σ H vw sto d sto' Q w r q z => by
  obtain ⟨x, e1, e3⟩ := eUn_some q
  obtain ⟨rr, h1, h2⟩ := ho x d e3
  refine wpE.by (pe_un h1 wpE_pe) (ha.use w r e1 fun v H' x' w' r' p1 => h2 A S H' sto' v Q w' p1 fun v' H2 F' rs => z v' H2 F' (rs.after x' fun a ha => none_of_ext x' (w'.live (rs.fr a ha)) (rs.fr a ha)))
/-- a comparison -/
theorem jp_cmp {o : CmpOp} (ho : OpJ X (compareOp o) op k) (ha : JP X a f 0) (hb : JP X b g 0) (hm : behindInMarks o b = false) : JP X (.Compare a [o] [b] pos) (eBin op f g) k := fun A S σ H vw sto d sto' Q w r q z => by
  obtain ⟨x, s1, y, e1, e2, e3⟩ := eBin_some q
  obtain ⟨rr, h1, h2⟩ := ho x y d e3
  refine wpE.by (pe_cmpR h1 wpE_pe wpE_pe hm) (ha.use2 hb w r e1 e2 fun v u H' x' w' r' p1 p2 => h2 A S H' sto' v u Q w' p1 p2 fun v' H2 F' rs => z v' H2 F' (rs.after x' fun a ha => none_of_ext x' (w'.live (rs.fr a ha)) (rs.fr a ha)))
theorem jp_int {i j} : JP X (.Constant (.int i) j pos) (eC (.int i)) k := fun A S σ H vw sto d sto' Q w r q z => by
  cases q
  exact wpE.by pe_int (z _ _ [] (.atom w (atomic_int i) (.int i)))
theorem jp_bl {b j} : JP X (.Constant (.bool b) j pos) (eC (.bool b)) k := fun A S σ H vw sto d sto' Q w r q z => by
  cases q
  exact wpE.by pe_bl (z _ _ [] (.atom w (atomic_bool b) (.bl b)))
theorem jp_non {j} : JP X (.Constant .none j pos) (eC .none) k := fun A S σ H vw sto d sto' Q w r q z => by
  cases q
  exact wpE.by pe_non (z _ _ [] (.atom w atomic_none .non))
theorem jp_str {x j} : JP X (.Constant (.str x) j pos) (eC (.str x)) k := fun A S σ H vw sto d sto' Q w r q z => by
  cases q
  exact wpE.by pe_str (z _ _ [] (.atom w (atomic_str x) (.str x)))
theorem jp_var {i : Nat} {x : Str} (hN : X.N[i]? = some x) (hv : Vis X.env.scope x) (hd : (x == ("__debug__" : Str)) = false := by decide) (hcd : (x == ("__classdict__" : Str)) = false := by decide) : JP X (.Name x pos) (eVar i) 0 := fun A S σ H vw sto d sto' Q w r q z => by
  unfold eVar at q
  split at q
  · rename_i d' e
    cases q
    obtain ⟨v, e1, e2⟩ := r.2 i _ e
    exact wpE.by (pe_var hN hv hd hcd) ⟨v, e1, z v H [] (.shared w e2)⟩
  · cases q
/-- a module's constant -/
theorem jp_glob {x : Str} {i : Int} {t : Tok} (hg : Gl X x) (hm : X.mg x = some (.int i t)) (hd : (x == ("__debug__" : Str)) = false := by decide) : JP X (.Name x pos) (eC (.int i)) k := fun A S σ H vw sto d sto' Q w r q z => by
  cases q
  exact wpE.by (pe_glob (v := .int i) hg hm ⟨_, rfl⟩ hd) (z _ _ [] (.atom w (atomic_int i) (.int i)))
theorem jp_globS {x : Str} {i : Str} {t : Tok} (hg : Gl X x) (hm : X.mg x = some (.str i t)) (hd : (x == ("__debug__" : Str)) = false := by decide) : JP X (.Name x pos) (eC (.str i)) k := fun A S σ H vw sto d sto' Q w r q z => by
  cases q
  exact wpE.by (pe_glob (v := .str i) hg hm ⟨_, rfl⟩ hd) (z _ _ [] (.atom w (atomic_str i) (.str i)))
end

/-! ### the operators -/
section
variable {X : Cx} {k : Nat}
def dAdd : D → D → Option D
  | .int i, .int j => some (.int (i + j))
  | .str x, .str y => if x.length + y.length ≤ 16777216 then some (.str (x ++ y)) else none
  | .list xs, .list ys => if xs.length + ys.length ≤ 16777216 then some (.list (xs ++ ys)) else none
  | _, _ => none
def rCatR : R2 := fun x y H Q => ∃ l b xs zs, x = .ref l ∧ y = .ref b ∧ Rd H l (.lst xs) ∧ Rd H b (.lst zs) ∧ xs.length + zs.length ≤ sizeLine ∧ ∀ p, H p = none → Q (.ref p) (upd H p (.lst (xs ++ zs)))
theorem lstR {pins : List (Addr × Obj)} {σ : Sg} {H : Hp} {s : Shared} {l : Addr} {xs : List V} (I : Inv X pins σ H s) (hH : Rd H l (.lst xs)) : xs.length ≤ sizeLine ∧ ∃ (its : List Value) (n : Nat), Vals xs its ∧ xs.length = its.length ∧ s.heap.get? l = some { cls := .type "list", data := .seq its.toArray n } := by
  obtain ⟨z, its, n, r, e⟩ := Rd.ok hH I.hok
  exact ⟨z, its, n, r, r.length, e⟩
theorem op_catR : OpR X (binaryOp .Add) rCatR := by
  intro pins s σ H x y v u Q I rx ry h
  obtain ⟨l, b, xs, zs, rfl, rfl, hH, hB, hz, q⟩ := h
  cases rx
  cases ry
  obtain ⟨z, its, n, r, hl, e⟩ := lstR I hH
  obtain ⟨z2, its2, n2, r2, hl2, e2⟩ := lstR I hB
  refine PySem.P.add_list e e2 ?_ (by rw [List.size_toArray, List.size_toArray]; omega)
  have ea : its.toArray ++ its2.toArray = (its ++ its2).toArray := by simp
  rw [ea]
  exact ⟨.ref _, _, I.lnew (t' := s.toks) (r.append r2) (by rw [List.length_append]; omega), rfl, q _ I.fresh⟩
theorem oj_add : OpJ X (binaryOp .Add) dAdd 1 := fun d1 d2 d h => by
  unfold dAdd at h
  split at h
  · cases h
    exact ⟨_, op_add, fun A S H sto x y Q w p1 p2 z => ⟨_, _, p1.intI, p2.intI, z _ _ [] (.atom w (atomic_int _) (.int _))⟩⟩
  · split at h
    · rename_i hl
      cases h
      exact ⟨_, op_add_str, fun A S H sto x y Q w p1 p2 z => ⟨_, _, p1.strI, p2.strI, by rw [sizeLine_eq]; exact hl, z _ _ [] (.atom w (atomic_str _) (.str _))⟩⟩
    · cases h
  · split at h
    · rename_i hl
      cases h
      refine ⟨_, op_catR, fun A S H sto x y Q w p1 p2 z => ?_⟩
      obtain ⟨a, xs, rfl, r1, q1⟩ := p1.lstI
      obtain ⟨b, ys, rfl, r2, q2⟩ := p2.lstI
      exact ⟨a, b, xs, ys, rfl, rfl, r1.out, r2.out, by rw [q1.length, q2.length, sizeLine_eq]; exact hl, fun p hp => z _ _ [p] (Res.lst w (.shared w (q1.append q2)) hp)⟩
    · cases h
  · cases h
def dSub : D → D → Option D
  | .int i, .int j => some (.int (i - j))
  | _, _ => none
theorem oj_sub : OpJ X (binaryOp .Sub) dSub k := fun d1 d2 d h => by
  unfold dSub at h
  split at h
  · cases h
    exact ⟨_, op_sub, fun A S H sto x y Q w p1 p2 z => ⟨_, _, p1.intI, p2.intI, z _ _ [] (.atom w (atomic_int _) (.int _))⟩⟩
  · cases h
def dMul : D → D → Option D
  | .int i, .int j => if small i = true ∧ small j = true then some (.int (i * j)) else none
  | .list xs, .int j => if j ≤ 16777216 ∧ -16777216 ≤ j ∧ xs.length * j.toNat ≤ 16777216 then some (.list (List.replicate j.toNat xs).flatten) else none
  | _, _ => none
def rRepR : R2 := fun x y H Q => ∃ l k xs, x = .ref l ∧ y = .int k ∧ Rd H l (.lst xs) ∧ -(2 ^ 63) ≤ k ∧ k < 2 ^ 63 ∧ xs.length * k.toNat ≤ sizeLine ∧
  ∀ p, H p = none → Q (.ref p) (upd H p (.lst (List.replicate k.toNat xs).flatten))
theorem op_repR : OpR X (binaryOp .Mult) rRepR := by
  intro pins s σ H x y v u Q I rx ry h
  obtain ⟨l, k, xs, rfl, rfl, hH, h1, h2, hz, q⟩ := h
  cases rx
  obtain ⟨t, rfl⟩ := ry
  obtain ⟨z, its, n, r, hl, e⟩ := lstR I hH
  have hlen : its.toArray.size * k.toNat ≤ sizeLine := by rw [List.size_toArray, ← hl]; exact hz
  have hcap : ¬ its.toArray.size * k.toNat > (2 ^ 63 - 1) / 8 := by
    have : (sizeLine : Nat) ≤ (2 ^ 63 - 1) / 8 := by decide
    omega
  have hfit : ¬ (!Builtin.List.listFitsIndex k) = true := by
    rw [fitsIndex_both h1 h2]
    exact Bool.false_ne_true
  have hlong : ¬ Builtin.List.listTooLong (its.toArray.size * k.toNat) = true := by
    rw [notLongL hlen]
    exact Bool.false_ne_true
  have hnew : List.foldl (fun x1 x2 => x1 ++ x2) #[] (List.replicate (if its.toArray.isEmpty = true then 0 else k.toNat) its.toArray) = (List.replicate k.toNat its).flatten.toArray := by
    have f0 : ∀ m : Nat, List.foldl (fun x1 x2 => x1 ++ x2) #[] (List.replicate m its.toArray) = (List.replicate m its).flatten.toArray := fun m => by
      have := foldl_rep its m []
      rw [List.nil_append] at this
      exact this
    rw [f0]
    cases its with
    | nil => simp
    | cons a r' => rw [if_neg (by simp)]
  refine wpAny_binaryOp_repeat_ref (T := "list") (U := "int") (by decide) ⟨_, e, rfl⟩ (fun s' => typeIs_int s' k t) noFill_list_mul PySem.F.fills_int_mul PySem.F.slot_int_rmul repeat_list PySem.F.slot_int_index.lookup
    (call_meets PySem.F.slot_int_rmul (typeIs_int s k t) PySem.F.entry_int_rmul (PySem.F.args_int_rmul_2 _ _) (int___rmul___int_list k t l its.toArray n)
      ⟨e, rfl, ⟨_, e, rfl⟩, call_meets PySem.F.slot_list_mul ⟨_, e, rfl⟩ PySem.F.entry_list_mul (PySem.F.args_list_mul_2 _ _) (AutoListH.list___mul___list_int_3 l its.toArray n k t hfit hcap hlong) ⟨e, ?_⟩⟩)
  rw [hnew]
  exact ⟨.ref _, _, I.lnew (t' := s.toks) (r.rep k.toNat) (by rw [PyProof.Rows.lm_len_rep_flat, Nat.mul_comm]; exact hz), rfl, q _ I.fresh⟩
theorem RpA.rep {K : PySem.W.Frag} {S : List Addr} {H : Hp} {vs : List V} {ds : List D} (h : RpA K S H vs ds) : ∀ n : Nat, RpA K S H (List.replicate n vs).flatten (List.replicate n ds).flatten
  | 0 => .nil
  | n + 1 => by
    rw [List.replicate_succ, List.replicate_succ, List.flatten_cons, List.flatten_cons]
    exact h.append (h.rep n)
theorem oj_mul : OpJ X (binaryOp .Mult) dMul 1 := fun d1 d2 d h => by
  unfold dMul at h
  split at h
  · split at h
    · rename_i hs
      cases h
      refine ⟨_, op_mulW, fun A S H sto x y Q w p1 p2 z => ⟨_, _, p1.intI, p2.intI, ?_, z _ _ [] (.atom w (atomic_int _) (.int _))⟩⟩
      have h1 := small_log hs.1
      have h2 := small_log hs.2
      unfold CMulW
      omega
    · cases h
  · split at h
    · rename_i hl
      cases h
      refine ⟨_, op_repR, fun A S H sto x y Q w p1 p2 z => ?_⟩
      obtain ⟨a, xs, rfl, r1, q1⟩ := p1.lstI
      exact ⟨a, _, xs, rfl, p2.intI, r1.out, by omega, by omega, by rw [q1.length, sizeLine_eq]; exact hl.2.2, fun p hp => z _ _ [p] (Res.lst w (.shared w (q1.rep _)) hp)⟩
    · cases h
  · cases h
def dFdiv : D → D → Option D
  | .int i, .int j => if 0 < j ∧ small j = true then some (.int (i / j)) else none
  | _, _ => none
theorem oj_fdiv : OpJ X (binaryOp .FloorDiv) dFdiv k := fun d1 d2 d h => by
  unfold dFdiv at h
  split at h
  · split at h
    · rename_i hs
      cases h
      refine ⟨_, op_fdivW, fun A S H sto x y Q w p1 p2 z => ⟨_, _, p1.intI, p2.intI, ⟨hs.1, ?_⟩, z _ _ [] (.atom w (atomic_int _) (.int _))⟩⟩
      have h2 := small_log hs.2
      omega
    · cases h
  · cases h
def dMod : D → D → Option D
  | .int i, .int j => if 0 < j then some (.int (i % j)) else none
  | _, _ => none
theorem oj_mod : OpJ X (binaryOp .Mod) dMod k := fun d1 d2 d h => by
  unfold dMod at h
  split at h
  · split at h
    · rename_i i j hs
      cases h
      refine ⟨_, op_modN, fun A S H sto x y Q w p1 p2 z => ⟨_, _, p1.intI, p2.intI, by omega, ?_⟩⟩
      show Q (V.int (i.fmod j)) H
      rw [Int.fmod_eq_emod_of_nonneg i (show (0 : Int) ≤ j by omega)]
      exact z _ _ [] (.atom w (atomic_int _) (.int _))
    · cases h
  · cases h
def dPow : D → D → Option D
  | .int i, .int j => if 0 ≤ j ∧ j ≤ 300 ∧ small i = true then some (.int (i ^ j.toNat)) else none
  | _, _ => none
theorem op_powW : OpR X (binaryOp .Pow) (rI (fun i j => 0 ≤ j ∧ j ≤ 300 ∧ small i = true) fun i j => .int (i ^ j.toNat)) := opI fun i j _ _ _ _ _ hc q => pow_int hc.1 (by
  have h1 := small_log hc.2.2
  have b : Builtin.Int.intBits i ≤ i.natAbs.log2 + 1 := by
    unfold Builtin.Int.intBits
    split <;> omega
  have h2 : (Builtin.Int.intBits i : Int) ≤ 4000 := by omega
  have h3 : (Builtin.Int.intBits i : Int) * j ≤ 4000 * 300 := by
    refine Int.le_trans (Int.mul_le_mul_of_nonneg_right h2 hc.1) (Int.mul_le_mul_of_nonneg_left hc.2.1 (by decide))
  exact Int.le_trans h3 (by decide)) q
theorem oj_pow : OpJ X (binaryOp .Pow) dPow k := fun d1 d2 d h => by
  unfold dPow at h
  split at h
  · split at h
    · rename_i hs
      cases h
      exact ⟨_, op_powW, fun A S H sto x y Q w p1 p2 z => ⟨_, _, p1.intI, p2.intI, hs, z _ _ [] (.atom w (atomic_int _) (.int _))⟩⟩
    · cases h
  · cases h
def dShl : D → D → Option D
  | .int i, .int j => if 0 ≤ j ∧ j ≤ 10000 ∧ i.natAbs < 18446744073709551616 then some (.int (i * 2 ^ j.toNat)) else none
  | _, _ => none
theorem oj_shl : OpJ X (binaryOp .LShift) dShl k := fun d1 d2 d h => by
  unfold dShl at h
  split at h
  · split at h
    · rename_i hs
      cases h
      exact ⟨_, op_shl, fun A S H sto x y Q w p1 p2 z => ⟨_, _, p1.intI, p2.intI, ⟨hs.1, by omega, by simpa using hs.2.2⟩, z _ _ [] (.atom w (atomic_int _) (.int _))⟩⟩
    · cases h
  · cases h
def dShr : D → D → Option D
  | .int i, .int j => if 0 ≤ j then some (.int (i / 2 ^ j.toNat)) else none
  | _, _ => none
theorem oj_shr : OpJ X (binaryOp .RShift) dShr k := fun d1 d2 d h => by
  unfold dShr at h
  split at h
  · split at h
    · rename_i hs
      cases h
      exact ⟨_, op_shr, fun A S H sto x y Q w p1 p2 z => ⟨_, _, p1.intI, p2.intI, hs, z _ _ [] (.atom w (atomic_int _) (.int _))⟩⟩
    · cases h
  · cases h
def dNeg : D → Option D
  | .int i => some (.int (-i))
  | _ => none
theorem uj_neg : UnJ X (unaryOp .USub) dNeg k := fun d1 d h => by
  unfold dNeg at h
  split at h
  · cases h
    exact ⟨_, un_neg, fun A S H sto x Q w p1 z => ⟨_, p1.intI, z _ _ [] (.atom w (atomic_int _) (.int _))⟩⟩
  · cases h

/-! ### comparisons -/
def dEq : D → D → Option D
  | .str x, .str y => some (.bool (x == y))
  | x, y => if SeqAt.shaped x = true ∧ SeqAt.shaped y = true then some (.bool (PyData.eqv x y)) else none
def dNe : D → D → Option D
  | .str x, .str y => some (.bool (!(x == y)))
  | x, y => if SeqAt.shaped x = true ∧ SeqAt.shaped y = true then some (.bool (!PyData.eqv x y)) else none
theorem oj_eq (hu : X.A.units + 64 < cLine) : OpJ X (compareOp .Eq) dEq k := fun d1 d2 d h => by
  unfold dEq at h
  split at h
  · cases h
    exact ⟨_, op_eq, fun A S H sto x y Q w p1 p2 z => by rw [p1.strI, p2.strI]; exact ⟨rfl, by rw [dec_str]; exact z _ _ [] (.atom w (atomic_bool _) (.bl _))⟩⟩
  · split at h
    · rename_i hs
      cases h
      exact ⟨_, op_eqD hu, fun A S H sto x y Q w p1 p2 z => ⟨_, _, p1.out.dp (shaped_lay hs.1), p2.out.dp (shaped_lay hs.2), hs.1, hs.2, z _ _ [] (.atom w (atomic_bool _) (.bl _))⟩⟩
    · cases h
theorem oj_ne (hu : X.A.units + 64 < cLine) : OpJ X (compareOp .NotEq) dNe k := fun d1 d2 d h => by
  unfold dNe at h
  split at h
  · cases h
    exact ⟨_, op_ne, fun A S H sto x y Q w p1 p2 z => by rw [p1.strI, p2.strI]; exact ⟨rfl, by rw [dec_str]; exact z _ _ [] (.atom w (atomic_bool _) (.bl _))⟩⟩
  · split at h
    · rename_i hs
      cases h
      exact ⟨_, op_neD hu, fun A S H sto x y Q w p1 p2 z => ⟨_, _, p1.out.dp (shaped_lay hs.1), p2.out.dp (shaped_lay hs.2), hs.1, hs.2, z _ _ [] (.atom w (atomic_bool _) (.bl _))⟩⟩
    · cases h
/-- a < b of alike data -/
def notNone : D → Bool
  | .none => false
  | _ => true
def dLt : D → D → Option D
  | .int i, .int j => some (.bool (decide (i < j)))
  | x, y => if PySem.W.alike x y = true ∧ SeqAt.shaped x = true ∧ SeqAt.shaped y = true ∧ notNone x = true then some (.bool (PySem.W.dataLt x y)) else none
def rLtD (K : PySem.W.Frag) : R2 := fun x y H Q => ∃ d e, Dp K H x d ∧ Dp K H y e ∧ SeqAt.shaped d = true ∧ SeqAt.shaped e = true ∧ PySem.W.alike d e = true ∧ notNone d = true ∧ Q (.bl (PySem.W.dataLt d e)) H
theorem op_ltD (hu : X.A.units + 64 < cLine) : OpR X (compareOp .Lt) (rLtD X.K) := by
  intro pins s σ H x y v u Q I rx ry h
  obtain ⟨d, e, hd, he, sd, se, al, nn, q⟩ := h
  obtain ⟨as, r1⟩ := Dp.reads I d x v hd rx
  obtain ⟨bs, r2⟩ := Dp.reads I e y u he ry
  exact PySem.W.rcLt_alike d e X.A s v u as bs r1 r2 al (fun z => by rw [z] at nn; exact absurd nn (by decide)) (SeqAt.room_of_shaped sd hu) X.prog X.w X.xe _ ⟨.bl _, H, I, rfl, q⟩
theorem oj_lt (hu : X.A.units + 64 < cLine) : OpJ X (compareOp .Lt) dLt k := fun d1 d2 d h => by
  unfold dLt at h
  split at h
  · cases h
    exact ⟨_, op_lt, fun A S H sto x y Q w p1 p2 z => ⟨_, _, p1.intI, p2.intI, z _ _ [] (.atom w (atomic_bool _) (.bl _))⟩⟩
  · split at h
    · rename_i hs
      cases h
      exact ⟨_, op_ltD hu, fun A S H sto x y Q w p1 p2 z => ⟨_, _, p1.out.dp (shaped_lay hs.2.1), p2.out.dp (shaped_lay hs.2.2.1), hs.2.1, hs.2.2.1, hs.1, hs.2.2.2, z _ _ [] (.atom w (atomic_bool _) (.bl _))⟩⟩
    · cases h
def dLe : D → D → Option D
  | .int i, .int j => some (.bool (decide (i ≤ j)))
  | _, _ => none
theorem oj_le : OpJ X (compareOp .LtE) dLe k := fun d1 d2 d h => by
  unfold dLe at h
  split at h
  · cases h
    exact ⟨_, op_le, fun A S H sto x y Q w p1 p2 z => ⟨_, _, p1.intI, p2.intI, z _ _ [] (.atom w (atomic_bool _) (.bl _))⟩⟩
  · cases h
def dGt : D → D → Option D
  | .int i, .int j => some (.bool (decide (j < i)))
  | _, _ => none
theorem oj_gt : OpJ X (compareOp .Gt) dGt k := fun d1 d2 d h => by
  unfold dGt at h
  split at h
  · cases h
    refine ⟨_, op_gt, fun A S H sto x y Q w p1 p2 z => ⟨_, _, p1.intI, p2.intI, z _ _ [] (.atom w (atomic_bool _) (.bl _))⟩⟩
  · cases h
def dGe : D → D → Option D
  | .int i, .int j => some (.bool (decide (j ≤ i)))
  | _, _ => none
theorem oj_ge : OpJ X (compareOp .GtE) dGe k := fun d1 d2 d h => by
  unfold dGe at h
  split at h
  · cases h
    refine ⟨_, op_ge, fun A S H sto x y Q w p1 p2 z => ⟨_, _, p1.intI, p2.intI, z _ _ [] (.atom w (atomic_bool _) (.bl _))⟩⟩
  · cases h
def hasD (d : D) (ds : List D) : Bool := ds.any fun z => PyData.eqv z d
def dIn : D → D → Option D
  | d, .list ds => if SeqAt.shaped d = true ∧ SeqAt.shaped (.list ds) = true then some (.bool (hasD d ds)) else none
  | d, .tuple ds => if SeqAt.shaped d = true ∧ SeqAt.shaped (.tuple ds) = true then some (.bool (hasD d ds)) else none
  | _, _ => none
def dNotIn : D → D → Option D
  | d, .list ds => if SeqAt.shaped d = true ∧ SeqAt.shaped (.list ds) = true then some (.bool (!hasD d ds)) else none
  | d, .tuple ds => if SeqAt.shaped d = true ∧ SeqAt.shaped (.tuple ds) = true then some (.bool (!hasD d ds)) else none
  | _, _ => none
def rInT (K : PySem.W.Frag) : R2 := fun x y H Q => ∃ d ds, Dp K H x d ∧ Dp K H y (.tuple ds) ∧ SeqAt.shaped d = true ∧ SeqAt.shaped (.tuple ds) = true ∧ Q (.bl (ds.any fun z => PyData.eqv z d)) H
def rNotInT (K : PySem.W.Frag) : R2 := fun x y H Q => ∃ d ds, Dp K H x d ∧ Dp K H y (.tuple ds) ∧ SeqAt.shaped d = true ∧ SeqAt.shaped (.tuple ds) = true ∧ Q (.bl (!ds.any fun z => PyData.eqv z d)) H
theorem room_in {A : Around} {d : D} {xs : List D} (h : SeqAt.shaped d = true) (hu : A.units + 65 < cLine) : A.units + 1 + min (PyData.depthAll xs) d.depth < cLine := by
  have h1 := SeqAt.depth_of_shaped h
  have h2 : min (PyData.depthAll xs) d.depth ≤ d.depth := Nat.min_le_right _ _
  omega
theorem op_inT (hu : X.A.units + 65 < cLine) : OpR X (compareOp .In) (rInT X.K) := by
  intro pins s σ H x y v u Q I rx ry h
  obtain ⟨d, ds, hd, he, sd, se, q⟩ := h
  obtain ⟨as, r1⟩ := Dp.reads I d x v hd rx
  obtain ⟨bs, r2⟩ := Dp.reads I (.tuple ds) y u he ry
  exact SeqAt.in_tuple_reads r2 r1 (by simpa [PyData.canLay0] using SeqAt.canLay_of_shaped se) (SeqAt.canLay_of_shaped sd) (room_in sd hu) ⟨.bl _, H, I, rfl, q⟩
theorem op_notInT (hu : X.A.units + 65 < cLine) : OpR X (compareOp .NotIn) (rNotInT X.K) := by
  intro pins s σ H x y v u Q I rx ry h
  obtain ⟨d, ds, hd, he, sd, se, q⟩ := h
  obtain ⟨as, r1⟩ := Dp.reads I d x v hd rx
  obtain ⟨bs, r2⟩ := Dp.reads I (.tuple ds) y u he ry
  exact SeqAt.notIn_tuple_reads r2 r1 (by simpa [PyData.canLay0] using SeqAt.canLay_of_shaped se) (SeqAt.canLay_of_shaped sd) (room_in sd hu) ⟨.bl _, H, I, rfl, q⟩
theorem oj_in (hu : X.A.units + 65 < cLine) : OpJ X (compareOp .In) dIn k := fun d1 d2 d h => by
  unfold dIn at h
  split at h
  · split at h
    · rename_i hs
      cases h
      exact ⟨_, op_inD hu, fun A S H sto x y Q w p1 p2 z => ⟨_, _, p1.out.dp (shaped_lay hs.1), p2.out.dp (shaped_lay hs.2), hs.1, hs.2, z _ _ [] (.atom w (atomic_bool _) (.bl _))⟩⟩
    · cases h
  · split at h
    · rename_i hs
      cases h
      exact ⟨_, op_inT hu, fun A S H sto x y Q w p1 p2 z => ⟨_, _, p1.out.dp (shaped_lay hs.1), p2.out.dp (shaped_lay hs.2), hs.1, hs.2, z _ _ [] (.atom w (atomic_bool _) (.bl _))⟩⟩
    · cases h
  · cases h
theorem oj_notIn (hu : X.A.units + 65 < cLine) : OpJ X (compareOp .NotIn) dNotIn k := fun d1 d2 d h => by
  unfold dNotIn at h
  split at h
  · split at h
    · rename_i hs
      cases h
      exact ⟨_, op_notInD hu, fun A S H sto x y Q w p1 p2 z => ⟨_, _, p1.out.dp (shaped_lay hs.1), p2.out.dp (shaped_lay hs.2), hs.1, hs.2, z _ _ [] (.atom w (atomic_bool _) (.bl _))⟩⟩
    · cases h
  · split at h
    · rename_i hs
      cases h
      exact ⟨_, op_notInT hu, fun A S H sto x y Q w p1 p2 z => ⟨_, _, p1.out.dp (shaped_lay hs.1), p2.out.dp (shaped_lay hs.2), hs.1, hs.2, z _ _ [] (.atom w (atomic_bool _) (.bl _))⟩⟩
    · cases h
  · cases h
/-- is, is not: of None, of a bool by a bool -/
def isNoneD : D → Bool
  | .none => true
  | _ => false
def dIs : D → D → Option D
  | x, .none => some (.bool (isNoneD x))
  | .bool a, .bool b => some (.bool (decide (a = b)))
  | _, _ => none
def dIsNot : D → D → Option D
  | x, .none => some (.bool (!isNoneD x))
  | .bool a, .bool b => some (.bool (!decide (a = b)))
  | _, _ => none
theorem isNone_v {K : PySem.W.Frag} {S : List Addr} {H : Hp} {x : V} {d : D} (p : Rp K S H x d) : decide (x = V.non) = isNoneD d := by
  cases p <;> first | rfl | (simp [isNoneD, tokD])
theorem oj_is : OpJ X (compareOp .Is) dIs k := fun d1 d2 d h => by
  unfold dIs at h
  split at h
  · cases h
    refine ⟨_, op_isN, fun A S H sto x y Q w p1 p2 z => ⟨p2.nonI, ?_⟩⟩
    rw [isNone_v p1]
    exact z _ _ [] (.atom w (atomic_bool _) (.bl _))
  · cases h
    exact ⟨_, op_isBl, fun A S H sto x y Q w p1 p2 z => ⟨_, _, p1.blI, p2.blI, z _ _ [] (.atom w (atomic_bool _) (.bl _))⟩⟩
  · cases h
theorem oj_isNot : OpJ X (compareOp .IsNot) dIsNot k := fun d1 d2 d h => by
  unfold dIsNot at h
  split at h
  · cases h
    refine ⟨_, op_notN, fun A S H sto x y Q w p1 p2 z => ⟨p2.nonI, ?_⟩⟩
    rw [isNone_v p1]
    exact z _ _ [] (.atom w (atomic_bool _) (.bl _))
  · cases h
    exact ⟨_, op_notBl, fun A S H sto x y Q w p1 p2 z => ⟨_, _, p1.blI, p2.blI, z _ _ [] (.atom w (atomic_bool _) (.bl _))⟩⟩
  · cases h
end

/-! ### chains, and, or, not, if else -/
def eChain (o1 o2 : D → D → Option D) (f g h : Ev) : Ev := fun vw s => (f vw s).bind fun p => (g vw p.2).bind fun q => (o1 p.1 q.1).bind fun c => match c with
  | .bool true => (h vw q.2).bind fun r => (o2 q.1 r.1).map fun z => (z, r.2)
  | .bool false => some (.bool false, q.2)
  | _ => none
theorem bind_some' {α β : Type} {x : Option α} {f : α → Option β} {b : β} (h : x.bind f = some b) : ∃ a, x = some a ∧ f a = some b := by
  cases x with
  | none => cases h
  | some a => exact ⟨a, rfl, h⟩
theorem map_some' {α β : Type} {x : Option α} {f : α → β} {b : β} (h : x.map f = some b) : ∃ a, x = some a ∧ f a = b := by
  cases x with
  | none => cases h
  | some a => exact ⟨a, rfl, Option.some.inj h⟩
section
variable {X : Cx} {e a b c : Expr} {es rest : List Expr} {f g h : Ev} {fs : EvA} {k j : Nat} {pos p : Pos} {o1 o2 : D → D → Option D}
theorem chain_read {c1 c2 : CmpOp} (h1 : OpJ X (compareOp c1) o1 0) (h2 : OpJ X (compareOp c2) o2 k) (ha : JP X a f 0) (hb : JP X b g 0) (hc : JP X c h 0)
    {A : Addr → Prop} {S : List Addr} {σ : Sg} {H : Hp} {vw : VW} {sto sto' : STO} {d : D} (w : Wd X.K S A H sto) (r : RdV X.K S A σ H vw) (q : eChain o1 o2 f g h vw sto = some (d, sto')) :
    ∃ r1 r2, OpR X (compareOp c1) r1 ∧ OpR X (compareOp c2) r2 ∧ ∀ Q : VK, (∀ v H' F, Res X.K S A H sto' k H' v d F → Q v H') → tChain r1 r2 (wpE X a) (wpE X b) (wpE X c) σ H Q := by
  unfold eChain at q
  obtain ⟨⟨x, s1⟩, e1, q⟩ := bind_some' q
  obtain ⟨⟨y, s2⟩, e2, q⟩ := bind_some' q
  obtain ⟨cc, e3, q⟩ := bind_some' q
  obtain ⟨r1, ho1, q1⟩ := h1 x y cc e3
  -- the second operation, where it is asked
  have k2 : ∃ r2, OpR X (compareOp c2) r2 ∧ (cc = .bool true → ∃ t s3, h vw s2 = some (t, s3) ∧ s3 = sto' ∧ ∀ A S H sto x' y' Q, Wd X.K S A H sto → Rp X.K S (hid A H) x' y → Rp X.K S (hid A H) y' t → (∀ v H' F', Res X.K S A H sto k H' v d F' → Q v H') → r2 x' y' H Q) := by
    split at q
    · obtain ⟨⟨t, s3⟩, e4, q⟩ := bind_some' q
      obtain ⟨zz, e5, q⟩ := map_some' q
      cases q
      obtain ⟨r2, ho2, q2⟩ := h2 y t _ e5
      exact ⟨r2, ho2, fun _ => ⟨t, s3, e4, rfl, q2⟩⟩
    · exact ⟨fun _ _ _ _ => False, fun _ _ _ _ _ _ _ _ _ _ _ _ z => z.elim, fun z => by cases z⟩
    · cases q
  obtain ⟨r2, ho2, q2⟩ := k2
  refine ⟨r1, r2, ho1, ho2, fun Q z => ha.use2 hb w r e1 e2 fun v u H' x' w' r' p1 p2 => q1 A S H' s2 v u _ w' p1 p2 fun v' H2 F' rs => ?_⟩
  have w2 := rs.wd.less (A' := A) (fun a h => .inr h) w'.hS
  have r3 := r'.move rs.ext w'.hS (A' := A) fun a h => .inl h
  have pc := rs.rp w'
  split at q
  · have ev := pc.blI
    refine ⟨true, ev, ?_⟩
    rw [if_pos rfl]
    obtain ⟨t, s3, e4, e5, qq⟩ := q2 rfl
    subst e5
    refine hc.use w2 r3 e4 fun t' H3 x3 w3 r4 p4 => qq A S H3 s3 u t' Q w3 (p2.le (hid_move (rs.ext.trans x3) w'.hS fun a h => .inl h)) p4 fun v'' H4 F4 rs4 => ?_
    have ex := x'.trans (rs.ext.trans x3)
    exact z v'' H4 F4 (rs4.after ex fun a ha => none_of_ext ex (w3.live (rs4.fr a ha)) (rs4.fr a ha))
  · have ev := pc.blI
    cases q
    refine ⟨false, ev, ?_⟩
    rw [if_neg Bool.false_ne_true]
    exact z _ _ [] ((Res.atom w2 (atomic_bool _) (.bl _)).after (x'.trans rs.ext) noF)
  · cases q
theorem jp_chain {c1 c2 : CmpOp} (h1 : OpJ X (compareOp c1) o1 0) (h2 : OpJ X (compareOp c2) o2 k) (ha : JP X a f 0) (hb : JP X b g 0) (hc : JP X c h 0)
    (hm : lastMarks [c1, c2] [b, c] = false) : JP X (.Compare a [c1, c2] [b, c] pos) (eChain o1 o2 f g h) k := fun A S σ H vw sto d sto' Q w r q z => by
  obtain ⟨r1, r2, ho1, ho2, hh⟩ := chain_read h1 h2 ha hb hc w r q
  exact wpE.by (pe_chain ho1 ho2 wpE_pe wpE_pe wpE_pe hm) (hh Q z)
/-- a and b, a or b, as values, all but the last a bool -/
def eAnd (f g : Ev) : Ev := fun vw s => (f vw s).bind fun p => match p.1 with
  | .bool true => g vw p.2
  | .bool false => some (.bool false, p.2)
  | _ => none
def eOr (f g : Ev) : Ev := fun vw s => (f vw s).bind fun p => match p.1 with
  | .bool true => some (.bool true, p.2)
  | .bool false => g vw p.2
  | _ => none
def dNot : D → Option D
  | .bool b => some (.bool (!b))
  | _ => none
theorem jp_one {o} (ha : JP X a f k) : JP X (.BoolOp o [a] pos) f k := fun A S σ H vw sto d sto' Q w r q z => wpE.by (pe_one wpE_pe) (ha A S σ H vw sto d sto' Q w r q z)
theorem Res.later {K : PySem.W.Frag} {S : List Addr} {A : Addr → Prop} {H H1 H' : Hp} {sto1 sto' : STO} {k : Nat} {v : V} {d : D} {F : List Addr} (x : Ext S H H1) (w1 : Wd K S A H1 sto1) (r : Res K S A H1 sto' k H' v d F) : Res K S A H sto' k H' v d F :=
  r.after x fun a ha => none_of_ext x (w1.live (r.fr a ha)) (r.fr a ha)
theorem jp_and (ha : JP X a f 0) (hb : JP X (.BoolOp .And (b :: rest) pos) g k) : JP X (.BoolOp .And (a :: b :: rest) pos) (eAnd f g) k := fun A S σ H vw sto d sto' Q w r q z => by
  unfold eAnd at q
  obtain ⟨⟨x, s1⟩, e1, q⟩ := bind_some' q
  refine wpE.by (pe_and wpE_pe wpE_pe) (ha.use w r e1 fun v H1 x1 w1 r1 p1 => ?_)
  simp only at q
  split at q
  · refine ⟨true, p1.blI, ?_⟩
    rw [if_pos rfl]
    exact hb A S σ H1 vw s1 d sto' Q w1 r1 q fun v' H' F rs => z v' H' F (rs.later x1 w1)
  · cases q
    refine ⟨false, p1.blI, ?_⟩
    rw [if_neg Bool.false_ne_true]
    exact z _ _ [] ((Res.atom w1 (atomic_bool _) (.bl _)).after x1 noF)
  · cases q
theorem jp_or (ha : JP X a f 0) (hb : JP X (.BoolOp .Or (b :: rest) pos) g k) : JP X (.BoolOp .Or (a :: b :: rest) pos) (eOr f g) k := fun A S σ H vw sto d sto' Q w r q z => by
  unfold eOr at q
  obtain ⟨⟨x, s1⟩, e1, q⟩ := bind_some' q
  refine wpE.by (pe_or wpE_pe wpE_pe) (ha.use w r e1 fun v H1 x1 w1 r1 p1 => ?_)
  simp only at q
  split at q
  · cases q
    refine ⟨true, p1.blI, ?_⟩
    rw [if_pos rfl]
    exact z _ _ [] ((Res.atom w1 (atomic_bool _) (.bl _)).after x1 noF)
  · refine ⟨false, p1.blI, ?_⟩
    rw [if_neg Bool.false_ne_true]
    exact hb A S σ H1 vw s1 d sto' Q w1 r1 q fun v' H' F rs => z v' H' F (rs.later x1 w1)
  · cases q
theorem jp_not (ha : JP X a f 0) : JP X (.UnaryOp .Not a pos) (eUn dNot f) k := fun A S σ H vw sto d sto' Q w r q z => by
  obtain ⟨x, e1, e3⟩ := eUn_some q
  refine wpE.by (pe_not wpE_pe) (ha.use w r e1 fun v H1 x1 w1 r1 p1 => ?_)
  unfold dNot at e3
  split at e3
  · cases e3
    exact ⟨_, p1.blI, z _ _ [] ((Res.atom w1 (atomic_bool _) (.bl _)).after x1 noF)⟩
  · cases e3

/-! ### tests -/
def bT (f : Ev) : EvT := fun vw s => (f vw s).bind fun p => match p.1 with
  | .bool b => some (b, p.2)
  | _ => none
def aT (f g : EvT) : EvT := fun vw s => (f vw s).bind fun p => if p.1 = true then g vw p.2 else some (false, p.2)
def oT (f g : EvT) : EvT := fun vw s => (f vw s).bind fun p => if p.1 = true then some (true, p.2) else g vw p.2
def nT (f : EvT) : EvT := fun vw s => (f vw s).map fun p => (!p.1, p.2)
variable {ft gt : EvT}
theorem jt_val (ha : JP X a f 0) (he : ∀ whole, isTrue a X.env whole = (do let v ← whole; standAt a.pos; holding [v] (truthy v))) : JT X a (bT f) := fun A S σ H vw sto b sto' Q w r q z => by
  unfold bT at q
  obtain ⟨⟨x, s1⟩, e1, q⟩ := bind_some' q
  refine wpT.by (pt_val wpE_pe he) (ha.use w r e1 fun v H1 x1 w1 r1 p1 => ?_)
  simp only at q
  split at q
  · cases q
    exact ⟨_, p1.blI, z H1 x1 w1⟩
  · cases q
theorem jt_cmp {o : CmpOp} (ho : OpJ X (compareOp o) o1 0) (ha : JP X a f 0) (hb : JP X b g 0) (hm : behindInMarks o b = false) : JT X (.Compare a [o] [b] pos) (bT (eBin o1 f g)) := fun A S σ H vw sto bb sto' Q w r q z => by
  unfold bT at q
  obtain ⟨⟨t, s1⟩, e0, q⟩ := bind_some' q
  obtain ⟨x, s2, y, e1, e2, e3⟩ := eBin_some e0
  obtain ⟨rr, h1, h2⟩ := ho x y t e3
  refine wpT.by (pt_cmpR h1 wpE_pe wpE_pe hm) (ha.use2 hb w r e1 e2 fun v u H' x' w' r' p1 p2 => h2 A S H' s1 v u _ w' p1 p2 fun v' H2 F' rs => ?_)
  simp only at q
  split at q
  · cases q
    exact ⟨_, (rs.rp w').blI, z _ (x'.trans rs.ext) (rs.wd.less (fun a h => .inr h) w'.hS)⟩
  · cases q
theorem jt_chain {c1 c2 : CmpOp} {o2 : D → D → Option D} (h1 : OpJ X (compareOp c1) o1 0) (h2 : OpJ X (compareOp c2) o2 0) (ha : JP X a f 0) (hb : JP X b g 0) (hc : JP X c h 0)
    (hm : lastMarks [c1, c2] [b, c] = false) : JT X (.Compare a [c1, c2] [b, c] pos) (bT (eChain o1 o2 f g h)) := fun A S σ H vw sto bb sto' Q w r q z => by
  unfold bT at q
  obtain ⟨⟨t, s1⟩, e0, q⟩ := bind_some' q
  obtain ⟨r1, r2, ho1, ho2, hh⟩ := chain_read h1 h2 ha hb hc w r e0
  refine wpT.by (pt_chain ho1 ho2 wpE_pe wpE_pe wpE_pe hm) (hh _ fun v' H2 F' rs => ?_)
  simp only at q
  split at q
  · cases q
    exact ⟨_, (rs.rp w).blI, z _ rs.ext (rs.wd.less (fun a h => .inr h) w.hS)⟩
  · cases q
theorem jt_pw (h : JW X a ft) : JT X a ft := fun A S σ H vw sto b sto' Q w r q z => fun pins s I => h A S σ H vw sto b sto' Q w r q z _ pins s I
theorem jw_and1 (h : JT X a ft) : JW X (.BoolOp .And [a] pos) ft := fun A S σ H vw sto b sto' Q w r q z => wpW.by (pw_and1 wpT_pt) (h A S σ H vw sto b sto' Q w r q z)
theorem jw_or1 (h : JT X a ft) : JW X (.BoolOp .Or [a] pos) ft := fun A S σ H vw sto b sto' Q w r q z => wpW.by (pw_or1 wpT_pt) (h A S σ H vw sto b sto' Q w r q z)
theorem JT.use (h : JT X a ft) {A : Addr → Prop} {S : List Addr} {σ : Sg} {H : Hp} {vw : VW} {sto sto' : STO} {b : Bool} {Q : Bool → Hp → Prop} (w : Wd X.K S A H sto) (r : RdV X.K S A σ H vw) (q : ft vw sto = some (b, sto'))
    (z : ∀ H', Ext S H H' → Wd X.K S A H' sto' → RdV X.K S A σ H' vw → Q b H') : wpT X a σ H Q := h A S σ H vw sto b sto' Q w r q fun H' x' w' => z H' x' w' (r.move x' w.hS fun a h => .inl h)
theorem jw_and (ha : JT X a ft) (hb : JW X (.BoolOp .And (b :: rest) pos) gt) : JW X (.BoolOp .And (a :: b :: rest) pos) (aT ft gt) := fun A S σ H vw sto bb sto' Q w r q z => by
  unfold aT at q
  obtain ⟨⟨x, s1⟩, e1, q⟩ := bind_some' q
  refine wpW.by (pw_and wpT_pt wpW_pw) (ha.use w r e1 fun H1 x1 w1 r1 => ?_)
  simp only at q
  split at q
  · rename_i hx
    rw [if_pos hx]
    exact hb A S σ H1 vw s1 bb sto' Q w1 r1 q fun H' x' w' => z H' (x1.trans x') w'
  · rename_i hx
    rw [if_neg hx]
    cases q
    exact z H1 x1 w1
theorem jw_or (ha : JT X a ft) (hb : JW X (.BoolOp .Or (b :: rest) pos) gt) : JW X (.BoolOp .Or (a :: b :: rest) pos) (oT ft gt) := fun A S σ H vw sto bb sto' Q w r q z => by
  unfold oT at q
  obtain ⟨⟨x, s1⟩, e1, q⟩ := bind_some' q
  refine wpW.by (pw_or wpT_pt wpW_pw) (ha.use w r e1 fun H1 x1 w1 r1 => ?_)
  simp only at q
  split at q
  · rename_i hx
    rw [if_pos hx]
    cases q
    exact z H1 x1 w1
  · rename_i hx
    rw [if_neg hx]
    exact hb A S σ H1 vw s1 bb sto' Q w1 r1 q fun H' x' w' => z H' (x1.trans x') w'
theorem jt_not (ha : JT X a ft) : JT X (.UnaryOp .Not a pos) (nT ft) := fun A S σ H vw sto b sto' Q w r q z => by
  unfold nT at q
  obtain ⟨⟨x, s1⟩, e1, q⟩ := map_some' q
  cases q
  exact wpT.by (pt_not wpT_pt) (ha.use w r e1 fun H1 x1 w1 r1 => z H1 x1 w1)
def eIf (t : EvT) (f g : Ev) : Ev := fun vw s => (t vw s).bind fun p => if p.1 = true then f vw p.2 else g vw p.2
theorem jp_if (ht : JT X c ft) (ha : JP X a f k) (hb : JP X b g k) : JP X (.IfExp c a b pos) (eIf ft f g) k := fun A S σ H vw sto d sto' Q w r q z => by
  unfold eIf at q
  obtain ⟨⟨x, s1⟩, e1, q⟩ := bind_some' q
  refine wpE.by (pe_ifExp wpT_pt wpE_pe wpE_pe) (ht.use w r e1 fun H1 x1 w1 r1 => ?_)
  simp only at q
  split at q
  · rename_i hx
    rw [if_pos hx]
    exact ha A S σ H1 vw s1 d sto' Q w1 r1 q fun v' H' F rs => z v' H' F (rs.later x1 w1)
  · rename_i hx
    rw [if_neg hx]
    exact hb A S σ H1 vw s1 d sto' Q w1 r1 q fun v' H' F rs => z v' H' F (rs.later x1 w1)

/-! ### argument lists, displays -/
def aN : EvA := fun _ s => some ([], s)
def aC (f : Ev) (g : EvA) : EvA := fun vw s => (f vw s).bind fun p => (g vw p.2).map fun q => (p.1 :: q.1, q.2)
theorem ja_nil : JA X [] aN k := fun A S σ H vw sto d sto' Q w r q z => by
  cases q
  exact wpA.by pa_nil (z [] H [] (.nil w))
theorem ja_cons {gs : EvA} (ha : JP X a f k) (hr : JA X es gs k) (hs : starEach (a :: es) X.env = (false, eval a X.env) :: starEach es X.env := by rfl) : JA X (a :: es) (aC f gs) k := fun A S σ H vw sto d sto' Q w r q z => by
  unfold aC at q
  obtain ⟨⟨x, s1⟩, e1, q⟩ := bind_some' q
  obtain ⟨⟨ys, s2⟩, e2, q⟩ := map_some' q
  cases q
  refine wpA.by (pa_cons wpE_pe wpA_pa hs) (ha A S σ H vw sto x s1 _ w r e1 fun v H1 F rs => ?_)
  refine hr (plus F A) S σ H1 vw s1 ys s2 _ rs.wd (r.move rs.ext w.hS fun a h => ?_) e2 fun vs H2 G qs => z (v :: vs) H2 (F ++ G) (.cons w rs qs)
  rcases h with h | h
  · exact .inr (rs.fr a h)
  · exact .inl h
def eLst (f : EvA) : Ev := fun vw s => (f vw s).bind fun p => if p.1.length ≤ 16777216 then some (.list p.1, p.2) else none
def eTup (f : EvA) : Ev := fun vw s => (f vw s).bind fun p => if p.1.length ≤ 16777216 then some (.tuple p.1, p.2) else none
theorem jp_lst (h : JA X es fs k) : JP X (.List es pos) (eLst fs) (k + 1) := fun A S σ H vw sto d sto' Q w r q z => by
  unfold eLst at q
  obtain ⟨⟨x, s1⟩, e1, q⟩ := bind_some' q
  simp only at q
  split at q
  · rename_i hl
    cases q
    exact wpE.by (pe_lst wpA_pa) (h A S σ H vw sto x _ _ w r e1 fun vs H1 F rs => ⟨by rw [rs.ow.length, sizeLine_eq]; exact hl, fun p hp => z _ _ _ (Res.lst w rs hp)⟩)
  · cases q
theorem jp_tup {x1} (h : JA X es fs 0) : JP X (.Tuple es x1 pos) (eTup fs) k := fun A S σ H vw sto d sto' Q w r q z => by
  unfold eTup at q
  obtain ⟨⟨x, s1⟩, e1, q⟩ := bind_some' q
  simp only at q
  split at q
  · rename_i hl
    cases q
    exact wpE.by (pe_tup wpA_pa) (h A S σ H vw sto x _ _ w r e1 fun vs H1 F rs => ⟨by rw [rs.ow.length, sizeLine_eq]; exact hl, fun p hp => z _ _ _ (Res.tup w rs hp)⟩)
  · cases q
end
end J
namespace J
open PySem PySem.Spec PyProof.Rows L2

/-! ### an item -/
/-- a datum that stands for another thing -/
def isMk : D → Bool
  | .dict ((.none, _) :: _) => true
  | .dict ((.tuple _, _) :: _) => true
  | _ => false
theorem Rp.skI {K : PySem.W.Frag} {S : List Addr} {H : Hp} {v : V} {ds : List D} (h : Rp K S H v (.dict [(.none, .list ds)])) : ∃ a xs, v = .ref a ∧ SqL K H a xs ∧ RpA K S H xs ds := by
  cases h with
  | sk h1 h2 => exact ⟨_, _, rfl, h1, h2⟩
  | dK h1 h2 =>
    obtain ⟨k, e⟩ := h2.key _ List.mem_cons_self
    cases k <;> cases e
  | dT h1 h2 =>
    obtain ⟨k, e⟩ := h2.key _ List.mem_cons_self
    cases e
theorem _root_.L2.SqL.out {K : PySem.W.Frag} {A : Addr → Prop} {H : Hp} {a : Addr} {xs : List V} (h : SqL K (hid A H) a xs) : SqL K H a xs := L2.Same.seq same_hid h
def isTok : D → Option Nat
  | .dict [(.none, .int i)] => if 0 ≤ i then some i.toNat else none
  | _ => none
theorem isTok_tok (i : Nat) : isTok (tokD i) = some i := by
  show (if (0 : Int) ≤ (i : Int) then some (i : Int).toNat else none) = _
  rw [if_pos (by omega)]
  rfl
theorem isTok_eq {d : D} {i : Nat} (h : isTok d = some i) : d = tokD i := by
  unfold isTok at h
  split at h
  · split at h
    · rename_i j hj
      cases h
      show PyData.dict [(.none, .int j)] = .dict [(.none, .int (j.toNat : Nat))]
      rw [show ((j.toNat : Nat) : Int) = j by omega]
    · cases h
  · cases h
/-- the items of a cell that holds a list -/
def cellL (s : STO) (i : Nat) : Option (List D) := match s[i]? with
  | some (.lst ds) => some ds
  | _ => none
def dIdx (s : STO) : D → D → Option D
  | .list ds, .int i => atI ds i
  | .tuple ds, .int i => atI ds i
  | .str z, .int i => if z.length ≤ 16777216 then (atI z.cps.toList i).map fun c => .str ⟨#[c]⟩ else none
  | .dict [(.none, .int j)], .int i => (isTok (.dict [(.none, .int j)])).bind fun k => (cellL s k).bind fun ds => atI ds i
  | .dict [(.none, .list ds)], .int i => atI ds i
  | _, _ => none
theorem Rp.tokI {K : PySem.W.Frag} {S : List Addr} {H : Hp} {v : V} {i : Nat} (h : Rp K S H v (tokD i)) : ∃ l, v = .ref l ∧ S[i]? = some l := by
  unfold tokD at h
  generalize e0 : PyData.dict [(.none, .int (i : Nat))] = d at h
  cases h with
  | @tok _ j h =>
    unfold tokD at e0
    injection e0 with e0
    injection e0 with e0 _
    injection e0 with _ e0
    injection e0 with e0
    have : i = j := by omega
    subst this
    exact ⟨_, rfl, h⟩
  | dK h1 h2 =>
    injection e0 with e0
    subst e0
    obtain ⟨k, e⟩ := h2.key _ List.mem_cons_self
    cases k <;> cases e
  | dT h1 h2 =>
    injection e0 with e0
    subst e0
    obtain ⟨k, e⟩ := h2.key _ List.mem_cons_self
    cases e
  | sk h1 h2 =>
    unfold skD at e0
    injection e0 with e0
    injection e0 with e0 _
    injection e0 with _ e0
    cases e0
  | _ => cases e0
theorem Wd.cellL {K : PySem.W.Frag} {S : List Addr} {A : Addr → Prop} {H : Hp} {sto : STO} {i : Nat} {l : Addr} {ds : List D} (w : Wd K S A H sto) (hS : S[i]? = some l) (h : cellL sto i = some ds) : ∃ vs, H l = some (.lst vs) ∧ RpA K S (hid A H) vs ds := by
  unfold J.cellL at h
  split at h
  · rename_i ds' hc
    cases h
    exact w.st i l _ hS hc
  · cases h
def eIdx (f g : Ev) : Ev := fun vw s => (f vw s).bind fun p => (g vw p.2).bind fun q => (dIdx q.2 p.1 q.1).map fun r => (r, q.2)
section
variable {K : PySem.W.Frag} {S : List Addr} {H : Hp}
theorem RpA.atI {vs : List V} {ds : List D} {i : Int} {d : D} (h : RpA K S H vs ds) (e : L2.atI ds i = some d) : ∃ v, L2.atI vs i = some v ∧ Rp K S H v d := by
  unfold L2.atI at e ⊢
  rw [h.length]
  cases q : ixN ds.length i with
  | none => rw [q] at e; cases e
  | some j =>
    rw [q] at e
    exact h.get (i := j) e
end
section
variable {X : Cx} {e a b c : Expr} {es rest : List Expr} {f g h : Ev} {fs : EvA} {k j : Nat} {pos p p2 cpos apos : Pos}
theorem jp_idx (ha : JP X a f 0) (hb : JP X b g 0) (hs : PlainIx b) : JP X (.Subscript a b pos) (eIdx f g) 0 := fun A S σ H vw sto d sto' Q w r q z => by
  unfold eIdx at q
  obtain ⟨⟨x, s1⟩, e1, q⟩ := bind_some' q
  obtain ⟨⟨y, s2⟩, e2, q⟩ := bind_some' q
  obtain ⟨t, e3, q⟩ := map_some' q
  cases q
  simp only at e2 e3
  unfold dIdx at e3
  split at e3
  · refine wpE.by (pe_ix ix_list wpE_pe wpE_pe hs) (ha.use2 hb w r e1 e2 fun v u H' x' w' r' p1 p2 => ?_)
    obtain ⟨l, xs, rfl, r1, q1⟩ := p1.lstI
    obtain ⟨t', e4, p4⟩ := q1.atI e3
    exact ⟨l, xs, _, t', rfl, p2.intI, .inl r1.out, e4, z t' H' [] ((Res.shared w' p4).after x' noF)⟩
  · refine wpE.by (pe_ix ix_tup wpE_pe wpE_pe hs) (ha.use2 hb w r e1 e2 fun v u H' x' w' r' p1 p2 => ?_)
    obtain ⟨l, xs, rfl, r1, q1⟩ := p1.tupI
    obtain ⟨t', e4, p4⟩ := q1.atI e3
    exact ⟨l, xs, _, t', rfl, p2.intI, .inl r1.out, e4, z t' H' [] ((Res.shared w' p4).after x' noF)⟩
  · split at e3
    · rename_i hl
      obtain ⟨c, e4, e5⟩ := map_some' e3
      refine wpE.by (pe_ix ix_str wpE_pe wpE_pe hs) (ha.use2 hb w r e1 e2 fun v u H' x' w' r' p1 p2 => ?_)
      cases e5
      exact ⟨_, _, c, p1.strI, p2.intI, by rw [sizeLine_eq]; exact hl, e4, z _ H' [] ((Res.atom w' (atomic_str _) (.str _)).after x' noF)⟩
    · cases e3
  · obtain ⟨kk, e3, e4⟩ := bind_some' e3
    have e6 := isTok_eq e3
    obtain ⟨ds, e4, e5⟩ := bind_some' e4
    refine wpE.by (pe_ix ix_list wpE_pe wpE_pe hs) (ha.use2 hb w r e1 e2 fun v u H' x' w' r' p1 p2 => ?_)
    rw [e6] at p1
    obtain ⟨l, rfl, hS⟩ := p1.tokI
    obtain ⟨vs', h4, h5⟩ := w'.cellL hS e4
    obtain ⟨t', e6, p6⟩ := h5.atI e5
    exact ⟨l, vs', _, t', rfl, p2.intI, .of h4, e6, z t' H' [] ((Res.shared w' p6).after x' noF)⟩
  · refine wpE.by (pe_ix ix_list wpE_pe wpE_pe hs) (ha.use2 hb w r e1 e2 fun v u H' x' w' r' p1 p2 => ?_)
    obtain ⟨l, xs, rfl, r1, q1⟩ := p1.skI
    obtain ⟨t', e4, p4⟩ := q1.atI e3
    exact ⟨l, xs, _, t', rfl, p2.intI, r1.out, e4, z t' H' [] ((Res.shared w' p4).after x' noF)⟩
  · cases e3

/-! ### slices -/
def JO (X : Cx) (e : Option Expr) (f : VW → STO → Option (Option Int × STO)) : Prop := ∃ t, PO X e t ∧ ∀ A S σ H vw sto o sto' (Q : Option Int → Hp → Prop), Wd X.K S A H sto → RdV X.K S A σ H vw → f vw sto = some (o, sto') →
  (∀ H', Ext S H H' → Wd X.K S A H' sto' → RdV X.K S A σ H' vw → Q o H') → t σ H Q
def oN : VW → STO → Option (Option Int × STO) := fun _ s => some (none, s)
def oS (f : Ev) : VW → STO → Option (Option Int × STO) := fun vw s => (f vw s).bind fun p => match p.1 with
  | .int i => some (some i, p.2)
  | _ => none
theorem jo_none : JO X none oN := ⟨_, po_none, fun A S σ H vw sto o sto' Q w r q z => by
  cases q
  exact z H Ext.refl w r⟩
theorem jo_some (ha : JP X a f 0) : JO X (some a) (oS f) := ⟨_, po_some wpE_pe, fun A S σ H vw sto o sto' Q w r q z => by
  unfold oS at q
  obtain ⟨⟨x, s1⟩, e1, q⟩ := bind_some' q
  refine ha.use w r e1 fun v H1 x1 w1 r1 p1 => ?_
  simp only at q
  split at q
  · cases q
    exact ⟨_, p1.intI, z H1 x1 w1 r1⟩
  · cases q⟩
def cutL {α : Type} (xs : List α) (lo hi : Option Int) : List α := (xs.drop (HT.sIx xs.length 0 lo)).take (HT.sIx xs.length xs.length hi - HT.sIx xs.length 0 lo)
def dSl : D → Option Int → Option Int → Option D
  | .list ds, lo, hi => some (.list (cutL ds lo hi))
  | .str z, lo, hi => if z.length ≤ 16777216 then some (.str (cutS z lo hi)) else none
  | _, _, _ => none
def eSl (f : Ev) (lo hi : VW → STO → Option (Option Int × STO)) : Ev := fun vw s => (f vw s).bind fun p => (lo vw p.2).bind fun q => (hi vw q.2).bind fun u => (dSl p.1 q.1 u.1).map fun d => (d, u.2)
theorem RpA.cut {K : PySem.W.Frag} {S : List Addr} {H : Hp} {vs : List V} {ds : List D} (h : RpA K S H vs ds) (lo hi : Option Int) : RpA K S H (cutV vs lo hi) (cutL ds lo hi) := by
  unfold cutV cutL
  rw [h.length]
  exact (h.drop _).take _
theorem jp_slice {lo hi : Option Expr} {fl fh : VW → STO → Option (Option Int × STO)} (ha : JP X a f 0) (hl : JO X lo fl) (hh : JO X hi fh) : JP X (.Subscript a (.Slice lo hi none p2) pos) (eSl f fl fh) 1 := fun A S σ H vw sto d sto' Q w r q z => by
  unfold eSl at q
  obtain ⟨⟨x, s1⟩, e1, q⟩ := bind_some' q
  obtain ⟨⟨o1, s2⟩, e2, q⟩ := bind_some' q
  obtain ⟨⟨o2, s3⟩, e3, q⟩ := bind_some' q
  obtain ⟨t, e4, q⟩ := map_some' q
  cases q
  simp only at e2 e3 e4
  obtain ⟨tl, hl, jl⟩ := hl
  obtain ⟨th, hh, jh⟩ := hh
  unfold dSl at e4
  split at e4
  · cases e4
    refine wpE.by (pe_slice sl_list wpE_pe hl hh) (ha.use w r e1 fun v H1 x1 w1 r1 p1 => jl A S σ H1 vw s1 o1 s2 _ w1 r1 e2 fun H2 x2 w2 r2 => jh A S σ H2 vw s2 o2 s3 _ w2 r2 e3 fun H3 x3 w3 r3 => ?_)
    have p3 := p1.le (hid_move (x2.trans x3) w1.hS (A' := A) fun a h => .inl h)
    obtain ⟨l, xs, rfl, r4, q4⟩ := p3.lstI
    exact ⟨l, xs, rfl, .inl r4.out, fun p hp => z _ _ [p] ((Res.lst w3 (.shared w3 (q4.cut _ _)) hp).later (x1.trans (x2.trans x3)) w3)⟩
  · split at e4
    · rename_i hl'
      cases e4
      refine wpE.by (pe_slice sl_str wpE_pe hl hh) (ha.use w r e1 fun v H1 x1 w1 r1 p1 => jl A S σ H1 vw s1 o1 s2 _ w1 r1 e2 fun H2 x2 w2 r2 => jh A S σ H2 vw s2 o2 s3 _ w2 r2 e3 fun H3 x3 w3 r3 => ?_)
      have ev := p1.strI
      subst ev
      exact ⟨_, rfl, by rw [sizeLine_eq]; exact hl', z _ _ [] ((Res.atom w3 (atomic_str _) (.str _)).after (x1.trans (x2.trans x3)) noF)⟩
    · cases e4
  · cases e4

/-! ### built-ins by their names -/
def CallJ (X : Cx) (fv : Value) (op : List D → Option D) (k : Nat) : Prop := ∀ ds d, op ds = some d → ∃ r, CallR X fv r ∧ ∀ A S H sto vs Q, Wd X.K S A H sto → RpA X.K S (hid A H) vs ds →
  (∀ v H' F', Res X.K S A H sto k H' v d F' → Q v H') → r vs H Q
def eOp (op : List D → Option D) (fs : EvA) : Ev := fun vw s => (fs vw s).bind fun p => (op p.1).map fun d => (d, p.2)
theorem jp_callB {x : Str} {id : String} {op : List D → Option D} (hc : CallJ X (.builtin id) op k) (hg : Gl X x) (hm : X.mg x = none) (hv : bootBuiltins x = some (.builtin id)) (ha : JA X (e :: es) fs 0) (hn : x ≠ "__name__" := by decide) (hdb : (x == ("__debug__" : Str)) = false := by decide)
    (he : starEach (e :: es) X.env = (false, eval e X.env) :: starEach es X.env := by rfl) (hpl : (backTo pos (starEach es X.env)).any (·.1) = false := by rfl) : JP X (.Call (.Name x p) (e :: es) [] pos) (eOp op fs) k := fun A S σ H vw sto d sto' Q w r q z => by
  unfold eOp at q
  obtain ⟨⟨xs, s1⟩, e1, q⟩ := bind_some' q
  obtain ⟨t, e2, q⟩ := map_some' q
  cases q
  obtain ⟨rr, h1, h2⟩ := hc xs _ e2
  exact wpE.by (pe_callB h1 hg hm hv wpA_pa hn hdb he hpl) (ha.use w r e1 fun vs H1 x1 w1 r1 p1 => h2 A S H1 s1 vs Q w1 p1 fun v H2 F' rs => z v H2 F' (rs.later x1 w1))
theorem jp_callTy {x : Str} {T : String} {op : List D → Option D} (hc : CallJ X (.type T) op k) (hg : Gl X x) (hm : X.mg x = none) (hv : bootBuiltins x = some (.type T)) (ha : JA X (e :: es) fs 0) (hn : x ≠ "__name__" := by decide) (hdb : (x == ("__debug__" : Str)) = false := by decide)
    (he : starEach (e :: es) X.env = (false, eval e X.env) :: starEach es X.env := by rfl) (hpl : (backTo pos (starEach es X.env)).any (·.1) = false := by rfl) : JP X (.Call (.Name x p) (e :: es) [] pos) (eOp op fs) k := fun A S σ H vw sto d sto' Q w r q z => by
  unfold eOp at q
  obtain ⟨⟨xs, s1⟩, e1, q⟩ := bind_some' q
  obtain ⟨t, e2, q⟩ := map_some' q
  cases q
  obtain ⟨rr, h1, h2⟩ := hc xs _ e2
  exact wpE.by (pe_callTy h1 hg hm hv wpA_pa hn hdb he hpl) (ha.use w r e1 fun vs H1 x1 w1 r1 p1 => h2 A S H1 s1 vs Q w1 p1 fun v H2 F' rs => z v H2 F' (rs.later x1 w1))
end

section
variable {X : Cx} {k : Nat}
variable {K : PySem.W.Frag} {S : List Addr} {H : Hp}
theorem RpA.one {vs : List V} {d : D} (h : RpA K S H vs [d]) : ∃ v, vs = [v] ∧ Rp K S H v d := by
  cases h with
  | cons a b => cases b; exact ⟨_, rfl, a⟩
theorem RpA.two {vs : List V} {d e : D} (h : RpA K S H vs [d, e]) : ∃ v u, vs = [v, u] ∧ Rp K S H v d ∧ Rp K S H u e := by
  cases h with
  | cons a b =>
    obtain ⟨u, rfl, q⟩ := b.one
    exact ⟨_, u, rfl, a, q⟩
def cLen : List D → Option D
  | [.list ds] => some (.int ds.length)
  | [.tuple ds] => some (.int ds.length)
  | [.dict [(.none, .list ds)]] => some (.int ds.length)
  | [.str z] => if z.length ≤ 16777216 then some (.int z.length) else none
  | _ => none
theorem cj_len : CallJ X (.builtin "len") cLen k := fun ds d h => by
  unfold cLen at h
  split at h
  · cases h
    refine ⟨_, call_len_seq, fun A S H sto vs Q w p z => ?_⟩
    obtain ⟨v, ev, p1⟩ := p.one; subst ev
    obtain ⟨l, xs, rfl, r1, q1⟩ := p1.lstI
    refine ⟨l, xs, rfl, .inl (.inl r1.out), ?_⟩
    rw [q1.length]
    exact z _ _ [] (.atom w (atomic_int _) (.int _))
  · cases h
    refine ⟨_, call_len_seq, fun A S H sto vs Q w p z => ?_⟩
    obtain ⟨v, ev, p1⟩ := p.one; subst ev
    obtain ⟨l, xs, rfl, r1, q1⟩ := p1.tupI
    refine ⟨l, xs, rfl, .inr (.inl r1.out), ?_⟩
    rw [q1.length]
    exact z _ _ [] (.atom w (atomic_int _) (.int _))
  · cases h
    refine ⟨_, call_len_seq, fun A S H sto vs Q w p z => ?_⟩
    obtain ⟨v, ev, p1⟩ := p.one; subst ev
    obtain ⟨l, xs, rfl, r1, q1⟩ := p1.skI
    refine ⟨l, xs, rfl, .inl r1.out, ?_⟩
    rw [q1.length]
    exact z _ _ [] (.atom w (atomic_int _) (.int _))
  · split at h
    · rename_i hl
      cases h
      refine ⟨_, call_len, fun A S H sto vs Q w p z => ?_⟩
      obtain ⟨v, ev, p1⟩ := p.one; subst ev
      have e := p1.strI
      subst e
      exact ⟨_, _, rfl, ⟨by rw [sizeLine_eq]; exact hl, rfl⟩, z _ _ [] (.atom w (atomic_int _) (.int _))⟩
    · cases h
  · cases h
def cAbs : List D → Option D
  | [.int i] => some (.int (if i < 0 then -i else i))
  | _ => none
theorem cj_abs : CallJ X (.builtin "abs") cAbs k := fun ds d h => by
  unfold cAbs at h
  split at h
  · cases h
    refine ⟨_, call_abs, fun A S H sto vs Q w p z => ?_⟩
    obtain ⟨v, ev, p1⟩ := p.one; subst ev
    exact ⟨_, by rw [p1.intI], z _ _ [] (.atom w (atomic_int _) (.int _))⟩
  · cases h
def cInt : List D → Option D
  | [.int i] => some (.int i)
  | [.bool b] => some (.int (if b then 1 else 0))
  | _ => none
theorem cj_int : CallJ X (.type "int") cInt k := fun ds d h => by
  unfold cInt at h
  split at h
  · cases h
    refine ⟨_, call_int1, fun A S H sto vs Q w p z => ?_⟩
    obtain ⟨v, ev, p1⟩ := p.one; subst ev
    exact .inl ⟨_, by rw [p1.intI], z _ _ [] (.atom w (atomic_int _) (.int _))⟩
  · cases h
    refine ⟨_, call_int1, fun A S H sto vs Q w p z => ?_⟩
    obtain ⟨v, ev, p1⟩ := p.one; subst ev
    exact .inr ⟨_, by rw [p1.blI], z _ _ [] (.atom w (atomic_int _) (.int _))⟩
  · cases h
def isInts : List D → Option (List Int)
  | [] => some []
  | .int i :: r => (isInts r).map (i :: ·)
  | _ => none
theorem isInts_some : ∀ {ds : List D} {ns : List Int}, isInts ds = some ns → ds = ns.map PyData.int
  | [], ns, h => by cases h; rfl
  | .int i :: r, ns, h => by
    unfold isInts at h
    obtain ⟨ms, e, q⟩ := map_some' h
    subst q
    rw [isInts_some e]
    rfl
  | .none :: _, _, h => by cases h
  | .bool _ :: _, _, h => by cases h
  | .str _ :: _, _, h => by cases h
  | .list _ :: _, _, h => by cases h
  | .tuple _ :: _, _, h => by cases h
  | .dict _ :: _, _, h => by cases h
theorem isInts_map : ∀ (ns : List Int), isInts (ns.map PyData.int) = some ns
  | [] => rfl
  | n :: ns => by
    show (isInts (ns.map PyData.int)).map (n :: ·) = _
    rw [isInts_map ns]
    rfl
def isBls : List D → Option (List Bool)
  | [] => some []
  | .bool i :: r => (isBls r).map (i :: ·)
  | _ => none
theorem isBls_some : ∀ {ds : List D} {ns : List Bool}, isBls ds = some ns → ds = ns.map PyData.bool
  | [], ns, h => by cases h; rfl
  | .bool i :: r, ns, h => by
    unfold isBls at h
    obtain ⟨ms, e, q⟩ := map_some' h
    subst q
    rw [isBls_some e]
    rfl
  | .none :: _, _, h => by cases h
  | .int _ :: _, _, h => by cases h
  | .str _ :: _, _, h => by cases h
  | .list _ :: _, _, h => by cases h
  | .tuple _ :: _, _, h => by cases h
  | .dict _ :: _, _, h => by cases h
theorem isBls_map : ∀ (ns : List Bool), isBls (ns.map PyData.bool) = some ns
  | [] => rfl
  | n :: ns => by
    show (isBls (ns.map PyData.bool)).map (n :: ·) = _
    rw [isBls_map ns]
    rfl
theorem RpA.bls : ∀ {vs : List V} {ns : List Bool}, RpA K S H vs (ns.map PyData.bool) → vs = ns.map V.bl
  | _, [], .nil => rfl
  | _, n :: ns, .cons a b => by cases a; rw [b.bls]; rfl
def cSum : List D → Option D
  | [.list ds] => (isInts ds).map fun ns => .int ns.sum
  | _ => none
theorem cj_sum (hc : X.calm = true) : CallJ X (.builtin "sum") cSum k := fun ds d h => by
  unfold cSum at h
  split at h
  · obtain ⟨ns, e, q⟩ := map_some' h
    cases q
    have e' := isInts_some e
    subst e'
    refine ⟨_, cr_sum hc, fun A S H sto vs Q w p z => ?_⟩
    obtain ⟨v, ev, p1⟩ := p.one; subst ev
    obtain ⟨l, xs, rfl, r1, q1⟩ := p1.lstI
    rw [q1.ints] at r1
    exact ⟨l, ns, rfl, .inl r1.out, z _ _ [] (.atom w (atomic_int _) (.int _))⟩
  · cases h
def cAll : List D → Option D
  | [.list ds] => (isBls ds).map fun ns => .bool (ns.all id)
  | _ => none
def cAny : List D → Option D
  | [.list ds] => (isBls ds).map fun ns => .bool (ns.any id)
  | _ => none
theorem cj_all (hc : X.calm = true) : CallJ X (.builtin "all") cAll k := fun ds d h => by
  unfold cAll at h
  split at h
  · obtain ⟨ns, e, q⟩ := map_some' h
    cases q
    have e' := isBls_some e
    subst e'
    refine ⟨_, cr_all hc, fun A S H sto vs Q w p z => ?_⟩
    obtain ⟨v, ev, p1⟩ := p.one; subst ev
    obtain ⟨l, xs, rfl, r1, q1⟩ := p1.lstI
    rw [q1.bls] at r1
    exact ⟨l, ns, rfl, .inl r1.out, z _ _ [] (.atom w (atomic_bool _) (.bl _))⟩
  · cases h
theorem cj_any (hc : X.calm = true) : CallJ X (.builtin "any") cAny k := fun ds d h => by
  unfold cAny at h
  split at h
  · obtain ⟨ns, e, q⟩ := map_some' h
    cases q
    have e' := isBls_some e
    subst e'
    refine ⟨_, cr_any hc, fun A S H sto vs Q w p z => ?_⟩
    obtain ⟨v, ev, p1⟩ := p.one; subst ev
    obtain ⟨l, xs, rfl, r1, q1⟩ := p1.lstI
    rw [q1.bls] at r1
    exact ⟨l, ns, rfl, .inl r1.out, z _ _ [] (.atom w (atomic_bool _) (.bl _))⟩
  · cases h
/-- the least, the greatest of a list of ints, of two ints -/
def minL : List Int → Int
  | [] => 0
  | x :: r => r.foldl (fun a b => if b < a then b else a) x
def maxL : List Int → Int
  | [] => 0
  | x :: r => r.foldl (fun a b => if a < b then b else a) x
theorem foldl_min : ∀ (r : List Int) (x m : Int), (m = x ∨ m ∈ r) → m ≤ x → (∀ y ∈ r, m ≤ y) → r.foldl (fun a b => if b < a then b else a) x = m
  | [], x, m, h, _, _ => by
    rcases h with h | h
    · exact h.symm
    · exact absurd h (by simp)
  | y :: r, x, m, h, h1, h2 => by
    rw [List.foldl_cons]
    have hy := h2 y List.mem_cons_self
    by_cases c : y < x
    · rw [if_pos c]
      refine foldl_min r y m ?_ hy fun z hz => h2 z (List.mem_cons_of_mem _ hz)
      rcases h with h | h
      · omega
      · exact (List.mem_cons.mp h)
    · rw [if_neg c]
      refine foldl_min r x m ?_ h1 fun z hz => h2 z (List.mem_cons_of_mem _ hz)
      rcases h with h | h
      · exact .inl h
      · rcases List.mem_cons.mp h with h | h
        · left; omega
        · exact .inr h
theorem foldl_max : ∀ (r : List Int) (x m : Int), (m = x ∨ m ∈ r) → x ≤ m → (∀ y ∈ r, y ≤ m) → r.foldl (fun a b => if a < b then b else a) x = m
  | [], x, m, h, _, _ => by
    rcases h with h | h
    · exact h.symm
    · exact absurd h (by simp)
  | y :: r, x, m, h, h1, h2 => by
    rw [List.foldl_cons]
    have hy := h2 y List.mem_cons_self
    by_cases c : x < y
    · rw [if_pos c]
      refine foldl_max r y m ?_ hy fun z hz => h2 z (List.mem_cons_of_mem _ hz)
      rcases h with h | h
      · omega
      · exact (List.mem_cons.mp h)
    · rw [if_neg c]
      refine foldl_max r x m ?_ h1 fun z hz => h2 z (List.mem_cons_of_mem _ hz)
      rcases h with h | h
      · exact .inl h
      · rcases List.mem_cons.mp h with h | h
        · left; omega
        · exact .inr h
theorem minL_of {ns : List Int} {m : Int} (h : m ∈ ns) (h2 : ∀ y ∈ ns, m ≤ y) : minL ns = m := by
  cases ns with
  | nil => exact absurd h (by simp)
  | cons x r => exact foldl_min r x m (List.mem_cons.mp h) (h2 x List.mem_cons_self) fun y hy => h2 y (List.mem_cons_of_mem _ hy)
theorem maxL_of {ns : List Int} {m : Int} (h : m ∈ ns) (h2 : ∀ y ∈ ns, y ≤ m) : maxL ns = m := by
  cases ns with
  | nil => exact absurd h (by simp)
  | cons x r => exact foldl_max r x m (List.mem_cons.mp h) (h2 x List.mem_cons_self) fun y hy => h2 y (List.mem_cons_of_mem _ hy)
def cMin : List D → Option D
  | [.int i, .int j] => some (.int (if j < i then j else i))
  | [.list ds] => (isInts ds).bind fun ns => if ns = [] then none else some (.int (minL ns))
  | _ => none
def cMax : List D → Option D
  | [.int i, .int j] => some (.int (if j > i then j else i))
  | [.list ds] => (isInts ds).bind fun ns => if ns = [] then none else some (.int (maxL ns))
  | _ => none
theorem cj_min (hc : X.calm = true) : CallJ X (.builtin "min") cMin k := fun ds d h => by
  unfold cMin at h
  split at h
  · cases h
    refine ⟨_, call_min2 hc, fun A S H sto vs Q w p z => ?_⟩
    obtain ⟨v, u, ev, p1, p2⟩ := p.two; subst ev
    exact ⟨_, _, by rw [p1.intI, p2.intI], z _ _ [] (.atom w (atomic_int _) (.int _))⟩
  · obtain ⟨ns, e, q⟩ := bind_some' h
    have e' := isInts_some e
    subst e'
    split at q
    · cases q
    · rename_i hne
      cases q
      refine ⟨_, cr_min hc, fun A S H sto vs Q w p z => ?_⟩
      obtain ⟨v, ev, p1⟩ := p.one; subst ev
      obtain ⟨l, xs, rfl, r1, q1⟩ := p1.lstI
      rw [q1.ints] at r1
      refine ⟨l, ns, rfl, .inl r1.out, List.length_pos_iff.mpr hne, fun m h1 h2 => ?_⟩
      rw [← minL_of h1 h2]
      exact z _ _ [] (.atom w (atomic_int _) (.int _))
  · cases h
theorem cj_max (hc : X.calm = true) : CallJ X (.builtin "max") cMax k := fun ds d h => by
  unfold cMax at h
  split at h
  · cases h
    refine ⟨_, call_max2 hc, fun A S H sto vs Q w p z => ?_⟩
    obtain ⟨v, u, ev, p1, p2⟩ := p.two; subst ev
    exact ⟨_, _, by rw [p1.intI, p2.intI], z _ _ [] (.atom w (atomic_int _) (.int _))⟩
  · obtain ⟨ns, e, q⟩ := bind_some' h
    have e' := isInts_some e
    subst e'
    split at q
    · cases q
    · rename_i hne
      cases q
      refine ⟨_, cr_max hc, fun A S H sto vs Q w p z => ?_⟩
      obtain ⟨v, ev, p1⟩ := p.one; subst ev
      obtain ⟨l, xs, rfl, r1, q1⟩ := p1.lstI
      rw [q1.ints] at r1
      refine ⟨l, ns, rfl, .inl r1.out, List.length_pos_iff.mpr hne, fun m h1 h2 => ?_⟩
      rw [← maxL_of h1 h2]
      exact z _ _ [] (.atom w (atomic_int _) (.int _))
  · cases h
/-- list(xs), tuple(xs) -/
def cList : List D → Option D
  | [.list ds] => some (.list ds)
  | [.tuple ds] => some (.list ds)
  | _ => none
theorem cj_list : CallJ X (.type "list") cList 1 := fun ds d h => by
  unfold cList at h
  split at h
  · cases h
    refine ⟨_, call_list_of, fun A S H sto vs Q w p z => ?_⟩
    obtain ⟨v, ev, p1⟩ := p.one; subst ev
    obtain ⟨l, xs, rfl, r1, q1⟩ := p1.lstI
    exact ⟨l, xs, rfl, .inl (.inl r1.out), fun p hp => z _ _ [p] (Res.lst w (.shared w q1) hp)⟩
  · cases h
    refine ⟨_, call_list_of, fun A S H sto vs Q w p z => ?_⟩
    obtain ⟨v, ev, p1⟩ := p.one; subst ev
    obtain ⟨l, xs, rfl, r1, q1⟩ := p1.tupI
    exact ⟨l, xs, rfl, .inr (.inl r1.out), fun p hp => z _ _ [p] (Res.lst w (.shared w q1) hp)⟩
  · cases h
def cTuple : List D → Option D
  | [.list ds] => some (.tuple ds)
  | [.tuple ds] => some (.tuple ds)
  | _ => none
theorem cj_tuple : CallJ X (.type "tuple") cTuple k := fun ds d h => by
  unfold cTuple at h
  split at h
  · cases h
    refine ⟨_, call_tuple_of, fun A S H sto vs Q w p z => ?_⟩
    obtain ⟨v, ev, p1⟩ := p.one; subst ev
    obtain ⟨l, xs, rfl, r1, q1⟩ := p1.lstI
    exact ⟨l, xs, rfl, .inl ⟨.inl r1.out, fun p hp => z _ _ [] (Res.tup w (.shared w q1) hp)⟩⟩
  · cases h
    refine ⟨_, call_tuple_of, fun A S H sto vs Q w p z => ?_⟩
    obtain ⟨v, ev, p1⟩ := p.one; subst ev
    obtain ⟨l, xs, rfl, r1, q1⟩ := p1.tupI'
    exact ⟨l, xs, rfl, .inr ⟨.inl (Rd.out (.inl r1)), z _ _ [] (Res.atom w (atomic_tuple _) (.tup r1 q1))⟩⟩
  · cases h
end

/-! ### isinstance -/
def typD : D → String
  | .none => "NoneType"
  | .bool _ => "bool"
  | .int _ => "int"
  | .str _ => "str"
  | .list _ => "list"
  | .tuple _ => "tuple"
  | .dict _ => "dict"
def isiB (T t : String) : Bool := t == T || (T == "int" && t == "bool")
def IsT (T : String) : Prop := ∀ t ∈ ["NoneType", "bool", "int", "str", "list", "tuple", "dict"], kitB t T = some (isiB T t)
theorem ist_list : IsT "list" := by unfold IsT; decide +kernel
theorem ist_int : IsT "int" := by unfold IsT; decide +kernel
theorem ist_bool : IsT "bool" := by unfold IsT; decide +kernel
theorem ist_tuple : IsT "tuple" := by unfold IsT; decide +kernel
theorem ist_str : IsT "str" := by unfold IsT; decide +kernel
theorem ist_dict : IsT "dict" := by unfold IsT; decide +kernel
theorem typD_mem (d : D) : typD d ∈ ["NoneType", "bool", "int", "str", "list", "tuple", "dict"] := by cases d <;> simp [typD]
def dIsi (T : String) (d : D) : Option D := if isMk d = true then none else some (.bool (isiB T (typD d)))
theorem Rp.tyx {K : PySem.W.Frag} {S : List Addr} {H : Hp} {v : V} {d : D} (p : Rp K S H v d) (h : isMk d = false) : TyX K H v (.type (typD d)) := by
  cases p with
  | non => exact .base .non
  | bl b => exact .base (.bl b)
  | int i => exact .base (.int i)
  | str x => exact .base (.str x)
  | lst r _ =>
    rcases r with r | ⟨o, r⟩
    · exact .base (.lst r)
    · exact .base (.frz r)
  | tup r _ => exact .base (.tup r)
  | dK e _ => exact .fDict e
  | dT e r =>
    cases r with
    | cons a b => exact nomatch h
  | tok e => exact absurd h (fun z => nomatch z)
  | sk e _ => exact absurd h (fun z => nomatch z)
  | rK e _ => exact absurd h (fun z => nomatch z)
  | rT e _ => exact absurd h (fun z => nomatch z)
theorem TyX.out {K : PySem.W.Frag} {S : List Addr} {A : Addr → Prop} {H : Hp} {v : V} {d : D} (p : Rp K S (hid A H) v d) (h : isMk d = false) : TyX K H v (.type (typD d)) := p.out.tyx h
section
variable {X : Cx} {e a b c : Expr} {es rest : List Expr} {f g h : Ev} {fs : EvA} {k j : Nat} {pos p q1 : Pos}
theorem jp_isi {T : Str} {T' : String} (hT : IsT T') (ha : JP X a f 0) (hg : Gl X "isinstance") (hm : X.mg "isinstance" = none) (gT : Gl X T) (mT : X.mg T = none) (bT : bootBuiltins T = some (.type T'))
    (he : starEach [a, .Name T q1] X.env = (false, eval a X.env) :: starEach [.Name T q1] X.env := by rfl) (hs : starEach [.Name T q1] X.env = (false, eval (.Name T q1) X.env) :: starEach [] X.env := by rfl)
    (hpl : (backTo pos (starEach [.Name T q1] X.env)).any (·.1) = false := by rfl) (hn : T ≠ "__name__" := by decide) (hdb : (T == ("__debug__" : Str)) = false := by decide) : JP X (.Call (.Name "isinstance" p) [a, .Name T q1] [] pos) (eUn (dIsi T') f) k := fun A S σ H vw sto d sto' Q w r q z => by
  obtain ⟨x, e1, e3⟩ := eUn_some q
  unfold dIsi at e3
  split at e3
  · cases e3
  · rename_i ht
    cases e3
    refine wpE.by (pe_callB call_isi hg hm (by decide +kernel) (pa_cons wpE_pe (pa_cons (pe_bltn (v := .ty T') gT mT bT rfl hn hdb) pa_nil hs) he) (by decide) (by decide) he hpl) ?_
    refine ha.use w r e1 fun v H1 x1 w1 r1 p1 => ?_
    have hk := hT (typD x) (typD_mem x)
    exact ⟨v, .ty T', _, _, _, rfl, .ty T', p1.out.tyx (by simpa using ht), kit_ty hk, z _ _ [] ((Res.atom w1 (atomic_bool _) (.bl _)).after x1 noF)⟩
def dIsi2 (T U : String) (d : D) : Option D := if isMk d = true then none else some (.bool (isiB T (typD d) || isiB U (typD d)))
theorem jp_isi2 {T U : Str} {T' U' : String} {x1 : Nat} {q2 q3 : Pos} (hT : IsT T') (hU : IsT U') (ha : JP X a f 0) (hg : Gl X "isinstance") (hm : X.mg "isinstance" = none) (gT : Gl X T) (mT : X.mg T = none) (bT : bootBuiltins T = some (.type T')) (gU : Gl X U) (mU : X.mg U = none) (bU : bootBuiltins U = some (.type U'))
    (he : starEach [a, .Tuple [.Name T q1, .Name U q2] x1 q3] X.env = (false, eval a X.env) :: starEach [.Tuple [.Name T q1, .Name U q2] x1 q3] X.env := by rfl) (hs : starEach [.Tuple [.Name T q1, .Name U q2] x1 q3] X.env = (false, eval (.Tuple [.Name T q1, .Name U q2] x1 q3) X.env) :: starEach [] X.env := by rfl)
    (hs1 : starEach [.Name T q1, .Name U q2] X.env = (false, eval (.Name T q1) X.env) :: starEach [.Name U q2] X.env := by rfl) (hs2 : starEach [.Name U q2] X.env = (false, eval (.Name U q2) X.env) :: starEach [] X.env := by rfl)
    (hpl : (backTo pos (starEach [.Tuple [.Name T q1, .Name U q2] x1 q3] X.env)).any (·.1) = false := by rfl) (hn : T ≠ "__name__" := by decide) (hdb : (T == ("__debug__" : Str)) = false := by decide) (hn2 : U ≠ "__name__" := by decide) (hdb2 : (U == ("__debug__" : Str)) = false := by decide) :
    JP X (.Call (.Name "isinstance" p) [a, .Tuple [.Name T q1, .Name U q2] x1 q3] [] pos) (eUn (dIsi2 T' U') f) k := fun A S σ H vw sto d sto' Q w r q z => by
  obtain ⟨x, e1, e3⟩ := eUn_some q
  unfold dIsi2 at e3
  split at e3
  · cases e3
  · rename_i ht
    cases e3
    refine wpE.by (pe_callB call_isiT hg hm (by decide +kernel) (pa_cons wpE_pe (pa_cons (pe_tup (pa_cons (pe_bltn (v := .ty T') gT mT bT rfl hn hdb) (pa_cons (pe_bltn (v := .ty U') gU mU bU rfl hn2 hdb2) pa_nil hs2) hs1)) pa_nil hs) he) (by decide) (by decide) he hpl) ?_
    refine ha.use w r e1 fun v H1 x1 w1 r1 p1 => ⟨by rw [sizeLine_eq]; simp, fun tp htp => ?_⟩
    have hk := hT (typD x) (typD_mem x)
    have hk2 := hU (typD x) (typD_mem x)
    have sm : Same H1 (upd H1 tp (.tup [.ty T', .ty U'])) := same_upd htp
    refine ⟨v, tp, [.ty T', .ty U'], _, [.type T', .type U'], _, rfl, upd_same, .cons (.ty T') (.cons (.ty U') .nil), (p1.out.le sm).tyx (by simpa using ht), kitAny_cons (r := isiB T' (typD x) || isiB U' (typD x)) (kit_ty hk) (fun h => kitAny_cons (kit_ty hk2) (fun h2 => ?_) (fun h2 => ?_)) (fun h => ?_), z _ _ [] ((Res.atom ?_ (atomic_bool _) (.bl _)).after (x1.trans (Ext.of sm)) noF)⟩
    · rw [h, h2]; rfl
    · rw [h2, Bool.or_true]
    · rw [h, Bool.true_or]
    · exact w1.grow sm (fun a h => .inl h) fun a h => h
end
end J
namespace J
open PySem PySem.Spec PyProof.Rows L2

/-! ### what is walked -/
abbrev EvI := EvA
def YD (K : PySem.W.Frag) (S : List Addr) (A : Addr → Prop) (H0 : Hp) (ds : List D) : Nat → Hp → V → Hp → Prop := fun i H1 x H2 => ∃ d, ds[i]? = some d ∧ (H2 = H1 ∨ ∃ T o, H1 T = none ∧ H2 = upd H1 T o) ∧
  ∀ A2, Same (hid A H0) (hid A2 H1) → (∀ a, A2 a → Hdn (H1 a)) → Rp K S (hid A2 H2) x d
def wpI (X : Cx) (tg iter : Expr) : TI := fun σ H R => ∀ pins s, Inv X pins σ H s → wpAny (model X.prog X.w) X.A (eval iter X.env) (fun v s1 => wpAny (model X.prog X.w) X.A (pyIter v) (PIE X pins σ tg R) X.xe s1) X.xe s
theorem wpI_pi {X : Cx} {tg iter : Expr} : PI X tg iter (wpI X tg iter) := ⟨fun pins s σ H R I h => h pins s I⟩
theorem wpI.by {X : Cx} {tg iter : Expr} {t : TI} (h : PI X tg iter t) {σ : Sg} {H : Hp} {R : It → Hp → Prop} (q : t σ H R) : wpI X tg iter σ H R := fun pins s I => h.run pins s σ H R I q
def JI (X : Cx) (tg it : Expr) (fi : EvI) : Prop := ∀ A S σ H vw sto ds sto' (R : It → Hp → Prop), Wd X.K S A H sto → RdV X.K S A σ H vw → fi vw sto = some (ds, sto') →
  (∀ J H', Ext S H H' → Wd X.K S A H' sto' → Walk J ds.length (fun H1 => Same (hid A H') H1) (YD X.K S A H' ds) → R J H') → wpI X tg it σ H R
section
variable {K : PySem.W.Frag} {S : List Addr} {A : Addr → Prop} {H : Hp}
theorem walk_dl {l : Addr} {xs : List V} {ds : List D} (r : Rd (hid A H) l (.lst xs)) (q : RpA K S (hid A H) xs ds) : Walk (Itl K l) ds.length (fun H1 => Same (hid A H) H1) (YD K S A H ds) := by
  rw [← q.length]
  refine (walk_list (xs := xs)).mono (fun H1 h => .inl (Rd.le h r)) fun i H1 x H2 hi h y => ?_
  obtain ⟨rfl, e⟩ := y
  obtain ⟨d, e1, p⟩ := q.getV e
  exact ⟨d, e1, .inl rfl, fun A2 h2 _ => p.le h2⟩
theorem walk_dt {l : Addr} {xs : List V} {ds : List D} (r : Rd (hid A H) l (.tup xs)) (q : RpA K S (hid A H) xs ds) : Walk (Itt K l) ds.length (fun H1 => Same (hid A H) H1) (YD K S A H ds) := by
  rw [← q.length]
  refine (walk_tup (xs := xs)).mono (fun H1 h => .inl (Rd.le h r)) fun i H1 x H2 hi h y => ?_
  obtain ⟨rfl, e⟩ := y
  obtain ⟨d, e1, p⟩ := q.getV e
  exact ⟨d, e1, .inl rfl, fun A2 h2 _ => p.le h2⟩
/-- the ints lo, lo + c, .. -/
def rgD (lo c : Int) (n : Nat) : List D := (List.range n).map fun i => .int (lo + (i : Nat) * c)
theorem rgD_len (lo c : Int) (n : Nat) : (rgD lo c n).length = n := by unfold rgD; rw [List.length_map, List.length_range]
theorem rgD_get {lo c : Int} {n i : Nat} (h : i < n) : (rgD lo c n)[i]? = some (.int (lo + (i : Nat) * c)) := by
  unfold rgD
  rw [List.getElem?_map, List.getElem?_range h]
  rfl
theorem walk_dr {lo : Int} {n : Nat} : Walk (Itr lo n) (rgD lo 1 n).length (fun H1 => Same (hid A H) H1) (YD K S A H (rgD lo 1 n)) := by
  rw [rgD_len]
  refine walk_range.mono (fun H1 h => trivial) fun i H1 x H2 hi h y => ?_
  obtain ⟨rfl, rfl⟩ := y
  exact ⟨_, rgD_get hi, .inl rfl, fun A2 h2 _ => by rw [Int.mul_one]; exact .int _⟩
theorem walk_drc {lo c : Int} {n : Nat} : Walk (Itc lo c n) (rgD lo c n).length (fun H1 => Same (hid A H) H1) (YD K S A H (rgD lo c n)) := by
  rw [rgD_len]
  refine walk_rangeC.mono (fun H1 h => trivial) fun i H1 x H2 hi h y => ?_
  obtain ⟨rfl, rfl⟩ := y
  exact ⟨_, rgD_get hi, .inl rfl, fun A2 h2 _ => .int _⟩
/-- a new pair -/
theorem yd_pair {A2 : Addr → Prop} {H1 : Hp} {T : Addr} {x y : V} {d e : D} (hT : H1 T = none) (p : Rp K S (hid A2 H1) x d) (q : Rp K S (hid A2 H1) y e) (al : ∀ a, A2 a → Hdn (H1 a)) : Rp K S (hid A2 (upd H1 T (.tup [x, y]))) (.ref T) (.tuple [d, e]) := by
  have sm : Same (hid A2 H1) (hid A2 (upd H1 T (.tup [x, y]))) := fun a o h => by
    rw [hid_eq] at h ⊢
    exact ⟨h.1, by rw [upd_ne (ne_of_none h.2 hT)]; exact h.2⟩
  exact .tup (hid_eq.mpr ⟨fun z => (al T z).1 hT, upd_same⟩) (.cons (p.le sm) (.cons (q.le sm) .nil))
def enD (ds : List D) (n : Nat) : List D := match ds with
  | [] => []
  | d :: r => .tuple [.int n, d] :: enD r (n + 1)
theorem enD_len : ∀ (ds : List D) (n : Nat), (enD ds n).length = ds.length
  | [], _ => rfl
  | d :: r, n => congrArg (· + 1) (enD_len r (n + 1))
theorem enD_get : ∀ (ds : List D) (n i : Nat) (d : D), ds[i]? = some d → (enD ds n)[i]? = some (.tuple [.int ((n + i : Nat) : Int), d])
  | [], _, _, _, h => by simp at h
  | d :: r, n, 0, d', h => by simp at h; subst h; rfl
  | d :: r, n, i + 1, d', h => by
    have := enD_get r (n + 1) i d' (by simpa using h)
    rw [show n + 1 + i = n + (i + 1) by omega] at this
    simpa [enD] using this
theorem walk_de {l : Addr} {xs : List V} {ds : List D} (r : Rd (hid A H) l (.lst xs)) (q : RpA K S (hid A H) xs ds) : Walk (Ite K l) (enD ds 0).length (fun H1 => Same (hid A H) H1) (YD K S A H (enD ds 0)) := by
  rw [enD_len, ← q.length]
  refine (walk_enum (xs := xs)).mono (fun H1 h => .inl (Rd.le h r)) fun i H1 v H2 hi h y => ?_
  obtain ⟨T, x, y, rfl, hT, rfl, e1, e2⟩ := y
  obtain ⟨d, e3, p⟩ := q.getV e2
  cases e1
  refine ⟨_, enD_get ds 0 i d e3, .inr ⟨T, _, hT, rfl⟩, fun A2 h2 al => ?_⟩
  rw [Nat.zero_add]
  exact yd_pair hT (.int _) (p.le h2) al
def ziD : List D → List D → List D
  | d :: r, e :: s => .tuple [d, e] :: ziD r s
  | _, _ => []
theorem ziD_len : ∀ (ds es : List D), (ziD ds es).length = min ds.length es.length
  | [], es => by simp [ziD]
  | d :: r, [] => by simp [ziD]
  | d :: r, e :: s => by simp only [ziD, List.length_cons, ziD_len r s]; omega
theorem ziD_get : ∀ (ds es : List D) (i : Nat) (d e : D), ds[i]? = some d → es[i]? = some e → (ziD ds es)[i]? = some (.tuple [d, e])
  | [], _, _, _, _, h, _ => by simp at h
  | d :: r, [], _, _, _, _, h => by simp at h
  | d :: r, e :: s, 0, _, _, h, h' => by simp at h h'; subst h; subst h'; rfl
  | d :: r, e :: s, i + 1, d', e', h, h' => by simpa [ziD] using ziD_get r s i d' e' (by simpa using h) (by simpa using h')
theorem walk_dz {l m : Addr} {xs ys : List V} {ds es : List D} (r : Rd (hid A H) l (.lst xs)) (q : RpA K S (hid A H) xs ds) (r' : Rd (hid A H) m (.lst ys)) (q' : RpA K S (hid A H) ys es) : Walk (Itz K l m) (ziD ds es).length (fun H1 => Same (hid A H) H1) (YD K S A H (ziD ds es)) := by
  rw [ziD_len, ← q.length, ← q'.length]
  refine (walk_zip (xs := xs) (ys := ys) rfl).mono (fun H1 h => ⟨.inl (Rd.le h r), .inl (Rd.le h r')⟩) fun i H1 v H2 hi h y => ?_
  obtain ⟨T, x, y, rfl, hT, rfl, e1, e2⟩ := y
  obtain ⟨d, e3, p⟩ := q.getV e1
  obtain ⟨e, e4, p'⟩ := q'.getV e2
  exact ⟨_, ziD_get ds es i d e e3 e4, .inr ⟨T, _, hT, rfl⟩, fun A2 h2 al => yd_pair hT (p.le h2) (p'.le h2) al⟩
theorem walk_drev {l : Addr} {xs : List V} {ds : List D} (r : Rd (hid A H) l (.lst xs)) (q : RpA K S (hid A H) xs ds) : Walk (Itv K l xs.length) ds.reverse.length (fun H1 => Same (hid A H) H1) (YD K S A H ds.reverse) := by
  rw [List.length_reverse, ← q.length]
  refine (walk_rev (xs := xs)).mono (fun H1 h => .inl (Rd.le h r)) fun i H1 x H2 hi h y => ?_
  obtain ⟨rfl, e⟩ := y
  obtain ⟨d, e1, p⟩ := q.getV e
  refine ⟨d, ?_, .inl rfl, fun A2 h2 _ => p.le h2⟩
  rw [List.getElem?_reverse (by rw [← q.length]; exact hi), ← q.length]
  exact e1
def chD (z : Str) : List D := z.cps.toList.map fun c => .str ⟨#[c]⟩
theorem walk_ds {z : Str} : Walk (Its z) (chD z).length (fun H1 => Same (hid A H) H1) (YD K S A H (chD z)) := by
  have e : (chD z).length = z.cps.size := by unfold chD; rw [List.length_map, Array.length_toList]
  rw [e]
  refine walk_str.mono (fun H1 h => trivial) fun i H1 x H2 hi h y => ?_
  obtain ⟨rfl, c, hc, rfl⟩ := y
  refine ⟨.str ⟨#[c]⟩, ?_, .inl rfl, fun A2 h2 _ => .str _⟩
  unfold chD
  rw [List.getElem?_map, Array.getElem?_toList, hc]
  rfl
end
section
variable {X : Cx} {tg e a b c : Expr} {es rest : List Expr} {f g h : Ev} {fs : EvA} {k j : Nat} {pos p p2 cpos apos tpos : Pos} {elts : List Expr} {kk : Nat}
/-- over a value: a list, a tuple, a text -/
def iVal (f : Ev) : EvI := fun vw s => (f vw s).bind fun p => match p.1 with
  | .list ds => some (ds, p.2)
  | .tuple ds => some (ds, p.2)
  | .str z => some (chD z, p.2)
  | _ => none
theorem ji_val (ha : JP X a f 0) : JI X tg a (iVal f) := fun A S σ H vw sto ds sto' R w r q z => by
  unfold iVal at q
  obtain ⟨⟨x, s1⟩, e1, q⟩ := bind_some' q
  simp only at q
  split at q
  · cases q
    refine wpI.by (pi_list wpE_pe) (ha.use w r e1 fun v H1 x1 w1 r1 p1 => ?_)
    obtain ⟨l, xs, rfl, r2, q2⟩ := p1.lstI
    exact ⟨l, rfl, ⟨xs, .inl r2.out⟩, z _ H1 x1 w1 (walk_dl r2 q2)⟩
  · cases q
    refine wpI.by (pi_tup wpE_pe) (ha.use w r e1 fun v H1 x1 w1 r1 p1 => ?_)
    obtain ⟨l, xs, rfl, r2, q2⟩ := p1.tupI
    exact ⟨l, rfl, ⟨xs, .inl r2.out⟩, z _ H1 x1 w1 (walk_dt r2 q2)⟩
  · cases q
    refine wpI.by (pi_str wpE_pe) (ha.use w r e1 fun v H1 x1 w1 r1 p1 => ?_)
    exact ⟨_, p1.strI, z _ H1 x1 w1 walk_ds⟩
  · cases q
def inRg (i : Int) : Bool := decide (-(2 ^ 62) ≤ i) && decide (i < 2 ^ 62)
theorem inRg_iff {i : Int} (h : inRg i = true) : -(2 ^ 62) ≤ i ∧ i < 2 ^ 62 := by
  unfold inRg at h
  rw [Bool.and_eq_true] at h
  exact ⟨of_decide_eq_true h.1, of_decide_eq_true h.2⟩
def iU (op : D → Option (List D)) (f : Ev) : EvI := fun vw s => (f vw s).bind fun p => (op p.1).map fun d => (d, p.2)
def iB (op : D → D → Option (List D)) (f g : Ev) : EvI := fun vw s => (f vw s).bind fun p => (g vw p.2).bind fun q => (op p.1 q.1).map fun d => (d, q.2)
def rg1 : D → Option (List D)
  | .int j => if inRg j = true then some (rgD 0 1 j.toNat) else none
  | _ => none
def rg2 : D → D → Option (List D)
  | .int i, .int j => if inRg i = true ∧ inRg j = true then some (rgD i 1 (j - i).toNat) else none
  | _, _ => none
theorem iU_some {op : D → Option (List D)} {vw : VW} {s s' : STO} {d : List D} (h : iU op f vw s = some (d, s')) : ∃ x, f vw s = some (x, s') ∧ op x = some d := by
  unfold iU at h
  obtain ⟨⟨x, s1⟩, e1, q⟩ := bind_some' h
  obtain ⟨t, e2, q⟩ := map_some' q
  cases q
  exact ⟨x, e1, e2⟩
theorem iB_some {op : D → D → Option (List D)} {vw : VW} {s s' : STO} {d : List D} (h : iB op f g vw s = some (d, s')) : ∃ x s1 y, f vw s = some (x, s1) ∧ g vw s1 = some (y, s') ∧ op x y = some d := by
  unfold iB at h
  obtain ⟨⟨x, s1⟩, e1, q⟩ := bind_some' h
  obtain ⟨⟨y, s2⟩, e2, q⟩ := bind_some' q
  obtain ⟨t, e3, q⟩ := map_some' q
  cases q
  exact ⟨x, s1, y, e1, e2, e3⟩
theorem rg1_some {x : D} {ds : List D} (h : rg1 x = some ds) : ∃ j : Int, x = .int j ∧ (-(2 ^ 62) ≤ j ∧ j < 2 ^ 62) ∧ ds = rgD 0 1 j.toNat := by
  unfold rg1 at h
  split at h
  · split at h
    · rename_i hj
      cases h
      exact ⟨_, rfl, inRg_iff hj, rfl⟩
    · cases h
  · cases h
theorem rg2_some {x y : D} {ds : List D} (h : rg2 x y = some ds) : ∃ i j : Int, x = .int i ∧ y = .int j ∧ (-(2 ^ 62) ≤ i ∧ i < 2 ^ 62) ∧ (-(2 ^ 62) ≤ j ∧ j < 2 ^ 62) ∧ ds = rgD i 1 (j - i).toNat := by
  unfold rg2 at h
  split at h
  · split at h
    · rename_i hj
      cases h
      exact ⟨_, _, rfl, rfl, inRg_iff hj.1, inRg_iff hj.2, rfl⟩
    · cases h
  · cases h
theorem ji_range1 (ha : JP X a f 0) (hg : Gl X "range") (hm : X.mg "range" = none) (hs : starEach [a] X.env = [(false, eval a X.env)] := by rfl) : JI X tg (.Call (.Name "range" p) [a] [] pos) (iU rg1 f) := fun A S σ H vw sto ds sto' R w r q z => by
  obtain ⟨x, e1, e2⟩ := iU_some q
  obtain ⟨j, rfl, ⟨b1, b2⟩, rfl⟩ := rg1_some e2
  refine wpI.by (pi_range1 hg hm (pa_cons wpE_pe pa_nil hs) hs) (ha.use w r e1 fun v H1 x1 w1 r1 p1 => ?_)
  exact ⟨j, by rw [p1.intI], b1, b2, z _ H1 x1 w1 walk_dr⟩
theorem ji_range2 (ha : JP X a f 0) (hb : JP X b g 0) (hg : Gl X "range") (hm : X.mg "range" = none) (hs : starEach [a, b] X.env = [(false, eval a X.env), (false, eval b X.env)] := by rfl) (hs2 : starEach [b] X.env = [(false, eval b X.env)] := by rfl)
    (hs' : starEach [a, b] X.env = (false, eval a X.env) :: starEach [b] X.env := by rfl) : JI X tg (.Call (.Name "range" p) [a, b] [] pos) (iB rg2 f g) := fun A S σ H vw sto ds sto' R w r q z => by
  obtain ⟨x, s1, y, e1, e2, e3⟩ := iB_some q
  obtain ⟨i, j, rfl, rfl, ⟨b1, b2⟩, ⟨b3, b4⟩, rfl⟩ := rg2_some e3
  refine wpI.by (pi_range2 hg hm (pa_cons wpE_pe (pa_cons wpE_pe pa_nil hs2) hs') hs hs2) (ha.use2 hb w r e1 e2 fun v u H1 x1 w1 r1 p1 p2 => ?_)
  exact ⟨i, j, by rw [p1.intI, p2.intI], ⟨b1, b2, b3, b4⟩, z _ H1 x1 w1 walk_dr⟩
/-- range(a, b, -1) and the like: a written step -/
def rg3 (c : Int) : D → D → Option (List D)
  | .int i, .int j => if inRg i = true ∧ inRg j = true then some (rgD i c (if 0 < c then ((j - i + c - 1) / c).toNat else ((i - j - c - 1) / (-c)).toNat)) else none
  | _, _ => none
/-- reversed(range(..)) -/
def JRg (X : Cx) (e : Expr) (f : VW → STO → Option ((Int × Int) × STO)) : Prop := ∃ t, PRg X e t ∧ ∀ A S σ H vw sto ab sto' (Q : Int → Int → Hp → Prop), Wd X.K S A H sto → RdV X.K S A σ H vw → f vw sto = some (ab, sto') →
  (∀ H', Ext S H H' → Wd X.K S A H' sto' → Q ab.1 ab.2 H') → t σ H Q
def r1 (f : Ev) : VW → STO → Option ((Int × Int) × STO) := fun vw s => (f vw s).bind fun p => match p.1 with
  | .int j => if inRg j = true then some ((0, j), p.2) else none
  | _ => none
def r2 (f g : Ev) : VW → STO → Option ((Int × Int) × STO) := fun vw s => (f vw s).bind fun p => (g vw p.2).bind fun q => match p.1, q.1 with
  | .int i, .int j => if inRg i = true ∧ inRg j = true then some ((i, j), q.2) else none
  | _, _ => none
theorem r1_some {vw : VW} {s s' : STO} {ab : Int × Int} (h : r1 f vw s = some (ab, s')) : ∃ j, f vw s = some (.int j, s') ∧ (-(2 ^ 62) ≤ j ∧ j < 2 ^ 62) ∧ ab = (0, j) := by
  unfold r1 at h
  obtain ⟨⟨x, s1⟩, e1, q⟩ := bind_some' h
  simp only at q
  split at q
  · split at q
    · rename_i hj
      cases q
      exact ⟨_, e1, inRg_iff hj, rfl⟩
    · cases q
  · cases q
theorem r2_some {vw : VW} {s s' : STO} {ab : Int × Int} (h : r2 f g vw s = some (ab, s')) : ∃ i s1 j, f vw s = some (.int i, s1) ∧ g vw s1 = some (.int j, s') ∧ (-(2 ^ 62) ≤ i ∧ i < 2 ^ 62) ∧ (-(2 ^ 62) ≤ j ∧ j < 2 ^ 62) ∧ ab = (i, j) := by
  unfold r2 at h
  obtain ⟨⟨x, s1⟩, e1, q⟩ := bind_some' h
  obtain ⟨⟨y, s2⟩, e2, q⟩ := bind_some' q
  simp only at q
  split at q
  · split at q
    · rename_i hj
      cases q
      exact ⟨_, _, _, e1, e2, inRg_iff hj.1, inRg_iff hj.2, rfl⟩
    · cases q
  · cases q
theorem jrg_1 (ha : JP X a f 0) (hg : Gl X "range") (hm : X.mg "range" = none) (na : starEach [a] X.env = (false, eval a X.env) :: starEach [] X.env := by rfl) : JRg X (.Call (.Name "range" p) [a] [] pos) (r1 f) := ⟨_, prg_1 hg hm wpE_pe na, fun A S σ H vw sto ab sto' Q w r q z => by
  obtain ⟨j, e1, _, rfl⟩ := r1_some q
  exact ha.use w r e1 fun v H1 x1 w1 r1 p1 => ⟨j, p1.intI, z H1 x1 w1⟩⟩
theorem jrg_2 (ha : JP X a f 0) (hb : JP X b g 0) (hg : Gl X "range") (hm : X.mg "range" = none) (na : starEach [a, b] X.env = (false, eval a X.env) :: starEach [b] X.env := by rfl)
    (nb : starEach [b] X.env = (false, eval b X.env) :: starEach [] X.env := by rfl) (hp : (backTo pos (starEach [b] X.env)).any (·.1) = false := by rfl) : JRg X (.Call (.Name "range" p) [a, b] [] pos) (r2 f g) := ⟨_, prg_2 hg hm wpE_pe wpE_pe na nb hp, fun A S σ H vw sto ab sto' Q w r q z => by
  obtain ⟨i, s1, j, e1, e2, _, _, rfl⟩ := r2_some q
  exact ha.use2 hb w r e1 e2 fun v u H1 x1 w1 r1 p1 p2 => ⟨i, j, p1.intI, p2.intI, z H1 x1 w1⟩⟩
variable {fr : VW → STO → Option ((Int × Int) × STO)}
/-- list(range(..)) -/
def eLRg (fr : VW → STO → Option ((Int × Int) × STO)) : Ev := fun vw s => (fr vw s).bind fun p => if -16777216 ≤ p.1.1 ∧ p.1.1 ≤ 16777216 ∧ -16777216 ≤ p.1.2 ∧ p.1.2 ≤ 16777216 ∧ (p.1.2 - p.1.1).toNat ≤ 16777216 then some (.list (rgD p.1.1 1 (p.1.2 - p.1.1).toNat), p.2) else none
theorem rg_rp {K : PySem.W.Frag} {S : List Addr} {H : Hp} (a b : Int) : RpA K S H (rgV a b) (rgD a 1 (b - a).toNat) := by
  unfold rgV rgD
  induction List.range (b - a).toNat with
  | nil => exact .nil
  | cons n l ih => exact .cons (by show Rp K S H (V.int (a + (n : Nat))) (PyData.int (a + (n : Nat) * 1)); rw [Int.mul_one]; exact .int _) ih
theorem jp_listRg {er : Expr} (he : JRg X er fr) (hc : X.calm = true) (hg : Gl X "list") (hm : X.mg "list" = none) (na : starEach [er] X.env = (false, eval er X.env) :: starEach [] X.env := by rfl) : JP X (.Call (.Name "list" p) [er] [] pos) (eLRg fr) 1 := fun A S σ H vw sto d sto' Q w r q z => by
  unfold eLRg at q
  obtain ⟨⟨⟨lo, hi⟩, s1⟩, e1, q⟩ := bind_some' q
  simp only at q
  split at q
  · rename_i hb
    cases q
    obtain ⟨t, ht, hq⟩ := he
    refine wpE.by (pe_listRg hc hg hm ht na) (hq A S σ H vw sto _ _ _ w r e1 fun H1 x1 w1 => ⟨⟨by omega, by omega, by omega, by omega, by omega⟩, fun l hl => z _ _ [l] ((Res.lst w1 (.shared w1 (rg_rp lo hi)) hl).later x1 w1)⟩)
  · cases q
def eTRg (fr : VW → STO → Option ((Int × Int) × STO)) : Ev := fun vw s => (fr vw s).bind fun p => if -16777216 ≤ p.1.1 ∧ p.1.1 ≤ 16777216 ∧ -16777216 ≤ p.1.2 ∧ p.1.2 ≤ 16777216 ∧ (p.1.2 - p.1.1).toNat ≤ 16777216 then some (.tuple (rgD p.1.1 1 (p.1.2 - p.1.1).toNat), p.2) else none
theorem jp_tupRg {er : Expr} (he : JRg X er fr) (hc : X.calm = true) (hg : Gl X "tuple") (hm : X.mg "tuple" = none) (na : starEach [er] X.env = (false, eval er X.env) :: starEach [] X.env := by rfl) : JP X (.Call (.Name "tuple" p) [er] [] pos) (eTRg fr) k := fun A S σ H vw sto d sto' Q w r q z => by
  unfold eTRg at q
  obtain ⟨⟨⟨lo, hi⟩, s1⟩, e1, q⟩ := bind_some' q
  simp only at q
  split at q
  · rename_i hb
    cases q
    obtain ⟨t, ht, hq⟩ := he
    refine wpE.by (pe_tupRg hc hg hm ht na) (hq A S σ H vw sto _ _ _ w r e1 fun H1 x1 w1 => ⟨⟨by omega, by omega, by omega, by omega, by omega⟩, fun l hl => z _ _ [] ((Res.tup w1 (.shared w1 (rg_rp lo hi)) hl).later x1 w1)⟩)
  · cases q
def iRevRg (fr : VW → STO → Option ((Int × Int) × STO)) : EvI := fun vw s => (fr vw s).bind fun p => if inRg p.1.1 = true ∧ inRg p.1.2 = true then some (rgD (p.1.1 + (((p.1.2 - p.1.1).toNat : Nat) : Int) - 1) (-1) (p.1.2 - p.1.1).toNat, p.2) else none
theorem ji_revRg {er : Expr} (he : JRg X er fr) (hg : Gl X "reversed") (hm : X.mg "reversed" = none) (hs : starEach [er] X.env = (false, eval er X.env) :: starEach [] X.env := by rfl) : JI X tg (.Call (.Name "reversed" p) [er] [] pos) (iRevRg fr) := fun A S σ H vw sto ds sto' R w r q z => by
  unfold iRevRg at q
  obtain ⟨⟨⟨lo, hi⟩, s1⟩, e1, q⟩ := bind_some' q
  simp only at q
  split at q
  · rename_i hb
    cases q
    obtain ⟨t, ht, hq⟩ := he
    obtain ⟨b1, b2⟩ := inRg_iff hb.1
    obtain ⟨b3, b4⟩ := inRg_iff hb.2
    exact wpI.by (pi_revR hg hm ht hs) (hq A S σ H vw sto _ _ _ w r e1 fun H1 x1 w1 => ⟨b1, b2, b3, b4, z _ H1 x1 w1 walk_drc⟩)
  · cases q
def isLst : D → Option (List D)
  | .list ds => some ds
  | _ => none
theorem isLst_some {x : D} {ds : List D} (h : isLst x = some ds) : x = .list ds := by
  unfold isLst at h
  split at h
  · cases h; rfl
  · cases h
theorem ji_rev (ha : JP X a f 0) (hg : Gl X "reversed") (hm : X.mg "reversed" = none) (hs : starEach [a] X.env = [(false, eval a X.env)] := by rfl) : JI X tg (.Call (.Name "reversed" p) [a] [] pos) (iU (fun d => (isLst d).map List.reverse) f) := fun A S σ H vw sto ds sto' R w r q z => by
  obtain ⟨x, e1, e2⟩ := iU_some q
  obtain ⟨es, e3, rfl⟩ := map_some' e2
  have e4 := isLst_some e3
  subst e4
  refine wpI.by (pi_reversed hg hm (pa_cons wpE_pe pa_nil hs) hs) (ha.use w r e1 fun v H1 x1 w1 r1 p1 => ?_)
  obtain ⟨l, xs, rfl, r2, q2⟩ := p1.lstI
  exact ⟨l, xs, rfl, .inl r2.out, z _ H1 x1 w1 (walk_drev r2 q2)⟩
theorem ji_enum (ha : JP X a f 0) (hg : Gl X "enumerate") (hm : X.mg "enumerate" = none) (hs : starEach [a] X.env = [(false, eval a X.env)] := by rfl) : JI X (.Tuple elts kk tpos) (.Call (.Name "enumerate" p) [a] [] pos) (iU (fun d => (isLst d).map fun ds => enD ds 0) f) := fun A S σ H vw sto ds sto' R w r q z => by
  obtain ⟨x, e1, e2⟩ := iU_some q
  obtain ⟨es, e3, rfl⟩ := map_some' e2
  have e4 := isLst_some e3
  subst e4
  refine wpI.by (pi_enum hg hm (pa_cons wpE_pe pa_nil hs) hs) (ha.use w r e1 fun v H1 x1 w1 r1 p1 => ?_)
  obtain ⟨l, xs, rfl, r2, q2⟩ := p1.lstI
  exact ⟨l, xs, rfl, .inl r2.out, z _ H1 x1 w1 (walk_de r2 q2)⟩
theorem ji_zip (ha : JP X a f 0) (hb : JP X b g 0) (hg : Gl X "zip") (hm : X.mg "zip" = none) (hs : starEach [a, b] X.env = (false, eval a X.env) :: starEach [b] X.env := by rfl) (hs2 : starEach [b] X.env = (false, eval b X.env) :: starEach [] X.env := by rfl) (hpl : (backTo pos (starEach [b] X.env)).any (·.1) = false := by rfl) :
    JI X (.Tuple elts kk tpos) (.Call (.Name "zip" p) [a, b] [] pos) (iB (fun x y => (isLst x).bind fun ds => (isLst y).map fun es => ziD ds es) f g) := fun A S σ H vw sto ds sto' R w r q z => by
  obtain ⟨x, s1, y, e1, e2, e3⟩ := iB_some q
  obtain ⟨ds1, e4, e3⟩ := bind_some' e3
  obtain ⟨es, e5, rfl⟩ := map_some' e3
  have e6 := isLst_some e4
  have e7 := isLst_some e5
  subst e6; subst e7
  refine wpI.by (pi_zip hg hm (pa_cons wpE_pe (pa_cons wpE_pe pa_nil hs2) hs) hs hpl) (ha.use2 hb w r e1 e2 fun v u H1 x1 w1 r1 p1 p2 => ?_)
  obtain ⟨l, xs, rfl, r2, q2⟩ := p1.lstI
  obtain ⟨m, ys, rfl, r3, q3⟩ := p2.lstI
  exact ⟨l, m, xs, ys, rfl, .inl r2.out, .inl r3.out, z _ H1 x1 w1 (walk_dz r2 q2 r3 q3)⟩

/-! ### targets -/
abbrev Bd := D → Option (List (Nat × D))
def bN (i : Nat) : Bd := fun d => some [(i, d)]
def bT2 (i j : Nat) : Bd
  | .tuple [x, y] => some [(i, x), (j, y)]
  | _ => none
def setS (σ : Sg) : List (Nat × V) → Sg
  | [] => σ
  | (i, v) :: r => setS (σ.set i (some v)) r
def setV (vw : VW) : List (Nat × D) → VW
  | [] => vw
  | (i, d) :: r => setV (vw.set i (some d)) r
abbrev SlotsR (K : PySem.W.Frag) (S : List Addr) (H : Hp) : List (Nat × V) → List (Nat × D) → Prop := Paired fun p q => p.1 = q.1 ∧ Rp K S H p.2 q.2
def gSpec (K : PySem.W.Frag) (g : TG) (bd : Bd) : Prop := ∀ S σ H H0 v d l (Q : Sg → Hp → Prop), Same H H0 → Rp K S H v d → bd d = some l → (∀ vl, SlotsR K S H vl l → Q (setS σ vl) H0) → g v σ H0 Q
theorem gspec_name {K : PySem.W.Frag} {i : Nat} : gSpec K (gName i) (bN i) := fun S σ H H0 v d l Q sm p e z => by
  cases e
  exact z [(i, v)] (.cons ⟨rfl, p⟩ .nil)
theorem gspec_tup2 {K : PySem.W.Frag} {i j : Nat} : gSpec K (gTup K 2 (gCons (gName i) (gCons (gName j) gNil))) (bT2 i j) := fun S σ H H0 v d l Q sm p e z => by
  unfold bT2 at e
  split at e
  · cases e
    obtain ⟨a, xs, rfl, r, q⟩ := p.tupI
    obtain ⟨x, y, rfl, p1, p2⟩ := q.two
    exact ⟨a, [x, y], rfl, .inl (Rd.le sm r), rfl, x, [y], rfl, y, [], rfl, rfl, z [(i, x), (j, y)] (.cons ⟨rfl, p1⟩ (.cons ⟨rfl, p2⟩ .nil))⟩
  · cases e
theorem setS_len : ∀ (l : List (Nat × V)) (σ : Sg), (setS σ l).length = σ.length
  | [], σ => rfl
  | (i, v) :: r, σ => by rw [setS, setS_len r, List.length_set]
theorem setV_len : ∀ (l : List (Nat × D)) (σ : VW), (setV σ l).length = σ.length
  | [], σ => rfl
  | (i, v) :: r, σ => by rw [setV, setV_len r, List.length_set]
theorem SlotsR.rd {K : PySem.W.Frag} {S : List Addr} {H : Hp} {A : Addr → Prop} : ∀ {vl : List (Nat × V)} {l : List (Nat × D)} {σ : Sg} {vw : VW}, SlotsR K S (hid A H) vl l → RdV K S A σ H vw → RdV K S A (setS σ vl) H (setV vw l)
  | _, _, σ, vw, .nil, h => h
  | _, _, σ, vw, .cons (a := (i, v)) (b := (j, d)) e r, h => by
    obtain ⟨rfl, p⟩ := e
    show RdV K S A (setS (σ.set i (some v)) _) H (setV (vw.set i (some d)) _)
    refine SlotsR.rd r ⟨by rw [List.length_set, List.length_set]; exact h.1, fun n d' hd => ?_⟩
    by_cases hn : i = n
    · subst hn
      rw [List.getElem?_set] at hd
      rw [if_pos rfl] at hd
      split at hd
      · rename_i hlt
        have hd' : d = d' := by simpa using hd
        subst hd'
        refine ⟨v, ?_, p⟩
        rw [List.getElem?_set, if_pos rfl, if_pos (by have := h.1; show i < σ.length; omega)]
      · cases hd
    · rw [List.getElem?_set_ne hn] at hd
      obtain ⟨v', e1, e2⟩ := h.2 n d' hd
      exact ⟨v', by rw [List.getElem?_set_ne hn]; exact e1, e2⟩
end
end J
namespace J
open PySem PySem.Spec PyProof.Rows L2

/-! ### comprehensions -/
def wipeV (vw : VW) : List Nat → VW
  | [] => vw
  | v :: vs => (wipeV vw vs).set v none
theorem wipeV_len (vw : VW) : ∀ vs : List Nat, (wipeV vw vs).length = vw.length
  | [] => rfl
  | v :: vs => by unfold wipeV; rw [List.length_set, wipeV_len vw vs]
theorem wipe_get {α : Type} : ∀ (vs : List Nat) (f : List (Option α) → List Nat → List (Option α)) (h0 : ∀ s, f s [] = s) (h1 : ∀ s v r, f s (v :: r) = (f s r).set v none) (s : List (Option α)) (i : Nat), (f s vs)[i]? = if i ∈ vs ∧ i < s.length then some none else s[i]?
  | [], f, h0, h1, s, i => by rw [h0]; simp
  | v :: r, f, h0, h1, s, i => by
    have ih := wipe_get r f h0 h1 s i
    have hlen : ∀ r, (f s r).length = s.length := fun r => by
      induction r with
      | nil => rw [h0]
      | cons a r ih => rw [h1, List.length_set, ih]
    rw [h1, List.getElem?_set]
    by_cases e : v = i
    · subst e
      rw [if_pos rfl, hlen]
      by_cases hl : v < s.length
      · rw [if_pos hl, if_pos ⟨List.mem_cons_self, hl⟩]
      · rw [if_neg hl, if_neg (fun z => hl z.2), List.getElem?_eq_none (by omega)]
    · rw [if_neg e, ih]
      have : (i ∈ v :: r) ↔ i ∈ r := by
        constructor
        · intro h
          rcases List.mem_cons.mp h with h | h
          · exact absurd h.symm e
          · exact h
        · exact List.mem_cons_of_mem _
      simp only [this]
theorem wipeS_get (σ : Sg) (vs : List Nat) (i : Nat) : (wipe σ vs)[i]? = if i ∈ vs ∧ i < σ.length then some none else σ[i]? := wipe_get vs wipe (fun _ => rfl) (fun _ _ _ => rfl) σ i
theorem wipeV_get (σ : VW) (vs : List Nat) (i : Nat) : (wipeV σ vs)[i]? = if i ∈ vs ∧ i < σ.length then some none else σ[i]? := wipe_get vs wipeV (fun _ => rfl) (fun _ _ _ => rfl) σ i
theorem setS_get : ∀ (l : List (Nat × V)) (σ : Sg) (i : Nat), (∀ p ∈ l, p.1 ≠ i) → (setS σ l)[i]? = σ[i]?
  | [], σ, i, _ => rfl
  | (j, v) :: r, σ, i, h => by
    rw [setS, setS_get r _ i fun p hp => h p (List.mem_cons_of_mem _ hp), List.getElem?_set_ne (h (j, v) List.mem_cons_self)]
theorem wipe_set {σ : Sg} {vs : List Nat} {l : List (Nat × V)} (h : ∀ p ∈ l, p.1 ∈ vs) : wipe (setS (wipe σ vs) l) vs = wipe σ vs := by
  apply List.ext_getElem?
  intro i
  rw [wipeS_get, setS_len, wipe_length]
  by_cases c : i ∈ vs ∧ i < σ.length
  · rw [if_pos c, wipeS_get, if_pos c]
  · rw [if_neg c]
    by_cases d : i ∈ vs
    · have hi : σ.length ≤ i := Nat.le_of_not_lt fun z => c ⟨d, z⟩
      rw [List.getElem?_eq_none (by rw [setS_len, wipe_length]; exact hi), List.getElem?_eq_none (by rw [wipe_length]; exact hi)]
    · rw [setS_get l _ i fun p hp e => d (e ▸ h p hp)]
theorem RdV.wipe {K : PySem.W.Frag} {S : List Addr} {A : Addr → Prop} {σ : Sg} {H : Hp} {vw : VW} (r : RdV K S A σ H vw) (vs : List Nat) : RdV K S A (L2.wipe σ vs) H (wipeV vw vs) := by
  refine ⟨by rw [wipe_length, wipeV_len]; exact r.1, fun i d h => ?_⟩
  rw [wipeV_get] at h
  split at h
  · cases h
  · rename_i c
    obtain ⟨v, e1, e2⟩ := r.2 i d h
    have hl : i < vw.length := (List.getElem?_eq_some_iff.mp h).1
    refine ⟨v, ?_, e2⟩
    rw [wipeS_get, if_neg (fun z => c ⟨z.1, hl⟩)]
    exact e1
theorem SlotsR.mem {K : PySem.W.Frag} {S : List Addr} {H : Hp} {P : Nat → Prop} : ∀ {vl : List (Nat × V)} {l : List (Nat × D)}, SlotsR K S H vl l → (∀ p ∈ l, P p.1) → ∀ p ∈ vl, P p.1
  | _, _, .nil, _, p, h => nomatch h
  | _, _, .cons (a := a) (b := b) e r, h, p, hp => by
    rcases List.mem_cons.mp hp with rfl | hp
    · rw [e.1]; exact h b List.mem_cons_self
    · exact SlotsR.mem r (fun q hq => h q (List.mem_cons_of_mem _ hq)) p hp

abbrev blkX (X : Cx) (scope : Scope) (s : Shared) (H : Hp) (C : Addr) (cl : List (Str × Addr)) (fp : List Addr) : Cx := X.blk s H scope (compEnvC scope cl C X.env) fp
def JPB (X : Cx) (scope : Scope) (e : Expr) (f : Ev) (k : Nat) : Prop := ∀ s H C cl fp, JP (blkX X scope s H C cl fp) e f k
def JTB (X : Cx) (scope : Scope) (e : Expr) (f : EvT) : Prop := ∀ s H C cl fp, JT (blkX X scope s H C cl fp) e f
def wpEB (X : Cx) (scope : Scope) (e : Expr) : TE := fun σ H Q => ∀ s H0 C cl fp, wpE (blkX X scope s H0 C cl fp) e σ H Q
def wpTB (X : Cx) (scope : Scope) (e : Expr) : TT := fun σ H Q => ∀ s H0 C cl fp, wpT (blkX X scope s H0 C cl fp) e σ H Q
theorem wpEB_pe {X : Cx} {scope : Scope} {e : Expr} : ∀ (s : Shared) (H : Hp) (C : Addr) (cl : List (Str × Addr)) (fp : List Addr), PE (X.blk s H scope (compEnvC scope cl C X.env) fp) e (wpEB X scope e) :=
  fun s H C cl fp => ⟨fun pins s' σ H' Q I h => h s H C cl fp pins s' I⟩
theorem wpTB_pt {X : Cx} {scope : Scope} {e : Expr} : ∀ (s : Shared) (H : Hp) (C : Addr) (cl : List (Str × Addr)) (fp : List Addr), PT (X.blk s H scope (compEnvC scope cl C X.env) fp) e (wpTB X scope e) :=
  fun s H C cl fp => ⟨fun pins s' σ H' Q I h => h s H C cl fp pins s' I⟩
/-- the tests of a comprehension: none, one -/
def JTs (X : Cx) (scope : Scope) (ifs : List Expr) (f : EvT) : Prop := ∃ t, (∀ (s : Shared) (H : Hp) (C : Addr) (cl : List (Str × Addr)) (fp : List Addr), PTs (X.blk s H scope (compEnvC scope cl C X.env) fp) ifs t) ∧
  ∀ A S σ H vw sto b sto' (Q : Bool → Hp → Prop), Wd X.K S A H sto → RdV X.K S A σ H vw → f vw sto = some (b, sto') → (∀ H', Ext S H H' → Wd X.K S A H' sto' → Q b H') → t σ H Q
def tY : EvT := fun _ s => some (true, s)
theorem jts_nil {X : Cx} {scope : Scope} : JTs X scope [] tY := ⟨tYes, fun _ _ _ _ _ => pts_nil, fun A S σ H vw sto b sto' Q w r q z => by
  cases q
  exact z H Ext.refl w⟩
theorem jts_one {X : Cx} {scope : Scope} {e : Expr} {f : EvT} (h : JTB X scope e f) : JTs X scope [e] f := ⟨_, fun s H C cl fp => pts_one (wpTB_pt s H C cl fp), fun A S σ H vw sto b sto' Q w r q z => fun s H0 C cl fp => h s H0 C cl fp A S σ H vw sto b sto' Q w r q z⟩
def JG (X : Cx) (scope : Scope) (tg : Expr) (bd : Bd) : Prop := ∃ g, (∀ (s : Shared) (H : Hp) (C : Addr) (cl : List (Str × Addr)) (fp : List Addr), PG (X.blk s H scope (compEnvC scope cl C X.env) fp) tg g) ∧ gSpec X.K g bd

def compL (bd : Bd) (fc : EvT) (fe : Ev) (own : List Nat) (vw : VW) : List D → STO → Option (List D × STO)
  | [], s => some ([], s)
  | d :: r, s => (bd d).bind fun l => (fc (setV (wipeV vw own) l) s).bind fun p =>
    if p.1 = true then (fe (setV (wipeV vw own) l) p.2).bind fun q => (compL bd fc fe own vw r q.2).map fun u => (q.1 :: u.1, u.2) else compL bd fc fe own vw r p.2
def eComp (fi : EvI) (bd : Bd) (fc : EvT) (fe : Ev) (own : List Nat) : Ev := fun vw s => (fi vw s).bind fun p => if p.1.length ≤ 16777216 then (compL bd fc fe own vw p.1 p.2).map fun q => (.list q.1, q.2) else none
theorem hid_ext {S : List Addr} {A : Addr → Prop} {H H' : Hp} (e : Ext S H H') (hS : ∀ a, a ∈ S → A a) : Same (hid A H) H' := fun a o q => by
  rw [hid_eq] at q
  exact e a o (fun z => q.1 (hS a z)) q.2
theorem comp_read {X : Cx} {tg it elt : Expr} {scope : Scope} {own : List Nat} {fi : EvI} {bd : Bd} {fc : EvT} {fe : Ev} {k : Nat} {g : TG} {tt : TT}
    (hi : JI X tg it fi) (hg : gSpec X.K g bd)
    (ht : ∀ A S σ H vw sto b sto' (Q : Bool → Hp → Prop), Wd X.K S A H sto → RdV X.K S A σ H vw → fc vw sto = some (b, sto') → (∀ H', Ext S H H' → Wd X.K S A H' sto' → Q b H') → tt σ H Q)
    (he : JPB X scope elt fe k) (hown : ∀ d l, bd d = some l → ∀ p ∈ l, p.1 ∈ own)
    {A : Addr → Prop} {S : List Addr} {σ : Sg} {H : Hp} {vw : VW} {sto sto' : STO} {d : D} {Q : VK} (w : Wd X.K S A H sto) (r : RdV X.K S A σ H vw) (q : eComp fi bd fc fe own vw sto = some (d, sto'))
    (z : ∀ v H' F, Res X.K S A H sto' (k + 1) H' v d F → Q v H') : tLc (wpI X tg it) g tt (wpEB X scope elt) own σ H Q := by
  unfold eComp at q
  obtain ⟨⟨ds, s1⟩, e1, q⟩ := bind_some' q
  simp only at q
  split at q
  case isFalse => cases q
  rename_i hlen
  obtain ⟨⟨ys, s2⟩, e2, q⟩ := map_some' q
  obtain ⟨rfl, rfl⟩ : PyData.list ys = d ∧ s2 = sto' := by cases q; exact ⟨rfl, rfl⟩
  clear q
  refine hi A S σ H vw sto ds s1 _ w r e1 fun J H1 x1 w1 wk => fun D hD => ?_
  have hSD : D ∉ S := w1.live hD
  have hDA : ¬ A D := w1.notA hD
  refine lc_it wk (fun i Hi => ∃ acc ds' F si rest, compL bd fc fe own vw (ds.drop i) si = some (rest, s2) ∧ ds' ++ rest = ys ∧ acc.length ≤ i ∧ Hi D = some (.lst acc) ∧ Ext S H1 Hi ∧ Wd X.K S (plus F (plus [D] A)) Hi si ∧
    F.Nodup ∧ D ∉ F ∧ (∀ a ∈ F, H1 a = none) ∧ OwA X.K S (plus F (plus [D] A)) Hi k acc ds' F) ?_ ?_ ?_ ?_
  · refine ⟨[], [], [], s1, ys, by simpa using e2, rfl, Nat.le_refl _, upd_same, Ext.of (same_upd hD), ?_, .nil, by simp, noF, .nil⟩
    rw [plus_nil]
    refine w1.grow (same_upd hD) (fun a h => ?_) fun a h => .inr h
    rcases h with h | h
    · have e : a = D := by simpa using h
      subst e
      exact .inr ⟨hD, by rw [upd_same]; exact ⟨(fun z => nomatch z), fun _ z => nomatch z⟩⟩
    · exact .inl h
  · rintro i Hi _ ⟨acc, ds', F, si, rest, _, _, _, _, ex, _, _, _, _, _⟩
    exact hid_ext ex w1.hS
  · rintro i x Hi H' hi' ⟨acc, ds', F, si, rest, c1, c2, c3, c4, ex, wi, nd, hDF, fr, ow⟩ ⟨dx, e3, hH', rp⟩
    have hdrop : ds.drop i = dx :: ds.drop (i + 1) := by
      obtain ⟨hlt, e⟩ := List.getElem?_eq_some_iff.mp e3
      rw [List.drop_eq_getElem_cons hlt, e]
    rw [hdrop] at c1
    unfold compL at c1
    obtain ⟨l, el, c1⟩ := bind_some' c1
    obtain ⟨⟨b, sb⟩, eb, c1⟩ := bind_some' c1
    have smi : Same Hi H' := by
      rcases hH' with rfl | ⟨T, o, hT, rfl⟩
      · exact fun _ _ h => h
      · exact same_upd hT
    have w2 : Wd X.K S (plus F (plus [D] A)) H' si := wi.grow smi (fun a h => .inl h) fun a h => h
    have hA2 : ∀ a, plus F (plus [D] A) a → A a ∨ H1 a = none := fun a h => by
      rcases h with h | h | h
      · exact .inr (fr a h)
      · have e : a = D := by simpa using h
        subst e
        exact .inr hD
      · exact .inl h
    have px : Rp X.K S (hid (plus F (plus [D] A)) H') x dx := rp _ (hid_move ex w1.hS hA2) wi.alt
    have ext2 : Ext S H1 H' := ex.trans (Ext.of smi)
    refine hg S _ _ H' x dx l _ same_hid px el fun vl sl => ?_
    refine ⟨wipe_set (sl.mem fun p hp => hown dx l el p hp), ?_⟩
    have r2 : RdV X.K S (plus F (plus [D] A)) (setS (wipe σ own) vl) H' (setV (wipeV vw own) l) := sl.rd (((r.move x1 w.hS fun a h => .inl h).move ext2 w1.hS hA2).wipe own)
    refine ht _ S _ H' _ si b sb _ w2 r2 eb fun H3 x3 w3 => ?_
    have hD3 : H3 D = some (.lst acc) := x3 D _ hSD (smi _ _ c4)
    have ext3 : Ext S H1 H3 := ext2.trans x3
    simp only at c1
    cases b with
    | true =>
      rw [if_pos rfl] at c1 ⊢
      obtain ⟨⟨y, sy⟩, ey, c1⟩ := bind_some' c1
      obtain ⟨⟨us, su⟩, eu, c1⟩ := map_some' c1
      cases c1
      intro s0 H0 C cl fp
      refine he s0 H0 C cl fp _ S _ H3 _ sb y sy _ w3 (r2.move x3 w2.hS fun a h => .inl h) ey fun v H4 F' rs => ?_
      have rs : Res X.K S (plus F (plus [D] A)) H3 sy k H4 v y F' := rs
      have hD4 : H4 D = some (.lst acc) := rs.ext D _ hSD hD3
      have ext4 : Ext S H1 H4 := ext3.trans rs.ext
      have frF' : ∀ a ∈ F', H1 a = none := fun a ha => none_of_ext ext3 (w3.live (rs.fr a ha)) (rs.fr a ha)
      have hDF' : D ∉ F' := fun h => by
        have := rs.fr D h
        rw [hD3] at this
        cases this
      have hF4 : ∀ a ∈ F, a ∉ F' := fun a ha h => by
        have h1 := rs.fr a h
        exact w3.al a (.inl ha) h1
      refine ⟨acc, hD4, by rw [sizeLine_eq]; omega, acc ++ [v], ds' ++ [y], F ++ F', sy, us, eu, by rw [List.append_assoc]; exact c2, by rw [List.length_append, List.length_singleton]; omega, upd_same, ?_, ?_, ?_, ?_, ?_, ?_⟩
      · intro a o hS h
        by_cases e : a = D
        · subst e; rw [hD] at h; cases h
        · rw [upd_ne e]; exact ext4 a o hS h
      · rw [← plus_append]
        exact rs.wd.upd (.inr (.inr (.inl (by simp)))) hSD ⟨acc, hD4⟩
      · exact List.nodup_append.mpr ⟨nd, rs.nd, fun a ha b hb e => hF4 a ha (e ▸ hb)⟩
      · intro h
        rcases List.mem_append.mp h with h | h
        · exact hDF h
        · exact hDF' h
      · intro a ha
        rcases List.mem_append.mp ha with h | h
        · exact fr a h
        · exact frF' a h
      · rw [← plus_append]
        have hidD : hid (plus F' (plus F (plus [D] A))) (upd H4 D (.lst (acc ++ [v]))) = hid (plus F' (plus F (plus [D] A))) H4 := hid_upd (.inr (.inr (.inl (by simp))))
        have o1 : OwA X.K S (plus F' (plus F (plus [D] A))) (upd H4 D (.lst (acc ++ [v]))) k acc ds' F := by
          refine ow.mv ?_ fun a ha o ho => ?_
          · rw [hidD]
            exact hid_move ((Ext.of smi).trans (x3.trans rs.ext)) wi.hS fun a h => by
              rcases h with h | h
              · exact .inr (none_of_ext ((Ext.of smi).trans x3) (w3.live (rs.fr a h)) (rs.fr a h))
              · exact .inl h
          · rw [upd_ne (fun e : a = D => hDF (e ▸ ha))]
            exact rs.ext a o (w1.live (fr a ha)) (x3 a o (w1.live (fr a ha)) (smi a o ho))
        have o2 : Ow X.K S (plus F' (plus F (plus [D] A))) (upd H4 D (.lst (acc ++ [v]))) k v y F' := by
          refine rs.ow.mv (by rw [hidD]; exact fun _ _ h => h) fun a ha o ho => ?_
          rw [upd_ne (fun e : a = D => hDF' (e ▸ ha))]
          exact ho
        have := o1.append (.cons o2 .nil)
        rwa [List.append_nil] at this
    | false =>
      rw [if_neg Bool.false_ne_true] at c1 ⊢
      refine ⟨acc, ds', F, sb, rest, c1, c2, by omega, hD3, ext3, w3, nd, hDF, fr, ?_⟩
      exact ow.move ((Ext.of smi).trans x3) wi.hS (fun a h => .inl h) fun a ha => w1.live (fr a ha)
  · rintro Hn ⟨acc, ds', F, si, rest, c1, c2, c3, c4, ex, wi, nd, hDF, fr, ow⟩
    rw [List.drop_length] at c1
    cases c1
    rw [List.append_nil] at c2
    subst c2
    have eP : plus F (plus [D] A) = plus (D :: F) A := plus_append
    rw [eP] at wi ow
    refine z (.ref D) Hn (D :: F) ⟨x1.trans ex, wi, List.nodup_cons.mpr ⟨hDF, nd⟩, fun a ha => ?_, .lst c4 ow⟩
    rcases List.mem_cons.mp ha with rfl | ha
    · exact none_of_ext x1 hSD hD
    · exact none_of_ext x1 (w1.live (fr a ha)) (fr a ha)
theorem jp_comp {X : Cx} {tg it elt : Expr} {ifs : List Expr} {scope : Scope} {own : List (Str × Nat)} {pos : Pos} {fi : EvI} {bd : Bd} {fc : EvT} {fe : Ev} {k : Nat} (hc : X.calm = true) (hN : X.N.Nodup)
    (hi : JI X tg it fi) (ok : BlkOk X.N X.env.scope scope own) (hg : JG X scope tg bd) (ht : JTs X scope ifs fc) (he : JPB X scope elt fe k) (hown : ∀ d l, bd d = some l → ∀ p ∈ l, p.1 ∈ own.map (·.2))
    (hs : ∀ x, foldedSetIterable it X.env x = pure x) : JP X (.ListComp elt [⟨tg, it, ifs, 0⟩] scope pos) (eComp fi bd fc fe (own.map (·.2))) (k + 1) := fun A S σ H vw sto d sto' Q w r q z => by
  obtain ⟨g, hg1, hg2⟩ := hg
  obtain ⟨t, ht1, ht2⟩ := ht
  exact wpE.by (pe_lc hc hN wpI_pi ok hg1 ht1 wpEB_pe hs) (comp_read hi hg2 ht2 he hown w r q z)
end J
namespace J
open PySem PySem.Spec PyProof.Rows L2

/-! ### a def's promise where no repr runs around it -/
abbrev SpG := List V → Hp → VK → Prop
structure FnG (P : Program) (w : World) (K : PySem.W.Frag) (mg : Str → Option Value) (base : Heap) (k : Nat) (f : Addr) (fd : FuncData) (ps : List Str) (sp : SpG) : Prop where
  len : ∀ vs H Q, sp vs H Q → vs.length = ps.length
  run : ∀ (A : Around) (outer : List Env) (s : Shared) (H : Hp) (args : Args) (us : List Value) (vs : List V) (Q : VK), Room k A → A.guards = some [] → Env0 P w K mg base A outer s H → BindsTo s fd args (ps.zip us) → Vals vs us → sp vs H Q →
    codeAny (model P w) A (.call (.ref f) args) (CR CX0 outer P w H s Q E0) s
theorem FnG.mono {P : Program} {w : World} {K : PySem.W.Frag} {mg : Str → Option Value} {base : Heap} {j k : Nat} {f : Addr} {fd : FuncData} {ps : List Str} {sp : SpG} (F : FnG P w K mg base j f fd ps sp) (h : j ≤ k) : FnG P w K mg base k f fd ps sp :=
  ⟨F.len, fun A outer s H args us vs Q hr => F.run A outer s H args us vs Q (hr.mono h)⟩
/-- a def by its body -/
theorem FnG.of {P : Program} {w : World} {K : PySem.W.Frag} {mg : Str → Option Value} {base : Heap} {k : Nat} {x qual : Str} {st : Stmt} {f : Addr} {fd : FuncData} {N ps : List Str} {sp : SpG}
    (F : Fun K x qual st f fd) (S : FnScope N ps (defScope st)) (len : ∀ vs H Q, sp vs H Q → vs.length = ps.length)
    (hbody : ∀ (cdv : Value) (A : Around) (outer : List Env) (s : Shared) (H : Hp) (vs : List V) (Q : VK), Room k (A.deeper (envOfC qual (defScope st) s.heap.objs.size f cdv)) → A.guards = some [] → sp vs H Q →
      wpSs (cxOf CX0 P w K mg base N qual (defScope st) f cdv A outer s H E0).nox (defBody st) { nx := fun _ H' => Q .non H', rt := Q } (start N vs) H) :
    FnG P w K mg base (k + 1) f fd ps sp := by
  obtain ⟨oc, od, kV, doc, pm, an, cdv, ct, osl, rfl, lk, hcd⟩ := F.ex
  refine ⟨len, fun A outer s H args us vs Q hr hg e0 hb r hsp => ?_⟩
  have hl := len _ _ _ hsp
  have KX : K.In s.heap := e0.mod.kin.keeps fun b o e => (e0.bs b o e).1
  have lim : s.heap.NoLimit := e0.mod.nolimit.keeps fun b o e => (e0.bs b o e).1
  have places : ∀ y ∈ ps.zip us, (defScope st).names.lookup y.1 = some .local ∨ ((defScope st).names.lookup y.1 = some .cell ∧ ((cellsFrom (s.heap.objs.size + 1) (defScope st).names []).lookup y.1).isSome = true) := by
    rintro ⟨n, v⟩ hy
    exact (S.par n (List.of_mem_zip hy).1).imp id fun q => ⟨q, PySem.W.cellsFrom_some _ _ _ (.inl q)⟩
  refine codeAny_call_function hr.depth (KX _ _ lk) rfl S.co S.gen rfl (PySem.W.codeRec_of KX hcd) (hb _ _ _ _ (wpAny_newFunctionEnv_cells S.kind places fun env he s1 x => ?_))
  subst he
  refine ⟨lim.keeps x.toInCall.keep, codeAny_func ?_⟩
  have I := inv_start (CX := CX0) (E := E0) S hr.hd e0 hl r x
  have q := hbody cdv A outer s H vs Q (hr.deeper _) hg hsp [] s1 (I.wish _)
  refine wpAny_mono q (fun fl s' hs => ?_) fun e s' hs => False.elim hs
  have hs := SP.unwish hs
  cases fl with
  | ret u =>
    obtain ⟨v, σ', H', J, rv, q⟩ := hs
    exact ⟨v, H', J.os, J.bare, J.base, J.hok, rv, q⟩
  | next =>
    obtain ⟨σ', H', J, q⟩ := hs
    exact ⟨.non, H', J.os, J.bare, J.base, J.hok, rfl, q⟩
  | brk =>
    obtain ⟨_, _, _, q⟩ := hs
    exact False.elim q
  | cont =>
    obtain ⟨_, _, _, q⟩ := hs
    exact False.elim q
theorem run_fg {X : Cx} {k : Nat} {f : Addr} {fd : FuncData} {ps ks : List Str} {sp : SpG} {pins : List (Addr × Obj)} {σ : Sg} {H : Hp} {s : Shared} {Q : VK} {us ws : List Value} {vs zs : List V} {n : Nat} {g : List Value → List Value → List Value} {gV : List V → List V → List V}
    (F : FnG X.prog X.w X.K X.mg X.base k f fd ps sp) (hr : Room k X.A) (hg : X.A.guards = some []) (hb : KBn X.K fd ps n ks g gV) (I : Inv X pins σ H s) (r : Vals vs us) (rz : Vals zs ws) (l1 : vs.length = n) (l2 : zs.length = ks.length) (h : sp (gV vs zs) H Q) :
    wpAny (model X.prog X.w) X.A (call (.ref f) us (ks.zip ws)) (EP X pins σ Q) X.xe s := by
  refine wpAny_call (codeAny_mono (F.run X.A X.stack s H ⟨us, ks.zip ws⟩ (g us ws) (gV vs zs) Q hr hg I.env0 (hb.to s us ws I.kIn (r.length.symm.trans l1) (rz.length.symm.trans l2)) (hb.rel r rz) h) fun res s' hq => ?_)
  cases res with
  | error e => exact False.elim hq
  | ok fl =>
    cases fl with
    | ret u => exact I.after hq
    | next => exact False.elim hq
    | brk => exact False.elim hq
    | cont => exact False.elim hq

/-! ### a def that is told by a function on data -/
abbrev FnD := List D → STO → Option (D × STO)
def spD (K : PySem.W.Frag) (n : Nat) (F : FnD) (k : Nat) : SpG := fun vs H Q => ∃ A S ds sto d sto', ds.length = n ∧ Wd K S A H sto ∧ RpA K S (hid A H) vs ds ∧ F ds sto = some (d, sto') ∧ ∀ v H' F', Res K S A H sto' k H' v d F' → Q v H'
/-- how arguments, positional and by keyword, come to their places -/
def pick {α : Type} (e : α) (perm : List Nat) (xs : List α) : List α := perm.map fun i => xs.getD i e
theorem vals_pick {xs : List V} {us : List Value} (h : Vals xs us) (perm : List Nat) : Vals (pick V.non perm xs) (pick Value.none perm us) := by
  unfold pick
  induction perm with
  | nil => exact .nil
  | cons i r ih =>
    refine .cons ?_ ih
    show RelV (xs.getD i .non) (us.getD i .none)
    rw [List.getD_eq_getElem?_getD, List.getD_eq_getElem?_getD]
    cases e : xs[i]? with
    | none => rw [h.none_of e]; exact rfl
    | some x =>
      obtain ⟨u, e1, r⟩ := h.get e
      rw [e1]
      exact r
theorem rpa_pick {K : PySem.W.Frag} {S : List Addr} {H : Hp} {xs : List V} {ds : List D} (h : RpA K S H xs ds) (perm : List Nat) : RpA K S H (pick V.non perm xs) (pick PyData.none perm ds) := by
  unfold pick
  induction perm with
  | nil => exact .nil
  | cons i r ih =>
    refine .cons ?_ ih
    show Rp K S H (xs.getD i .non) (ds.getD i .none)
    rw [List.getD_eq_getElem?_getD, List.getD_eq_getElem?_getD]
    cases e : ds[i]? with
    | none =>
      have e2 : xs[i]? = none := by
        have := h.length
        rw [List.getElem?_eq_none_iff] at e ⊢
        omega
      rw [e2]; exact .non
    | some x =>
      obtain ⟨u, e1, r⟩ := h.get e
      rw [e1]
      exact r
/-- the binding of n positional arguments and the keywords ks: the places perm of all of them, one behind the other -/
theorem kbn_of {K : PySem.W.Frag} {x qual : Str} {st : Stmt} {f : Addr} {fd : FuncData} {ps ks : List Str} {n : Nat} (perm : List Nat) (F : Fun K x qual st f fd)
    (h : ∀ (kV doc pm : Value) (an : Option Addr) (cdv ct : Value) (us ws : List Value), us.length = n → ws.length = ks.length → bindArgs (PySem.W.fnOf x qual (defArgs st) (defBody st) (defScope st) .none kV doc pm an cdv ct) ⟨us, ks.zip ws⟩ = pure (ps.zip (pick Value.none perm (us ++ ws)))) :
    KBn K fd ps n ks (fun us ws => pick Value.none perm (us ++ ws)) (fun vs zs => pick V.non perm (vs ++ zs)) := by
  obtain ⟨oc, od, kV, doc, pm, an, cdv, ct, osl, rfl, lk, hcd⟩ := F.ex
  exact ⟨fun s us ws _ l1 l2 => .of_eq (h kV doc pm an cdv ct us ws l1 l2), fun r rz => vals_pick (r.append rz) perm⟩
section
variable {X : Cx} {e a b c : Expr} {es rest : List Expr} {f g h : Ev} {fs gs : EvA} {k j n : Nat} {pos p : Pos} {kws : List Keyword}
def eCall (F : FnD) (perm : List Nat) (fs : EvA) : Ev := fun vw s => (fs vw s).bind fun p => F (pick PyData.none perm p.1) p.2
def aApp (fs gs : EvA) : EvA := fun vw s => (fs vw s).bind fun p => (gs vw p.2).map fun q => (p.1 ++ q.1, q.2)
/-- keyword arguments -/
def wpK (X : Cx) (kws : List Keyword) : TA := fun σ H Q => ∀ pos pins s, Inv X pins σ H s → wpAny (model X.prog X.w) X.A (evalAll ((backToKw pos (keywordEach kws X.env)).map (·.2))) (AP X pins σ Q) X.xe s
theorem wpK_pk : PK X kws (wpK X kws) := ⟨fun pos pins s σ H Q I h => h pos pins s I⟩
theorem wpK.by {t : TA} (h : PK X kws t) {σ : Sg} {H : Hp} {Q : List V → Hp → Prop} (q : t σ H Q) : wpK X kws σ H Q := fun pos pins s I => h.run pos pins s σ H Q I q
def JK (X : Cx) (kws : List Keyword) (f : EvA) : Prop := ∀ A S σ H vw sto d sto' (Q : List V → Hp → Prop), Wd X.K S A H sto → RdV X.K S A σ H vw → f vw sto = some (d, sto') →
  (∀ v H', Ext S H H' → Wd X.K S A H' sto' → RpA X.K S (hid A H') v d → Q v H') → wpK X kws σ H Q
theorem jk_nil : JK X [] aN := fun A S σ H vw sto d sto' Q w r q z => by
  cases q
  exact wpK.by pk_nil (z [] H Ext.refl w .nil)
theorem jk_cons {nm : Option Str} {kpos : Pos} (ha : JP X a f 0) (hr : JK X kws gs) : JK X (⟨nm, a, kpos⟩ :: kws) (aC f gs) := fun A S σ H vw sto d sto' Q w r q z => by
  unfold aC at q
  obtain ⟨⟨x, s1⟩, e1, q⟩ := bind_some' q
  obtain ⟨⟨ys, s2⟩, e2, q⟩ := map_some' q
  cases q
  exact wpK.by (pk_cons wpE_pe wpK_pk) (ha.use w r e1 fun v H1 x1 w1 r1 p1 => hr A S σ H1 vw s1 ys _ _ w1 r1 e2 fun vs H2 x2 w2 p2 =>
    z (v :: vs) H2 (x1.trans x2) w2 (.cons (p1.le (hid_move x2 w1.hS fun a h => .inl h)) p2))
/-- f(e, .., k = v, ..) -/
theorem jp_call {x : Str} {fa : Addr} {fd : FuncData} {ps ks : List Str} {F : FnD} {perm : List Nat} (hF : FnG X.prog X.w X.K X.mg X.base j fa fd ps (spD X.K ps.length F k)) (hr : Room j X.A) (hgu : X.A.guards = some []) (hg : Gl X x) (hm : X.mg x = some (.ref fa)) (hk : PySem.W.keepIn X.K (.ref fa) = true)
    (hb : KBn X.K fd ps n ks (fun us ws => pick Value.none perm (us ++ ws)) (fun vs zs => pick V.non perm (vs ++ zs))) (hn : (e :: es).length = n) (hkn : kws.length = ks.length) (hpl' : perm.length = ps.length)
    (ha : JA X (e :: es) fs 0) (hkw : JK X kws gs) (hfl : ∀ vw s d s', fs vw s = some (d, s') → d.length = n) (hgl : ∀ vw s d s', gs vw s = some (d, s') → d.length = ks.length)
    (hall : (backToKw pos (keywordEach kws X.env)).all (·.1.isSome) = true := by rfl) (hks : (backToKw pos (keywordEach kws X.env)).filterMap (·.1) = ks := by rfl)
    (hdb : (x == ("__debug__" : Str)) = false := by decide) (he : starEach (e :: es) X.env = (false, eval e X.env) :: starEach es X.env := by rfl)
    (hpl : ((backTo pos (starEach (e :: es) X.env)).any (·.1) || (backToKw pos (keywordEach kws X.env)).any (·.1.isNone)) = false := by rfl) :
    JP X (.Call (.Name x p) (e :: es) kws pos) (eCall F perm (aApp fs gs)) k := fun A S σ H vw sto d sto' Q w r q z => by
  unfold eCall aApp at q
  obtain ⟨⟨xs, s1⟩, e1, q⟩ := bind_some' q
  obtain ⟨⟨x1, s2⟩, e2, e1⟩ := bind_some' e1
  obtain ⟨⟨x2, s3⟩, e3, e1⟩ := map_some' e1
  cases e1
  intro pins s I
  refine wpAny_Call_Name_kw (ld_glob I hg hm ?_ hdb)
  refine PySem.W.callWith_KW (h₀ := X.base) I.ok.mod.kin hk hall (thn (ha.use (Q := fun vs H1 => Ext S H H1 ∧ Wd X.K S A H1 s2 ∧ RdV X.K S A σ H1 vw ∧ RpA X.K S (hid A H1) vs x1) w r e2 (fun vs H1 x1 w1 r1 p1 => ⟨x1, w1, r1, p1⟩) pos pins s I) fun us t1 hq => ?_) hpl he
  obtain ⟨vs, H1, I1, rv, y1, w1, r1, p1⟩ := hq
  refine thn (hkw A S σ H1 vw s2 x2 _ (fun zs H2 => Ext S H1 H2 ∧ Wd X.K S A H2 s3 ∧ RpA X.K S (hid A H2) zs x2) w1 r1 e3 (fun zs H2 y2 w2 p2 => ⟨y2, w2, p2⟩) pos pins t1 I1) fun ws t2 hq => ?_
  obtain ⟨zs, H2, I2, rz, y2, w2, p2⟩ := hq
  refine ⟨I2.kIn, ?_⟩
  rw [hks]
  have l1 : vs.length = n := by rw [p1.length]; exact hfl _ _ _ _ e2
  have l2 : zs.length = ks.length := by rw [p2.length]; exact hgl _ _ _ _ e3
  have pp : RpA X.K S (hid A H2) (vs ++ zs) (x1 ++ x2) := (p1.le (hid_move y2 w1.hS fun a h => .inl h)).append p2
  exact run_fg hF hr hgu hb I2 rv rz l1 l2 ⟨A, S, _, s3, d, sto', by unfold pick; rw [List.length_map]; exact hpl', w2, rpa_pick pp perm, q, fun v H' F' rs => z v H' F' (rs.later (y1.trans y2) w2)⟩
/-- f(k = v, ..) and f() -/
theorem jp_call0 {x : Str} {fa : Addr} {fd : FuncData} {ps ks : List Str} {F : FnD} {perm : List Nat} (hF : FnG X.prog X.w X.K X.mg X.base j fa fd ps (spD X.K ps.length F k)) (hr : Room j X.A) (hgu : X.A.guards = some []) (hg : Gl X x) (hm : X.mg x = some (.ref fa)) (hk : PySem.W.keepIn X.K (.ref fa) = true)
    (hb : KBn X.K fd ps 0 ks (fun us ws => pick Value.none perm (us ++ ws)) (fun vs zs => pick V.non perm (vs ++ zs))) (hkn : kws.length = ks.length) (hpl' : perm.length = ps.length)
    (hkw : JK X kws gs) (hgl : ∀ vw s d s', gs vw s = some (d, s') → d.length = ks.length)
    (hall : (backToKw pos (keywordEach kws X.env)).all (·.1.isSome) = true := by rfl) (hks : (backToKw pos (keywordEach kws X.env)).filterMap (·.1) = ks := by rfl)
    (hdb : (x == ("__debug__" : Str)) = false := by decide)
    (hpl : ((backTo pos (starEach [] X.env)).any (·.1) || (backToKw pos (keywordEach kws X.env)).any (·.1.isNone)) = false := by rfl) :
    JP X (.Call (.Name x p) [] kws pos) (eCall F perm gs) k := fun A S σ H vw sto d sto' Q w r q z => by
  unfold eCall at q
  obtain ⟨⟨x2, s3⟩, e3, q⟩ := bind_some' q
  intro pins s I
  refine wpAny_Call_Name_kw (ld_glob I hg hm ?_ hdb)
  refine PySem.W.callWith_KW0 (h₀ := X.base) I.ok.mod.kin hk hall ?_ hpl
  refine thn (hkw A S σ H vw sto x2 _ (fun zs H2 => Ext S H H2 ∧ Wd X.K S A H2 s3 ∧ RpA X.K S (hid A H2) zs x2) w r e3 (fun zs H2 y2 w2 p2 => ⟨y2, w2, p2⟩) pos pins s I) fun ws t2 hq => ?_
  obtain ⟨zs, H2, I2, rz, y2, w2, p2⟩ := hq
  refine ⟨I2.kIn, ?_⟩
  rw [hks]
  have l2 : zs.length = ks.length := by rw [p2.length]; exact hgl _ _ _ _ e3
  exact run_fg (vs := []) (us := []) hF hr hgu hb I2 .nil rz rfl l2 ⟨A, S, _, s3, d, sto', by unfold pick; rw [List.length_map]; exact hpl', w2, rpa_pick (by rw [List.nil_append]; exact p2) perm, q, fun v H' F' rs => z v H' F' (rs.later y2 w2)⟩
theorem len_aN : ∀ vw s d s', aN vw s = some (d, s') → d.length = 0 := fun vw s d s' h => by cases h; rfl
theorem len_aC {n : Nat} (hg : ∀ vw s d s', gs vw s = some (d, s') → d.length = n) : ∀ vw s d s', aC f gs vw s = some (d, s') → d.length = n + 1 := fun vw s d s' h => by
  unfold aC at h
  obtain ⟨⟨x, s1⟩, e1, h⟩ := bind_some' h
  obtain ⟨⟨ys, s2⟩, e2, h⟩ := map_some' h
  cases h
  exact congrArg (· + 1) (hg _ _ _ _ e2)

/-! ### sorted -/
theorem dp_le {K : PySem.W.Frag} {H H' : Hp} (e : Same H H') : ∀ (d : D) (v : V), Rp K [] H v d → Rp K [] H' v d := fun d v h => h.le e
def allAlike (ds : List D) : Bool := ds.all fun x => ds.all fun y => PySem.W.alike x y
def notTup : D → Bool
  | .none => false
  | .tuple _ => false
  | _ => true
def headTup : D → Bool
  | .tuple (_ :: _) => true
  | _ => false
def sortOk (ds : List D) : Bool := allAlike ds && (ds.all notTup || ds.all headTup) && SeqAt.shaped (.list ds)
def srt (ds : List D) : List D := ds.mergeSort (PySem.W.dataLe false id)
def dSorted : D → Option D
  | .list ds => if sortOk ds = true ∧ ds.length ≤ 16777216 then some (.list (srt ds)) else none
  | .tuple ds => if sortOk ds = true ∧ ds.length ≤ 16777216 then none else none
  | _ => none
end
end J
namespace J
open PySem PySem.Spec PyProof.Rows L2

/-! ### slots -/
inductive Slot where
  | no
  | sh (d : D)
  | ow (k : Nat) (d : D)
abbrev Env := List Slot
theorem scal_atomic {d : D} (h : isScal d = true) : atomic d := by
  cases d with
  | none => exact atomic_none
  | bool b => exact atomic_bool b
  | int i => exact atomic_int i
  | str x => exact atomic_str x
  | _ => exact absurd h (by simp [isScal])
/-- what an expression sees that names the slots M -/
def seeS (m : Bool) : Slot → Option D
  | .no => none
  | .sh d => some d
  | .ow _ d => if m = true then some d else none
def seeI (M : List Nat) : Nat → Env → VW
  | _, [] => []
  | n, s :: r => seeS (M.contains n) s :: seeI M (n + 1) r
def see (M : List Nat) (env : Env) : VW := seeI M 0 env
theorem seeI_len (M : List Nat) : ∀ (n : Nat) (env : Env), (seeI M n env).length = env.length
  | _, [] => rfl
  | n, s :: r => congrArg (· + 1) (seeI_len M (n + 1) r)
theorem seeI_get (M : List Nat) : ∀ (n : Nat) (env : Env) (i : Nat), (seeI M n env)[i]? = (env[i]?).map (seeS (M.contains (n + i)))
  | _, [], i => by simp [seeI]
  | n, s :: r, 0 => by simp [seeI]
  | n, s :: r, i + 1 => by
    have := seeI_get M (n + 1) r i
    rw [show n + 1 + i = n + (i + 1) by omega] at this
    simpa [seeI] using this
theorem see_get (M : List Nat) (env : Env) (i : Nat) : (see M env)[i]? = (env[i]?).map (seeS (M.contains i)) := by
  have := seeI_get M 0 env i
  rwa [Nat.zero_add] at this
/-- what was owned by the slots M is given to all -/
def fzS (m : Bool) : Slot → Slot
  | .ow k d => if m = true then .sh d else .ow k d
  | s => s
def fzI (M : List Nat) : Nat → Env → Env
  | _, [] => []
  | n, s :: r => fzS (M.contains n) s :: fzI M (n + 1) r
def fz (M : List Nat) (env : Env) : Env := fzI M 0 env
theorem fzI_len (M : List Nat) : ∀ (n : Nat) (env : Env), (fzI M n env).length = env.length
  | _, [] => rfl
  | n, s :: r => congrArg (· + 1) (fzI_len M (n + 1) r)
theorem fzI_get (M : List Nat) : ∀ (n : Nat) (env : Env) (i : Nat), (fzI M n env)[i]? = (env[i]?).map (fzS (M.contains (n + i)))
  | _, [], i => by simp [fzI]
  | n, s :: r, 0 => by simp [fzI]
  | n, s :: r, i + 1 => by
    have := fzI_get M (n + 1) r i
    rw [show n + 1 + i = n + (i + 1) by omega] at this
    simpa [fzI] using this
theorem fz_get (M : List Nat) (env : Env) (i : Nat) : (fz M env)[i]? = (env[i]?).map (fzS (M.contains i)) := by
  have := fzI_get M 0 env i
  rwa [Nat.zero_add] at this

abbrev hd (S : List Addr) (Fs : Nat → List Addr) (A0 : Addr → Prop) : Addr → Prop := fun a => (∃ i, a ∈ Fs i) ∨ A0 a ∨ a ∈ S
/-- hidden while an expression is run that names the slots M -/
abbrev hdM (S : List Addr) (M : List Nat) (Fs : Nat → List Addr) (A0 : Addr → Prop) : Addr → Prop := fun a => (∃ i, M.contains i = false ∧ a ∈ Fs i) ∨ A0 a ∨ a ∈ S
def SlotOk (K : PySem.W.Frag) (S : List Addr) (A : Addr → Prop) (H : Hp) (v : Option (Option V)) (F : List Addr) : Slot → Prop
  | .no => True
  | .sh d => F = [] ∧ ∃ u, v = some (some u) ∧ Rp K S (hid A H) u d
  | .ow k d => ∃ u, v = some (some u) ∧ Ow K S A H k u d F
structure Sr (K : PySem.W.Frag) (C : Hp) (S0 S : List Addr) (A0 : Addr → Prop) (H0 : Hp) (σ : Sg) (H : Hp) (env : Env) (sto : STO) (Fs : Nat → List Addr) : Prop where
  len : env.length = σ.length
  s0 : ∃ S1, S = S0 ++ S1 ∧ ∀ a ∈ S1, H0 a = none
  al0 : ∀ a, A0 a → H0 a ≠ none
  a0S : ∀ a, a ∈ S0 → A0 a
  ext : Ext S0 H0 H
  wd : Wd K S (hd S Fs A0) H sto
  nd : ∀ i, (Fs i).Nodup
  dj : ∀ i j a, a ∈ Fs i → a ∈ Fs j → i = j
  fr : ∀ i a, a ∈ Fs i → H0 a = none
  ns : ∀ i a, a ∈ Fs i → a ∉ S
  sl : ∀ i s, env[i]? = some s → SlotOk K S (hd S Fs A0) H σ[i]? (Fs i) s
  out : ∀ i, env[i]? = none → Fs i = []
  pub : Same C (hid (hd S Fs A0) H)

section
variable {K : PySem.W.Frag} {C : Hp} {S0 S : List Addr} {A0 : Addr → Prop} {H0 H H' : Hp} {σ : Sg} {env : Env} {sto sto' : STO} {Fs : Nat → List Addr} {M : List Nat} {k : Nat} {v : V} {d : D} {F : List Addr}
theorem Sr.ext' (r : Sr K C S0 S A0 H0 σ H env sto Fs) (e : Ext S H H') : Ext S0 H0 H' := fun a o hS h => by
  refine e a o (fun z => ?_) (r.ext a o hS h)
  obtain ⟨S1, q, q2⟩ := r.s0
  rw [q] at z
  rcases List.mem_append.mp z with z | z
  · exact hS z
  · rw [q2 a z] at h; cases h
theorem Sr.notM (r : Sr K C S0 S A0 H0 σ H env sto Fs) {i : Nat} (h : M.contains i = true) : ∀ a ∈ Fs i, ¬ hdM S M Fs A0 a := fun a ha z => by
  rcases z with ⟨j, hj, q⟩ | q | q
  · have := r.dj i j a ha q
    subst this
    rw [h] at hj; cases hj
  · exact r.al0 a q (r.fr i a ha)
  · exact r.ns i a ha q
theorem hdM_le : ∀ a, hdM S M Fs A0 a → hd S Fs A0 a := fun a h => by
  rcases h with ⟨i, _, h⟩ | h
  · exact .inl ⟨i, h⟩
  · exact .inr h
theorem Sr.wdM (r : Sr K C S0 S A0 H0 σ H env sto Fs) (M : List Nat) : Wd K S (hdM S M Fs A0) H sto := r.wd.less hdM_le fun a e => .inr (.inr e)
theorem Sr.rdM (r : Sr K C S0 S A0 H0 σ H env sto Fs) (M : List Nat) : RdV K S (hdM S M Fs A0) σ H (see M env) := by
  refine ⟨by unfold see; rw [seeI_len, r.len]; exact Nat.le_refl _, fun i d h => ?_⟩
  rw [see_get] at h
  cases e : env[i]? with
  | none => rw [e] at h; cases h
  | some s =>
    rw [e] at h
    have h' : seeS (M.contains i) s = some d := Option.some.inj h
    have q := r.sl i s e
    cases s with
    | no => cases h'
    | sh d' =>
      cases h'
      obtain ⟨_, u, e1, e2⟩ := q
      exact ⟨u, e1, e2.le (hid_le hdM_le)⟩
    | ow k d' =>
      have h' : (if M.contains i = true then some d' else none) = some d := h'
      split at h'
      · rename_i hm
        cases h'
        obtain ⟨u, e1, e2⟩ := q
        exact ⟨u, e1, e2.rp hdM_le (r.notM hm)⟩
      · cases h'
/-- the slots M frozen -/
def fzF (M : List Nat) (Fs : Nat → List Addr) : Nat → List Addr := fun i => if M.contains i = true then [] else Fs i
theorem hd_fz : hd S (fzF M Fs) A0 = hdM S M Fs A0 := by
  funext a
  simp only [eq_iff_iff]
  constructor
  · rintro (⟨i, h⟩ | h)
    · unfold fzF at h
      split at h
      · exact nomatch h
      · rename_i hm
        exact .inl ⟨i, by simpa using hm, h⟩
    · exact .inr h
  · rintro (⟨i, hm, h⟩ | h)
    · exact .inl ⟨i, by unfold fzF; rw [if_neg (by rw [hm]; decide)]; exact h⟩
    · exact .inr h
theorem Sr.freeze (r : Sr K C S0 S A0 H0 σ H env sto Fs) (M : List Nat) : Sr K C S0 S A0 H0 σ H (fz M env) sto (fzF M Fs) := by
  have sub : ∀ i a, a ∈ fzF M Fs i → a ∈ Fs i := fun i a h => by
    unfold fzF at h
    split at h
    · exact nomatch h
    · exact h
  refine ⟨by unfold fz; rw [fzI_len]; exact r.len, r.s0, r.al0, r.a0S, r.ext, by rw [hd_fz]; exact r.wdM M, fun i => ?_, fun i j a h1 h2 => r.dj i j a (sub i a h1) (sub j a h2), fun i a h => r.fr i a (sub i a h), fun i a h => r.ns i a (sub i a h), fun i s h => ?_, fun i h => ?_, fun a o h => by rw [hd_fz]; exact hid_le hdM_le a o (r.pub a o h)⟩
  · unfold fzF
    split
    · exact .nil
    · exact r.nd i
  · rw [hd_fz]
    rw [fz_get] at h
    cases e : env[i]? with
    | none => rw [e] at h; cases h
    | some t =>
      rw [e] at h
      have h' : fzS (M.contains i) t = s := Option.some.inj h
      have q := r.sl i t e
      cases t with
      | no =>
        cases h'
        exact trivial
      | sh d' =>
        cases h'
        obtain ⟨q1, u, e1, e2⟩ := q
        refine ⟨?_, u, e1, e2.le (hid_le hdM_le)⟩
        unfold fzF
        split
        · rfl
        · exact q1
      | ow k d' =>
        have h' : (if M.contains i = true then Slot.sh d' else .ow k d') = s := h'
        obtain ⟨u, e1, e2⟩ := q
        split at h'
        · rename_i hm
          subst h'
          exact ⟨by unfold fzF; rw [if_pos hm], u, e1, e2.rp hdM_le (r.notM hm)⟩
        · rename_i hm
          subst h'
          refine ⟨u, e1, ?_⟩
          have ef : fzF M Fs i = Fs i := by unfold fzF; rw [if_neg hm]
          rw [ef]
          exact e2.mv (hid_le hdM_le) fun a _ o ho => ho
  · have e : env[i]? = none := by
      rw [fz_get] at h
      cases e : env[i]? with
      | none => rfl
      | some t => rw [e] at h; cases h
    unfold fzF
    split
    · rfl
    · exact r.out i e
/-- the heap went on behind an expression: the slots stand -/
theorem Sr.go (r : Sr K C S0 S A0 H0 σ H env sto Fs) (e : Ext S H H') (w : Wd K S (hd S Fs A0) H' sto') : Sr K C S0 S A0 H0 σ H' env sto' Fs := by
  refine ⟨r.len, r.s0, r.al0, r.a0S, r.ext' e, w, r.nd, r.dj, r.fr, r.ns, fun i s h => ?_, r.out, fun a o h => hid_move e r.wd.hS (fun a h => .inl h) a o (r.pub a o h)⟩
  have q := r.sl i s h
  cases s with
  | no => exact q
  | sh d' =>
    obtain ⟨q1, u, e1, e2⟩ := q
    exact ⟨q1, u, e1, e2.le (hid_move e r.wd.hS fun a h => .inl h)⟩
  | ow k d' =>
    obtain ⟨u, e1, e2⟩ := q
    exact ⟨u, e1, e2.move e r.wd.hS (fun a h => .inl h) fun a ha => r.ns i a ha⟩
/-- a slot takes a result -/
def setF (Fs : Nat → List Addr) (i : Nat) (F : List Addr) : Nat → List Addr := fun j => if j = i then F else Fs j
def mkS (k : Nat) (d : D) : Slot := match k with
  | 0 => .sh d
  | k + 1 => if isScal d = true then .sh d else .ow (k + 1) d
end
end J
namespace J
open PySem PySem.Spec PyProof.Rows L2

/-! ### results that bear nothing but themselves -/
def full : Nat → D → Bool
  | k + 1, .list ds => ds.all (full k)
  | _, d => isScal d
theorem full_zero {d : D} : full 0 d = isScal d := by cases d <;> rfl
theorem full_at {k : Nat} {d : D} (h1 : ∀ ds, d ≠ .list ds) (h : full k d = true) : isScal d = true := by
  cases k with
  | zero => rwa [full_zero] at h
  | succ k =>
    cases d with
    | list ds => exact absurd rfl (h1 ds)
    | _ => exact h
section
variable {K : PySem.W.Frag} {S S' : List Addr} {A A' : Addr → Prop} {H H' : Hp}
mutual
theorem Ow.full : ∀ {k : Nat} {v : V} {d : D} {F : List Addr}, Ow K S A H k v d F → J.full k d = true → Ow K S' A' H k v d F
  | _, _, _, _, .sh r, h => .sh (scal_rp (by rw [full_zero] at h; exact h) r)
  | _, _, _, _, .at h1 h2 r, h => .at h1 h2 (scal_rp (full_at h1 h) r)
  | _, _, _, _, .lst e t, h => .lst e (t.full (by unfold J.full at h; exact h))
theorem OwA.full : ∀ {k : Nat} {vs : List V} {ds : List D} {F : List Addr}, OwA K S A H k vs ds F → ds.all (J.full k) = true → OwA K S' A' H k vs ds F
  | _, _, _, _, .nil, _ => .nil
  | _, _, _, _, .cons a b, h => by
    rw [List.all_cons, Bool.and_eq_true] at h
    exact .cons (a.full h.1) (b.full h.2)
end
theorem scal_full : ∀ {k : Nat} {d : D}, isScal d = true → J.full k d = true
  | 0, d, h => by rw [full_zero]; exact h
  | k + 1, d, h => by
    cases d with
    | list ds => exact nomatch h
    | _ => exact h
theorem Ow.noF {k : Nat} {v : V} {d : D} {F : List Addr} (h : Ow K S A H k v d F) (hs : isScal d = true) : F = [] := by
  cases h with
  | sh r => rfl
  | «at» h1 h2 r => rfl
  | lst e t => exact nomatch hs
theorem Ow.scal {k : Nat} {v : V} {d : D} {F : List Addr} (h : Ow K S A H k v d F) (hs : isScal d = true) : Rp K S' H' v d := by
  cases h with
  | sh r => exact scal_rp hs r
  | «at» h1 h2 r => exact scal_rp hs r
  | lst e t => exact nomatch hs
def scalCell : Cell → Bool
  | .lst ds => ds.all isScal
  | .dct _ es => es.all fun p => isScal p.2
  | .tbl _ => true
  | .fdc _ es => es.all fun p => isScal p.2
def okM (M : List Nat) (s : STO) : Bool := M.isEmpty || s.all scalCell
theorem okM_nil (s : STO) : okM [] s = true := rfl
theorem scal_rpk {K : PySem.W.Frag} {S S' : List Addr} {H H' : Hp} : ∀ {kvs : List (Key × V)} {es : List (D × D)}, (∀ p ∈ es, isScal p.2 = true) → RpK K S H kvs es → RpK K S' H' kvs es
  | _, _, _, .nil => .nil
  | _, _, h, .cons a b => .cons (scal_rp (h _ List.mem_cons_self) a) (scal_rpk (fun x hx => h x (List.mem_cons_of_mem _ hx)) b)
theorem scal_rpt {K : PySem.W.Frag} {S S' : List Addr} {H H' : Hp} : ∀ {kvs : List (List Key × V)} {es : List (D × D)}, (∀ p ∈ es, isScal p.2 = true) → RpT K S H kvs es → RpT K S' H' kvs es
  | _, _, _, .nil => .nil
  | _, _, h, .cons a b => .cons (scal_rp (h _ List.mem_cons_self) a) (scal_rpt (fun x hx => h x (List.mem_cons_of_mem _ hx)) b)
/-- more is hidden behind a step that did not -/
theorem Wd.wide {A2 : Addr → Prop} {sto sto' : STO} (w2 : Wd K S A2 H sto) (x : Ext S H H') (w : Wd K S A H' sto') (g : A2 = A ∨ sto'.all scalCell = true) : Wd K S A2 H' sto' := by
  rcases g with rfl | g
  · exact w
  · refine ⟨fun a ha => ?_, w2.hS, w.nds, w.len, fun i a c h1 h2 => ?_⟩
    · by_cases e : a ∈ S
      · exact w.alt a (w.hS a e)
      · cases q : H a with
        | none => exact absurd q (w2.al a ha)
        | some o => rw [x a o e q, ← q]; exact w2.alt a ha
    · have ok := w.st i a c h1 h2
      have hc : scalCell c = true := List.all_eq_true.mp g c (List.mem_of_getElem? h2)
      cases c with
      | lst ds => obtain ⟨vs, q1, q2⟩ := ok; exact ⟨vs, q1, scal_rpa (fun x hx => List.all_eq_true.mp hc x hx) q2⟩
      | dct t es =>
        cases t with
        | false => obtain ⟨kvs, q1, q2⟩ := ok; exact ⟨kvs, q1, scal_rpk (fun x hx => List.all_eq_true.mp hc x hx) q2⟩
        | true => obtain ⟨kvs, q1, q2⟩ := ok; exact ⟨kvs, q1, scal_rpt (fun x hx => List.all_eq_true.mp hc x hx) q2⟩
      | tbl q => exact  ok
      | fdc t es =>
        cases t with
        | false => obtain ⟨o, kvs, q1, q2⟩ := ok; exact ⟨o, kvs, q1, scal_rpk (fun x hx => List.all_eq_true.mp hc x hx) q2⟩
        | true => obtain ⟨o, kvs, q1, q2⟩ := ok; exact ⟨o, kvs, q1, scal_rpt (fun x hx => List.all_eq_true.mp hc x hx) q2⟩
theorem Res.full {sto sto' : STO} {k : Nat} {v : V} {d : D} {F : List Addr} {A2 : Addr → Prop} (h : J.full k d = true) (r : Res K S A H sto' k H' v d F) (w2 : Wd K S A2 H sto) (g : A2 = A ∨ sto'.all scalCell = true) : Res K S A2 H sto' k H' v d F := by
  rcases g with rfl | g
  · exact r
  · refine ⟨r.ext, ⟨fun a ha => ?_, fun a e => .inr (w2.hS a e), r.wd.nds, r.wd.len, fun i a c h1 h2 => ?_⟩, r.nd, r.fr, r.ow.full h⟩
    · rcases ha with ha | ha
      · exact r.wd.alt a (.inl ha)
      · by_cases e : a ∈ S
        · exact r.wd.alt a (r.wd.hS a e)
        · cases q : H a with
          | none => exact absurd q (w2.al a ha)
          | some o => rw [r.ext a o e q, ← q]; exact w2.alt a ha
    · have ok := r.wd.st i a c h1 h2
      have hc : scalCell c = true := List.all_eq_true.mp g c (List.mem_of_getElem? h2)
      cases c with
      | lst ds => obtain ⟨vs, q1, q2⟩ := ok; exact ⟨vs, q1, scal_rpa (fun x hx => List.all_eq_true.mp hc x hx) q2⟩
      | dct t es =>
        cases t with
        | false => obtain ⟨kvs, q1, q2⟩ := ok; exact ⟨kvs, q1, scal_rpk (fun x hx => List.all_eq_true.mp hc x hx) q2⟩
        | true => obtain ⟨kvs, q1, q2⟩ := ok; exact ⟨kvs, q1, scal_rpt (fun x hx => List.all_eq_true.mp hc x hx) q2⟩
      | tbl q => exact  ok
      | fdc t es =>
        cases t with
        | false => obtain ⟨o, kvs, q1, q2⟩ := ok; exact ⟨o, kvs, q1, scal_rpk (fun x hx => List.all_eq_true.mp hc x hx) q2⟩
        | true => obtain ⟨o, kvs, q1, q2⟩ := ok; exact ⟨o, kvs, q1, scal_rpt (fun x hx => List.all_eq_true.mp hc x hx) q2⟩
end

/-! ### a slot is set -/
section
variable {K : PySem.W.Frag} {C : Hp} {S0 S : List Addr} {A0 : Addr → Prop} {H0 H H' : Hp} {σ : Sg} {env : Env} {sto sto' : STO} {Fs : Nat → List Addr} {M : List Nat} {k : Nat} {v : V} {d : D} {F : List Addr} {i : Nat}
theorem Sr.old (r : Sr K C S0 S A0 H0 σ H env sto Fs) {a : Addr} (h : H a = none) : H0 a = none := by
  refine none_of_ext r.ext (fun e => ?_) h
  obtain ⟨S1, q, _⟩ := r.s0
  exact r.wd.al a (.inr (.inr (by rw [q]; exact List.mem_append_left _ e))) h
theorem Sr.inS0 (r : Sr K C S0 S A0 H0 σ H env sto Fs) {b : Addr} {o : HO} (z : b ∈ S) (hbo : H0 b = some o) : b ∈ S0 := by
  obtain ⟨S1, q, q2⟩ := r.s0
  rw [q] at z
  rcases List.mem_append.mp z with z | z
  · exact z
  · rw [q2 b z] at hbo; cases hbo
theorem hd_set (r : Sr K C S0 S A0 H0 σ H env sto Fs) : ∀ a, hd S (setF Fs i F) A0 a → a ∈ F ∨ hd S Fs A0 a := fun a h => by
  rcases h with ⟨j, h⟩ | h
  · unfold setF at h
    split at h
    · exact .inl h
    · exact .inr (.inl ⟨j, h⟩)
  · exact .inr (.inr h)
/-- what a slot takes: the general step; what it owned before may have been changed -/
theorem Sr.mut (r : Sr K C S0 S A0 H0 σ H env sto Fs) (hi : i < env.length) (e : ∀ b o, b ∉ S → b ∉ Fs i → H b = some o → H' b = some o) (w : Wd K S (plus F (hd S Fs A0)) H' sto') (nd : F.Nodup) (fr : ∀ a ∈ F, H a = none ∨ a ∈ Fs i) {s : Slot} {ov : Option V}
    (hs : SlotOk K S (hd S (setF Fs i F) A0) H' (some ov) F s) : Sr K C S0 S A0 H0 (σ.set i ov) H' (env.set i s) sto' (setF Fs i F) := by
  have hiσ : i < σ.length := by rw [← r.len]; exact hi
  have hnew : ∀ a, hd S (setF Fs i F) A0 a → hd S Fs A0 a ∨ H a = none := fun a h => by
    rcases hd_set r a h with h | h
    · rcases fr a h with h | h
      · exact .inr h
      · exact .inl (.inl ⟨i, h⟩)
    · exact .inl h
  have hm : Same (hid (hd S Fs A0) H) (hid (hd S (setF Fs i F) A0) H') := fun a o q => by
    rw [hid_eq] at q ⊢
    refine ⟨fun z => ?_, e a o (fun z => q.1 (.inr (.inr z))) (fun z => q.1 (.inl ⟨i, z⟩)) q.2⟩
    rcases hnew a z with z | z
    · exact q.1 z
    · rw [z] at q; exact nomatch q.2
  have hx : Ext S0 H0 H' := fun b o hb hbo => by
    refine e b o (fun z => ?_) (fun z => ?_) (r.ext b o hb hbo)
    · exact hb (r.inS0 z hbo)
    · rw [r.fr i b z] at hbo; cases hbo
  refine ⟨by rw [List.length_set, List.length_set]; exact r.len, r.s0, r.al0, r.a0S, hx, w.less (hd_set r) (fun a e => .inr (.inr e)), fun j => ?_, fun j l a h1 h2 => ?_, fun j a h => ?_, fun j a h => ?_, fun j t h => ?_, fun j h => ?_, fun a o h => hm a o (r.pub a o h)⟩
  · unfold setF
    split
    · exact nd
    · exact r.nd j
  · unfold setF at h1 h2
    split at h1 <;> split at h2
    · rename_i e1 e2; rw [e1, e2]
    · rename_i e1 e2
      rcases fr a h1 with h | h
      · exact absurd h (r.wd.al a (.inl ⟨l, h2⟩))
      · exact e1.trans (r.dj i l a h h2)
    · rename_i e1 e2
      rcases fr a h2 with h | h
      · exact absurd h (r.wd.al a (.inl ⟨j, h1⟩))
      · exact (r.dj j i a h1 h).trans e2.symm
    · exact r.dj j l a h1 h2
  · unfold setF at h
    split at h
    · rcases fr a h with h | h
      · exact r.old h
      · exact r.fr i a h
    · exact r.fr j a h
  · unfold setF at h
    split at h
    · rcases fr a h with h | h
      · exact r.wd.live h
      · exact r.ns i a h
    · exact r.ns j a h
  · by_cases c : j = i
    · subst c
      rw [List.getElem?_set, if_pos rfl, if_pos hi] at h
      cases h
      rw [List.getElem?_set, if_pos rfl, if_pos hiσ]
      have : setF Fs j F j = F := by unfold setF; rw [if_pos rfl]
      rw [this]
      exact hs
    · rw [List.getElem?_set_ne (Ne.symm c)] at h ⊢
      have : setF Fs i F j = Fs j := by unfold setF; rw [if_neg c]
      rw [this]
      have q := r.sl j t h
      cases t with
      | no => exact q
      | sh d' =>
        obtain ⟨q1, u, e1, e2⟩ := q
        exact ⟨q1, u, e1, e2.le hm⟩
      | ow k d' =>
        obtain ⟨u, e1, e2⟩ := q
        exact ⟨u, e1, e2.mv hm fun a ha o q => e a o (r.ns j a ha) (fun z => c (r.dj j i a ha z)) q⟩
  · rw [List.getElem?_eq_none_iff, List.length_set] at h
    have c : j ≠ i := by omega
    unfold setF
    rw [if_neg c]
    exact r.out j (List.getElem?_eq_none h)
/-- a slot takes what is new -/
theorem Sr.take (r : Sr K C S0 S A0 H0 σ H env sto Fs) (hi : i < env.length) (e : Ext S H H') (w : Wd K S (plus F (hd S Fs A0)) H' sto') (nd : F.Nodup) (fr : ∀ a ∈ F, H a = none) {s : Slot} {ov : Option V}
    (hs : SlotOk K S (hd S (setF Fs i F) A0) H' (some ov) F s) : Sr K C S0 S A0 H0 (σ.set i ov) H' (env.set i s) sto' (setF Fs i F) :=
  r.mut hi (fun b o h _ q => e b o h q) w nd (fun a h => .inl (fr a h)) hs
/-- a slot takes a result -/
theorem Sr.put (r : Sr K C S0 S A0 H0 σ H env sto Fs) (hi : i < env.length) (rs : Res K S (hd S Fs A0) H sto' k H' v d F) : Sr K C S0 S A0 H0 (σ.set i (some v)) H' (env.set i (mkS k d)) sto' (setF Fs i F) := by
  refine r.take hi rs.ext rs.wd rs.nd rs.fr ?_
  have le : Same (hid (plus F (hd S Fs A0)) H') (hid (hd S (setF Fs i F) A0) H') := hid_le (hd_set r)
  have ow := rs.ow
  cases k with
  | zero =>
    cases ow with
    | sh q => exact ⟨rfl, v, rfl, q.le le⟩
  | succ k =>
    by_cases h : isScal d = true
    · rw [show mkS (k + 1) d = .sh d from if_pos h]
      exact ⟨ow.noF h, v, rfl, ow.scal h⟩
    · rw [show mkS (k + 1) d = .ow (k + 1) d from if_neg h]
      exact ⟨v, rfl, ow.mv le fun a _ o q => q⟩
/-- a slot takes what is given to all -/
theorem Sr.putS (r : Sr K C S0 S A0 H0 σ H env sto Fs) (hi : i < env.length) (p : Rp K S (hid (hd S Fs A0) H) v d) : Sr K C S0 S A0 H0 (σ.set i (some v)) H (env.set i (.sh d)) sto (setF Fs i []) :=
  r.put (k := 0) hi ⟨Ext.refl, by rw [plus_nil]; exact r.wd, .nil, noF, .sh (by rw [plus_nil]; exact p)⟩
/-- a slot is not looked at any more -/
theorem Sr.drop (r : Sr K C S0 S A0 H0 σ H env sto Fs) (hi : i < env.length) (ov : Option V) : Sr K C S0 S A0 H0 (σ.set i ov) H (env.set i .no) sto (setF Fs i []) :=
  r.take hi Ext.refl (by rw [plus_nil]; exact r.wd) .nil noF trivial
def setE (env : Env) : List (Nat × D) → Env
  | [] => env
  | (i, d) :: r => setE (env.set i (.sh d)) r
theorem setE_len : ∀ (l : List (Nat × D)) (env : Env), (setE env l).length = env.length
  | [], σ => rfl
  | (i, v) :: r, σ => by rw [setE, setE_len r, List.length_set]
def allLt (n : Nat) (l : List (Nat × D)) : Bool := l.all fun p => decide (p.1 < n)
theorem Sr.putL : ∀ {l : List (Nat × D)} {vl : List (Nat × V)} {σ : Sg} {env : Env} {Fs : Nat → List Addr}, Sr K C S0 S A0 H0 σ H env sto Fs → allLt env.length l = true → SlotsR K S (hid (hd S Fs A0) H) vl l → ∃ Fs', Sr K C S0 S A0 H0 (setS σ vl) H (setE env l) sto Fs' ∧ ∀ a, hd S Fs' A0 a → hd S Fs A0 a
  | [], _, σ, env, Fs, r, _, .nil => ⟨Fs, r, fun _ h => h⟩
  | (j, d) :: l, _, σ, env, Fs, r, hl, .cons (a := (i, v)) e t => by
    obtain ⟨rfl, p⟩ := e
    rw [allLt, List.all_cons, Bool.and_eq_true] at hl
    have r1 := r.putS (of_decide_eq_true hl.1) p
    have sub : ∀ a, hd S (setF Fs i []) A0 a → hd S Fs A0 a := fun a h => by
      rcases h with ⟨j, h⟩ | h
      · unfold setF at h
        split at h
        · exact nomatch h
        · exact .inl ⟨j, h⟩
      · exact .inr h
    have mono : ∀ {vl : List (Nat × V)} {l : List (Nat × D)}, SlotsR K S (hid (hd S Fs A0) H) vl l → SlotsR K S (hid (hd S (setF Fs i []) A0) H) vl l := fun h => by
      induction h with
      | nil => exact .nil
      | cons e t ih => exact .cons ⟨e.1, e.2.le (hid_le sub)⟩ ih
    obtain ⟨Fs', r2, s2⟩ := Sr.putL (l := l) r1 (by rw [allLt, List.length_set]; exact hl.2) (mono t)
    exact ⟨Fs', r2, fun a h => sub a (s2 a h)⟩

/-! ### an expression within a statement -/
def fzIf (k : Nat) (d : D) (M : List Nat) (s : STO) (env : Env) : Env := if (full k d && okM M s) = true then env else fz M env
/-- the same behind a test -/
def fzT (M : List Nat) (s : STO) (env : Env) : Env := if okM M s = true then env else fz M env
theorem fzIf_len (k : Nat) (d : D) (M : List Nat) (s : STO) (env : Env) : (fzIf k d M s env).length = env.length := by
  unfold fzIf
  split
  · rfl
  · unfold fz; rw [fzI_len]
theorem fzT_len (M : List Nat) (s : STO) (env : Env) : (fzT M s env).length = env.length := by
  unfold fzT
  split
  · rfl
  · unfold fz; rw [fzI_len]
theorem okM_g {M : List Nat} {s : STO} (h : okM M s = true) : hd S Fs A0 = hdM S M Fs A0 ∨ s.all scalCell = true := by
  unfold okM at h
  rw [Bool.or_eq_true] at h
  rcases h with h | h
  · left
    have : M = [] := List.isEmpty_iff.mp h
    subst this
    funext a
    simp only [eq_iff_iff]
    constructor
    · rintro (⟨i, h⟩ | h)
      · exact .inl ⟨i, rfl, h⟩
      · exact .inr h
    · exact hdM_le a
  · exact .inr h
theorem Sr.evalR (r : Sr K C S0 S A0 H0 σ H env sto Fs) (rs : Res K S (hdM S M Fs A0) H sto' k H' v d F) : ∃ Fs', Sr K C S0 S A0 H0 σ H (fzIf k d M sto' env) sto Fs' ∧ Res K S (hd S Fs' A0) H sto' k H' v d F := by
  by_cases h : (full k d && okM M sto') = true
  · have h' := h
    rw [Bool.and_eq_true] at h'
    exact ⟨Fs, by unfold fzIf; rw [if_pos h]; exact r, rs.full h'.1 r.wd (okM_g h'.2)⟩
  · exact ⟨fzF M Fs, by unfold fzIf; rw [if_neg h]; exact r.freeze M, by rw [hd_fz]; exact rs⟩
theorem Sr.eval {X : Cx} {e : Expr} {f : Ev} {Q : VK} (r : Sr X.K C S0 S A0 H0 σ H env sto Fs) (h : JP X e f k) (q : f (see M env) sto = some (d, sto'))
    (z : ∀ v H' F Fs', Sr X.K C S0 S A0 H0 σ H (fzIf k d M sto' env) sto Fs' → Res X.K S (hd S Fs' A0) H sto' k H' v d F → Q v H') : wpE X e σ H Q :=
  h _ S σ H _ sto d sto' Q (r.wdM M) (r.rdM M) q fun v H' F rs => by
    obtain ⟨Fs', r2, rs2⟩ := r.evalR rs
    exact z v H' F Fs' r2 rs2
/-- the store behind a reading -/
theorem Sr.goM (r : Sr K C S0 S A0 H0 σ H env sto Fs) (x : Ext S H H') (w : Wd K S (hdM S M Fs A0) H' sto') : ∃ Fs', Sr K C S0 S A0 H0 σ H' (fzT M sto' env) sto' Fs' := by
  by_cases h : okM M sto' = true
  · exact ⟨Fs, by unfold fzT; rw [if_pos h]; exact r.go x (r.wd.wide x w (okM_g h))⟩
  · exact ⟨fzF M Fs, by unfold fzT; rw [if_neg h]; exact (r.freeze M).go x (by rw [hd_fz]; exact w)⟩
theorem Sr.test {X : Cx} {e : Expr} {f : EvT} {b : Bool} {Q : Bool → Hp → Prop} (r : Sr X.K C S0 S A0 H0 σ H env sto Fs) (h : JT X e f) (q : f (see M env) sto = some (b, sto'))
    (z : ∀ H' Fs', Sr X.K C S0 S A0 H0 σ H' (fzT M sto' env) sto' Fs' → Q b H') : wpT X e σ H Q :=
  h _ S σ H _ sto b sto' Q (r.wdM M) (r.rdM M) q fun H' x w => by
    obtain ⟨Fs', r2⟩ := r.goM x w
    exact z H' Fs' r2

/-! ### statements -/
inductive Out where
  | nx
  | rt (d : D)
  | bk
  | ct
abbrev Sv := Env → STO → Option (Out × Env × STO)
/-- what is known behind a return -/
def RtR (K : PySem.W.Frag) (S0 : List Addr) (A0 : Addr → Prop) (H0 H' : Hp) (k : Nat) (v : V) (d : D) (sto' : STO) : Prop :=
  ∃ S F, (∃ S1, S = S0 ++ S1 ∧ ∀ a ∈ S1, H0 a = none) ∧ Ext S0 H0 H' ∧ (∀ a, A0 a → H0 a ≠ none) ∧ (∀ a, a ∈ S0 → A0 a) ∧ Wd K S (fun a => a ∈ F ∨ A0 a ∨ a ∈ S) H' sto' ∧ F.Nodup ∧ (∀ a ∈ F, H0 a = none) ∧ (∀ a ∈ F, a ∉ S) ∧ Ow K S (fun a => a ∈ F ∨ A0 a ∨ a ∈ S) H' k v d F
def OutOk (K : PySem.W.Frag) (C : Hp) (S0 : List Addr) (A0 : Addr → Prop) (H0 : Hp) (k : Nat) (E : Ends) : Out → Env → STO → Prop
  | .nx, env, sto => ∀ S σ H Fs, Sr K C S0 S A0 H0 σ H env sto Fs → E.nx σ H
  | .bk, env, sto => ∀ S σ H Fs, Sr K C S0 S A0 H0 σ H env sto Fs → E.bk σ H
  | .ct, env, sto => ∀ S σ H Fs, Sr K C S0 S A0 H0 σ H env sto Fs → E.ct σ H
  | .rt d, _, sto => ∀ v H, RtR K S0 A0 H0 H k v d sto → E.rt v H
def JS (Z : List Addr → Prop) (X : Cx) (st : Stmt) (g : Sv) (k : Nat) : Prop := ∀ C S0 S A0 H0 σ H env sto Fs o env' sto' (E : Ends), Z S0 → Sr X.K C S0 S A0 H0 σ H env sto Fs → g env sto = some (o, env', sto') → OutOk X.K C S0 A0 H0 k E o env' sto' → wpS X st E σ H
def JSs (Z : List Addr → Prop) (X : Cx) (sts : List Stmt) (g : Sv) (k : Nat) : Prop := ∀ C S0 S A0 H0 σ H env sto Fs o env' sto' (E : Ends), Z S0 → Sr X.K C S0 S A0 H0 σ H env sto Fs → g env sto = some (o, env', sto') → OutOk X.K C S0 A0 H0 k E o env' sto' → wpSs X sts E σ H
def sNil : Sv := fun env s => some (.nx, env, s)
def sSeq (g h : Sv) : Sv := fun env s => (g env s).bind fun p => match p.1 with
  | .nx => h p.2.1 p.2.2
  | o => some (o, p.2)
def sNever : Sv := fun _ _ => none
end
section
variable {Z : List Addr → Prop} {X : Cx} {st : Stmt} {rest body orelse : List Stmt} {e c : Expr} {f : Ev} {g h : Sv} {t : EvT} {j k n i : Nat} {pos p p2 : Pos} {x : Str}
theorem jss_nil : JSs Z X [] sNil k := fun C S0 S A0 H0 σ H env sto Fs o env' sto' E hZ r q z => by
  cases q
  exact wpSs.by pss_nil (z S σ H Fs r)
theorem jss_cons (h1 : JS Z X st g k) (h2 : JSs Z X rest h k) : JSs Z X (st :: rest) (sSeq g h) k := fun C S0 S A0 H0 σ H env sto Fs o env' sto' E hZ r q z => by
  unfold sSeq at q
  obtain ⟨⟨o1, e1, s1⟩, q1, q⟩ := bind_some' q
  refine wpSs.by (pss_cons wpS_ps wpSs_pss) (h1 C S0 S A0 H0 σ H env sto Fs o1 e1 s1 _ hZ r q1 ?_)
  cases o1 with
  | nx => exact fun S' σ' H' Fs' r' => h2 C S0 S' A0 H0 σ' H' e1 s1 Fs' o env' sto' E hZ r' q z
  | rt d => cases q; exact z
  | bk => cases q; exact z
  | ct => cases q; exact z
theorem js_never : JS Z X st sNever k := fun C S0 S A0 H0 σ H env sto Fs o env' sto' E hZ r q z => nomatch q
theorem js_pass : JS Z X (.Pass pos) sNil k := fun C S0 S A0 H0 σ H env sto Fs o env' sto' E hZ r q z => by
  cases q
  exact wpS.by ps_pass (z S σ H Fs r)
def sBrk : Sv := fun env s => some (.bk, env, s)
def sCnt : Sv := fun env s => some (.ct, env, s)
theorem js_break : JS Z X (.Break pos) sBrk k := fun C S0 S A0 H0 σ H env sto Fs o env' sto' E hZ r q z => by
  cases q
  exact wpS.by ps_break (z S σ H Fs r)
theorem js_continue : JS Z X (.Continue pos) sCnt k := fun C S0 S A0 H0 σ H env sto Fs o env' sto' E hZ r q z => by
  cases q
  exact wpS.by ps_continue (z S σ H Fs r)
/-- name = e -/
def sSet (i k : Nat) (M : List Nat) (f : Ev) : Sv := fun env s => if i < env.length then (f (see M env) s).map fun p => (.nx, (fzIf k p.1 M p.2 env).set i (mkS k p.1), p.2) else none
theorem js_set {M : List Nat} (he : JP X e f j) (hN : X.N.Nodup) (hi : X.N[i]? = some x) (hx : Loc X.env.scope x) (hs : swapsWith e (some (.Name x p)) pos.line X.env = pure false := by rfl) (hf : X.fn x = true ∨ X.env.scope.names.lookup x = some .local := by first | exact .inl rfl | exact .inr rfl | assumption) :
    JS Z X (.Assign [.Name x p] e pos) (sSet i j M f) k := fun C S0 S A0 H0 σ H env sto Fs o env' sto' E hZ r q z => by
  unfold sSet at q
  split at q
  case isFalse => cases q
  rename_i hlt
  obtain ⟨⟨d, s1⟩, q1, q⟩ := map_some' q
  cases q
  refine wpS.by (ps_set hN hi hx wpE_pe hs hf) (r.eval he q1 fun v H' F Fs' r2 rs => ?_)
  exact z S _ _ _ (r2.put (by rw [fzIf_len]; exact hlt) rs)
/-- name = [e for ..] -/
theorem js_comp {M : List Nat} {tg it elt : Expr} {ifs : List Expr} {scope : Scope} {own : List (Str × Nat)} {cpos : Pos} {fi : EvI} {bd : Bd} {fc : EvT} {fe : Ev} (hc : X.calm = true) (hN : X.N.Nodup) (hy : X.N[i]? = some x) (hyl : X.env.scope.names.lookup x = some .local)
    (hsw : swapsWith (.ListComp elt [⟨tg, it, ifs, 0⟩] scope cpos) (some (.Name x p)) pos.line X.env = pure true)
    (hi : JI X tg it fi) (ok : BlkOk X.N X.env.scope scope own) (hg : JG X scope tg bd) (ht : JTs X scope ifs fc) (he : JPB X scope elt fe j) (hown : ∀ d l, bd d = some l → ∀ p ∈ l, p.1 ∈ own.map (·.2))
    (hs : ∀ x, foldedSetIterable it X.env x = pure x) : JS Z X (.Assign [.Name x p] (.ListComp elt [⟨tg, it, ifs, 0⟩] scope cpos) pos) (sSet i (j + 1) M (eComp fi bd fc fe (own.map (·.2)))) k := fun C S0 S A0 H0 σ H env sto Fs o env' sto' E hZ r q z => by
  obtain ⟨g, hg1, hg2⟩ := hg
  obtain ⟨t, ht1, ht2⟩ := ht
  unfold sSet at q
  split at q
  case isFalse => cases q
  rename_i hlt
  obtain ⟨⟨d, s1⟩, q1, q⟩ := map_some' q
  cases q
  refine wpS.by (ps_setLc hc hN hy hyl hsw wpI_pi ok hg1 ht1 wpEB_pe hs) ?_
  refine comp_read hi hg2 ht2 he hown (r.wdM M) (r.rdM M) q1 fun v H' F rs => ?_
  obtain ⟨Fs', r2, rs2⟩ := r.evalR rs
  exact z S _ _ _ (r2.put (by rw [fzIf_len]; exact hlt) rs2)
/-- the same, to be shared -/
theorem js_comp0 {M : List Nat} {tg it elt : Expr} {ifs : List Expr} {scope : Scope} {own : List (Str × Nat)} {cpos : Pos} {fi : EvI} {bd : Bd} {fc : EvT} {fe : Ev} (hc : X.calm = true) (hN : X.N.Nodup) (hy : X.N[i]? = some x) (hyl : X.env.scope.names.lookup x = some .local)
    (hsw : swapsWith (.ListComp elt [⟨tg, it, ifs, 0⟩] scope cpos) (some (.Name x p)) pos.line X.env = pure true)
    (hi : JI X tg it fi) (ok : BlkOk X.N X.env.scope scope own) (hg : JG X scope tg bd) (ht : JTs X scope ifs fc) (he : JPB X scope elt fe j) (hown : ∀ d l, bd d = some l → ∀ p ∈ l, p.1 ∈ own.map (·.2))
    (hs : ∀ x, foldedSetIterable it X.env x = pure x) : JS Z X (.Assign [.Name x p] (.ListComp elt [⟨tg, it, ifs, 0⟩] scope cpos) pos) (sSet i 0 M (eComp fi bd fc fe (own.map (·.2)))) k := fun C S0 S A0 H0 σ H env sto Fs o env' sto' E hZ r q z => by
  obtain ⟨g, hg1, hg2⟩ := hg
  obtain ⟨t, ht1, ht2⟩ := ht
  unfold sSet at q
  split at q
  case isFalse => cases q
  rename_i hlt
  obtain ⟨⟨d, s1⟩, q1, q⟩ := map_some' q
  cases q
  refine wpS.by (ps_setLc hc hN hy hyl hsw wpI_pi ok hg1 ht1 wpEB_pe hs) ?_
  refine comp_read hi hg2 ht2 he hown (r.wdM M) (r.rdM M) q1 fun v H' F rs0 => ?_
  have rs := rs0.zero (r.wdM M)
  obtain ⟨Fs', r2, rs2⟩ := r.evalR rs
  exact z S _ _ _ (r2.put (by rw [fzIf_len]; exact hlt) rs2)
/-- an expression whose value is dropped -/
def sEx (M : List Nat) (f : Ev) : Sv := fun env s => (f (see M env) s).map fun p => (.nx, fzT M p.2 env, p.2)
/-- return e -/
def sRet (M : List Nat) (f : Ev) : Sv := fun env s => (f (see M env) s).map fun p => (.rt p.1, env, p.2)
theorem js_ret {M : List Nat} (he : JP X e f k) : JS Z X (.Return (some e) pos) (sRet M f) k := fun C S0 S A0 H0 σ H env sto Fs o env' sto' E hZ r q z => by
  unfold sRet at q
  obtain ⟨⟨d, s1⟩, q1, q⟩ := map_some' q
  cases q
  refine wpS.by (ps_ret wpE_pe) (r.eval he q1 fun v H' F Fs' r2 rs => z v H' ?_)
  have le : ∀ a, (a ∈ F ∨ A0 a ∨ a ∈ S) → plus F (hd S Fs' A0) a := fun a h => h.imp id .inr
  exact ⟨S, F, r2.s0, r2.ext' rs.ext, r.al0, r.a0S, rs.wd.less le fun a e => .inr (.inr e), rs.nd, fun a ha => r2.old (rs.fr a ha), fun a ha => r2.wd.live (rs.fr a ha), rs.ow.mv (hid_le le) fun a _ o q => q⟩
def sRetN : Sv := fun env s => some (.rt .none, env, s)
theorem js_retN : JS Z X (.Return none pos) sRetN k := fun C S0 S A0 H0 σ H env sto Fs o env' sto' E hZ r q z => by
  cases q
  refine wpS.by ps_retN (z .non H ?_)
  have le : ∀ a, (a ∈ ([] : List Addr) ∨ A0 a ∨ a ∈ S) → hd S Fs A0 a := fun a h => by
    rcases h with h | h
    · exact nomatch h
    · exact .inr h
  exact ⟨S, [], r.s0, r.ext, r.al0, r.a0S, r.wd.less le fun a e => .inr (.inr e), .nil, noF, noF, .atom atomic_none .non⟩
/-- return name, owned -/
def sRetM (i k : Nat) : Sv := fun env s => match env[i]? with
  | some (.ow j d) => if j = k then some (.rt d, env, s) else none
  | _ => none
theorem js_retM (he : X.N[i]? = some x) (hx : Vis X.env.scope x) (hdb : (x == Str.ofString "__debug__") = false := by decide) (hcd : (x == Str.ofString "__classdict__") = false := by decide) : JS Z X (.Return (some (.Name x p)) pos) (sRetM i k) k := fun C S0 S A0 H0 σ H env sto Fs o env' sto' E hZ r q z => by
  unfold sRetM at q
  split at q
  case h_2 => cases q
  rename_i j d he1
  split at q
  case isFalse => cases q
  rename_i hjk
  subst hjk
  cases q
  obtain ⟨u, e1, e2⟩ := r.sl i _ he1
  refine wpS.by (ps_ret (pe_var he hx hdb hcd)) ⟨u, e1, z u H ?_⟩
  have le : ∀ a, (a ∈ Fs i ∨ A0 a ∨ a ∈ S) → hd S Fs A0 a := fun a h => h.imp (fun h => ⟨i, h⟩) id
  exact ⟨S, Fs i, r.s0, r.ext, r.al0, r.a0S, r.wd.less le fun a e => .inr (.inr e), r.nd i, fun a ha => r.fr i a ha, fun a ha => r.ns i a ha, e2.mv (hid_le le) fun a _ o q => q⟩
/-- if -/
def sIf (M : List Nat) (t : EvT) (g h : Sv) : Sv := fun env s => (t (see M env) s).bind fun p => if p.1 = true then g (fzT M p.2 env) p.2 else h (fzT M p.2 env) p.2
theorem js_if {M : List Nat} (hc : JT X c t) (ha : JSs Z X body g k) (hb : JSs Z X orelse h k) : JS Z X (.If c body orelse pos) (sIf M t g h) k := fun C S0 S A0 H0 σ H env sto Fs o env' sto' E hZ r q z => by
  unfold sIf at q
  obtain ⟨⟨b, s1⟩, q1, q⟩ := bind_some' q
  refine wpS.by (ps_if wpT_pt wpSs_pss wpSs_pss) (r.test hc q1 fun H' Fs2 r2 => ?_)
  cases b with
  | true =>
    rw [if_pos rfl]
    exact ha C S0 S A0 H0 σ H' _ s1 Fs2 o env' sto' E hZ r2 (by simpa using q) z
  | false =>
    rw [if_neg Bool.false_ne_true]
    exact hb C S0 S A0 H0 σ H' _ s1 Fs2 o env' sto' E hZ r2 (by simpa using q) z
end
end J
namespace J
open PySem PySem.Spec PyProof.Rows L2

/-! ### data without the token -/
mutual
def noTok : D → Bool
  | .list ds => noTokA ds
  | .tuple ds => noTokA ds
  | .dict es => (match es with
    | [(.none, .int _)] => false
    | _ => true) && noTokE es
  | _ => true
def noTokA : List D → Bool
  | [] => true
  | d :: r => noTok d && noTokA r
def noTokE : List (D × D) → Bool
  | [] => true
  | (_, d) :: r => noTok d && noTokE r
end
section
variable {K : PySem.W.Frag} {S S' : List Addr} {H : Hp}
theorem Rp.retok {v : V} {d : D} (h : Rp K S H v d) : noTok d = true → Rp K S' H v d :=
  Rp.rec (motive_1 := fun v d _ => noTok d = true → Rp K S' H v d) (motive_2 := fun v d _ => noTokA d = true → RpA K S' H v d) (motive_3 := fun v d _ => noTokE d = true → RpK K S' H v d) (motive_4 := fun v d _ => noTokE d = true → RpT K S' H v d)
    (fun _ => .non) (fun b _ => .bl b) (fun i _ => .int i) (fun x _ => .str x) (fun s _ h e => .lst s (h (by rw [noTok] at e; exact e))) (fun s _ h e => .tup s (h (by rw [noTok] at e; exact e)))
    (fun s _ h e => .dK s (h (by simp only [noTok, Bool.and_eq_true] at e; exact e.2))) (fun s _ h e => .dT s (h (by simp only [noTok, Bool.and_eq_true] at e; exact e.2))) (fun s e => by rw [tokD, noTok] at e; simp at e) (fun s _ h e => .sk s (h (by simp only [skD, noTok, noTokE, Bool.and_eq_true] at e; exact e.2.1))) (fun s _ h e => .rK s (h (by simp only [noTok, noTokE, Bool.and_eq_true] at e; exact e.2.2))) (fun s _ h e => .rT s (h (by simp only [noTok, noTokE, Bool.and_eq_true] at e; exact e.2.2)))
    (fun _ => .nil) (fun _ _ a b e => by rw [noTokA, Bool.and_eq_true] at e; exact .cons (a e.1) (b e.2)) (fun _ => .nil) (fun _ _ a b e => by rw [noTokE, Bool.and_eq_true] at e; exact .cons (a e.1) (b e.2)) (fun _ => .nil) (fun _ _ a b e => by rw [noTokE, Bool.and_eq_true] at e; exact .cons (a e.1) (b e.2)) h
end

section
variable {K : PySem.W.Frag} {C C' : Hp} {S0 S : List Addr} {A0 A A2 : Addr → Prop} {H0 H H' : Hp} {σ : Sg} {env : Env} {sto sto' : STO} {Fs : Nat → List Addr} {M : List Nat} {k j k1 k2 : Nat} {v w : V} {d e : D} {F G : List Addr} {i : Nat}
theorem Sr.back (r : Sr K C' S0 S A0 H0 σ H env sto Fs) (h : Same C C') : Sr K C S0 S A0 H0 σ H env sto Fs := { r with pub := fun a o q => r.pub a o (h a o q) }
theorem Sr.chk (r : Sr K C S0 S A0 H0 σ H env sto Fs) : Sr K (hid (hd S Fs A0) H) S0 S A0 H0 σ H env sto Fs := { r with pub := fun _ _ h => h }

/-! ### for -/
def forL (bd : Bd) (body : Sv) : List D → Sv
  | [], env, s => some (.nx, env, s)
  | d :: r, env, s => (bd d).bind fun l => if allLt env.length l = true ∧ noTok d = true then (body (setE env l) s).bind fun p => match p.1 with
      | .nx => forL bd body r p.2.1 p.2.2
      | .ct => forL bd body r p.2.1 p.2.2
      | .bk => some (.nx, p.2)
      | .rt d => some (.rt d, p.2)
    else none
theorem forL_walk {X : Cx} {Z : List Addr → Prop} {bd : Bd} {body : List Stmt} {gb : Sv} {g : TG} {ds : List D} {J : It} {o : Out} {env' : Env} {E : Ends} (hZ : Z S0)
    (r : Sr X.K C S0 S A0 H0 σ H env sto Fs) (wk : Walk J ds.length (fun H1 => Same (hid (hd S Fs A0) H) H1) (YD X.K S (hd S Fs A0) H ds)) (hg : gSpec X.K g bd) (hb : JSs Z X body gb k)
    (q : forL bd gb ds env sto = some (o, env', sto')) (z : OutOk X.K C S0 A0 H0 k E o env' sto') :
    ∃ W : Nat → Nat → L2.St → Hp → Prop, (∃ m, W 0 m σ H) ∧ ∀ i m σ H, W i m σ H →
      (J.stop i H ∧ E.nx σ H) ∨ (J.go i H ∧ ∃ N : L2.St → Hp → Prop, (∀ σ' H', N σ' H' → ∃ m', m' < m ∧ W (i + 1) m' σ' H') ∧ ∀ x H', J.yld i H x H' → g x σ H' fun σ2 H2 => wpSs X body { E with nx := N, ct := N, bk := E.nx } σ2 H2) := by
  have r0 := r.chk
  refine for_it wk (tb := wpSs X body) (D := E) (fun i σ Hi => ∃ env1 s1 S1 Fs1, Sr X.K (hid (hd S Fs A0) H) S0 S1 A0 H0 σ Hi env1 s1 Fs1 ∧ forL bd gb (ds.drop i) env1 s1 = some (o, env', sto')) ⟨env, sto, S, Fs, r0, by simpa using q⟩ ?_ ?_ ?_
  · rintro i σ1 Hi _ ⟨env1, s1, S1, Fs1, r1, _⟩
    exact fun a o q => same_hid a o (r1.pub a o q)
  · rintro i x σ1 Hi H' hi ⟨env1, s1, S1, Fs1, r1, q1⟩ ⟨dx, e3, hH', rp⟩
    have hdrop : ds.drop i = dx :: ds.drop (i + 1) := by
      obtain ⟨hlt, e⟩ := List.getElem?_eq_some_iff.mp e3
      rw [List.drop_eq_getElem_cons hlt, e]
    rw [hdrop] at q1
    unfold forL at q1
    obtain ⟨l, el, q1⟩ := bind_some' q1
    split at q1
    case isFalse => cases q1
    rename_i hc
    obtain ⟨⟨o1, e1, s2⟩, eb, q1⟩ := bind_some' q1
    have smi : Same Hi H' := by
      rcases hH' with rfl | ⟨T, o, hT, rfl⟩
      · exact fun _ _ h => h
      · exact same_upd hT
    have px : Rp X.K S1 (hid (hd S1 Fs1 A0) H') x dx := (rp _ r1.pub r1.wd.alt).retok hc.2
    have r2 : Sr X.K (hid (hd S Fs A0) H) S0 S1 A0 H0 σ1 H' env1 s1 Fs1 := r1.go (Ext.of smi) (r1.wd.grow smi (fun a h => .inl h) fun a h => h)
    refine hg S1 σ1 _ H' x dx l _ same_hid px el fun vl sl => ?_
    obtain ⟨Fs2, r3, _⟩ := r2.putL hc.1 sl
    refine hb _ S0 S1 A0 H0 _ H' _ s1 Fs2 o1 e1 s2 _ hZ r3 eb ?_
    cases o1 with
    | nx => exact fun S' σ' H' Fs' r' => ⟨e1, s2, S', Fs', r', q1⟩
    | ct => exact fun S' σ' H' Fs' r' => ⟨e1, s2, S', Fs', r', q1⟩
    | rt d => cases q1; exact z
    | bk => cases q1; exact fun S' σ' H' Fs' r' => z S' σ' H' Fs' (r'.back r.pub)
  · rintro σ1 Hi ⟨env1, s1, S1, Fs1, r1, q1⟩
    rw [List.drop_length] at q1
    cases q1
    exact z S1 σ1 Hi Fs1 (r1.back r.pub)
def sFor (M : List Nat) (fi : EvI) (bd : Bd) (body : Sv) : Sv := fun env s => (fi (see M env) s).bind fun p => forL bd body p.1 (fz M env) p.2
def sFor0 (M : List Nat) (fi : EvI) (bd : Bd) (body : Sv) : Sv := fun env s => (fi (see M env) s).bind fun p => if okM M p.2 = true then forL bd body p.1 env p.2 else none
/-- a walk over what no slot's change can touch -/
def JI0 (X : Cx) (tg it : Expr) (fi : EvI) : Prop := ∀ A A2 S σ H vw sto ds sto' (R : It → Hp → Prop), (∀ a, A a → A2 a) → Wd X.K S A2 H sto → Wd X.K S A H sto → RdV X.K S A σ H vw → fi vw sto = some (ds, sto') → (A2 = A ∨ sto'.all scalCell = true) →
  (∀ J H', Ext S H H' → Wd X.K S A2 H' sto' → Walk J ds.length (fun H1 => Same (hid A2 H') H1) (YD X.K S A2 H' ds) → R J H') → wpI X tg it σ H R
end
section
variable {Z : List Addr → Prop} {X : Cx} {st : Stmt} {rest body orelse : List Stmt} {tg it e a b c : Expr} {f g : Ev} {gb : Sv} {gt : TG} {bd : Bd} {fi : EvI} {t : EvT} {j k n i : Nat} {pos p p2 : Pos} {x : Str} {M : List Nat}
theorem js_for (hp : PassesOwn (model X.prog X.w) X.A X.env X.xe) (hc : X.calm = true) (hi : JI X tg it fi) (hg : PG X tg gt) (hgs : gSpec X.K gt bd) (hb : JSs Z X body gb k) (hs : ∀ x, foldedSetIterable it X.env x = pure x := by intro _; rfl) :
    JS Z X (.For tg it body [] pos) (sFor M fi bd gb) k := fun C S0 S A0 H0 σ H env sto Fs o env' sto' E hZ r q z => by
  unfold sFor at q
  obtain ⟨⟨ds, s1⟩, q1, q⟩ := bind_some' q
  refine wpS.by (ps_for hp hc wpI_pi hg wpSs_pss hs) ?_
  have r1 := r.freeze M
  refine hi _ S σ H _ sto ds s1 _ (r.wdM M) (r.rdM M) q1 fun J H1 x1 w1 wk => ?_
  rw [← hd_fz] at w1 wk
  exact forL_walk hZ (r1.go x1 w1) wk hgs hb q z
theorem js_for0 (hp : PassesOwn (model X.prog X.w) X.A X.env X.xe) (hc : X.calm = true) (hi : JI0 X tg it fi) (hg : PG X tg gt) (hgs : gSpec X.K gt bd) (hb : JSs Z X body gb k) (hs : ∀ x, foldedSetIterable it X.env x = pure x := by intro _; rfl) :
    JS Z X (.For tg it body [] pos) (sFor0 M fi bd gb) k := fun C S0 S A0 H0 σ H env sto Fs o env' sto' E hZ r q z => by
  unfold sFor0 at q
  obtain ⟨⟨ds, s1⟩, q1, q⟩ := bind_some' q
  simp only at q
  split at q
  case isFalse => cases q
  rename_i hok
  refine wpS.by (ps_for hp hc wpI_pi hg wpSs_pss hs) ?_
  refine hi _ _ S σ H _ sto ds s1 _ hdM_le r.wd (r.wdM M) (r.rdM M) q1 (okM_g hok) fun J H1 x1 w1 wk => ?_
  exact forL_walk hZ (r.go x1 w1) wk hgs hb q z
/-- over a new list of plain things -/
def iVal0 (k : Nat) (f : Ev) : EvI := fun vw s => (f vw s).bind fun p => match p.1 with
  | .list ds => if full k (.list ds) = true then some (ds, p.2) else none
  | _ => none
theorem ji0_val (ha : JP X a f k) : JI0 X tg a (iVal0 k f) := fun A A2 S σ H vw sto ds sto' R hA w2 w r q g2 z => by
  unfold iVal0 at q
  obtain ⟨⟨x, s1⟩, e1, q⟩ := bind_some' q
  simp only at q
  split at q
  · split at q
    · rename_i hf
      cases q
      refine wpI.by (pi_list wpE_pe) (ha A S σ H vw sto _ _ _ w r e1 fun v H1 F rs => ?_)
      have rs2 := rs.full hf w2 g2
      have p1 := rs2.rp w2
      obtain ⟨l, xs, rfl, r2, q2⟩ := p1.lstI
      exact ⟨l, rfl, ⟨xs, .inl r2.out⟩, z _ H1 rs2.ext (rs2.wd.less (fun a h => .inr h) w2.hS) (walk_dl r2 q2)⟩
    · cases q
  · cases q
theorem ji0_range1 (ha : JP X a f 0) (hg : Gl X "range") (hm : X.mg "range" = none) (hs : starEach [a] X.env = [(false, eval a X.env)] := by rfl) : JI0 X tg (.Call (.Name "range" p) [a] [] pos) (iU rg1 f) := fun A A2 S σ H vw sto ds sto' R hA w2 w r q g2 z => by
  obtain ⟨x, e1, e2⟩ := iU_some q
  obtain ⟨j, rfl, ⟨b1, b2⟩, rfl⟩ := rg1_some e2
  refine wpI.by (pi_range1 hg hm (pa_cons wpE_pe pa_nil hs) hs) (ha.use w r e1 fun v H1 x1 w1 r1 p1 => ?_)
  exact ⟨j, by rw [p1.intI], b1, b2, z _ H1 x1 (w2.wide x1 w1 g2) walk_dr⟩
theorem ji0_range2 (ha : JP X a f 0) (hb : JP X b g 0) (hg : Gl X "range") (hm : X.mg "range" = none) (hs : starEach [a, b] X.env = [(false, eval a X.env), (false, eval b X.env)] := by rfl) (hs2 : starEach [b] X.env = [(false, eval b X.env)] := by rfl)
    (hs' : starEach [a, b] X.env = (false, eval a X.env) :: starEach [b] X.env := by rfl) : JI0 X tg (.Call (.Name "range" p) [a, b] [] pos) (iB rg2 f g) := fun A A2 S σ H vw sto ds sto' R hA w2 w r q g2 z => by
  obtain ⟨x, s1, y, e1, e2, e3⟩ := iB_some q
  obtain ⟨i, j, rfl, rfl, ⟨b1, b2⟩, ⟨b3, b4⟩, rfl⟩ := rg2_some e3
  refine wpI.by (pi_range2 hg hm (pa_cons wpE_pe (pa_cons wpE_pe pa_nil hs2) hs') hs hs2) (ha.use2 hb w r e1 e2 fun v u H1 x1 w1 r1 p1 p2 => ?_)
  exact ⟨i, j, by rw [p1.intI, p2.intI], ⟨b1, b2, b3, b4⟩, z _ H1 x1 (w2.wide x1 w1 g2) walk_dr⟩
theorem ji0_revRg {er : Expr} {fr : VW → STO → Option ((Int × Int) × STO)} (he : JRg X er fr) (hg : Gl X "reversed") (hm : X.mg "reversed" = none) (hs : starEach [er] X.env = (false, eval er X.env) :: starEach [] X.env := by rfl) : JI0 X tg (.Call (.Name "reversed" p) [er] [] pos) (iRevRg fr) := fun A A2 S σ H vw sto ds sto' R hA w2 w r q g2 z => by
  unfold iRevRg at q
  obtain ⟨⟨⟨lo, hi⟩, s1⟩, e1, q⟩ := bind_some' q
  simp only at q
  split at q
  · rename_i hb
    cases q
    obtain ⟨t, ht, hq⟩ := he
    obtain ⟨b1, b2⟩ := inRg_iff hb.1
    obtain ⟨b3, b4⟩ := inRg_iff hb.2
    exact wpI.by (pi_revR hg hm ht hs) (hq A S σ H vw sto _ _ _ w r e1 fun H1 x1 w1 => ⟨b1, b2, b3, b4, z _ H1 x1 (w2.wide x1 w1 g2) walk_drc⟩)
  · cases q

/-! ### two values into two names -/
theorem Res.less {K : PySem.W.Frag} {S : List Addr} {A A' : Addr → Prop} {H H' : Hp} {sto' : STO} {k : Nat} {v : V} {d : D} {F : List Addr} (r : Res K S A H sto' k H' v d F) (h : ∀ a, A' a → A a) (hS : ∀ a, a ∈ S → A' a) : Res K S A' H sto' k H' v d F :=
  ⟨r.ext, r.wd.less (fun a ha => ha.imp id (h a)) (fun a e => .inr (hS a e)), r.nd, r.fr, r.ow.mv (hid_le fun a ha => ha.imp id (h a)) fun a _ o q => q⟩
def sPar (i j k1 k2 : Nat) (M1 M2 : List Nat) (f g : Ev) : Sv := fun env s => if i < env.length ∧ j < env.length then
  (f (see M1 env) s).bind fun p => (g (see M2 (fzIf k1 p.1 M1 p.2 env)) p.2).map fun q => (.nx, ((fzIf k2 q.1 M2 q.2 (fzIf k1 p.1 M1 p.2 env)).set i (mkS k1 p.1)).set j (mkS k2 q.1), q.2) else none
theorem js_par {y : Str} {k1 k2 : Nat} {M1 M2 : List Nat} {px py pt : Pos} {kt k3 pt2} (ha : JP X a f k1) (hb : JP X b g k2) (hc : X.calm = true) (hN : X.N.Nodup) (hi : X.N[i]? = some x) (hj : X.N[j]? = some y) (hij : i ≠ j)
    (hx : X.env.scope.names.lookup x = some .local) (hy : X.env.scope.names.lookup y = some .local)
    (hw : swappedStores [.Tuple [.Name x px, .Name y py] kt pt] (.Tuple [a, b] k3 pt2) X.env = pure (some [x, y]))
    (hs : swapsWithSole [.Tuple [.Name x px, .Name y py] kt pt] (.Tuple [a, b] k3 pt2) pos.line X.env = pure false := by rfl)
    (hs1 : starEach [a, b] X.env = (false, eval a X.env) :: starEach [b] X.env := by rfl) (hs2 : starEach [b] X.env = (false, eval b X.env) :: starEach [] X.env := by rfl) :
    JS Z X (.Assign [.Tuple [.Name x px, .Name y py] kt pt] (.Tuple [a, b] k3 pt2) pos) (sPar i j k1 k2 M1 M2 f g) k := fun C S0 S A0 H0 σ H env sto Fs o env' sto' E hZ r q z => by
  unfold sPar at q
  split at q
  case isFalse => cases q
  rename_i hlt
  obtain ⟨⟨d1, s1⟩, q1, q⟩ := bind_some' q
  obtain ⟨⟨d2, s2⟩, q2, q⟩ := map_some' q
  cases q
  simp only at q2
  refine wpS.by (ps_par hc hN hi hj hij hx hy (pa_cons wpE_pe (pa_cons wpE_pe pa_nil hs2) hs1) hw hs) (r.eval ha q1 fun v H1 F Fs' r1 rs1 => ?_)
  have rd2 : RdV X.K S (plus F (hdM S M2 Fs' A0)) σ H1 (see M2 (fzIf k1 d1 M1 s1 env)) := (r1.rdM M2).move rs1.ext (r1.wdM M2).hS fun a h => by
    rcases h with h | h
    · exact .inr (rs1.fr a h)
    · exact .inl h
  have w2 : Wd X.K S (plus F (hdM S M2 Fs' A0)) H1 s1 := rs1.wd.less (fun a h => h.imp id (hdM_le a)) fun a e => .inr (.inr (.inr e))
  refine hb _ S σ H1 _ s1 d2 s2 _ w2 rd2 q2 fun u H2 G rs2 => ?_
  refine ⟨v, u, rfl, ?_⟩
  have fin : ∃ Fs2, Sr X.K C S0 S A0 H0 σ H (fzIf k2 d2 M2 s2 (fzIf k1 d1 M1 s1 env)) sto Fs2 ∧ (∀ a, hd S Fs2 A0 a → hd S Fs' A0 a) ∧ Res X.K S (plus F (hd S Fs2 A0)) H1 s2 k2 H2 u d2 G := by
    by_cases h : (full k2 d2 && okM M2 s2) = true
    · have h' := h
      rw [Bool.and_eq_true] at h'
      refine ⟨Fs', by rw [show fzIf k2 d2 M2 s2 (fzIf k1 d1 M1 s1 env) = fzIf k1 d1 M1 s1 env from if_pos h]; exact r1, fun a h => h, rs2.full h'.1 rs1.wd ?_⟩
      exact (okM_g (S := S) (Fs := Fs') (A0 := A0) h'.2).imp (fun e => by rw [e]) id
    · exact ⟨fzF M2 Fs', by rw [show fzIf k2 d2 M2 s2 (fzIf k1 d1 M1 s1 env) = fz M2 (fzIf k1 d1 M1 s1 env) from if_neg h]; exact r1.freeze M2, by rw [hd_fz]; exact hdM_le, by rw [hd_fz]; exact rs2⟩
  obtain ⟨Fs2, r2, le2, rs3⟩ := fin
  have r3 := r2.put (i := i) (by rw [fzIf_len, fzIf_len]; exact hlt.1) (rs1.less le2 fun a e => .inr (.inr e))
  have rs4 := rs3.less (A' := hd S (setF Fs2 i F) A0) (fun a h => hd_set r2 a h) fun a e => .inr (.inr e)
  have r4 := r3.put (i := j) (by rw [List.length_set, fzIf_len, fzIf_len]; exact hlt.2) rs4
  exact z S _ _ _ r4

/-! ### one value into names -/
def sBind (M : List Nat) (bd : Bd) (f : Ev) : Sv := fun env s => (f (see M env) s).bind fun p => (bd p.1).bind fun l => if allLt env.length l = true then some (.nx, setE (fz M env) l, p.2) else none
theorem js_bind (he : JP X e f 0) (hg : PG X tg gt) (hgs : gSpec X.K gt bd) (hs : swapsWithSole [tg] e pos.line X.env = pure false := by rfl) (hw : swappedStores [tg] e X.env = pure none := by rfl)
    (h1 : (assignEach [tg] X.env).map (·.2) = [assign tg X.env] := by rfl) : JS Z X (.Assign [tg] e pos) (sBind M bd f) k := fun C S0 S A0 H0 σ H env sto Fs o env' sto' E hZ r q z => by
  unfold sBind at q
  obtain ⟨⟨d, s1⟩, q1, q⟩ := bind_some' q
  obtain ⟨l, q2, q⟩ := bind_some' q
  split at q
  case isFalse => cases q
  rename_i hl
  cases q
  refine wpS.by (ps_asg wpE_pe hg hs hw h1) (he.use (r.wdM M) (r.rdM M) q1 fun v H1 x1 w1 r1 p1 => ?_)
  have r2 := r.freeze M
  rw [← hd_fz] at w1 p1
  have r3 := r2.go x1 w1
  refine hgs S σ _ H1 v d l _ same_hid p1 q2 fun vl sl => ?_
  obtain ⟨Fs2, r4, _⟩ := r3.putL (by unfold fz; rw [fzI_len]; exact hl) sl
  exact z S _ _ _ r4
/-- a list of two -/
def bL2 (i j : Nat) : Bd
  | .list [x, y] => some [(i, x), (j, y)]
  | _ => none
theorem gspec_lst2 {K : PySem.W.Frag} {i j : Nat} : gSpec K (gUnl K 2 (gCons (gName i) (gCons (gName j) gNil))) (bL2 i j) := fun S σ H H0 v d l Q sm p e z => by
  unfold bL2 at e
  split at e
  · cases e
    obtain ⟨a, xs, rfl, r, q⟩ := p.lstI
    obtain ⟨x, y, rfl, p1, p2⟩ := q.two
    exact ⟨a, [x, y], rfl, .inl (Rd.le sm r), rfl, x, [y], rfl, y, [], rfl, rfl, z [(i, x), (j, y)] (.cons ⟨rfl, p1⟩ (.cons ⟨rfl, p2⟩ .nil))⟩
  · cases e

/-! ### name += int -/
def sAug (i : Nat) (M : List Nat) (op : Int → Int → Int) (f : Ev) : Sv := fun env s => match env[i]? with
  | some (.sh (.int m)) => (f (see M env) s).bind fun p => match p.1 with
    | .int n => some (.nx, (fzT M p.2 env).set i (.sh (.int (op m n))), p.2)
    | _ => none
  | _ => none
theorem js_aug {op : Operator} {fo : Int → Int → Int} (ho : PIp X op (ipI fo)) (he : JP X e f 0) (hN : X.N.Nodup) (hi : X.N[i]? = some x) (hx : Loc X.env.scope x) (hf : X.fn x = true ∨ X.env.scope.names.lookup x = some .local := by first | exact .inl rfl | exact .inr rfl | assumption) :
    JS Z X (.AugAssign (.Name x p) op e pos) (sAug i M fo f) k := fun C S0 S A0 H0 σ H env sto Fs o env' sto' E hZ r q z => by
  unfold sAug at q
  split at q
  case h_2 => cases q
  rename_i m hm
  obtain ⟨⟨d, s1'⟩, q1, q⟩ := bind_some' q
  simp only at q
  split at q
  case h_2 => cases q
  rename_i n
  cases q
  obtain ⟨_, u, e1, e2⟩ := r.sl i _ hm
  obtain rfl := e2.intI
  refine wpS.by (ps_aug hN hi hx wpE_pe ho hf) ⟨_, e1, r.eval he q1 fun v H' F Fs' r2 rs => ?_⟩
  have hfz : fzIf 0 (.int n) M sto' env = fzT M sto' env := rfl
  rw [hfz] at r2
  obtain rfl := (rs.ow.scal (S' := S) (H' := H') (show isScal (.int n) = true from rfl)).intI
  refine ⟨m, n, rfl, rfl, z S _ _ _ ((r2.go rs.ext (rs.wd.less (fun a h => .inr h) r2.wd.hS)).putS ?_ (.int _))⟩
  obtain ⟨hlt, _⟩ := List.getElem?_eq_some_iff.mp hm
  rw [fzT_len]
  exact hlt

/-! ### store[i] = e -/
/-- the store and a value behind a reading -/
theorem Sr.evalS {K : PySem.W.Frag} {C : Hp} {S0 S : List Addr} {A0 : Addr → Prop} {H0 H H' : Hp} {σ : Sg} {env : Env} {sto sto' : STO} {Fs : Nat → List Addr} {M : List Nat} {v : V} {d : D} (r : Sr K C S0 S A0 H0 σ H env sto Fs) (x : Ext S H H') (w : Wd K S (hdM S M Fs A0) H' sto') (p : Rp K S (hid (hdM S M Fs A0) H') v d) :
    ∃ Fs', Sr K C S0 S A0 H0 σ H' (fzIf 0 d M sto' env) sto' Fs' ∧ Rp K S (hid (hd S Fs' A0) H') v d := by
  by_cases h : (full 0 d && okM M sto') = true
  · have h' := h
    rw [Bool.and_eq_true, full_zero] at h'
    exact ⟨Fs, by unfold fzIf; rw [if_pos h]; exact r.go x (r.wd.wide x w (okM_g h'.2)), scal_rp h'.1 p⟩
  · exact ⟨fzF M Fs, by unfold fzIf; rw [if_neg h]; exact (r.freeze M).go x (by rw [hd_fz]; exact w), by rw [hd_fz]; exact p⟩
def sSto (M : List Nat) (fp fi fv : Ev) : Sv := fun env s => (fv (see M env) s).bind fun p => (fp (see M env) p.2).bind fun q => (isTok q.1).bind fun j => (fi (see M env) q.2).bind fun u => match u.1 with
    | .int n => (cellL u.2 j).bind fun ds => (ixN ds.length n).map fun m => (.nx, fzIf 0 p.1 M u.2 env, u.2.set j (.lst (ds.set m p.1)))
    | _ => none
theorem CellOk.upd {K : PySem.W.Frag} {S : List Addr} {A : Addr → Prop} {H : Hp} {a b : Addr} {o : HO} {c : Cell} (h : CellOk K S A H b c) (ha : A a) (hne : b ≠ a) (hc : ∀ q, H a ≠ some (LamX.CodeO a q)) : CellOk K S A (L2.upd H a o) b c :=
  h.keep (by rw [hid_upd ha]; exact fun _ _ h => h) (fun x hx => by rw [upd_ne hne]; exact hx) fun c q hq => by
    rw [upd_ne (fun e : c = a => hc q (e ▸ hq))]
    exact hq
/-- a cell's object is written -/
theorem Wd.put {K : PySem.W.Frag} {S : List Addr} {A : Addr → Prop} {H : Hp} {sto : STO} {j : Nat} {a : Addr} {o : HO} {c : Cell} (w : Wd K S A H sto) (hS : S[j]? = some a) (hc : CellOk K S A (L2.upd H a o) a c) :
    Ext S H (L2.upd H a o) ∧ Wd K S A (L2.upd H a o) (sto.set j c) := by
  have hm : a ∈ S := List.mem_of_getElem? hS
  obtain ⟨c0, h0, ok0⟩ := w.cell hS
  refine ⟨fun b x hb e => ?_, fun b hb => ?_, w.hS, w.nds, by rw [List.length_set]; exact w.len, fun i b ci h1 h2 => ?_⟩
  · rw [upd_ne (fun e : b = a => hb (e ▸ hm))]; exact e
  · by_cases e : b = a
    · rw [e]; exact hc.hdn
    · rw [upd_ne e]; exact w.alt b hb
  · by_cases e : j = i
    · subst e
      rw [hS] at h1
      cases h1
      have hl := (List.getElem?_eq_some_iff.mp h0).1
      rw [List.getElem?_set, if_pos rfl, if_pos hl] at h2
      cases h2
      exact hc
    · rw [List.getElem?_set_ne e] at h2
      refine (w.st i b ci h1 h2).upd (w.hS a hm) (fun q => ?_) fun q => ok0.notCode
      subst q
      have l1 := (List.getElem?_eq_some_iff.mp h1).1
      have l2 := (List.getElem?_eq_some_iff.mp hS).1
      have e1 := (List.getElem?_eq_some_iff.mp h1).2
      have e2 := (List.getElem?_eq_some_iff.mp hS).2
      exact e ((List.getElem_inj w.nds).mp (e2.trans e1.symm))
/-- an item of a list in a cell is written -/
theorem Wd.store {K : PySem.W.Frag} {S : List Addr} {A : Addr → Prop} {H : Hp} {sto : STO} {ds : List D} {j : Nat} {a : Addr} (w : Wd K S A H sto) (hS : S[j]? = some a) (hl : J.cellL sto j = some ds) {m : Nat} {v : V} {d : D} (p : Rp K S (hid A H) v d) :
    ∃ vs, H a = some (.lst vs) ∧ vs.length = ds.length ∧ Ext S H (L2.upd H a (.lst (vs.set m v))) ∧ Wd K S A (L2.upd H a (.lst (vs.set m v))) (sto.set j (.lst (ds.set m d))) := by
  obtain ⟨vs, h1, h2⟩ := w.cellL hS hl
  refine ⟨vs, h1, h2.length, w.put hS ⟨_, upd_same, ?_⟩⟩
  rw [hid_upd (w.hS a (List.mem_of_getElem? hS))]
  exact h2.set p m
theorem js_sto {io : Expr} {fp fv : Ev} {tpos : Pos} (hv : JP X e fv 0) (ho : JP X a fp 0) (hi : JP X io f 0) (hs : swapsWithSole [.Subscript a io tpos] e pos.line X.env = pure false := by rfl) (hw : swappedStores [.Subscript a io tpos] e X.env = pure none := by rfl)
    (h1 : (assignEach [.Subscript a io tpos] X.env).map (·.2) = [assign (.Subscript a io tpos) X.env] := by rfl)
    (hg : ∀ {to ti : TE}, PE X a to → PE X io ti → PG X (.Subscript a io tpos) (gSub to ti rSetL)) : JS Z X (.Assign [.Subscript a io tpos] e pos) (sSto M fp f fv) k := fun C S0 S A0 H0 σ H env sto Fs o env' sto' E hZ r q z => by
  unfold sSto at q
  obtain ⟨⟨d, s1⟩, q1, q⟩ := bind_some' q
  obtain ⟨⟨dt, s2⟩, q2, q⟩ := bind_some' q
  obtain ⟨jj, ht, q⟩ := bind_some' q
  obtain ⟨⟨di, s3⟩, q3, q⟩ := bind_some' q
  simp only at q
  split at q
  case h_2 => cases q
  rename_i n
  obtain ⟨ds, q5, q⟩ := bind_some' q
  obtain ⟨m, q4, q⟩ := map_some' q
  cases q
  have ht := isTok_eq ht
  simp only at ht q2 q3
  subst ht
  refine wpS.by (ps_asg wpE_pe (hg wpE_pe wpE_pe) hs hw h1) (hv.use (r.wdM M) (r.rdM M) q1 fun v H1 x1 w1 r1 p1 => ho.use w1 r1 q2 fun vo H2 x2 w2 r2 p2 => hi.use w2 r2 q3 fun vi H3 x3 w3 r3 p3 => ?_)
  obtain ⟨a, rfl, hS⟩ := p2.tokI
  obtain ⟨Fs', r5, p5⟩ := r.evalS ((x1.trans x2).trans x3) w3 (p1.le (hid_move (x2.trans x3) w1.hS fun a h => .inl h))
  obtain ⟨vs, e1, e2, x4, w5⟩ := r5.wd.store hS q5 (m := m) p5
  refine ⟨a, vs, n, m, rfl, p3.intI, e1, by rw [e2]; exact q4, z S _ _ _ (r5.go x4 w5)⟩

/-! ### a list is added to -/
theorem hid_fresh {A : Addr → Prop} {H : Hp} {a : Addr} {o : HO} (h : hid A H a = some o) : H a = some o := (hid_eq.mp h).2
theorem js_ex {M : List Nat} (he : JP X e f 0) (hs : swapsWith e none pos.line X.env = pure false := by rfl) : JS Z X (.Expr e pos) (sEx M f) k := fun C S0 S A0 H0 σ H env sto Fs o env' sto' E hZ r q z => by
  unfold sEx at q
  obtain ⟨⟨d, s1⟩, q1, q⟩ := map_some' q
  cases q
  refine wpS.by (ps_expr wpE_pe hs) (he.use (r.wdM M) (r.rdM M) q1 fun v H1 x1 w1 r1 p1 => by
    obtain ⟨Fs', r2⟩ := r.goM x1 w1
    exact z S _ _ _ r2)
end
end J
namespace J
open PySem PySem.Spec PyProof.Rows L2

section
variable {K : PySem.W.Frag} {S : List Addr} {A : Addr → Prop} {H : Hp}
theorem Ow.lstI {k : Nat} {v : V} {ds : List D} {F : List Addr} (h : Ow K S A H (k + 1) v (.list ds) F) : ∃ a vs F0, v = .ref a ∧ F = a :: F0 ∧ H a = some (.lst vs) ∧ OwA K S A H k vs ds F0 := by
  cases h with
  | «at» h1 h2 r => exact absurd rfl (h1 ds)
  | lst e t => exact ⟨_, _, _, rfl, rfl, e, t⟩
/-- one item of owned ones -/
theorem OwA.split : ∀ {k : Nat} {vs : List V} {ds : List D} {F : List Addr} {j : Nat} {d : D}, OwA K S A H k vs ds F → ds[j]? = some d →
    ∃ v F1 Fj F2, vs[j]? = some v ∧ F = F1 ++ (Fj ++ F2) ∧ OwA K S A H k (vs.take j) (ds.take j) F1 ∧ Ow K S A H k v d Fj ∧ OwA K S A H k (vs.drop (j + 1)) (ds.drop (j + 1)) F2
  | _, _, _, _, _, _, .nil, h => by simp at h
  | k, _, _, _, 0, d, .cons (v := v) (F := F) (G := G) a b, h => by
    simp at h; subst h
    exact ⟨v, [], F, G, rfl, rfl, .nil, a, b⟩
  | k, _, _, _, j + 1, d, .cons (v := v) (vs := vs) (ds := ds) (F := F) (G := G) a b, h => by
    obtain ⟨w, F1, Fj, F2, e1, e2, o1, o2, o3⟩ := OwA.split (j := j) b (by simpa using h)
    refine ⟨w, F ++ F1, Fj, F2, by simpa using e1, by rw [e2, List.append_assoc], ?_, o2, o3⟩
    exact .cons a o1
theorem set_split {α : Type} : ∀ (xs : List α) (j : Nat) (x : α), j < xs.length → xs.set j x = xs.take j ++ (x :: xs.drop (j + 1))
  | [], _, _, h => absurd h (Nat.not_lt_zero _)
  | y :: r, 0, x, _ => rfl
  | y :: r, j + 1, x, h => by
    show y :: r.set j x = y :: (r.take j ++ (x :: r.drop (j + 1)))
    rw [set_split r j x (Nat.lt_of_succ_lt_succ h)]
end

section
variable {Z : List Addr → Prop} {X : Cx} {st : Stmt} {rest body orelse : List Stmt} {tg it e a b c : Expr} {f g : Ev} {gb : Sv} {gt : TG} {bd : Bd} {fi : EvI} {t : EvT} {j k n i l : Nat} {pos p p2 apos cpos : Pos} {x y : Str} {M : List Nat}
/-- name.append(e) -/
def sApp (i : Nat) (M : List Nat) (k : Nat) (g : Ev) : Sv := fun env s => (g (see M env) s).bind fun p => match (fzIf k p.1 M p.2 env)[i]? with
  | some (.ow (k' + 1) (.list ds)) => if k' = k ∧ ds.length < 16777216 then some (.nx, (fzIf k p.1 M p.2 env).set i (.ow (k + 1) (.list (ds ++ [p.1]))), p.2) else none
  | _ => none
theorem js_app (he : JP X e g j) (hi : X.N[i]? = some x) (hx : Vis X.env.scope x) (hdb : (x == Str.ofString "__debug__") = false := by decide) (hcd : (x == Str.ofString "__classdict__") = false := by decide)
    (hbase : attributeBase (.Name x p) "append" X.env (eval (.Name x p) X.env) = eval (.Name x p) X.env := by rfl)
    (hfew : ((backTo cpos (starEach [e] X.env)).all (fun x => !x.1) && (backToKw cpos (keywordEach [] X.env)).all (fun x => x.1.isSome) && decide ([e].length + ([] : List Keyword).length + (if ([] : List Keyword).isEmpty then 0 else 1) < 30)) = true := by rfl)
    (hline : (apos.endLine == cpos.line) = true := by rfl) (hs : starEach [e] X.env = (false, eval e X.env) :: starEach [] X.env := by rfl) (hsw : swapsWith (.Call (.Attribute (.Name x p) "append" apos) [e] [] cpos) none pos.line X.env = pure false := by rfl) :
    JS Z X (.Expr (.Call (.Attribute (.Name x p) "append" apos) [e] [] cpos) pos) (sApp i M j g) k := fun C S0 S A0 H0 σ H env sto Fs o env' sto' E hZ r q z => by
  unfold sApp at q
  obtain ⟨⟨d, s1⟩, q1, q⟩ := bind_some' q
  simp only at q
  split at q
  case h_2 => cases q
  rename_i k' ds hsl
  split at q
  case isFalse => cases q
  rename_i hk
  obtain ⟨rfl, hlen⟩ := hk
  cases q
  have hlt : i < (fzIf k' d M sto' env).length := (List.getElem?_eq_some_iff.mp hsl).1
  -- the receiver
  have hrc : ∃ a0 vs0, σ[i]? = some (some (.ref a0)) ∧ H a0 = some (.lst vs0) := by
    have : ∃ d', env[i]? = some (.ow (k' + 1) d') ∧ d' = .list ds := by
      unfold fzIf at hsl
      split at hsl
      · exact ⟨_, hsl, rfl⟩
      · rw [fz_get] at hsl
        cases e1 : env[i]? with
        | none => rw [e1] at hsl; cases hsl
        | some s =>
          rw [e1] at hsl
          have h' : fzS (M.contains i) s = .ow (k' + 1) (.list ds) := Option.some.inj hsl
          cases s with
          | no => cases h'
          | sh d' => cases h'
          | ow k2 d' =>
            have h' : (if M.contains i = true then Slot.sh d' else .ow k2 d') = .ow (k' + 1) (.list ds) := h'
            split at h'
            · cases h'
            · cases h'; exact ⟨_, rfl, rfl⟩
    obtain ⟨d', e1, rfl⟩ := this
    obtain ⟨u, e2, ow⟩ := r.sl i _ e1
    obtain ⟨a0, vs0, F0, rfl, _, e3, _⟩ := ow.lstI
    exact ⟨a0, vs0, e2, e3⟩
  obtain ⟨a0, vs0, hσ, hH⟩ := hrc
  refine wpS.by (ps_expr (pe_bm PySem.F.plainAttrs_list PySem.F.slot_list_append rfl mt_append (pe_var hi hx hdb hcd) (pa_cons wpE_pe pa_nil hs) hbase hfew hline hs rfl) hsw) ?_
  refine ⟨_, hσ, .inl ⟨rfl, vs0, .of hH⟩, r.eval he q1 fun v H' F Fs' r2 rs => ?_⟩
  obtain ⟨u, e2, ow⟩ := r2.sl i _ hsl
  obtain ⟨a1, vs, F0, rfl, eF, e3, ow0⟩ := ow.lstI
  rw [hσ] at e2
  cases e2
  have ha : a0 ∈ Fs' i := by rw [eF]; exact List.mem_cons_self
  have haS : a0 ∉ S := r2.ns i a0 ha
  have e4 : H' a0 = some (.lst vs) := rs.ext a0 _ haS e3
  have hvl := ow0.length
  refine ⟨a0, vs, v, rfl, rfl, e4, by rw [sizeLine_eq]; omega, ?_⟩
  have hdis : ∀ b ∈ F, b ∉ Fs' i := fun b hb h => r2.wd.al b (.inl ⟨i, h⟩) (rs.fr b hb)
  have nd0 := r2.nd i
  rw [eF] at nd0
  have hF0 : ∀ b ∈ F0, b ∈ Fs' i := fun b hb => by rw [eF]; exact List.mem_cons_of_mem _ hb
  have hA : plus F (hd S Fs' A0) a0 := .inr (.inl ⟨i, ha⟩)
  have r3 := r2.mut (i := i) (F := a0 :: (F0 ++ F)) (ov := some (.ref a0)) (s := .ow (k' + 1) (.list (ds ++ [d]))) (H' := upd H' a0 (.lst (vs ++ [v]))) (sto' := sto') hlt ?_ ?_ ?_ ?_ ?_
  · have eσ : σ.set i (some (.ref a0)) = σ := by
      apply List.ext_getElem?
      intro m
      rw [List.getElem?_set]
      by_cases c : i = m
      · subst c
        rw [if_pos rfl, hσ]
        rw [if_pos (List.getElem?_eq_some_iff.mp hσ).1]
      · rw [if_neg c]
    rw [eσ] at r3
    exact z S _ _ _ r3
  · intro b o hb hn h
    rw [upd_ne (fun c : b = a0 => hn (c ▸ ha))]
    exact rs.ext b o hb h
  · have w1 := rs.wd.upd (o := .lst (vs ++ [v])) hA haS ⟨_, e4⟩
    refine w1.less (fun b h => ?_) (fun a e => .inr (.inr (.inr e)))
    rcases h with h | h
    · rcases List.mem_cons.mp h with rfl | h
      · exact hA
      · rcases List.mem_append.mp h with h | h
        · exact .inr (.inl ⟨i, hF0 b h⟩)
        · exact .inl h
    · exact .inr h
  · refine List.nodup_cons.mpr ⟨fun h => ?_, List.nodup_append.mpr ⟨(List.nodup_cons.mp nd0).2, rs.nd, fun b hb c hc e => hdis c hc (e ▸ hF0 b hb)⟩⟩
    rcases List.mem_append.mp h with h | h
    · exact (List.nodup_cons.mp nd0).1 h
    · exact hdis a0 h ha
  · intro b h
    rcases List.mem_cons.mp h with rfl | h
    · exact .inr ha
    · rcases List.mem_append.mp h with h | h
      · exact .inr (hF0 b h)
      · exact .inl (rs.fr b h)
  · refine ⟨.ref a0, rfl, .lst upd_same ?_⟩
    have sub : ∀ b, hd S (setF Fs' i (a0 :: (F0 ++ F))) A0 b → plus F (hd S Fs' A0) b := fun b h => by
      rcases hd_set r2 b h with h | h
      · rcases List.mem_cons.mp h with rfl | h
        · exact hA
        · rcases List.mem_append.mp h with h | h
          · exact .inr (.inl ⟨i, hF0 b h⟩)
          · exact .inl h
      · exact .inr h
    have hu : hid (plus F (hd S Fs' A0)) (upd H' a0 (.lst (vs ++ [v]))) = hid (plus F (hd S Fs' A0)) H' := hid_upd hA
    have s2 : Same (hid (plus F (hd S Fs' A0)) H') (hid (hd S (setF Fs' i (a0 :: (F0 ++ F))) A0) (upd H' a0 (.lst (vs ++ [v])))) := fun b o q => by rw [← hu] at q; exact hid_le sub b o q
    have s1 : Same (hid (hd S Fs' A0) H) (hid (plus F (hd S Fs' A0)) H') := hid_move rs.ext r2.wd.hS fun b h => by
      rcases h with h | h
      · exact .inr (rs.fr b h)
      · exact .inl h
    have o1 : OwA X.K S (hd S (setF Fs' i (a0 :: (F0 ++ F))) A0) (upd H' a0 (.lst (vs ++ [v]))) k' vs ds F0 := ow0.mv (fun b o q => s2 b o (s1 b o q)) fun b hb o q => by
      rw [upd_ne (fun c : b = a0 => (List.nodup_cons.mp nd0).1 (c ▸ hb))]
      exact rs.ext b o (r2.ns i b (hF0 b hb)) q
    have o2 : Ow X.K S (hd S (setF Fs' i (a0 :: (F0 ++ F))) A0) (upd H' a0 (.lst (vs ++ [v]))) k' v d F := rs.ow.mv s2 fun b hb o q => by
      rw [upd_ne (fun c : b = a0 => hdis b hb (c ▸ ha))]
      exact q
    have := o1.append (.cons o2 .nil)
    rwa [List.append_nil] at this
theorem fzIf_ow {k k' : Nat} {d d' : D} {M : List Nat} {s : STO} {env : Env} {i : Nat} (hsl : (fzIf k d M s env)[i]? = some (.ow k' d')) : env[i]? = some (.ow k' d') := by
  unfold fzIf at hsl
  split at hsl
  · exact hsl
  · rw [fz_get] at hsl
    cases e1 : env[i]? with
    | none => rw [e1] at hsl; cases hsl
    | some s =>
      rw [e1] at hsl
      have h' : fzS (M.contains i) s = .ow k' d' := Option.some.inj hsl
      cases s with
      | no => cases h'
      | sh d' => cases h'
      | ow k2 d2 =>
        have h' : (if M.contains i = true then Slot.sh d2 else .ow k2 d2) = .ow k' d' := h'
        split at h'
        · cases h'
        · rw [h']
theorem set_same {σ : Sg} {i : Nat} {v : Option V} (h : σ[i]? = some v) : σ.set i v = σ := by
  apply List.ext_getElem?
  intro m
  rw [List.getElem?_set]
  by_cases c : i = m
  · subst c
    rw [if_pos rfl, h, if_pos (List.getElem?_eq_some_iff.mp h).1]
  · rw [if_neg c]
/-- name[i].append(e) -/
def sApp1 (i : Nat) (M : List Nat) (k : Nat) (fi g : Ev) : Sv := fun env s => (fi (see [] env) s).bind fun pi => match pi.1 with
  | .int n => (g (see M env) pi.2).bind fun p => match (fzIf k p.1 M p.2 env)[i]? with
    | some (.ow (k' + 2) (.list ds)) => if k' = k then (ixN ds.length n).bind fun m => match ds[m]? with
      | some (.list es) => if es.length < 16777216 then some (.nx, (fzIf k p.1 M p.2 env).set i (.ow (k + 2) (.list (ds.set m (.list (es ++ [p.1]))))), p.2) else none
      | _ => none
      else none
    | _ => none
  | _ => none
theorem js_app1 {spos : Pos} (hix : JP X b f 0) (he : JP X e g j) (hi : X.N[i]? = some x) (hx : Vis X.env.scope x) (hsx : PlainIx b) (hdb : (x == Str.ofString "__debug__") = false := by decide) (hcd : (x == Str.ofString "__classdict__") = false := by decide)
    (hbase : attributeBase (.Subscript (.Name x p) b spos) "append" X.env (eval (.Subscript (.Name x p) b spos) X.env) = eval (.Subscript (.Name x p) b spos) X.env := by rfl)
    (hfew : ((backTo cpos (starEach [e] X.env)).all (fun x => !x.1) && (backToKw cpos (keywordEach [] X.env)).all (fun x => x.1.isSome) && decide ([e].length + ([] : List Keyword).length + (if ([] : List Keyword).isEmpty then 0 else 1) < 30)) = true := by rfl)
    (hline : (apos.endLine == cpos.line) = true := by rfl) (hs : starEach [e] X.env = (false, eval e X.env) :: starEach [] X.env := by rfl) (hsw : swapsWith (.Call (.Attribute (.Subscript (.Name x p) b spos) "append" apos) [e] [] cpos) none pos.line X.env = pure false := by rfl) :
    JS Z X (.Expr (.Call (.Attribute (.Subscript (.Name x p) b spos) "append" apos) [e] [] cpos) pos) (sApp1 i M j f g) k := fun C S0 S A0 H0 σ H env sto Fs o env' sto' E hZ r q z => by
  unfold sApp1 at q
  obtain ⟨⟨di, s1⟩, q0, q⟩ := bind_some' q
  split at q
  case h_2 => cases q
  rename_i n hdi
  obtain rfl : di = .int n := hdi
  obtain ⟨⟨d, s2⟩, q1, q⟩ := bind_some' q
  simp only at q
  split at q
  case h_2 => cases q
  rename_i k' ds hsl
  split at q
  case isFalse => cases q
  rename_i hk
  subst hk
  obtain ⟨m, hm, q⟩ := bind_some' q
  split at q
  case h_2 => cases q
  rename_i es hes
  split at q
  case isFalse => cases q
  rename_i hlen
  cases q
  simp only at q1
  have hlt : i < (fzIf k' d M sto' env).length := (List.getElem?_eq_some_iff.mp hsl).1
  refine wpS.by (ps_expr (pe_bm PySem.F.plainAttrs_list PySem.F.slot_list_append rfl mt_append (pe_ix ix_list (pe_var hi hx hdb hcd) wpE_pe hsx) (pa_cons wpE_pe pa_nil hs) hbase hfew hline hs rfl) hsw) ?_
  have e1 := fzIf_ow hsl
  obtain ⟨u, e2, ow⟩ := r.sl i _ e1
  obtain ⟨a0, vs, F0, rfl, eF, e3, ow0⟩ := ow.lstI
  refine ⟨_, e2, hix.use (r.wdM []) (r.rdM []) q0 fun vi H1 x1 w1 r1 p1 => ?_⟩
  have rr : Sr X.K C S0 S A0 H0 σ H1 env s1 Fs := r.go x1 (r.wd.wide x1 w1 (okM_g (okM_nil _)))
  have haF : a0 ∈ Fs i := by rw [eF]; exact List.mem_cons_self
  have e3' : H1 a0 = some (.lst vs) := x1 a0 _ (r.ns i a0 haF) e3
  obtain ⟨vm, F1, Fj, F2, g1, g2, g3, g4, g5⟩ := ow0.split hes
  obtain ⟨b0, ws0, Fb, rfl, rfl, e5, _⟩ := g4.lstI
  have hat : atI vs n = some (.ref b0) := by unfold atI; rw [ow0.length, hm]; exact g1
  have hbF : b0 ∈ Fs i := by rw [eF, g2]; exact List.mem_cons_of_mem _ (List.mem_append_right _ (List.mem_append_left _ List.mem_cons_self))
  have e5' : H1 b0 = some (.lst ws0) := x1 b0 _ (r.ns i b0 hbF) e5
  refine ⟨a0, vs, n, .ref b0, rfl, p1.intI, .of e3', hat, .inl ⟨rfl, ws0, .of e5'⟩, rr.eval he q1 fun v H' F Fs' r2 rs => ?_⟩
  obtain ⟨u, e2', ow'⟩ := r2.sl i _ hsl
  rw [e2] at e2'
  cases e2'
  obtain ⟨a1, vs', G0, ea, eG, h3, ow1⟩ := ow'.lstI
  cases ea
  rw [e3'] at h3
  cases h3
  obtain ⟨vm', G1, Gj, G2, k1, k2, k3, k4, k5⟩ := ow1.split hes
  rw [g1] at k1
  cases k1
  obtain ⟨b1, ws, Gb, eb, rfl, h5, ow2⟩ := k4.lstI
  cases eb
  subst k2
  have ha : a0 ∈ Fs' i := by rw [eG]; exact List.mem_cons_self
  have hb : b0 ∈ Fs' i := by rw [eG]; exact List.mem_cons_of_mem _ (List.mem_append_right _ (List.mem_append_left _ List.mem_cons_self))
  have hin : ∀ c ∈ G1 ++ ((b0 :: Gb) ++ G2), c ∈ Fs' i := fun c hc => by rw [eG]; exact List.mem_cons_of_mem _ hc
  have hab : a0 ≠ b0 := fun c => by
    have := r2.nd i
    rw [eG] at this
    exact (List.nodup_cons.mp this).1 (by rw [c]; exact List.mem_append_right _ (List.mem_append_left _ List.mem_cons_self))
  have nd0 := r2.nd i
  rw [eG] at nd0
  obtain ⟨nda, nd1⟩ := List.nodup_cons.mp nd0
  obtain ⟨ndG1, ndR, ndx⟩ := List.nodup_append.mp nd1
  obtain ⟨ndb, ndG2, ndy⟩ := List.nodup_append.mp ndR
  obtain ⟨nbG, ndGb⟩ := List.nodup_cons.mp ndb
  have h5' : H' b0 = some (.lst ws) := rs.ext b0 _ (r2.ns i b0 hb) h5
  have h3' : H' a0 = some (.lst vs) := rs.ext a0 _ (r2.ns i a0 ha) e3'
  have hwl := ow2.length
  refine ⟨b0, ws, v, rfl, rfl, h5', by rw [sizeLine_eq]; omega, ?_⟩
  have hdis : ∀ c ∈ F, c ∉ Fs' i := fun c hc h => r2.wd.al c (.inl ⟨i, h⟩) (rs.fr c hc)
  have hB : plus F (hd S Fs' A0) b0 := .inr (.inl ⟨i, hb⟩)
  have mem3 : ∀ c, c ∈ a0 :: (G1 ++ ((b0 :: (Gb ++ F)) ++ G2)) → c ∈ F ∨ c ∈ Fs' i := fun c h => by
    rcases List.mem_cons.mp h with rfl | h
    · exact .inr ha
    · rcases List.mem_append.mp h with h | h
      · exact .inr (hin c (List.mem_append_left _ h))
      · rcases List.mem_append.mp h with h | h
        · rcases List.mem_cons.mp h with rfl | h
          · exact .inr hb
          · rcases List.mem_append.mp h with h | h
            · exact .inr (hin c (List.mem_append_right _ (List.mem_append_left _ (List.mem_cons_of_mem _ h))))
            · exact .inl h
        · exact .inr (hin c (List.mem_append_right _ (List.mem_append_right _ h)))
  have r3 := r2.mut (i := i) (F := a0 :: (G1 ++ ((b0 :: (Gb ++ F)) ++ G2))) (ov := some (.ref a0)) (s := .ow (k' + 2) (.list (ds.set m (.list (es ++ [d]))))) (H' := upd H' b0 (.lst (ws ++ [v]))) (sto' := sto') hlt ?_ ?_ ?_ ?_ ?_
  · rw [set_same e2] at r3
    exact z S _ _ _ r3
  · intro c o hcS hn h
    rw [upd_ne (fun q : c = b0 => hn (q ▸ hb))]
    exact rs.ext c o hcS h
  · have w1 := rs.wd.upd (o := .lst (ws ++ [v])) hB (r2.ns i b0 hb) ⟨_, h5'⟩
    refine w1.less (fun c h => ?_) (fun a e => .inr (.inr (.inr e)))
    rcases h with h | h
    · exact (mem3 c h).imp id fun h => .inl ⟨i, h⟩
    · exact .inr h
  · refine List.nodup_cons.mpr ⟨fun h => ?_, List.nodup_append.mpr ⟨ndG1, List.nodup_append.mpr ⟨List.nodup_cons.mpr ⟨fun h => ?_, List.nodup_append.mpr ⟨ndGb, rs.nd, fun c hc c' hc' e => hdis c' hc' (e ▸ hin c (List.mem_append_right _ (List.mem_append_left _ (List.mem_cons_of_mem _ hc))))⟩⟩, ndG2, fun c hc c' hc' e => ?_⟩, fun c hc c' hc' e => ?_⟩⟩
    · rcases List.mem_append.mp h with h | h
      · exact nda (List.mem_append_left _ h)
      · rcases List.mem_append.mp h with h | h
        · rcases List.mem_cons.mp h with h | h
          · exact hab h
          · rcases List.mem_append.mp h with h | h
            · exact nda (List.mem_append_right _ (List.mem_append_left _ (List.mem_cons_of_mem _ h)))
            · exact hdis a0 h ha
        · exact nda (List.mem_append_right _ (List.mem_append_right _ h))
    · rcases List.mem_append.mp h with h | h
      · exact nbG h
      · exact hdis b0 h hb
    · subst e
      rcases List.mem_cons.mp hc with rfl | hc
      · exact ndy _ List.mem_cons_self _ hc' rfl
      · rcases List.mem_append.mp hc with hc | hc
        · exact ndy c (List.mem_cons_of_mem _ hc) c hc' rfl
        · exact hdis c hc (hin c (List.mem_append_right _ (List.mem_append_right _ hc')))
    · subst e
      rcases List.mem_append.mp hc' with hc' | hc'
      · rcases List.mem_cons.mp hc' with rfl | hc'
        · exact ndx _ hc _ (List.mem_append_left _ List.mem_cons_self) rfl
        · rcases List.mem_append.mp hc' with hc' | hc'
          · exact ndx c hc c (List.mem_append_left _ (List.mem_cons_of_mem _ hc')) rfl
          · exact hdis c hc' (hin c (List.mem_append_left _ hc))
      · exact ndx c hc c (List.mem_append_right _ hc') rfl
  · intro c h
    exact (mem3 c h).symm.imp id id |>.symm.imp (fun h => rs.fr c h) id
  · refine ⟨.ref a0, rfl, ?_⟩
    generalize hF3 : a0 :: (G1 ++ ((b0 :: (Gb ++ F)) ++ G2)) = F3 at mem3
    have sub : ∀ c, hd S (setF Fs' i F3) A0 c → plus F (hd S Fs' A0) c := fun c h => by
      rcases hd_set r2 c h with h | h
      · exact (mem3 c h).imp id fun h => .inl ⟨i, h⟩
      · exact .inr h
    have hu : hid (plus F (hd S Fs' A0)) (upd H' b0 (.lst (ws ++ [v]))) = hid (plus F (hd S Fs' A0)) H' := hid_upd hB
    have s2 : Same (hid (plus F (hd S Fs' A0)) H') (hid (hd S (setF Fs' i F3) A0) (upd H' b0 (.lst (ws ++ [v])))) := fun c o q => by rw [← hu] at q; exact hid_le sub c o q
    have s1 : Same (hid (hd S Fs' A0) H1) (hid (plus F (hd S Fs' A0)) H') := hid_move rs.ext r2.wd.hS fun c h => by
      rcases h with h | h
      · exact .inr (rs.fr c h)
      · exact .inl h
    have s3 : Same (hid (hd S Fs' A0) H1) (hid (hd S (setF Fs' i F3) A0) (upd H' b0 (.lst (ws ++ [v])))) := fun c o q => s2 c o (s1 c o q)
    have keep : ∀ c ∈ Fs' i, c ≠ b0 → ∀ o, H1 c = some o → upd H' b0 (.lst (ws ++ [v])) c = some o := fun c hc hn o q => by
      rw [upd_ne hn]
      exact rs.ext c o (r2.ns i c hc) q
    have o1 := k3.mv s3 fun c hc o q => keep c (hin c (List.mem_append_left _ hc)) (fun e => ndx c hc b0 (List.mem_append_left _ List.mem_cons_self) e) o q
    have o3 := k5.mv s3 fun c hc o q => keep c (hin c (List.mem_append_right _ (List.mem_append_right _ hc))) (fun e => ndy b0 List.mem_cons_self c hc e.symm) o q
    have o2 := ow2.mv s3 fun c hc o q => keep c (hin c (List.mem_append_right _ (List.mem_append_left _ (List.mem_cons_of_mem _ hc)))) (fun e => nbG (e ▸ hc)) o q
    have o4 : Ow X.K S (hd S (setF Fs' i F3) A0) (upd H' b0 (.lst (ws ++ [v]))) k' v d F := rs.ow.mv s2 fun c hc o q => by
      rw [upd_ne (fun e : c = b0 => hdis c hc (e ▸ hb))]
      exact q
    have o5 := o2.append (.cons o4 .nil)
    rw [List.append_nil] at o5
    rw [← hF3]
    refine .lst (vs := vs) (by rw [upd_ne hab]; exact h3') ?_
    have hml : m < ds.length := (List.getElem?_eq_some_iff.mp hes).1
    have hvl := ow1.length
    have ev : vs = vs.take m ++ (.ref b0 :: vs.drop (m + 1)) := by
      have := set_split vs m (.ref b0) (by omega)
      rw [← this]
      apply List.ext_getElem?
      intro l
      rw [List.getElem?_set]
      by_cases c : m = l
      · subst c
        rw [if_pos rfl, g1, if_pos (by omega)]
      · rw [if_neg c]
    rw [set_split ds m _ hml]
    rw [hF3]
    rw [ev] 
    have := o1.append (.cons (.lst upd_same o5) o3)
    rw [← ev]
    rw [← ev] at this
    exact this
end
end J
namespace J
open PySem PySem.Spec PyProof.Rows L2

def lstLt : D → Bool
  | .list ds => decide (ds.length < 16777216)
  | _ => false
section
variable {K : PySem.W.Frag} {S : List Addr} {A : Addr → Prop} {H : Hp}
theorem OwA.lsts : ∀ {k : Nat} {vs : List V} {ds : List D} {F : List Addr}, OwA K S A H (k + 1) vs ds F → ds.all lstLt = true → F.Nodup →
    ∃ bs : List Addr, vs = bs.map V.ref ∧ bs.Nodup ∧ (∀ b ∈ bs, b ∈ F) ∧ ∀ b ∈ bs, ∃ ws, H b = some (.lst ws) ∧ ws.length < 16777216
  | _, _, _, _, .nil, _, _ => ⟨[], rfl, .nil, (fun _ h => nomatch h), fun _ h => nomatch h⟩
  | k, _, _, _, .cons (d := d) (F := F) (G := G) a b, h, nd => by
    rw [List.all_cons, Bool.and_eq_true] at h
    obtain ⟨n1, n2, n3⟩ := List.nodup_append.mp nd
    obtain ⟨bs, e1, e2, e3, e4⟩ := OwA.lsts b h.2 n2
    cases d with
    | list es =>
      obtain ⟨c, ws, F0, rfl, rfl, e5, ow⟩ := a.lstI
      have hl : es.length < 16777216 := of_decide_eq_true h.1
      refine ⟨c :: bs, by rw [e1]; rfl, List.nodup_cons.mpr ⟨fun hc => n3 c List.mem_cons_self c (e3 c hc) rfl, e2⟩, fun x hx => ?_, fun x hx => ?_⟩
      · rcases List.mem_cons.mp hx with rfl | hx
        · exact List.mem_append_left _ List.mem_cons_self
        · exact List.mem_append_right _ (e3 x hx)
      · rcases List.mem_cons.mp hx with rfl | hx
        · exact ⟨ws, e5, by rw [ow.length]; exact hl⟩
        · exact e4 x hx
    | _ => exact absurd h.1 (fun z => nomatch z)
end
theorem OwA.scal {K : PySem.W.Frag} {S S' : List Addr} {A : Addr → Prop} {H H' : Hp} : ∀ {k : Nat} {vs : List V} {ds : List D} {F : List Addr}, OwA K S A H k vs ds F → (∀ d ∈ ds, isScal d = true) → RpA K S' H' vs ds
  | _, _, _, _, .nil, _ => .nil
  | _, _, _, _, .cons a b, h => .cons (a.scal (h _ List.mem_cons_self)) (OwA.scal b fun d hd => h d (List.mem_cons_of_mem _ hd))
section
variable {Z : List Addr → Prop} {X : Cx} {st : Stmt} {rest body orelse : List Stmt} {tg it e a b c : Expr} {f g : Ev} {gb : Sv} {gt : TG} {bd : Bd} {fi : EvI} {t : EvT} {j k n i l : Nat} {pos p p2 apos cpos : Pos} {x y : Str} {M : List Nat}
/-- for y in (an owned list of lists): y.append(e), e plain and the same each time; the list is not looked at any more -/
theorem appAll {C : Hp} {S0 S : List Addr} {A0 : Addr → Prop} {H0 H : Hp} {σ : Sg} {env : Env} {sto : STO} {Fs : Nat → List Addr} {aL : Addr} {vs : List V} {bs : List Addr} {E : Ends} {d : D} {g : TS}
    (r : Sr X.K C S0 S A0 H0 σ H env sto Fs) (hil : i ≠ l) (hi : i < env.length) (hl : l < env.length) (haF : aL ∈ Fs i) (hH : H aL = some (.lst vs)) (evs : vs = bs.map V.ref) (nd : bs.Nodup) (hbF : ∀ b ∈ bs, b ∈ Fs i) (hbN : aL ∉ bs)
    (hb : ∀ b ∈ bs, ∃ ws, H b = some (.lst ws) ∧ ws.length < 16777216) (hsc : isScal d = true)
    (hg : ∀ S1 (σ1 : Sg) H1 env1 sto1 Fs1 b ws (E1 : Ends), Sr X.K (hid (hd S Fs A0) H) S0 S1 A0 H0 σ1 H1 env1 sto1 Fs1 → env1.length = env.length → H1 b = some (.lst ws) → b ∈ Fs1 i → ws.length < 16777216 → σ1[l]? = some (some (.ref b)) →
      (∀ v H2, Ext S1 H1 H2 → Wd X.K S1 (hd S1 Fs1 A0) H2 sto1 → Rp X.K S1 (hid (hd S1 Fs1 A0) H2) v d → E1.nx σ1 (upd H2 b (.lst (ws ++ [v])))) → g E1 σ1 H1)
    (z : ∀ S σ H Fs, Sr X.K C S0 S A0 H0 σ H ((env.set i .no).set l .no) sto Fs → E.nx σ H) :
    ∃ W : Nat → Nat → L2.St → Hp → Prop, (∃ m, W 0 m σ H) ∧ ∀ i m σ H, W i m σ H →
      ((Itl X.K aL).stop i H ∧ E.nx σ H) ∨ ((Itl X.K aL).go i H ∧ ∃ N : L2.St → Hp → Prop, (∀ σ' H', N σ' H' → ∃ m', m' < m ∧ W (i + 1) m' σ' H') ∧ ∀ x H', (Itl X.K aL).yld i H x H' → gName l x σ H' fun σ2 H2 => g { E with nx := N, ct := N, bk := E.nx } σ2 H2) := by
  have hS : aL ∉ S := r.ns i aL haF
  refine for_it (walk_list (xs := vs)) (tb := g) (D := E) (fun m σ1 H1 => ∃ Fs1, Sr X.K (hid (hd S Fs A0) H) S0 S A0 H0 σ1 H1 ((env.set i .no).set l .no) sto Fs1 ∧ Fs1 i = Fs i ∧ H1 aL = some (.lst vs) ∧ ∀ b ∈ bs.drop m, ∃ ws, H1 b = some (.lst ws) ∧ ws.length < 16777216) ?_ ?_ ?_ ?_
  · have r1 := r.chk.mut (i := i) (F := Fs i) (s := .no) (ov := σ.getD i none) (H' := H) (sto' := sto) hi (fun b o _ _ h => h) (r.wd.less (fun b h => by
      rcases h with h | h
      · exact .inl ⟨i, h⟩
      · exact h) fun b e => .inr (.inr (.inr e))) (r.nd i) (fun b h => .inr h) trivial
    have hiσ : i < σ.length := by rw [← r.len]; exact hi
    rw [set_same (by rw [List.getD_eq_getElem?_getD, List.getElem?_eq_getElem hiσ]; rfl)] at r1
    have r2 := r1.drop (i := l) (by rw [List.length_set]; exact hl) (σ.getD l none)
    have hlσ : l < σ.length := by rw [← r.len]; exact hl
    rw [set_same (by rw [List.getD_eq_getElem?_getD, List.getElem?_eq_getElem hlσ]; rfl)] at r2
    refine ⟨_, r2, ?_, hH, fun b h => hb b h⟩
    unfold setF
    rw [if_neg hil, if_pos rfl]
  · rintro m σ1 H1 _ ⟨Fs1, r1, _, h2, _⟩
    exact .inl (.inl h2)
  · rintro m x σ1 H1 H2 hm ⟨Fs1, r1, eF, h2, h3⟩ ⟨rfl, hx⟩
    subst evs
    rw [List.length_map] at hm
    have ex : x = .ref bs[m] := by
      rw [List.getElem?_map, List.getElem?_eq_getElem hm] at hx
      exact (Option.some.inj hx).symm
    subst ex
    have hdrop : bs.drop m = bs[m] :: bs.drop (m + 1) := List.drop_eq_getElem_cons hm
    obtain ⟨ws, h4, h5⟩ := h3 bs[m] (by rw [hdrop]; exact List.mem_cons_self)
    have hmem : bs[m] ∈ bs := List.getElem_mem hm
    have hl1 : l < ((env.set i Slot.no).set l .no).length := by rw [List.length_set, List.length_set]; exact hl
    have r2 := r1.drop (i := l) hl1 (some (.ref bs[m]))
    have hset : (((env.set i Slot.no).set l .no).set l .no) = (env.set i Slot.no).set l .no := by rw [List.set_set]
    rw [hset] at r2
    have eF2 : setF Fs1 l [] i = Fs i := by unfold setF; rw [if_neg hil]; exact eF
    refine hg S _ H2 _ sto _ bs[m] ws _ r2 (by rw [List.length_set, List.length_set]) h4 (by rw [eF2]; exact hbF _ hmem) h5 (by rw [List.getElem?_set, if_pos rfl, if_pos (by rw [← r1.len]; exact hl1)]) fun v H3 x3 w3 p3 => ?_
    have r3 := r2.go x3 w3
    have hbi : bs[m] ∈ setF Fs1 l [] i := by rw [eF2]; exact hbF _ hmem
    have hi3 : i < ((env.set i Slot.no).set l .no).length := by rw [List.length_set, List.length_set]; exact hi
    have hiσ : i < (σ1.set l (some (.ref bs[m]))).length := by rw [← r3.len]; exact hi3
    have r4 := r3.mut (i := i) (F := setF Fs1 l [] i) (s := .no) (ov := (σ1.set l (some (.ref bs[m]))).getD i none) (H' := upd H3 bs[m] (.lst (ws ++ [v]))) (sto' := sto) hi3 (fun b o _ hn h => by rw [upd_ne (fun e : b = bs[m] => hn (e ▸ hbi))]; exact h)
      ((r3.wd.upd (D := bs[m]) (.inl ⟨i, hbi⟩) (r3.ns i _ hbi) ⟨ws, x3 _ _ (r2.ns i _ hbi) h4⟩).less (fun b h => by
        rcases h with h | h
        · exact .inl ⟨i, h⟩
        · exact h) fun b e => .inr (.inr (.inr e))) (r3.nd i) (fun b h => .inr h) trivial
    rw [set_same (by rw [List.getD_eq_getElem?_getD, List.getElem?_eq_getElem hiσ]; rfl)] at r4
    have hset2 : (((env.set i Slot.no).set l .no).set i .no) = (env.set i Slot.no).set l .no := by
      apply List.ext_getElem?
      intro q
      rw [List.getElem?_set]
      by_cases c : i = q
      · subst c
        rw [if_pos rfl, if_pos hi3, List.getElem?_set_ne (Ne.symm hil), List.getElem?_set, if_pos rfl, if_pos hi]
      · rw [if_neg c]
    rw [hset2] at r4
    refine ⟨_, r4, ?_, ?_, fun b h => ?_⟩
    · unfold setF
      rw [if_pos rfl, if_neg hil]
      exact eF
    · rw [upd_ne (fun e : aL = bs[m] => hbN (e ▸ hmem))]
      exact x3 aL _ hS h2
    · obtain ⟨ws', q1, q2⟩ := h3 b (by rw [hdrop]; exact List.mem_cons_of_mem _ h)
      refine ⟨ws', ?_, q2⟩
      have hne : b ≠ bs[m] := fun e => by
        rw [← List.take_append_drop m bs, hdrop] at nd
        have := (List.nodup_cons.mp (List.nodup_append.mp nd).2.1).1
        exact this (e ▸ h)
      rw [upd_ne hne]
      exact x3 b _ (r.ns i b (hbF b (List.mem_of_mem_drop h))) q1
  · rintro σ1 H1 ⟨Fs1, r1, _, _, _⟩
    exact z S σ1 H1 Fs1 (r1.back r.pub)
/-- for y in x: y.append(e) -/
def sAppAll (i l : Nat) : Sv := fun env s => if i ≠ l ∧ l < env.length then match env[i]? with
  | some (.ow (_ + 2) (.list ds)) => if ds.all lstLt = true then some (.nx, (env.set i .no).set l .no, s) else none
  | _ => none
  else none
theorem js_appAll {py : Pos} {p5 p6 : Pos} (hp : PassesOwn (model X.prog X.w) X.A X.env X.xe) (hc : X.calm = true) (hN : X.N.Nodup) {d : D} (he : JP X e f 0) (hf : ∀ s, f [] s = some (d, s)) (hsc : isScal d = true) (hi : X.N[i]? = some x) (hx : Vis X.env.scope x) (hly : X.N[l]? = some y) (hyl : X.env.scope.names.lookup y = some .local)
    (hdb : (x == Str.ofString "__debug__") = false := by decide) (hcd : (x == Str.ofString "__classdict__") = false := by decide) (hdb2 : (y == Str.ofString "__debug__") = false := by decide) (hcd2 : (y == Str.ofString "__classdict__") = false := by decide)
    (hbase : attributeBase (.Name y p) "append" X.env (eval (.Name y p) X.env) = eval (.Name y p) X.env := by rfl)
    (hfew : ((backTo cpos (starEach [e] X.env)).all (fun x => !x.1) && (backToKw cpos (keywordEach [] X.env)).all (fun x => x.1.isSome) && decide ([e].length + ([] : List Keyword).length + (if ([] : List Keyword).isEmpty then 0 else 1) < 30)) = true := by rfl)
    (hline : (apos.endLine == cpos.line) = true := by rfl) (hs : starEach [e] X.env = (false, eval e X.env) :: starEach [] X.env := by rfl) (hsw : swapsWith (.Call (.Attribute (.Name y p) "append" apos) [e] [] cpos) none p6.line X.env = pure false := by rfl)
    (hfs : ∀ z, foldedSetIterable (.Name x p5) X.env z = pure z := by intro _; rfl) :
    JS Z X (.For (.Name y py) (.Name x p5) [.Expr (.Call (.Attribute (.Name y p) "append" apos) [e] [] cpos) p6] [] pos) (sAppAll i l) k := fun C S0 S A0 H0 σ H env sto Fs o env' sto' E hZ r q z => by
  unfold sAppAll at q
  split at q
  case isFalse => cases q
  rename_i hil
  obtain ⟨hil, hl⟩ := hil
  split at q
  case h_2 => cases q
  rename_i k' ds hsl
  split at q
  case isFalse => cases q
  rename_i hds
  cases q
  obtain ⟨u, e2, ow⟩ := r.sl i _ hsl
  obtain ⟨a0, vs, F0, rfl, eF, e3, ow0⟩ := ow.lstI
  have nd0 := r.nd i
  rw [eF] at nd0
  obtain ⟨nd1, nd2⟩ := List.nodup_cons.mp nd0
  obtain ⟨bs, b1, b2, b3, b4⟩ := ow0.lsts hds nd2
  refine wpS.by (ps_for hp hc (pi_list (pe_var hi hx hdb hcd)) (pg_name hN hly (.inl hyl) (.inr hyl)) (pss_one (ps_expr (pe_bm PySem.F.plainAttrs_list PySem.F.slot_list_append rfl mt_append (pe_var hly (.inl hyl) hdb2 hcd2) (pa_cons wpE_pe pa_nil hs) hbase hfew hline hs rfl) hsw)) hfs) ?_
  refine ⟨_, e2, a0, rfl, ⟨vs, .of e3⟩, ?_⟩
  refine appAll (d := d) r hil (List.getElem?_eq_some_iff.mp hsl).1 hl (by rw [eF]; exact List.mem_cons_self) e3 b1 b2 (fun b hb => by rw [eF]; exact List.mem_cons_of_mem _ (b3 b hb)) (fun h => nd1 (b3 _ h)) b4 hsc ?_ z
  intro S1 σ1 H1 env1 sto1 Fs1 b ws E1 r1 hlen h1 h2 h3 h4 h5
  refine ⟨_, h4, .inl ⟨rfl, ws, .of h1⟩, ?_⟩
  have rd : RdV X.K S1 (hd S1 Fs1 A0) σ1 H1 [] := ⟨Nat.zero_le _, fun i d h => by simp at h⟩
  refine he.use r1.wd rd (hf _) fun v H2 x2 w2 _ p2 => ⟨b, ws, v, rfl, rfl, x2 b _ (r1.ns i b h2) h1, by rw [sizeLine_eq]; omega, h5 v H2 x2 w2 p2⟩
/-- for y in x[c]: y.append(e) -/
def sAppAll1 (i l : Nat) (fi : Ev) : Sv := fun env s => if i ≠ l ∧ l < env.length then (fi (see [] env) s).bind fun pi => match pi.1, env[i]? with
  | .int n, some (.ow (_ + 3) (.list es)) => (ixN es.length n).bind fun m => match es[m]? with
    | some (.list ds) => if ds.all lstLt = true then some (.nx, (env.set i .no).set l .no, pi.2) else none
    | _ => none
  | _, _ => none
  else none
theorem js_appAll1 {py : Pos} {p5 p6 p7 : Pos} (hp : PassesOwn (model X.prog X.w) X.A X.env X.xe) (hc : X.calm = true) (hN : X.N.Nodup) (hix : JP X b g 0) (hsx : PlainIx b) {d : D} (he : JP X e f 0) (hf : ∀ s, f [] s = some (d, s)) (hsc : isScal d = true) (hi : X.N[i]? = some x) (hx : Vis X.env.scope x) (hly : X.N[l]? = some y) (hyl : X.env.scope.names.lookup y = some .local)
    (hdb : (x == Str.ofString "__debug__") = false := by decide) (hcd : (x == Str.ofString "__classdict__") = false := by decide) (hdb2 : (y == Str.ofString "__debug__") = false := by decide) (hcd2 : (y == Str.ofString "__classdict__") = false := by decide)
    (hbase : attributeBase (.Name y p) "append" X.env (eval (.Name y p) X.env) = eval (.Name y p) X.env := by rfl)
    (hfew : ((backTo cpos (starEach [e] X.env)).all (fun x => !x.1) && (backToKw cpos (keywordEach [] X.env)).all (fun x => x.1.isSome) && decide ([e].length + ([] : List Keyword).length + (if ([] : List Keyword).isEmpty then 0 else 1) < 30)) = true := by rfl)
    (hline : (apos.endLine == cpos.line) = true := by rfl) (hs : starEach [e] X.env = (false, eval e X.env) :: starEach [] X.env := by rfl) (hsw : swapsWith (.Call (.Attribute (.Name y p) "append" apos) [e] [] cpos) none p6.line X.env = pure false := by rfl)
    (hfs : ∀ z, foldedSetIterable (.Subscript (.Name x p5) b p7) X.env z = pure z := by intro _; rfl) :
    JS Z X (.For (.Name y py) (.Subscript (.Name x p5) b p7) [.Expr (.Call (.Attribute (.Name y p) "append" apos) [e] [] cpos) p6] [] pos) (sAppAll1 i l g) k := fun C S0 S A0 H0 σ H env sto Fs o env' sto' E hZ r q z => by
  unfold sAppAll1 at q
  split at q
  case isFalse => cases q
  rename_i hil
  obtain ⟨hil, hl⟩ := hil
  obtain ⟨⟨di, s1⟩, q0, q⟩ := bind_some' q
  split at q
  case h_2 => cases q
  rename_i n k' es hdi hsl
  obtain rfl : di = .int n := hdi
  obtain ⟨m, hm, q⟩ := bind_some' q
  split at q
  case h_2 => cases q
  rename_i ds hes
  split at q
  case isFalse => cases q
  rename_i hds
  cases q
  refine wpS.by (ps_for hp hc (pi_list (pe_ix ix_list (pe_var hi hx hdb hcd) wpE_pe hsx)) (pg_name hN hly (.inl hyl) (.inr hyl)) (pss_one (ps_expr (pe_bm PySem.F.plainAttrs_list PySem.F.slot_list_append rfl mt_append (pe_var hly (.inl hyl) hdb2 hcd2) (pa_cons wpE_pe pa_nil hs) hbase hfew hline hs rfl) hsw)) hfs) ?_
  obtain ⟨u, e2, ow⟩ := r.sl i _ hsl
  obtain ⟨a0, vs0, F0, rfl, eF, e3, ow0⟩ := ow.lstI
  refine ⟨_, e2, hix.use (r.wdM []) (r.rdM []) q0 fun vi H1 x1 w1 r1 p1 => ?_⟩
  have rr : Sr X.K C S0 S A0 H0 σ H1 env s1 Fs := r.go x1 (r.wd.wide x1 w1 (okM_g (okM_nil _)))
  obtain ⟨u, e2', ow'⟩ := rr.sl i _ hsl
  rw [e2] at e2'
  cases e2'
  obtain ⟨a1, vs1, F1, ea, eF', e3', ow1⟩ := ow'.lstI
  cases ea
  rw [eF] at eF'
  cases eF'
  have haF : a0 ∈ Fs i := by rw [eF]; exact List.mem_cons_self
  obtain ⟨vm, G1, Gj, G2, g1, g2, g3, g4, g5⟩ := ow1.split hes
  obtain ⟨b0, vs, Fb, rfl, rfl, e5, owb⟩ := g4.lstI
  have hat : atI vs1 n = some (.ref b0) := by unfold atI; rw [ow1.length, hm]; exact g1
  have hin : ∀ c ∈ (b0 :: Fb), c ∈ Fs i := fun c hc => by rw [eF, g2]; exact List.mem_cons_of_mem _ (List.mem_append_right _ (List.mem_append_left _ hc))
  have nd0 := r.nd i
  rw [eF, g2] at nd0
  have ndb := (List.nodup_append.mp (List.nodup_append.mp (List.nodup_cons.mp nd0).2).2.1).1
  obtain ⟨nd1, nd2⟩ := List.nodup_cons.mp ndb
  obtain ⟨bs, b1, b2, b3, b4⟩ := owb.lsts hds nd2
  refine ⟨a0, vs1, n, .ref b0, rfl, p1.intI, .of e3', hat, b0, rfl, ⟨vs, .of e5⟩, ?_⟩
  refine appAll (d := d) rr hil (List.getElem?_eq_some_iff.mp hsl).1 hl (hin b0 List.mem_cons_self) e5 b1 b2 (fun b hb => hin b (List.mem_cons_of_mem _ (b3 b hb))) (fun h => nd1 (b3 _ h)) b4 hsc ?_ z
  intro S1 σ1 H1 env1 sto1 Fs1 b ws E1 r1 hlen h1 h2 h3 h4 h5
  refine ⟨_, h4, .inl ⟨rfl, ws, .of h1⟩, ?_⟩
  have rd : RdV X.K S1 (hd S1 Fs1 A0) σ1 H1 [] := ⟨Nat.zero_le _, fun i d h => by simp at h⟩
  refine he.use r1.wd rd (hf _) fun v H2 x2 w2 _ p2 => ⟨b, ws, v, rfl, rfl, x2 b _ (r1.ns i b h2) h1, by rw [sizeLine_eq]; omega, h5 v H2 x2 w2 p2⟩

/-- a slot takes what another one owned -/
theorem Sr.mut2 {K : PySem.W.Frag} {C : Hp} {S0 S : List Addr} {A0 : Addr → Prop} {H0 H H' : Hp} {σ : Sg} {env : Env} {sto sto' : STO} {Fs : Nat → List Addr} {F : List Addr} {i l : Nat} (r : Sr K C S0 S A0 H0 σ H env sto Fs) (hi : i < env.length) (hl : l < env.length) (hil : i ≠ l)
    (e : ∀ b o, b ∉ S → b ∉ Fs i → H b = some o → H' b = some o) (w : Wd K S (hd S Fs A0) H' sto') (nd : F.Nodup) (fr : ∀ a ∈ F, a ∈ Fs i ∨ a ∈ Fs l) {s : Slot} {ov : Option V}
    (hs : SlotOk K S (hd S (setF (setF Fs l []) i F) A0) H' (some ov) F s) : Sr K C S0 S A0 H0 (σ.set i ov) H' ((env.set i s).set l .no) sto' (setF (setF Fs l []) i F) := by
  have hiσ : i < σ.length := by rw [← r.len]; exact hi
  have get : ∀ j, setF (setF Fs l []) i F j = if j = i then F else if j = l then [] else Fs j := fun j => rfl
  have hin : ∀ a, a ∈ F → hd S Fs A0 a := fun a h => (fr a h).elim (fun h => .inl ⟨i, h⟩) fun h => .inl ⟨l, h⟩
  have hnew : ∀ a, hd S (setF (setF Fs l []) i F) A0 a → hd S Fs A0 a := fun a h => by
    rcases h with ⟨j, h⟩ | h
    · rw [get] at h
      split at h
      · exact hin a h
      · split at h
        · exact nomatch h
        · exact .inl ⟨j, h⟩
    · exact .inr h
  have hm : Same (hid (hd S Fs A0) H) (hid (hd S (setF (setF Fs l []) i F) A0) H') := fun a o q => by
    rw [hid_eq] at q ⊢
    exact ⟨fun z => q.1 (hnew a z), e a o (fun z => q.1 (.inr (.inr z))) (fun z => q.1 (.inl ⟨i, z⟩)) q.2⟩
  have hx : Ext S0 H0 H' := fun b o hb hbo => by
    refine e b o (fun z => ?_) (fun z => ?_) (r.ext b o hb hbo)
    · exact hb (r.inS0 z hbo)
    · rw [r.fr i b z] at hbo; cases hbo
  have dj : ∀ j a, j ≠ i → a ∈ F → a ∈ (if j = l then [] else Fs j) → False := fun j a hj h1 h2 => by
    split at h2
    · exact nomatch h2
    · rename_i hjl
      rcases fr a h1 with h | h
      · exact hj (r.dj j i a h2 h)
      · exact hjl (r.dj j l a h2 h)
  have sub : ∀ j a, a ∈ (if j = l then [] else Fs j) → a ∈ Fs j := fun j a h => by
    split at h
    · exact nomatch h
    · exact h
  refine ⟨by rw [List.length_set, List.length_set, List.length_set]; exact r.len, r.s0, r.al0, r.a0S, hx, w.less hnew (fun a e => .inr (.inr e)), fun j => ?_, fun j m a h1 h2 => ?_, fun j a h => ?_, fun j a h => ?_, fun j t h => ?_, fun j h => ?_, fun a o h => hm a o (r.pub a o h)⟩
  · rw [get]
    split
    · exact nd
    · split
      · exact .nil
      · exact r.nd j
  · rw [get] at h1 h2
    by_cases c1 : j = i
    · by_cases c2 : m = i
      · rw [c1, c2]
      · rw [if_pos c1] at h1; rw [if_neg c2] at h2
        exact (dj m a c2 h1 h2).elim
    · by_cases c2 : m = i
      · rw [if_neg c1] at h1; rw [if_pos c2] at h2
        exact (dj j a c1 h2 h1).elim
      · rw [if_neg c1] at h1; rw [if_neg c2] at h2
        exact r.dj j m a (sub j a h1) (sub m a h2)
  · rw [get] at h
    split at h
    · exact (fr a h).elim (r.fr i a) (r.fr l a)
    · exact r.fr j a (sub j a h)
  · rw [get] at h
    split at h
    · exact (fr a h).elim (r.ns i a) (r.ns l a)
    · exact r.ns j a (sub j a h)
  · by_cases c2 : j = l
    · subst c2
      rw [List.getElem?_set, if_pos rfl, if_pos (by rw [List.length_set]; exact hl)] at h
      cases h
      exact trivial
    · rw [List.getElem?_set_ne (Ne.symm c2)] at h
      by_cases c : j = i
      · subst c
        rw [List.getElem?_set, if_pos rfl, if_pos hi] at h
        cases h
        rw [List.getElem?_set, if_pos rfl, if_pos hiσ, get, if_pos rfl]
        exact hs
      · rw [List.getElem?_set_ne (Ne.symm c)] at h ⊢
        rw [get, if_neg c, if_neg c2]
        have q := r.sl j t h
        cases t with
        | no => exact q
        | sh d' =>
          obtain ⟨q1, u, e1, e2⟩ := q
          exact ⟨q1, u, e1, e2.le hm⟩
        | ow k d' =>
          obtain ⟨u, e1, e2⟩ := q
          exact ⟨u, e1, e2.mv hm fun a ha o q => e a o (r.ns j a ha) (fun z => c (r.dj j i a ha z)) q⟩
  · rw [List.getElem?_eq_none_iff, List.length_set, List.length_set] at h
    rw [get, if_neg (by omega), if_neg (by omega)]
    exact r.out j (List.getElem?_eq_none h)
/-- name.append(y), what y owned handed on -/
def sAppM (i l k : Nat) : Sv := fun env s => match env[i]?, env[l]? with
  | some (.ow (k' + 1) (.list ds)), some (.ow j d) => if k' = k ∧ j = k ∧ i ≠ l ∧ ds.length < 16777216 then some (.nx, (env.set i (.ow (k + 1) (.list (ds ++ [d])))).set l .no, s) else none
  | _, _ => none
theorem js_appM {px : Pos} (hi : X.N[i]? = some x) (hx : Vis X.env.scope x) (hly : X.N[l]? = some y) (hy : Vis X.env.scope y) (hdb : (x == Str.ofString "__debug__") = false := by decide) (hcd : (x == Str.ofString "__classdict__") = false := by decide) (hdb2 : (y == Str.ofString "__debug__") = false := by decide) (hcd2 : (y == Str.ofString "__classdict__") = false := by decide)
    (hbase : attributeBase (.Name x p) "append" X.env (eval (.Name x p) X.env) = eval (.Name x p) X.env := by rfl)
    (hfew : ((backTo cpos (starEach [.Name y px] X.env)).all (fun x => !x.1) && (backToKw cpos (keywordEach [] X.env)).all (fun x => x.1.isSome) && decide ([Expr.Name y px].length + ([] : List Keyword).length + (if ([] : List Keyword).isEmpty then 0 else 1) < 30)) = true := by rfl)
    (hline : (apos.endLine == cpos.line) = true := by rfl) (hs : starEach [.Name y px] X.env = (false, eval (.Name y px) X.env) :: starEach [] X.env := by rfl) (hsw : swapsWith (.Call (.Attribute (.Name x p) "append" apos) [.Name y px] [] cpos) none pos.line X.env = pure false := by rfl) :
    JS Z X (.Expr (.Call (.Attribute (.Name x p) "append" apos) [.Name y px] [] cpos) pos) (sAppM i l j) k := fun C S0 S A0 H0 σ H env sto Fs o env' sto' E hZ r q z => by
  unfold sAppM at q
  split at q
  case h_2 => cases q
  rename_i k' ds j' d hsl hsy
  split at q
  case isFalse => cases q
  rename_i hk
  obtain ⟨rfl, rfl, hil, hlen⟩ := hk
  cases q
  have hlt : i < env.length := (List.getElem?_eq_some_iff.mp hsl).1
  have hll : l < env.length := (List.getElem?_eq_some_iff.mp hsy).1
  obtain ⟨u, e2, ow⟩ := r.sl i _ hsl
  obtain ⟨a0, vs, F0, rfl, eF, e3, ow0⟩ := ow.lstI
  obtain ⟨v, e4, owy⟩ := r.sl l _ hsy
  refine wpS.by (ps_expr (pe_bm PySem.F.plainAttrs_list PySem.F.slot_list_append rfl mt_append (pe_var hi hx hdb hcd) (pa_cons (pe_var hly hy hdb2 hcd2) pa_nil hs) hbase hfew hline hs rfl) hsw) ?_
  have hvl := ow0.length
  refine ⟨_, e2, .inl ⟨rfl, vs, .of e3⟩, v, e4, a0, vs, v, rfl, rfl, e3, by rw [sizeLine_eq]; omega, ?_⟩
  have ha : a0 ∈ Fs i := by rw [eF]; exact List.mem_cons_self
  have nd0 := r.nd i
  rw [eF] at nd0
  have hF0 : ∀ b ∈ F0, b ∈ Fs i := fun b hb => by rw [eF]; exact List.mem_cons_of_mem _ hb
  have hA : hd S Fs A0 a0 := .inl ⟨i, ha⟩
  have hdis : ∀ b, b ∈ Fs i → b ∈ Fs l → False := fun b h1 h2 => hil (r.dj i l b h1 h2)
  have r3 := r.mut2 (i := i) (l := l) (F := a0 :: (F0 ++ Fs l)) (ov := some (.ref a0)) (s := .ow (j' + 1) (.list (ds ++ [d]))) (H' := upd H a0 (.lst (vs ++ [v]))) (sto' := sto) hlt hll hil ?_ ?_ ?_ ?_ ?_
  · rw [set_same e2] at r3
    exact z S _ _ _ r3
  · intro b o hb hn h
    rw [upd_ne (fun c : b = a0 => hn (c ▸ ha))]
    exact h
  · exact r.wd.upd hA (r.ns i a0 ha) ⟨_, e3⟩
  · refine List.nodup_cons.mpr ⟨fun h => ?_, List.nodup_append.mpr ⟨(List.nodup_cons.mp nd0).2, r.nd l, fun b hb c hc e => hdis b (hF0 b hb) (e ▸ hc)⟩⟩
    rcases List.mem_append.mp h with h | h
    · exact (List.nodup_cons.mp nd0).1 h
    · exact hdis a0 ha h
  · intro b h
    rcases List.mem_cons.mp h with rfl | h
    · exact .inl ha
    · rcases List.mem_append.mp h with h | h
      · exact .inl (hF0 b h)
      · exact .inr h
  · refine ⟨.ref a0, rfl, .lst upd_same ?_⟩
    generalize hF3 : a0 :: (F0 ++ Fs l) = F3
    have sub : ∀ b, hd S (setF (setF Fs l []) i F3) A0 b → hd S Fs A0 b := fun b h => by
      rcases h with ⟨m, h⟩ | h
      · have h' : b ∈ (if m = i then F3 else if m = l then [] else Fs m) := h
        split at h'
        · rw [← hF3] at h'
          rcases List.mem_cons.mp h' with rfl | h'
          · exact hA
          · rcases List.mem_append.mp h' with h' | h'
            · exact .inl ⟨i, hF0 b h'⟩
            · exact .inl ⟨l, h'⟩
        · split at h'
          · exact nomatch h'
          · exact .inl ⟨m, h'⟩
      · exact .inr h
    have hu : hid (hd S Fs A0) (upd H a0 (.lst (vs ++ [v]))) = hid (hd S Fs A0) H := hid_upd hA
    have s2 : Same (hid (hd S Fs A0) H) (hid (hd S (setF (setF Fs l []) i F3) A0) (upd H a0 (.lst (vs ++ [v])))) := fun b o q => by rw [← hu] at q; exact hid_le sub b o q
    have o1 := ow0.mv s2 fun b hb o q => by
      rw [upd_ne (fun c : b = a0 => (List.nodup_cons.mp nd0).1 (c ▸ hb))]
      exact q
    have o2 := owy.mv s2 fun b hb o q => by
      rw [upd_ne (fun c : b = a0 => hdis a0 ha (c ▸ hb))]
      exact q
    have := o1.append (.cons o2 .nil)
    rwa [List.append_nil] at this

end
/-! ### cells are made -/
mutual
def tokLt (n : Nat) : D → Bool
  | .list ds => tokLtA n ds
  | .tuple ds => tokLtA n ds
  | .dict es => (match es with
    | [(.none, .int i)] => decide (0 ≤ i) && decide (i < n)
    | _ => true) && tokLtE n es
  | _ => true
def tokLtA (n : Nat) : List D → Bool
  | [] => true
  | d :: r => tokLt n d && tokLtA n r
def tokLtE (n : Nat) : List (D × D) → Bool
  | [] => true
  | (_, d) :: r => tokLt n d && tokLtE n r
end
section
variable {K : PySem.W.Frag} {S T : List Addr} {H : Hp}
theorem Rp.grow {v : V} {d : D} (h : Rp K S H v d) : Rp K (S ++ T) H v d :=
  Rp.rec (motive_1 := fun v d _ => Rp K (S ++ T) H v d) (motive_2 := fun v d _ => RpA K (S ++ T) H v d) (motive_3 := fun v d _ => RpK K (S ++ T) H v d) (motive_4 := fun v d _ => RpT K (S ++ T) H v d)
    .non (fun b => .bl b) (fun i => .int i) (fun x => .str x) (fun s _ h => .lst s h) (fun s _ h => .tup s h)
    (fun s _ h => .dK s h) (fun s _ h => .dT s h) (fun s => .tok (by rw [List.getElem?_append_left (List.getElem?_eq_some_iff.mp s).1]; exact s)) (fun s _ h => .sk s h) (fun s _ h => .rK s h) (fun s _ h => .rT s h)
    .nil (fun _ _ a b => .cons a b) .nil (fun _ _ a b => .cons a b) .nil (fun _ _ a b => .cons a b) h
theorem RpA.grow : ∀ {vs : List V} {ds : List D}, RpA K S H vs ds → RpA K (S ++ T) H vs ds
  | _, _, .nil => .nil
  | _, _, .cons a b => .cons a.grow b.grow
theorem RpK.grow : ∀ {vs : List (Key × V)} {ds : List (D × D)}, RpK K S H vs ds → RpK K (S ++ T) H vs ds
  | _, _, .nil => .nil
  | _, _, .cons a b => .cons a.grow b.grow
theorem RpT.grow : ∀ {vs : List (List Key × V)} {ds : List (D × D)}, RpT K S H vs ds → RpT K (S ++ T) H vs ds
  | _, _, .nil => .nil
  | _, _, .cons a b => .cons a.grow b.grow
theorem Rp.shrink {v : V} {d : D} (h : Rp K (S ++ T) H v d) : tokLt S.length d = true → Rp K S H v d :=
  Rp.rec (motive_1 := fun v d _ => tokLt S.length d = true → Rp K S H v d) (motive_2 := fun v d _ => tokLtA S.length d = true → RpA K S H v d) (motive_3 := fun v d _ => tokLtE S.length d = true → RpK K S H v d) (motive_4 := fun v d _ => tokLtE S.length d = true → RpT K S H v d)
    (fun _ => .non) (fun b _ => .bl b) (fun i _ => .int i) (fun x _ => .str x) (fun s _ h e => .lst s (h (by rw [tokLt] at e; exact e))) (fun s _ h e => .tup s (h (by rw [tokLt] at e; exact e)))
    (fun s _ h e => .dK s (h (by simp only [tokLt, Bool.and_eq_true] at e; exact e.2))) (fun s _ h e => .dT s (h (by simp only [tokLt, Bool.and_eq_true] at e; exact e.2)))
    (fun {a i} s e => .tok (by
      have e : (decide ((0 : Int) ≤ (i : Int)) && decide ((i : Int) < S.length)) && tokLtE S.length [(.none, .int (i : Nat))] = true := e
      rw [Bool.and_eq_true, Bool.and_eq_true, decide_eq_true_eq, decide_eq_true_eq] at e
      rw [List.getElem?_append_left (by omega)] at s
      exact s))
    (fun s _ h e => .sk s (h (by simp only [skD, tokLt, tokLtE, Bool.and_eq_true] at e; exact e.2.1))) (fun s _ h e => .rK s (h (by simp only [tokLt, tokLtE, Bool.and_eq_true] at e; exact e.2.2))) (fun s _ h e => .rT s (h (by simp only [tokLt, tokLtE, Bool.and_eq_true] at e; exact e.2.2)))
    (fun _ => .nil) (fun _ _ a b e => by rw [tokLtA, Bool.and_eq_true] at e; exact .cons (a e.1) (b e.2)) (fun _ => .nil) (fun _ _ a b e => by rw [tokLtE, Bool.and_eq_true] at e; exact .cons (a e.1) (b e.2)) (fun _ => .nil) (fun _ _ a b e => by rw [tokLtE, Bool.and_eq_true] at e; exact .cons (a e.1) (b e.2)) h
theorem RpA.shrink : ∀ {vs : List V} {ds : List D}, RpA K (S ++ T) H vs ds → tokLtA S.length ds = true → RpA K S H vs ds
  | _, _, .nil, _ => .nil
  | _, _, .cons a b, e => by rw [tokLtA, Bool.and_eq_true] at e; exact .cons (a.shrink e.1) (b.shrink e.2)
theorem RpK.shrink : ∀ {vs : List (Key × V)} {ds : List (D × D)}, RpK K (S ++ T) H vs ds → tokLtE S.length ds = true → RpK K S H vs ds
  | _, _, .nil, _ => .nil
  | _, _, .cons a b, e => by rw [tokLtE, Bool.and_eq_true] at e; exact .cons (a.shrink e.1) (b.shrink e.2)
theorem RpT.shrink : ∀ {vs : List (List Key × V)} {ds : List (D × D)}, RpT K (S ++ T) H vs ds → tokLtE S.length ds = true → RpT K S H vs ds
  | _, _, .nil, _ => .nil
  | _, _, .cons a b, e => by rw [tokLtE, Bool.and_eq_true] at e; exact .cons (a.shrink e.1) (b.shrink e.2)
variable {A : Addr → Prop}
mutual
theorem Ow.grow : ∀ {k : Nat} {v : V} {d : D} {F : List Addr}, Ow K S A H k v d F → Ow K (S ++ T) A H k v d F
  | _, _, _, _, .sh r => .sh r.grow
  | _, _, _, _, .at h1 h2 r => .at h1 h2 r.grow
  | _, _, _, _, .lst e t => .lst e t.grow
theorem OwA.grow : ∀ {k : Nat} {v : List V} {d : List D} {F : List Addr}, OwA K S A H k v d F → OwA K (S ++ T) A H k v d F
  | _, _, _, _, .nil => .nil
  | _, _, _, _, .cons a b => .cons a.grow b.grow
end
mutual
theorem Ow.shrink : ∀ {k : Nat} {v : V} {d : D} {F : List Addr}, Ow K (S ++ T) A H k v d F → tokLt S.length d = true → Ow K S A H k v d F
  | _, _, _, _, .sh r, e => .sh (r.shrink e)
  | _, _, _, _, .at h1 h2 r, e => .at h1 h2 (r.shrink e)
  | _, _, _, _, .lst q t, e => .lst q (t.shrink (by rw [tokLt] at e; exact e))
theorem OwA.shrink : ∀ {k : Nat} {v : List V} {d : List D} {F : List Addr}, OwA K (S ++ T) A H k v d F → tokLtA S.length d = true → OwA K S A H k v d F
  | _, _, _, _, .nil, _ => .nil
  | _, _, _, _, .cons a b, e => by
    rw [tokLtA, Bool.and_eq_true] at e
    exact .cons (a.shrink e.1) (b.shrink e.2)
end
theorem OwA.zero' : ∀ {v : List V} {d : List D} {F : List Addr}, OwA K S A H 0 v d F → F = [] ∧ RpA K S (hid A H) v d
  | _, _, _, .nil => ⟨rfl, .nil⟩
  | _, _, _, .cons a b => by
    obtain ⟨rfl, h2⟩ := b.zero'
    cases a with
    | sh r => exact ⟨rfl, .cons r h2⟩
def cellLt (n : Nat) : Cell → Bool
  | .lst ds => tokLtA n ds
  | .dct _ es => tokLtE n es
  | .tbl _ => true
  | .fdc _ es => tokLtE n es
theorem CellOk.grow {a : Addr} {c : Cell} (h : CellOk K S A H a c) : CellOk K (S ++ T) A H a c := by
  cases c with
  | lst ds => obtain ⟨vs, h1, h2⟩ := h; exact ⟨vs, h1, h2.grow⟩
  | dct t es =>
    cases t with
    | false => obtain ⟨k, h1, h2⟩ := h; exact ⟨k, h1, h2.grow⟩
    | true => obtain ⟨k, h1, h2⟩ := h; exact ⟨k, h1, h2.grow⟩
  | tbl q => exact h
  | fdc t es =>
    cases t with
    | false => obtain ⟨o, k, h1, h2⟩ := h; exact ⟨o, k, h1, h2.grow⟩
    | true => obtain ⟨o, k, h1, h2⟩ := h; exact ⟨o, k, h1, h2.grow⟩
theorem CellOk.shrink {a : Addr} {c : Cell} (h : CellOk K (S ++ T) A H a c) (e : cellLt S.length c = true) : CellOk K S A H a c := by
  cases c with
  | lst ds => obtain ⟨vs, h1, h2⟩ := h; exact ⟨vs, h1, h2.shrink e⟩
  | dct t es =>
    cases t with
    | false => obtain ⟨k, h1, h2⟩ := h; exact ⟨k, h1, h2.shrink e⟩
    | true => obtain ⟨k, h1, h2⟩ := h; exact ⟨k, h1, h2.shrink e⟩
  | tbl q => exact h
  | fdc t es =>
    cases t with
    | false => obtain ⟨o, k, h1, h2⟩ := h; exact ⟨o, k, h1, h2.shrink e⟩
    | true => obtain ⟨o, k, h1, h2⟩ := h; exact ⟨o, k, h1, h2.shrink e⟩
end
section
variable {K : PySem.W.Frag} {C : Hp} {S0 S : List Addr} {A0 : Addr → Prop} {H0 H : Hp} {σ : Sg} {env : Env} {sto : STO} {Fs : Nat → List Addr} {i : Nat}
theorem SlotOk.grow {T : List Addr} {A : Addr → Prop} {v : Option (Option V)} {F : List Addr} {s : Slot} (h : SlotOk K S A H v F s) : SlotOk K (S ++ T) A H v F s := by
  cases s with
  | no => exact trivial
  | sh d => obtain ⟨h1, u, e, r⟩ := h; exact ⟨h1, u, e, r.grow⟩
  | ow k d => obtain ⟨u, e, o⟩ := h; exact ⟨u, e, o.grow⟩
/-- an owned object becomes a cell -/
theorem Sr.toCell {b : Addr} {c : Cell} (r : Sr K C S0 S A0 H0 σ H env sto Fs) (hi : i < env.length) (hF : Fs i = [b]) (hv : σ[i]? = some (some (.ref b))) (hc : CellOk K S (hd S Fs A0) H b c) :
    Sr K C S0 (S ++ [b]) A0 H0 σ H (env.set i (.sh (tokD S.length))) (sto ++ [c]) (setF Fs i []) := by
  have hb : b ∈ Fs i := by rw [hF]; exact List.mem_cons_self
  have eA : hd (S ++ [b]) (setF Fs i []) A0 = hd S Fs A0 := by
    funext a
    simp only [eq_iff_iff]
    constructor
    · rintro (⟨j, h⟩ | h | h)
      · unfold setF at h
        split at h
        · exact nomatch h
        · exact .inl ⟨j, h⟩
      · exact .inr (.inl h)
      · rcases List.mem_append.mp h with h | h
        · exact .inr (.inr h)
        · rw [List.mem_singleton.mp h]; exact .inl ⟨i, hb⟩
    · rintro (⟨j, h⟩ | h | h)
      · by_cases e : j = i
        · subst e
          rw [hF] at h
          exact .inr (.inr (List.mem_append_right _ h))
        · exact .inl ⟨j, by unfold setF; rw [if_neg e]; exact h⟩
      · exact .inr (.inl h)
      · exact .inr (.inr (List.mem_append_left _ h))
  refine ⟨by rw [List.length_set]; exact r.len, ?_, r.al0, r.a0S, r.ext, ?_, fun j => ?_, fun j l a h1 h2 => ?_, fun j a h => ?_, fun j a h => ?_, fun j s h => ?_, fun j h => ?_, ?_⟩
  · obtain ⟨S1, e, h⟩ := r.s0
    refine ⟨S1 ++ [b], by rw [e, List.append_assoc], fun a ha => ?_⟩
    rcases List.mem_append.mp ha with ha | ha
    · exact h a ha
    · rw [List.mem_singleton.mp ha]; exact r.fr i b hb
  · rw [eA]
    refine ⟨r.wd.alt, fun a ha => ?_, List.nodup_append.mpr ⟨r.wd.nds, List.nodup_cons.mpr ⟨List.not_mem_nil, List.nodup_nil⟩, fun x hx y hy e => ?_⟩, by rw [List.length_append, List.length_append, r.wd.len]; rfl, fun j a cj h1 h2 => ?_⟩
    · rcases List.mem_append.mp ha with ha | ha
      · exact .inr (.inr ha)
      · rw [List.mem_singleton.mp ha]; exact .inl ⟨i, hb⟩
    · rw [List.mem_singleton.mp hy] at e
      exact r.ns i b hb (e ▸ hx)
    · by_cases hj : j < S.length
      · rw [List.getElem?_append_left hj] at h1
        rw [List.getElem?_append_left (by rw [← r.wd.len]; exact hj)] at h2
        exact (r.wd.st j a cj h1 h2).grow
      · rw [List.getElem?_append_right (by omega)] at h1
        rw [List.getElem?_append_right (by rw [← r.wd.len]; omega)] at h2
        rw [← r.wd.len] at h2
        have : j - S.length = 0 := by
          have := (List.getElem?_eq_some_iff.mp h1).1
          simp at this
          omega
        rw [this] at h1 h2
        cases h1
        cases h2
        exact hc.grow
  · unfold setF; split
    · exact .nil
    · exact r.nd j
  · unfold setF at h1 h2
    split at h1
    · exact nomatch h1
    · split at h2
      · exact nomatch h2
      · exact r.dj j l a h1 h2
  · unfold setF at h; split at h
    · exact nomatch h
    · exact r.fr j a h
  · unfold setF at h; split at h
    · exact nomatch h
    · rename_i e
      intro z
      rcases List.mem_append.mp z with z | z
      · exact r.ns j a h z
      · rw [List.mem_singleton.mp z] at h
        exact e (r.dj j i b h hb)
  · rw [eA]
    by_cases e : i = j
    · subst e
      rw [List.getElem?_set, if_pos rfl, if_pos hi] at h
      cases h
      refine ⟨by unfold setF; rw [if_pos rfl], _, hv, .tok ?_⟩
      rw [List.getElem?_append_right (Nat.le_refl _), Nat.sub_self]
      rfl
    · rw [List.getElem?_set_ne e] at h
      have q := (r.sl j s h).grow (T := [b])
      have : setF Fs i [] j = Fs j := by unfold setF; rw [if_neg (Ne.symm e)]
      rw [this]
      exact q
  · by_cases e : i = j
    · subst e
      unfold setF; rw [if_pos rfl]
    · rw [List.getElem?_set_ne e] at h
      unfold setF; rw [if_neg (Ne.symm e)]
      exact r.out j h
  · rw [eA]; exact r.pub
end
section
variable {Z : List Addr → Prop} {X : Cx} {e : Expr} {f : Ev} {k i : Nat} {pos p : Pos} {x : Str}
/-- an owned list or dict of depth one becomes a cell -/
def sCell (i : Nat) : Sv := fun env s => match env[i]? with
  | some (.ow 1 (.list ds)) => some (.nx, env.set i (.sh (tokD s.length)), s ++ [.lst ds])
  | _ => none
theorem Sr.cell {K : PySem.W.Frag} {C : Hp} {S0 S : List Addr} {A0 : Addr → Prop} {H0 H : Hp} {σ : Sg} {env env' : Env} {sto sto' : STO} {Fs : Nat → List Addr} {o : Out} (r : Sr K C S0 S A0 H0 σ H env sto Fs) (q : sCell i env sto = some (o, env', sto')) : o = .nx ∧ ∃ S' Fs', Sr K C S0 S' A0 H0 σ H env' sto' Fs' := by
  unfold sCell at q
  split at q
  · rename_i ds hs
    cases q
    obtain ⟨u, e1, ow⟩ := r.sl i _ hs
    obtain ⟨b, vs, F0, rfl, hF, h1, h2⟩ := ow.lstI
    obtain ⟨rfl, h3⟩ := h2.zero'
    have := r.toCell (List.getElem?_eq_some_iff.mp hs).1 hF e1 (c := .lst ds) ⟨vs, h1, h3⟩
    rw [r.wd.len] at this
    exact ⟨rfl, _, _, this⟩
  · cases q
/-- name = a new list, in a cell -/
def sNew (i : Nat) (f : Ev) : Sv := sSeq (sSet i 1 [] f) (sCell i)
theorem js_new (he : JP X e f 1) (hN : X.N.Nodup) (hi : X.N[i]? = some x) (hx : Loc X.env.scope x) (hs : swapsWith e (some (.Name x p)) pos.line X.env = pure false := by rfl) (hf : X.fn x = true ∨ X.env.scope.names.lookup x = some .local := by first | exact .inl rfl | exact .inr rfl | assumption) :
    JS Z X (.Assign [.Name x p] e pos) (sNew i f) k := fun C S0 S A0 H0 σ H env sto Fs o env' sto' E hZ r q z => by
  unfold sNew sSeq at q
  obtain ⟨⟨o1, e1, s1⟩, q1, q⟩ := bind_some' q
  have ho : o1 = .nx := by
    unfold sSet at q1
    split at q1
    · obtain ⟨_, _, h⟩ := map_some' q1
      cases h
      rfl
    · cases q1
  subst ho
  refine js_set (k := k) he hN hi hx hs hf C S0 S A0 H0 σ H env sto Fs .nx e1 s1 E hZ r q1 fun S1 σ1 H1 Fs1 r1 => ?_
  obtain ⟨rfl, S2, Fs2, r2⟩ := r1.cell q
  exact z S2 σ1 H1 Fs2 r2
end

/-! ### defs -/
/-- a dict that changes no more is handed back -/
def thaw (n : Nat) (d : D) (s' : STO) : D := match isTok d with
  | some j => (match s'[j]? with
    | some (.fdc t es) => if n ≤ j then .dict ((.none, .bool t) :: es) else d
    | _ => d)
  | none => d
def fin (s : STO) (d : D) (s' : STO) : Option (D × STO) :=
  if s'.length = s.length then some (d, s') else if tokLt s.length (thaw s.length d s') = true ∧ (s'.take s.length).all (cellLt s.length) = true then some (thaw s.length d s', s'.take s.length) else none
theorem thaw_ow {K : PySem.W.Frag} {S S1 : List Addr} {A : Addr → Prop} {H' : Hp} {sto s1 : STO} {k : Nat} {v : V} {d1 : D} {F : List Addr} (hl : S.length = sto.length) (w' : Wd K (S ++ S1) (fun a => a ∈ F ∨ A a ∨ a ∈ S ++ S1) H' s1) (hA : ∀ a ∈ S1, ¬ A a)
    (ow : Ow K (S ++ S1) (fun a => a ∈ F ∨ A a ∨ a ∈ S ++ S1) H' k v d1 F) (c1 : tokLt sto.length (thaw sto.length d1 s1) = true) : Ow K S (plus F A) H' k v (thaw sto.length d1 s1) F := by
  have hsub : ∀ a, plus F A a → (a ∈ F ∨ A a ∨ a ∈ S ++ S1) := fun a h => h.imp id .inl
  have plain : tokLt sto.length d1 = true → Ow K S (plus F A) H' k v d1 F := fun c => (ow.mv (hid_le hsub) fun a _ o q => q).shrink (by rw [hl]; exact c)
  unfold thaw at c1 ⊢
  split at c1
  · rename_i j hj
    split at c1
    · rename_i t es hc
      split at c1
      · rename_i hn
        simp only [hj, hc, if_pos hn]
        have hF : F = [] := by
          rw [isTok_eq hj] at ow
          unfold tokD at ow
          generalize e0 : PyData.dict [(.none, .int (j : Nat))] = d0 at ow
          cases ow with
          | sh r => rfl
          | «at» h1 h2 r => rfl
          | lst e t => cases e0
        subst hF
        have rp : Rp K (S ++ S1) (hid (fun a => a ∈ ([] : List Addr) ∨ A a ∨ a ∈ S ++ S1) H') v d1 := ow.rp (fun _ h => h) (fun _ h => nomatch h)
        rw [isTok_eq hj] at rp
        obtain ⟨l, rfl, hS⟩ := rp.tokI
        have hS1 : l ∈ S1 := by
          rw [List.getElem?_append_right (by omega)] at hS
          exact List.mem_of_getElem? hS
        have nA : ¬ plus [] A l := fun z => z.elim (fun z => nomatch z) (hA l hS1)
        have ok := w'.st j l _ hS hc
        have c2 : tokLtE S.length es = true := by
          have c1' : (true && (true && tokLtE sto.length es)) = true := c1
          rw [hl]
          simpa using c1'
        cases t with
        | false =>
          obtain ⟨o, kvs, h1, h2⟩ := ok
          exact .atom ⟨(fun ds z => by cases z), trivial⟩ (.rK (hid_eq.mpr ⟨nA, h1⟩) ((h2.le (hid_le hsub)).shrink c2))
        | true =>
          obtain ⟨o, kvs, h1, h2⟩ := ok
          exact .atom ⟨(fun ds z => by cases z), trivial⟩ (.rT (hid_eq.mpr ⟨nA, h1⟩) ((h2.le (hid_le hsub)).shrink c2))
      · rename_i hn
        simp only [hj, hc, if_neg hn]
        exact plain c1
    · exact plain c1
  · exact plain c1
def fnD (N : Nat) (body : Sv) : FnD := fun ds s => (body (ds.map .sh ++ List.replicate (N - ds.length) .no) s).bind fun p => match p.1 with
  | .rt d => fin s d p.2.2
  | .nx => fin s .none p.2.2
  | _ => none
/-- a body from its entry on -/
theorem body_core {X : Cx} {Z : List Addr → Prop} {sts : List Stmt} {g : Sv} {k : Nat} {N : List Str} {vs : List V} {H : Hp} {Q : VK} {A : Addr → Prop} {S : List Addr} {ds : List D} {sto sto' : STO} {d : D} (hZ : Z S) (hb : JSs Z X sts g k)
    (w : Wd X.K S A H sto) (rp : RpA X.K S (hid A H) vs ds) (hf : fnD N.length g ds sto = some (d, sto')) (z : ∀ v H' F', Res X.K S A H sto' k H' v d F' → Q v H') :
    wpSs X sts { nx := fun _ H' => Q .non H', rt := Q } (L2.start N vs) H := by
  unfold fnD at hf
  obtain ⟨⟨o, env', s1⟩, q1, q⟩ := bind_some' hf
  have hvl := rp.length
  have hA : hd S (fun _ => []) A = A := by
    funext a
    simp only [eq_iff_iff]
    constructor
    · rintro (⟨_, h⟩ | h | h)
      · exact nomatch h
      · exact h
      · exact w.hS a h
    · exact fun h => .inr (.inl h)
  have r : Sr X.K (fun _ => none) S S A H (L2.start N vs) H (ds.map .sh ++ List.replicate (N.length - ds.length) .no) sto (fun _ => []) := by
    refine ⟨?_, ⟨[], by simp, fun a h => absurd h List.not_mem_nil⟩, w.al, w.hS, Ext.refl, by rw [hA]; exact w, fun _ => .nil, (fun _ _ _ h => nomatch h), (fun _ _ h => nomatch h), (fun _ _ h => nomatch h), fun i s h => ?_, fun _ _ => rfl, fun _ _ h => nomatch h⟩
    · unfold L2.start
      rw [List.length_append, List.length_append, List.length_map, List.length_map, List.length_replicate, List.length_replicate, hvl]
    · rw [hA]
      unfold L2.start
      by_cases c : i < ds.length
      · rw [List.getElem?_append_left (by rw [List.length_map]; exact c), List.getElem?_map] at h
        rw [List.getElem?_append_left (by rw [List.length_map, hvl]; exact c), List.getElem?_map]
        cases e : ds[i]? with
        | none => rw [e] at h; cases h
        | some d' =>
          rw [e] at h
          cases h
          obtain ⟨v, e1, e2⟩ := rp.get e
          rw [e1]
          exact ⟨rfl, v, rfl, e2⟩
      · rw [List.getElem?_append_right (by rw [List.length_map]; omega)] at h
        have := List.mem_of_getElem? h
        rw [List.eq_of_mem_replicate this]
        exact trivial
  have fin' : ∀ d1, fin sto d1 s1 = some (d, sto') → ∀ v H', RtR X.K S A H H' k v d1 s1 → Q v H' := fun d1 hfin v H' hr => by
    obtain ⟨S', F, ⟨S1, hs, hs1⟩, x, al0, a0S, w', nd, fr, ns, ow⟩ := hr
    subst hs
    have hlS := w.len
    have hlS' := w'.len
    rw [List.length_append] at hlS'
    have hsub : ∀ a, plus F A a → (a ∈ F ∨ A a ∨ a ∈ S ++ S1) := fun a h => h.imp id .inl
    unfold fin at hfin
    split at hfin
    · rename_i hl
      cases hfin
      have : S1 = [] := List.eq_nil_of_length_eq_zero (by omega)
      subst this
      rw [List.append_nil] at *
      have hP : (fun a => a ∈ F ∨ A a ∨ a ∈ S) = plus F A := by
        funext a
        simp only [plus, eq_iff_iff]
        exact ⟨fun h => h.imp id fun h => h.elim id (w.hS a), fun h => h.imp id .inl⟩
      rw [hP] at w' ow
      exact z v H' F ⟨x, w', nd, fr, ow⟩
    · split at hfin
      case isFalse => cases hfin
      rename_i hc
      cases hfin
      obtain ⟨c1, c2⟩ := hc
      rw [← hlS] at c2
      refine z v H' F ⟨x, ⟨fun a h => w'.alt a (hsub a h), fun a h => .inr (w.hS a h), (List.nodup_append.mp w'.nds).1, by rw [List.length_take]; omega, fun i a c h1 h2 => ?_⟩, nd, fr, thaw_ow hlS w' (fun a h => w.notA (hs1 a h)) ow c1⟩
      have hi := (List.getElem?_eq_some_iff.mp h1).1
      have hcl := List.all_eq_true.mp c2 c (by rw [hlS]; exact List.mem_of_getElem? h2)
      rw [List.getElem?_take, if_pos (by omega)] at h2
      have ok := w'.st i a c (by rw [List.getElem?_append_left hi]; exact h1) h2
      exact (ok.keep (hid_le hsub) (fun _ h => h) fun _ _ h => h).shrink hcl
  refine hb (fun _ => none) S S A H (L2.start N vs) H _ sto (fun _ => []) o env' s1 _ hZ r q1 ?_
  cases o with
  | nx =>
    intro S' σ' H' Fs' r'
    refine fin' .none q .non H' ?_
    have le : ∀ a, (a ∈ ([] : List Addr) ∨ A a ∨ a ∈ S') → hd S' Fs' A a := fun a h => by
      rcases h with h | h
      · exact nomatch h
      · exact .inr h
    exact ⟨S', [], r'.s0, r'.ext, r'.al0, r'.a0S, r'.wd.less le fun a e => .inr (.inr e), .nil, noF, noF, .atom atomic_none .non⟩
  | rt d1 => exact fun v H' hr => fin' d1 q v H' hr
  | bk => cases q
  | ct => cases q
/-- what the promise about a def of n parameters says of its body -/
theorem body_of {X : Cx} {sts : List Stmt} {g : Sv} {n k : Nat} {N : List Str} {vs : List V} {H : Hp} {Q : VK} (hb : JSs (fun _ => True) X sts g k) (h : spD X.K n (fnD N.length g) k vs H Q) :
    wpSs X sts { nx := fun _ H' => Q .non H', rt := Q } (L2.start N vs) H := by
  obtain ⟨A, S, ds, sto, d, sto', hl, w, rp, hf, z⟩ := h
  exact body_core trivial hb w rp hf z
end J
namespace J
open PySem PySem.Spec PyProof.Rows L2

/-! ### sorted -/
abbrev Pc := V × D × List Addr
def pcLe (a b : Pc) : Bool := PySem.W.dataLe false (fun p : Pc => p.2.1) a b
theorem pc_srt (ps : List Pc) : (ps.mergeSort pcLe).map (fun p => p.2.1) = srt (ps.map fun p => p.2.1) := PySem.W.sort_maps (fun p : Pc => p.2.1) fun _ _ _ _ => rfl
def rSortedD (K : PySem.W.Frag) : List V → Hp → VK → Prop := fun vs H Q => ∃ l, ∃ ps : List Pc, vs = [.ref l] ∧ Rd H l (.lst (ps.map (·.1))) ∧ (∀ p ∈ ps, Dp K H p.1 p.2.1) ∧ sortOk (ps.map fun p => p.2.1) = true ∧ ps.length ≤ 16777216 ∧
  ∀ a, H a = none → Q (.ref a) (upd H a (.lst ((ps.mergeSort pcLe).map (·.1))))
theorem alike_of {ds : List D} (h : allAlike ds = true) : PySem.W.AllAlike ds := fun d hd d' hd' => List.all_eq_true.mp (List.all_eq_true.mp h d hd) d' hd'
theorem sortable_of {ds : List D} (h : (ds.all notTup || ds.all headTup) = true) : PySem.W.Sortable ds := by
  rw [Bool.or_eq_true] at h
  rcases h with h | h
  · refine .inr fun d hd => ?_
    have := List.all_eq_true.mp h d hd
    cases d with
    | none => cases this
    | tuple _ => cases this
    | _ => exact ⟨(fun z => nomatch z), fun _ z => nomatch z⟩
  · refine .inl fun d hd => ?_
    have := List.all_eq_true.mp h d hd
    cases d with
    | tuple xs =>
      cases xs with
      | nil => cases this
      | cons x r => exact ⟨x, r, rfl⟩
    | _ => cases this
theorem depth_mem {ds : List D} {d : D} (h : d ∈ ds) : d.depth ≤ PyData.depthAll ds := by
  induction ds with
  | nil => cases h
  | cons x r ih =>
    rw [PyData.depthAll]
    rcases List.mem_cons.mp h with rfl | h
    · exact Nat.le_max_left _ _
    · exact Nat.le_trans (ih h) (Nat.le_max_right _ _)
theorem canLay_mem {ds : List D} {d : D} (h : d ∈ ds) (hc : PyData.canLayAll0 ds = true) : d.canLay0 = true := by
  induction ds with
  | nil => cases h
  | cons x r ih =>
    rw [PyData.canLayAll0, Bool.and_eq_true] at hc
    rcases List.mem_cons.mp h with rfl | h
    · exact hc.1
    · exact ih h hc.2
theorem each_pcs {ps : List Pc} {us : List Value} (r : Vals (ps.map (·.1)) us) : PySem.W.EachIs (fun (v : Value) (p : Pc) => RelV p.1 v) us ps := by
  induction ps generalizing us with
  | nil => cases r; exact .nil
  | cons p ps ih =>
    cases r with
    | cons a b => exact .cons a (ih b)
theorem each_vals {ps : List Pc} {us : List Value} (r : PySem.W.EachIs (fun (v : Value) (p : Pc) => RelV p.1 v) us ps) : Vals (ps.map (·.1)) us := by
  induction r with
  | nil => exact .nil
  | cons a b ih => exact .cons a ih
theorem each_reads {X : Cx} {pins : List (Addr × Obj)} {σ : Sg} {H : Hp} {s : Shared} (I : Inv X pins σ H s) {ps : List Pc} {us : List Value} (r : Vals (ps.map (·.1)) us) (h : ∀ p ∈ ps, Dp X.K H p.1 p.2.1) :
    PySem.W.EachIs (fun (v : Value) (p : Pc) => ∃ as, Reads s.heap v p.2.1 as) us ps := by
  induction ps generalizing us with
  | nil => cases r; exact .nil
  | cons p ps ih =>
    cases r with
    | cons a b => exact .cons (Dp.reads I _ _ _ (h p List.mem_cons_self) a) (ih b fun q hq => h q (List.mem_cons_of_mem _ hq))
theorem cr_sortedD {X : Cx} (hu : X.A.units + 66 < cLine) : CallR X (.builtin "sorted") (rSortedD X.K) := by
  intro pins s σ H vs us Q I r h
  obtain ⟨a, ps, rfl, hs, hd, hok, hln, q⟩ := h
  obtain ⟨its, rv, hl, hz⟩ := I.list (.inl hs)
  rw [Vals.ref1 r]
  unfold sortOk at hok
  rw [Bool.and_eq_true, Bool.and_eq_true] at hok
  obtain ⟨⟨h1, h2⟩, h3⟩ := hok
  have hdep := SeqAt.depth_of_shaped h3
  rw [PyData.depth] at hdep
  refine PySem.W.sorted_data (enc := fun p : Pc => p.2.1) (R := fun (v : Value) (p : Pc) => RelV p.1 v) hl.isList (each_pcs rv) (each_reads I rv hd) (alike_of h1) (sortable_of h2) (by rw [sizeLine_eq]; exact hln) (fun b hb => ?_) fun out ho eo => ?_
  · have := depth_mem (List.mem_map.mpr ⟨b, hb, rfl⟩ : b.2.1 ∈ ps.map fun p => p.2.1)
    show X.A.units + 2 + b.2.1.depth < cLine
    omega
  · obtain ⟨ep, he'⟩ := PyProof.Rows.sortedAll_at s.heap its out.toArray
    have hlen : ((ps.mergeSort pcLe).map (·.1)).length ≤ sizeLine := by
      rw [List.length_map, List.length_mergeSort, sizeLine_eq]
      exact hln
    exact ⟨.ref _, upd H (s.heap.objs.size + 1) (.lst ((ps.mergeSort pcLe).map (·.1))), I.laid (t' := s.toks) (fun _ _ => PyProof.Rows.sortedAll_old) (Nat.le_succ _) ⟨hlen, out, ep, each_vals eo, he'⟩, rfl, q _ (I.hok.fresh (Nat.le_succ _))⟩

section
variable {K : PySem.W.Frag} {S : List Addr} {A : Addr → Prop} {H : Hp}
theorem OwA.pieces : ∀ {k : Nat} {vs : List V} {ds : List D} {F : List Addr}, OwA K S A H k vs ds F → ∃ ps : List Pc, ps.map (·.1) = vs ∧ ps.map (fun p => p.2.1) = ds ∧ (ps.map fun p => p.2.2).flatten = F ∧ ∀ p ∈ ps, Ow K S A H k p.1 p.2.1 p.2.2
  | _, _, _, _, .nil => ⟨[], rfl, rfl, rfl, fun _ h => nomatch h⟩
  | _, _, _, _, .cons (v := v) (d := d) (F := F) a b => by
    obtain ⟨ps, e1, e2, e3, h⟩ := OwA.pieces b
    refine ⟨(v, d, F) :: ps, by rw [List.map_cons, e1], by rw [List.map_cons, e2], by rw [List.map_cons, List.flatten_cons, e3], fun p hp => ?_⟩
    rcases List.mem_cons.mp hp with rfl | hp
    · exact a
    · exact h p hp
theorem OwA.of_pieces {k : Nat} : ∀ {ps : List Pc}, (∀ p ∈ ps, Ow K S A H k p.1 p.2.1 p.2.2) → OwA K S A H k (ps.map (·.1)) (ps.map fun p => p.2.1) (ps.map fun p => p.2.2).flatten
  | [], _ => .nil
  | p :: ps, h => .cons (h p List.mem_cons_self) (OwA.of_pieces fun q hq => h q (List.mem_cons_of_mem _ hq))
theorem perm_flat {α : Type} {xs ys : List (List α)} (h : xs.Perm ys) : xs.flatten.Perm ys.flatten := h.flatten
/-- the owned items of a list, sorted into a new one -/
theorem OwA.sorted {k : Nat} {vs : List V} {ds : List D} {F : List Addr} (h : OwA K S A H k vs ds F) (hok : sortOk ds = true) :
    ∃ ps : List Pc, ps.map (·.1) = vs ∧ ps.map (fun p => p.2.1) = ds ∧ ((ps.mergeSort pcLe).map fun p => p.2.2).flatten.Perm F ∧ OwA K S A H k ((ps.mergeSort pcLe).map (·.1)) (srt ds) ((ps.mergeSort pcLe).map fun p => p.2.2).flatten := by
  obtain ⟨ps, e1, e2, e3, h4⟩ := h.pieces
  refine ⟨ps, e1, e2, ?_, ?_⟩
  · rw [← e3]
    exact ((List.mergeSort_perm ps pcLe).map _).flatten
  · have := OwA.of_pieces (k := k) (K := K) (S := S) (A := A) (H := H) (ps := ps.mergeSort pcLe) fun p hp => h4 p ((List.mergeSort_perm ps pcLe).mem_iff.mp hp)
    rw [pc_srt, e2] at this
    exact this
end
def dSort : D → Option D
  | .list ds => if sortOk ds = true ∧ ds.length ≤ 16777216 then some (.list (srt ds)) else none
  | _ => none
section
variable {Z : List Addr → Prop} {X : Cx} {e : Expr} {f : Ev} {k : Nat} {pos p p2 : Pos}
theorem OwA.dps {K : PySem.W.Frag} {S : List Addr} {A : Addr → Prop} {H : Hp} {k : Nat} {ps : List Pc} {F : List Addr} (h : OwA K S A H k (ps.map (·.1)) (ps.map fun p => p.2.1) F) (hok : sortOk (ps.map fun p => p.2.1) = true) (hF : ∀ a ∈ F, True) : ∀ q ∈ ps, Dp K H q.1 q.2.1 := by
  have rp : RpA K S (hid (fun _ => False) H) (ps.map (·.1)) (ps.map fun p => p.2.1) := h.rp (fun _ z => z.elim) fun _ _ z => z
  unfold sortOk at hok
  rw [Bool.and_eq_true] at hok
  have hc := SeqAt.canLay_of_shaped hok.2
  rw [PyData.canLay0] at hc
  intro q hq
  obtain ⟨i, hi, e⟩ := List.getElem_of_mem hq
  have e1 : (ps.map fun p => p.2.1)[i]? = some q.2.1 := by rw [List.getElem?_map, List.getElem?_eq_getElem hi, e]; rfl
  have e2 : (ps.map (·.1))[i]? = some q.1 := by rw [List.getElem?_map, List.getElem?_eq_getElem hi, e]; rfl
  obtain ⟨v, e3, p3⟩ := rp.get e1
  rw [e2] at e3
  cases e3
  exact p3.out.dp (canLay_mem (List.mem_of_getElem? e1) hc)
theorem dSort_some {x d : D} (h : dSort x = some d) : ∃ ds, x = .list ds ∧ sortOk ds = true ∧ ds.length ≤ 16777216 ∧ d = .list (srt ds) := by
  unfold dSort at h
  split at h
  · split at h
    · rename_i hc
      cases h
      exact ⟨_, rfl, hc.1, hc.2, rfl⟩
    · cases h
  · cases h
theorem sorted_core {A : Addr → Prop} {S : List Addr} {H H1 : Hp} {sto s1 : STO} {a : Addr} {vs : List V} {ds : List D} {F : List Addr} {Q : VK} (w : Wd X.K S A H sto) (x : Ext S H H1) (w1 : Wd X.K S (plus F A) H1 s1) (nd : F.Nodup) (fr : ∀ a ∈ F, H a = none)
    (rd : Rd H1 a (.lst vs)) (ow : OwA X.K S (plus F A) H1 k vs ds F) (hok : sortOk ds = true) (hln : ds.length ≤ 16777216) (z : ∀ v H' F, Res X.K S A H s1 (k + 1) H' v (.list (srt ds)) F → Q v H') : rSortedD X.K [.ref a] H1 Q := by
  obtain ⟨ps, e1, e2, e3, o2⟩ := ow.sorted hok
  have hl : ps.length = ds.length := by rw [← e2, List.length_map]
  refine ⟨a, ps, rfl, by rw [e1]; exact rd, OwA.dps (F := F) (by rw [e1, e2]; exact ow) (by rw [e2]; exact hok) fun _ _ => trivial, by rw [e2]; exact hok, by rw [hl]; exact hln, fun b hb => ?_⟩
  generalize ((ps.mergeSort pcLe).map fun p => p.2.2).flatten = G at e3 o2
  have hG : ∀ a ∈ G, a ∈ F := fun a ha => e3.mem_iff.mp ha
  have rs : ResA X.K S A H s1 k H1 ((ps.mergeSort pcLe).map (·.1)) (srt ds) G := ⟨x, w1.less (fun a h => h.imp (hG a) id) fun a e => .inr (w.hS a e), (e3.nodup_iff).mpr nd, fun a ha => fr a (hG a ha), o2.mv (hid_le fun a h => h.imp (hG a) id) fun a _ o q => q⟩
  exact z _ _ _ (Res.lst w rs hb)
/-- sorted(e), e new, its items owned -/
theorem jp_sorted (ha : JP X e f (k + 1)) (hu : X.A.units + 66 < cLine) (hg : Gl X "sorted") (hm : X.mg "sorted" = none) (hv : bootBuiltins "sorted" = some (.builtin "sorted") := by rfl)
    (he : starEach [e] X.env = (false, eval e X.env) :: starEach [] X.env := by rfl) (hpl : (backTo pos (starEach [] X.env)).any (·.1) = false := by rfl) : JP X (.Call (.Name "sorted" p) [e] [] pos) (eUn dSort f) (k + 1) := fun A S σ H vw sto d sto' Q w r q z => by
  unfold eUn at q
  obtain ⟨⟨x, s1⟩, e1, q⟩ := bind_some' q
  obtain ⟨t, e2, q⟩ := map_some' q
  cases q
  obtain ⟨ds, rfl, hok, hln, rfl⟩ := dSort_some e2
  refine wpE.by (pe_callB (cr_sortedD hu) hg hm hv (pa_cons wpE_pe pa_nil he) (by decide) (by decide) he hpl) (ha A S σ H vw sto _ _ _ w r e1 fun v H1 F rs => ?_)
  obtain ⟨a, vs, F0, rfl, rfl, e3, ow⟩ := rs.ow.lstI
  have hsub : ∀ b, plus F0 A b → plus (a :: F0) A b := fun b h => h.imp (List.mem_cons_of_mem _) id
  exact sorted_core w rs.ext (rs.wd.less hsub fun a e => .inr (w.hS a e)) (List.nodup_cons.mp rs.nd).2 (fun b hb => rs.fr b (List.mem_cons_of_mem _ hb)) (.inl e3) (ow.mv (hid_le hsub) fun a _ o q => q) hok hln z
/-- sorted(e), its items given to all -/
theorem jp_sorted0 (ha : JP X e f 0) (hu : X.A.units + 66 < cLine) (hg : Gl X "sorted") (hm : X.mg "sorted" = none) (hv : bootBuiltins "sorted" = some (.builtin "sorted") := by rfl)
    (he : starEach [e] X.env = (false, eval e X.env) :: starEach [] X.env := by rfl) (hpl : (backTo pos (starEach [] X.env)).any (·.1) = false := by rfl) : JP X (.Call (.Name "sorted" p) [e] [] pos) (eUn dSort f) 1 := fun A S σ H vw sto d sto' Q w r q z => by
  unfold eUn at q
  obtain ⟨⟨x, s1⟩, e1, q⟩ := bind_some' q
  obtain ⟨t, e2, q⟩ := map_some' q
  cases q
  obtain ⟨ds, rfl, hok, hln, rfl⟩ := dSort_some e2
  refine wpE.by (pe_callB (cr_sortedD hu) hg hm hv (pa_cons wpE_pe pa_nil he) (by decide) (by decide) he hpl) (ha.use w r e1 fun v H1 x1 w1 r1 p1 => ?_)
  obtain ⟨a, vs, rfl, r2, q2⟩ := p1.lstI
  exact sorted_core (F := []) w x1 (by rw [plus_nil]; exact w1) .nil noF r2.out (by rw [plus_nil]; exact .zero q2) hok hln z
/-- return sorted(name), the owned items handed on -/
def sRetSrt (i k : Nat) : Sv := fun env s => match env[i]? with
  | some (.ow j d) => if j = k then (dSort d).map fun t => (.rt t, env, s) else none
  | _ => none
theorem js_retSrt {i : Nat} {x : Str} (hN : X.N[i]? = some x) (hx : Vis X.env.scope x) (hu : X.A.units + 66 < cLine) (hg : Gl X "sorted") (hm : X.mg "sorted" = none) (hv : bootBuiltins "sorted" = some (.builtin "sorted") := by rfl) (hdb : (x == Str.ofString "__debug__") = false := by decide) (hcd : (x == Str.ofString "__classdict__") = false := by decide)
    (he : starEach [.Name x p2] X.env = (false, eval (.Name x p2) X.env) :: starEach [] X.env := by rfl) (hpl : (backTo pos (starEach [] X.env)).any (·.1) = false := by rfl) {pos2 : Pos} :
    JS Z X (.Return (some (.Call (.Name "sorted" p) [.Name x p2] [] pos)) pos2) (sRetSrt i (k + 1)) (k + 1) := fun C S0 S A0 H0 σ H env sto Fs o env' sto' E hZ r q z => by
  unfold sRetSrt at q
  split at q
  case h_2 => cases q
  rename_i j d he1
  split at q
  case isFalse => cases q
  rename_i hjk
  subst hjk
  obtain ⟨t, e2, q⟩ := map_some' q
  cases q
  obtain ⟨ds, rfl, hok, hln, rfl⟩ := dSort_some e2
  obtain ⟨u, e1, ow⟩ := r.sl i _ he1
  obtain ⟨a, vs, F0, rfl, eF, e3, ow0⟩ := ow.lstI
  have nd := r.nd i
  rw [eF] at nd
  -- all that the def owned is let go, but the items
  let A : Addr → Prop := fun a => A0 a ∨ a ∈ S
  have hA : ∀ b, plus F0 A b → hd S Fs A0 b := fun b h => by
    rcases h with h | h
    · exact .inl ⟨i, by rw [eF]; exact List.mem_cons_of_mem _ h⟩
    · exact .inr h
  have hin : ∀ b ∈ F0, b ∈ Fs i := fun b hb => by rw [eF]; exact List.mem_cons_of_mem _ hb
  obtain ⟨ps, g1, g2, g3, o2⟩ := ow0.sorted hok
  have hl : ps.length = ds.length := by rw [← g2, List.length_map]
  refine wpS.by (ps_ret (pe_callB (cr_sortedD hu) hg hm hv (pa_cons (pe_var hN hx hdb hcd) pa_nil he) (by decide) (by decide) he hpl)) ⟨_, e1, a, ps, rfl, by rw [g1]; exact .inl e3, OwA.dps (F := F0) (by rw [g1, g2]; exact ow0) (by rw [g2]; exact hok) fun _ _ => trivial, by rw [g2]; exact hok, by rw [hl]; exact hln, fun b hb => ?_⟩
  generalize ((ps.mergeSort pcLe).map fun p => p.2.2).flatten = G at g3 o2
  have hG : ∀ a ∈ G, a ∈ F0 := fun a ha => g3.mem_iff.mp ha
  refine z _ _ ⟨S, b :: G, r.s0, fun c o hc h => same_upd hb c o (r.ext c o hc h), r.al0, r.a0S, ?_, ?_, fun c hc => ?_, fun c hc => ?_, .lst upd_same ?_⟩
  · refine (r.wd.less (A' := fun c => c ∈ G ∨ A0 c ∨ c ∈ S) (fun c h => ?_) fun c e => .inr (.inr e)).grow (same_upd hb) (fun c h => ?_) fun c h => ?_
    · rcases h with h | h
      · exact .inl ⟨i, hin c (hG c h)⟩
      · exact .inr h
    · rcases h with h | h
      · rcases List.mem_cons.mp h with rfl | h
        · exact .inr ⟨hb, by rw [upd_same]; exact ⟨(fun z => nomatch z), fun _ z => nomatch z⟩⟩
        · exact .inl (.inl h)
      · exact .inl (.inr h)
    · exact h.imp (List.mem_cons_of_mem _) id
  · refine List.nodup_cons.mpr ⟨fun h => ?_, (g3.nodup_iff).mpr (List.nodup_cons.mp nd).2⟩
    exact r.wd.al b (.inl ⟨i, hin b (hG b h)⟩) hb
  · rcases List.mem_cons.mp hc with rfl | hc
    · exact r.old hb
    · exact r.fr i c (hin c (hG c hc))
  · rcases List.mem_cons.mp hc with rfl | hc
    · exact r.wd.live hb
    · exact r.ns i c (hin c (hG c hc))
  · refine o2.mv (hid_move (Ext.of (same_upd hb)) r.wd.hS fun c h => ?_) fun c hc o q => ?_
    · rcases h with h | h
      · rcases List.mem_cons.mp h with rfl | h
        · exact .inr hb
        · exact .inl (.inl ⟨i, hin c (hG c h)⟩)
      · exact .inl (.inr h)
    · exact same_upd hb c o q

/-! ### repr -/
def showOk (d : D) : Bool := d.showable && SeqAt.shaped d && decide (d.shown.length ≤ 16777216)
def dRepr : D → Option D
  | .bool b => some (.str (if b = true then "True" else "False"))
  | .int i => if i.natAbs < 2 ^ 1900 then some (.str (toString i)) else none
  | .list ds => if showOk (.list ds) = true then some (.str (PyData.shown (.list ds))) else none
  | .tuple ds => if showOk (.tuple ds) = true then some (.str (PyData.shown (.tuple ds))) else none
  | _ => none
theorem showOk_iff {d : D} (h : showOk d = true) : d.showable = true ∧ SeqAt.shaped d = true ∧ d.shown.length ≤ 16777216 := by
  unfold showOk at h
  rw [Bool.and_eq_true, Bool.and_eq_true] at h
  exact ⟨h.1.1, h.1.2, of_decide_eq_true h.2⟩
theorem dRepr_some {x d : D} (h : dRepr x = some d) : (∃ b : Bool, x = .bool b ∧ d = .str (if b = true then "True" else "False")) ∨ (∃ i : Int, x = .int i ∧ i.natAbs < 2 ^ 1900 ∧ d = .str (toString i)) ∨ (((∃ ds, x = .list ds) ∨ ∃ ds, x = .tuple ds) ∧ showOk x = true ∧ d = .str x.shown) := by
  unfold dRepr at h
  split at h
  · cases h; exact .inl ⟨_, rfl, rfl⟩
  · split at h
    · cases h; exact .inr (.inl ⟨_, rfl, by assumption, rfl⟩)
    · cases h
  · split at h
    · cases h; exact .inr (.inr ⟨.inl ⟨_, rfl⟩, by assumption, rfl⟩)
    · cases h
  · split at h
    · cases h; exact .inr (.inr ⟨.inr ⟨_, rfl⟩, by assumption, rfl⟩)
    · cases h
  · cases h
def rReprD (K : PySem.W.Frag) : List V → Hp → VK → Prop := fun vs H Q => ∃ a d, vs = [.ref a] ∧ Dp K H (.ref a) d ∧ d.showable = true ∧ SeqAt.shaped d = true ∧ d.shown.length ≤ 16777216 ∧ Q (.str d.shown) H
theorem noDict_of : ∀ {d : D}, d.canLay0 = true → d.hasDict = false := fun {d} h =>
  PyData.rec (motive_1 := fun d => d.canLay0 = true → d.hasDict = false) (motive_2 := fun ds => PyData.canLayAll0 ds = true → PyData.hasDictAll ds = false) (motive_3 := fun _ => True) (motive_4 := fun _ => True)
    (fun _ => rfl) (fun _ _ => rfl) (fun _ _ => rfl) (fun _ _ => rfl) (fun xs ih h => by rw [PyData.hasDict]; exact ih (by rw [PyData.canLay0] at h; exact h)) (fun xs ih h => by rw [PyData.hasDict]; exact ih (by rw [PyData.canLay0] at h; exact h))
    (fun xs _ h => absurd h (by simp [PyData.canLay0])) (fun _ => rfl) (fun x xs h1 h2 h => by rw [PyData.canLayAll0, Bool.and_eq_true] at h; rw [PyData.hasDictAll, h1 h.1, h2 h.2]; rfl) trivial (fun _ _ _ _ => trivial) (fun _ _ _ _ => trivial) d h
theorem cr_reprD {X : Cx} (hgu : X.A.guards = some []) (hu : X.A.units + 66 < cLine) : CallR X (.builtin "repr") (rReprD X.K) := by
  intro pins s σ H vs us Q I r h
  obtain ⟨a, d, rfl, hd, hs, hsh, hz, q⟩ := h
  rw [Vals.ref1 r]
  obtain ⟨as, rd⟩ := Dp.reads I d _ _ hd (show RelV (.ref a) (.ref a) from rfl)
  have hdep := SeqAt.depth_of_shaped hsh
  refine PySem.repr_of_reads' rd hs (fun e => by rw [noDict_of (SeqAt.canLay_of_shaped hsh)] at e; cases e) hgu (by omega) (fun _ _ h => h) (fun h' u tk hk => ?_) (by rw [sizeLine_eq]; exact hz)
  exact ⟨.str d.shown, H, I.kept (t' := tk) hk, ⟨u, rfl⟩, q⟩
theorem cr_reprB {X : Cx} : CallR X (.builtin "repr") (fun xs H Q => ∃ b : Bool, xs = [.bl b] ∧ Q (.str (if b = true then "True" else "False")) H) := by
  intro pins s σ H xs us Q I r h
  obtain ⟨b, rfl, q⟩ := h
  obtain ⟨u, rfl, rb⟩ := vals1 r
  cases rb
  exact PySem.P.repr_of_bool ⟨.str _, H, I.tok _, ⟨_, rfl⟩, q⟩
theorem jp_repr (ha : JP X e f 0) (hgu : X.A.guards = some []) (hu : X.A.units + 66 < cLine) (hg : Gl X "repr") (hm : X.mg "repr" = none) (hv : bootBuiltins "repr" = some (.builtin "repr") := by rfl)
    (he : starEach [e] X.env = (false, eval e X.env) :: starEach [] X.env := by rfl) (hpl : (backTo pos (starEach [] X.env)).any (·.1) = false := by rfl) : JP X (.Call (.Name "repr" p) [e] [] pos) (eUn dRepr f) k := fun A S σ H vw sto d sto' Q w r q z => by
  unfold eUn at q
  obtain ⟨⟨x, s1⟩, e1, q⟩ := bind_some' q
  obtain ⟨t, e2, q⟩ := map_some' q
  cases q
  rcases dRepr_some e2 with ⟨b, rfl, rfl⟩ | ⟨i, rfl, hc, rfl⟩ | ⟨hx, hc, rfl⟩
  · refine wpE.by (pe_callB cr_reprB hg hm hv (pa_cons wpE_pe pa_nil he) (by decide) (by decide) he hpl) (ha.use w r e1 fun v H1 x1 w1 r1 p1 => ?_)
    cases p1
    exact ⟨_, rfl, z _ H1 [] ((Res.atom w1 (atomic_str _) (.str _)).later x1 w1)⟩
  · refine wpE.by (pe_callB SkE.call_repr_int hg hm hv (pa_cons wpE_pe pa_nil he) (by decide) (by decide) he hpl) (ha.use w r e1 fun v H1 x1 w1 r1 p1 => ?_)
    obtain rfl := p1.intI
    refine ⟨_, rfl, ?_, z _ H1 [] ((Res.atom w1 (atomic_str _) (.str _)).later x1 w1)⟩
    by_cases h0 : i.natAbs = 0
    · rw [h0]; decide
    · exact Nat.lt_trans ((Nat.log2_lt h0).mpr hc) (by omega)
  · obtain ⟨h1, h2, h3⟩ := showOk_iff hc
    refine wpE.by (pe_callB (cr_reprD hgu hu) hg hm hv (pa_cons wpE_pe pa_nil he) (by decide) (by decide) he hpl) (ha.use w r e1 fun v H1 x1 w1 r1 p1 => ?_)
    have dp := p1.out.dp (SeqAt.canLay_of_shaped h2)
    rcases hx with ⟨ds, rfl⟩ | ⟨ds, rfl⟩
    · obtain ⟨a, xs, rfl, _, _⟩ := p1.lstI
      exact ⟨a, _, rfl, dp, h1, h2, h3, z _ H1 [] ((Res.atom w1 (atomic_str _) (.str _)).later x1 w1)⟩
    · obtain ⟨a, xs, rfl, _, _⟩ := p1.tupI
      exact ⟨a, _, rfl, dp, h1, h2, h3, z _ H1 [] ((Res.atom w1 (atomic_str _) (.str _)).later x1 w1)⟩
end
end J
namespace J
open PySem PySem.Spec PyProof.Rows L2

/-! ### l.index(e) -/
def dIndex : D → D → Option D
  | .list ds, d => if SeqAt.shaped (.list ds) = true ∧ SeqAt.shaped d = true then (ds.findIdx? fun z => PyData.eqv z d).map fun j => .int (j : Nat) else none
  | _, _ => none
section
variable {X : Cx} {e a : Expr} {f g : Ev} {k : Nat} {pos apos cpos : Pos}
theorem jp_index (ha : JP X a f 0) (he : JP X e g 0) (hu : X.A.units + 65 < cLine)
    (hbase : attributeBase a "index" X.env (eval a X.env) = eval a X.env := by rfl)
    (hfew : ((backTo cpos (starEach [e] X.env)).all (fun x => !x.1) && (backToKw cpos (keywordEach [] X.env)).all (fun x => x.1.isSome) && decide ([e].length + ([] : List Keyword).length + (if ([] : List Keyword).isEmpty then 0 else 1) < 30)) = true := by rfl)
    (hline : (apos.endLine == cpos.line) = true := by rfl) (hs : starEach [e] X.env = (false, eval e X.env) :: starEach [] X.env := by rfl) :
    JP X (.Call (.Attribute a "index" apos) [e] [] cpos) (eBin dIndex f g) k := fun A S σ H vw sto d sto' Q w r q z => by
  unfold eBin at q
  obtain ⟨⟨x, s1⟩, e1, q⟩ := bind_some' q
  obtain ⟨⟨y, s2⟩, e2, q⟩ := bind_some' q
  obtain ⟨t, e3, q⟩ := map_some' q
  cases q
  simp only at e2 e3
  unfold dIndex at e3
  split at e3
  case h_2 => cases e3
  split at e3
  case isFalse => cases e3
  rename_i ds _ hsh
  obtain ⟨j, e4, e5⟩ := map_some' e3
  cases e5
  obtain ⟨hj, h1, h2⟩ := List.findIdx?_eq_some_iff_getElem.mp e4
  refine wpE.by (pe_bm PySem.F.plainAttrs_list PySem.F.slot_list_index rfl (mt_indexD hu) wpE_pe (pa_cons wpE_pe pa_nil hs) hbase hfew hline hs rfl) (ha.use w r e1 fun v H1 x1 w1 r1 p1 => ?_)
  obtain ⟨l, xs, rfl, r2, q2⟩ := p1.lstI
  refine ⟨.inl ⟨rfl, xs, .inl r2.out⟩, he.use w1 r1 e2 fun u H2 x2 w2 r3 p3 => ?_⟩
  have p4 : Rp X.K S (hid A H2) (.ref l) (.list ds) := p1.le (hid_move x2 w1.hS fun a h => .inl h)
  refine ⟨l, u, _, ds, j, ds[j], rfl, rfl, p4.out.dp (SeqAt.canLay_of_shaped hsh.1), p3.out.dp (SeqAt.canLay_of_shaped hsh.2), hsh.1, hsh.2, List.getElem?_eq_getElem hj, h1, fun m z' hm hz => ?_, z _ H2 [] ((Res.atom w2 (atomic_int _) (.int _)).later (x1.trans x2) w2)⟩
  have := h2 m hm
  obtain ⟨hlt, e6⟩ := List.getElem?_eq_some_iff.mp hz
  rw [e6] at this
  simpa using this
end

/-! ### a def by its told body -/
abbrev bodyX (P : Program) (w : World) (K : PySem.W.Frag) (mg : Str → Option Value) (base : Heap) (N : List Str) (qual : Str) (scope : Scope) (f : Addr) (cd : Value) (A : Around) (outer : List PySem.Env) (s : Shared) (H : Hp) : Cx := (cxOf CX0 P w K mg base N qual scope f cd A outer s H E0).nox
theorem fng_def {P : Program} {w : World} {K : PySem.W.Frag} {mg : Str → Option Value} {base : Heap} {k k2 : Nat} {x qual : Str} {st : Stmt} {f : Addr} {fd : FuncData} {N ps : List Str} {g : Sv}
    (F : Fun K x qual st f fd) (S : FnScope N ps (defScope st))
    (hb : ∀ (cdv : Value) (A : Around) (outer : List PySem.Env) (s : Shared) (H : Hp), Room k (A.deeper (envOfC qual (defScope st) s.heap.objs.size f cdv)) → A.guards = some [] → JSs (fun _ => True) (bodyX P w K mg base N qual (defScope st) f cdv A outer s H) (defBody st) g k2) :
    FnG P w K mg base (k + 1) f fd ps (spD K ps.length (fnD N.length g) k2) := by
  refine FnG.of F S (fun vs H Q h => ?_) fun cdv A outer s H vs Q hr hg h => ?_
  · obtain ⟨_, _, _, _, _, _, hl, _, rp, _, _⟩ := h
    rw [rp.length]; exact hl
  · exact body_of (X := bodyX P w K mg base N qual (defScope st) f cdv A outer s H) (hb cdv A outer s H hr hg) h
/-! ### the law's call -/
/-- what the law's def promises at a list of ints -/
def spLaw (K : PySem.W.Frag) (N : Nat) (g : Sv) : SpG := fun vs H Q => ∃ ds, ds.length = 1 ∧ RpA K [] H vs ds ∧ fnD N g ds [] = some (.bool true, []) ∧ ∀ H', Q (.bl true) H'
/-- the law's own def: it makes the store -/
theorem fng_law {P : Program} {w : World} {K : PySem.W.Frag} {mg : Str → Option Value} {base : Heap} {k : Nat} {x qual y : Str} {st : Stmt} {f : Addr} {fd : FuncData} {N : List Str} {g : Sv}
    (F : Fun K x qual st f fd) (S : FnScope N [y] (defScope st))
    (hb : ∀ (cdv : Value) (A : Around) (outer : List PySem.Env) (s : Shared) (H : Hp), Room k (A.deeper (envOfC qual (defScope st) s.heap.objs.size f cdv)) → A.guards = some [] → JSs (fun S0 => S0 = []) (bodyX P w K mg base N qual (defScope st) f cdv A outer s H) (defBody st) g 0) :
    FnG P w K mg base (k + 1) f fd [y] (spLaw K N.length g) := by
  refine FnG.of F S (fun vs H Q h => ?_) fun cdv A outer s H vs Q hr hg h => ?_
  · obtain ⟨_, hl, rp, _⟩ := h
    rw [rp.length]; exact hl
  · obtain ⟨ds, hl, rp, hf, z⟩ := h
    have h0 : hid (fun _ => False) H = H := by
      funext a
      unfold hid
      rw [if_neg (fun z => z)]
    refine body_core (Z := fun S0 => S0 = []) (X := bodyX P w K mg base N qual (defScope st) f cdv A outer s H) (A := fun _ => False) (S := []) (sto := []) rfl (hb cdv A outer s H hr hg) ⟨fun _ z => z.elim, fun a h => absurd h List.not_mem_nil, List.nodup_nil, rfl, fun i a c h => by simp at h⟩ (by rw [h0]; exact rp) hf fun v H' F' rs => ?_
    have p := rs.ow.scal (S' := []) (H' := H') rfl
    cases p
    exact z H'

/-- the heap in which the script's list alone is known -/
def scrH (K : PySem.W.Frag) (a : Addr) (o : Obj) (vs : List V) : Hp := fun b => if b = a ∧ K.lookup a = none then some (.frz o (.lst vs)) else none
theorem scrH_some {K : PySem.W.Frag} {a b : Addr} {o : Obj} {vs : List V} {u : HO} (h : scrH K a o vs b = some u) : b = a ∧ K.lookup a = none ∧ u = .frz o (.lst vs) := by
  unfold scrH at h
  split at h
  · rename_i c
    exact ⟨c.1, c.2, (Option.some.inj h).symm⟩
  · cases h
theorem law_g {P : Program} {w : World} {K : PySem.W.Frag} {mg mb : Str → Option Value} {k N : Nat} {g : Sv} {fa a : Addr} {fd : FuncData} {x : Str} {s₁ : Shared} {vs : List Value} {ns : List Int}
    (KX : K.In s₁.heap) (hns : s₁.heap.Ns mainGlobals mg) (hb : s₁.heap.Ns builtinsNs mb) (hbb : ∀ x : Str, x ≠ "__name__" → mb x = bootBuiltins x) (hlim : s₁.heap.NoLimit) (hg : s₁.gens = #[])
    (ha : s₁.heap.get? a = some { cls := .type "list", data := .seq vs.toArray }) (hi : IntsAre vs ns) (hl : ns.length ≤ sizeLine) (hr : Room k callerA)
    (F : ∀ base : Heap, K.In base → base.Ns mainGlobals mg → FnG P w K mg base k fa fd [x] (spLaw K N g)) (hbind : ∀ (s : Shared) (u : Value), BindsTo s fd ⟨[u], []⟩ [(x, u)])
    (hmath : fnD N g [skD (ns.map PyData.int)] [] = some (.bool true, [])) :
    codeAny (model P w) callerA (.call (.ref fa) ⟨[.ref a], []⟩) (fun r s' => r = .ok (.ret (.bool true)) ∧ OldK s₁.heap s'.heap ∧ s'.os = s₁.os ∧ AllBare s'.gens) s₁ := by
  have rv := vals_ints hi
  have hlen := hi.length
  generalize ho : ({ cls := .type "list", data := .seq vs.toArray } : Obj) = ob at ha
  let H : Hp := scrH K a ob (ns.map V.int)
  have hH : ∀ b u, H b = some u → b = a ∧ K.lookup a = none ∧ u = .frz ob (.lst (ns.map V.int)) := fun b u h => scrH_some h
  have hseq : SqL K H a (ns.map V.int) := by
    cases hk : K.lookup a with
    | none => exact .inl (.inr ⟨ob, if_pos ⟨rfl, hk⟩⟩)
    | some o =>
      have e := KX a o hk
      rw [ha] at e
      cases e
      subst ho
      exact .inr ⟨_, vs.toArray, _, hk, rfl, rfl, rfl, by rw [List.size_toArray, hlen]; exact hl, by simpa using rv⟩
  have hok : HOk P w H s₁.heap := fun b u h => by
    obtain ⟨rfl, _, rfl⟩ := hH b u h
    subst ho
    exact ⟨ha, by rw [List.length_map]; exact hl, vs, _, rv, ha⟩
  have free : ∀ {b : Addr} {o : Obj} {es : Array DictEntry} {ep : Nat}, s₁.heap.get? b = some o → o.data = .dict es ep → H b = none := fun {b o es ep} e d => by
    cases q : H b with
    | none => rfl
    | some u =>
      obtain ⟨rfl, _, _⟩ := hH b u q
      rw [ha] at e
      cases e
      subst ho
      cases d
  have hns' : ∀ {b : Addr} {m : Str → Option Value}, s₁.heap.Ns b m → (hidT s₁.heap H).Ns b m := fun {b m} ⟨o, es, ep, e, d, r⟩ => ⟨o, es, ep, hidT_get e (free e d), d, r⟩
  have hK : K.In (hidT s₁.heap H) := fun b o e => hidT_get (KX b o e) (by
    cases q : H b with
    | none => rfl
    | some u =>
      obtain ⟨rfl, h2, _⟩ := hH b u q
      rw [h2] at e; cases e)
  have hM : Mod K mg (hidT s₁.heap H) := ⟨hK, hns' hns, ⟨mb, hns' hb, hbb⟩, let ⟨mc, h1, h2⟩ := hlim; ⟨mc, hns' h1, h2⟩⟩
  have e0 : Env0 P w K mg (hidT s₁.heap H) callerA [] s₁ H := ⟨rfl, hM, fun b o e => of_hidT e, Nat.le_of_eq (hidT_size _ _), trivial, (fun b hb => nomatch hb), hok, .of_eq hg⟩
  have hargs : RpA K [] H [.ref a] [skD (ns.map PyData.int)] := .cons (.sk hseq (RpA.of_ints ns)) .nil
  refine codeAny_mono ((F _ hK (hns' hns)).run callerA [] s₁ H ⟨[.ref a], []⟩ [.ref a] [.ref a] (fun v _ => v = .bl true) hr rfl e0 (hbind s₁ (.ref a)) (.cons rfl .nil) ⟨_, rfl, hargs, hmath, fun _ => rfl⟩) fun r s' h => ?_
  match r, h with
  | .error e, h => exact False.elim h
  | .ok .next, h => exact False.elim h
  | .ok .brk, h => exact False.elim h
  | .ok .cont, h => exact False.elim h
  | .ok (.ret u), h =>
    obtain ⟨v, H', os, bare, un, hok', r', q⟩ := h
    obtain rfl : v = .bl true := q
    obtain rfl : u = Value.bool true := r'
    refine ⟨rfl, OldK.of_keep fun b o e => ?_, os, bare⟩
    cases q : H b with
    | none => exact un.keep b o e q (fun z => nomatch z) (by simp)
    | some u =>
      obtain ⟨rfl, _, rfl⟩ := hH b u q
      have z2 := un.frzs b ob _ q
      rw [ha] at e
      cases e
      exact (hok' b _ z2).1
/-- the goal that is left of a law by its head -/
theorem walk_g {l : PySem.W.OpenLaw} {n k N : Nat} {g : Sv} {q : Program} {loose : List Str} {XP : (Str → Option Value) → Heap → Prop} {YP : World → Heap → Prop} {d : DefRec} {K : Params → PySem.W.Frag} {x : Str}
    (hn : l.most = some n) (hn2 : n ≤ sizeLine) (hdf : d.params.defaults = []) (hr : Room k callerA)
    (hY : ∀ (w : World) (h : Heap), YP w h → (K w.params).In h)
    (F : ∀ (w : World) (mg : Str → Option Value) (fa : Addr) (h : Heap), (K w.params).In h → h.Ns mainGlobals mg → mg d.name = some (.ref fa) →
      ∃ fd : FuncData, (∀ (s : Shared) (u : Value), BindsTo s fd ⟨[u], []⟩ [(x, u)]) ∧
        ∀ base : Heap, (K w.params).In base → base.Ns mainGlobals mg → FnG l.prog w (K w.params) mg base k fa fd [x] (spLaw (K w.params) N g))
    (hmath : ∀ ns : List Int, ns.length ≤ n → fnD N g [skD (ns.map PyData.int)] [] = some (.bool true, [])) :
    PySem.W.WalkO q loose XP YP l.row.toRowW d [] (fun f vs => PySem.call f vs) := by
  refine Att.attach_call hn hdf fun w s₀ s₁ mg mb fa o pm cd doc a vs ns G Y ho hd hcd hmg hobj hints hlen hg => ?_
  have KX := hY w _ Y
  obtain ⟨fd, hb, hF⟩ := F w mg fa _ KX G.T.g hmg
  exact law_g KX G.T.g G.T.b G.T.builtins G.T.nolimit hg hobj hints (Nat.le_trans hlen hn2) hr hF hb (hmath ns hlen)
end J
namespace J
open PySem PySem.Spec PyProof.Rows L2

theorem ho_n {i : Nat} : ∀ d l, bN i d = some l → ∀ p ∈ l, p.1 ∈ [i] := fun d l h p hp => by
  cases h
  have := List.mem_singleton.mp hp
  rw [this]
  exact List.mem_singleton.mpr rfl
theorem ho_t {i j : Nat} : ∀ d l, bT2 i j d = some l → ∀ p ∈ l, p.1 ∈ [i, j] := fun d l h p hp => by
  unfold bT2 at h
  split at h
  · cases h
    rcases List.mem_cons.mp hp with rfl | hp
    · exact List.mem_cons_self
    · have := List.mem_singleton.mp hp
      rw [this]
      exact List.mem_cons_of_mem _ (List.mem_singleton.mpr rfl)
  · cases h
abbrev LocB (X : Cx) (scope : Scope) (x : Str) : Prop := ∀ (s : Shared) (H : Hp) (C : Addr) (cl : List (Str × Addr)) (fp : List Addr), Loc (X.blk s H scope (compEnvC scope cl C X.env) fp).env.scope x
abbrev FnB (X : Cx) (scope : Scope) (x : Str) : Prop := ∀ (s : Shared) (H : Hp) (C : Addr) (cl : List (Str × Addr)) (fp : List Addr), (X.blk s H scope (compEnvC scope cl C X.env) fp).fn x = true ∨ (X.blk s H scope (compEnvC scope cl C X.env) fp).env.scope.names.lookup x = some .local
theorem jg_n {X : Cx} {scope : Scope} {i : Nat} {x : Str} {pos : Pos} (hN : X.N.Nodup) (hi : X.N[i]? = some x) (hx : LocB X scope x) (hf : FnB X scope x := by first | exact fun _ _ _ _ _ => .inl rfl | exact fun _ _ _ _ _ => .inr rfl) : JG X scope (.Name x pos) (bN i) :=
  ⟨_, fun s H C cl fp => pg_name hN hi (hx s H C cl fp) (hf s H C cl fp), gspec_name⟩
theorem jg_t {X : Cx} {scope : Scope} {i j : Nat} {x y : Str} {p1 p2 pos : Pos} {kk : Nat} (hN : X.N.Nodup) (hi : X.N[i]? = some x) (hj : X.N[j]? = some y) (hx : LocB X scope x) (hy : LocB X scope y) (hf : FnB X scope x := by first | exact fun _ _ _ _ _ => .inl rfl | exact fun _ _ _ _ _ => .inr rfl) (hf2 : FnB X scope y := by first | exact fun _ _ _ _ _ => .inl rfl | exact fun _ _ _ _ _ => .inr rfl) (hc : X.calm = true := by rfl) :
    JG X scope (.Tuple [.Name x p1, .Name y p2] kk pos) (bT2 i j) := ⟨_, fun s H C cl fp => by
    have a1 := pg_name (X := X.blk s H scope (compEnvC scope cl C X.env) fp) (pos := p1) hN hi (hx s H C cl fp) (hf s H C cl fp)
    have a2 := pg_name (X := X.blk s H scope (compEnvC scope cl C X.env) fp) (pos := p2) hN hj (hy s H C cl fp) (hf2 s H C cl fp)
    exact pg_tup hc (pgs_cons a1 (pgs_cons a2 pgs_nil)), gspec_tup2⟩
theorem u64 {k : Nat} {A : Around} (h : Room k A) : A.units + 64 < cLine := by have := h.un; omega
theorem u65 {k : Nat} {A : Around} (h : Room k A) : A.units + 65 < cLine := by have := h.un; omega
theorem u66 {k : Nat} {A : Around} (h : Room k A) : A.units + 66 < cLine := by have := h.un; omega
/-- a def that stands in the module -/
def Dfn (K : PySem.W.Frag) (mg : Str → Option Value) (x : Str) (st : Stmt) : Prop := ∃ fa fd, Fun K x x st fa fd ∧ mg x = some (.ref fa)
/-- a def whose promise is known -/
def Cal (P : Program) (w : World) (K : PySem.W.Frag) (mg : Str → Option Value) (base : Heap) (x : Str) (st : Stmt) (ps : List Str) (j : Nat) (F : FnD) (k : Nat) : Prop :=
  ∃ fa fd, Fun K x x st fa fd ∧ mg x = some (.ref fa) ∧ FnG P w K mg base j fa fd ps (spD K ps.length F k)
theorem dfn_of {K : PySem.W.Frag} {mg : Str → Option Value} {h : Heap} (X : K.In h) (G : h.Ns mainGlobals mg) {x : Str} {st : Stmt} {f : Addr} {oc : Value} {od an : Option Addr} {osl : Array (Option Value)} {kV doc pm cdv ct : Value}
    (a : PySem.W.nsIn K mainGlobals x = some (some (.ref f))) (l : K.lookup f = some ⟨oc, od, .func (PySem.W.fnOf x x (defArgs st) (defBody st) (defScope st) .none kV doc pm an cdv ct), osl⟩) (c : PySem.W.codeIn K cdv x = true) (k : PySem.W.keepIn K (.ref f) = true) : Dfn K mg x st :=
  ⟨f, _, fun_mk l c k, PySem.W.mg_of X G a⟩
theorem fng_none {P : Program} {w : World} {K : PySem.W.Frag} {mg : Str → Option Value} {base : Heap} {n k j : Nat} {f : Addr} {fd : FuncData} {ps : List Str} : FnG P w K mg base j f fd ps (spD K n (fun _ _ => none) k) :=
  ⟨(fun _ _ _ h => by obtain ⟨_, _, _, _, _, _, _, _, _, h, _⟩ := h; cases h), fun A outer s H args us vs Q _ _ _ _ _ h => by obtain ⟨_, _, _, _, _, _, _, _, _, h, _⟩ := h; cases h⟩
section
variable {P : Program} {w : World} {K : PySem.W.Frag} {mg : Str → Option Value} {base : Heap} {x : Str} {st : Stmt} {ps : List Str} {j k : Nat} {F : FnD}
theorem Cal.mono (h : Cal P w K mg base x st ps j F k) {l : Nat} (hl : j ≤ l) : Cal P w K mg base x st ps l F k := by
  obtain ⟨fa, fd, h1, h2, h3⟩ := h
  exact ⟨fa, fd, h1, h2, h3.mono hl⟩
theorem cal_none (D : Dfn K mg x st) : Cal P w K mg base x st ps j (fun _ _ => none) k := by
  obtain ⟨fa, fd, h1, h2⟩ := D
  exact ⟨fa, fd, h1, h2, fng_none⟩
theorem cal_def {N : List Str} {g : Sv} (D : Dfn K mg x st) (S : FnScope N ps (defScope st))
    (hb : ∀ (f : Addr) (cdv : Value) (A : Around) (outer : List PySem.Env) (s : Shared) (H : Hp), Room j (A.deeper (envOfC x (defScope st) s.heap.objs.size f cdv)) → A.guards = some [] → JSs (fun _ => True) (bodyX P w K mg base N x (defScope st) f cdv A outer s H) (defBody st) g k) :
    Cal P w K mg base x st ps (j + 1) (fnD N.length g) k := by
  obtain ⟨fa, fd, h1, h2⟩ := D
  exact ⟨fa, fd, h1, h2, fng_def h1 S (hb fa)⟩
end
section
variable {X : Cx} {e a b c : Expr} {es rest : List Expr} {f g h : Ev} {fs gs : EvA} {k j n : Nat} {pos p : Pos} {kws : List Keyword} {i : Nat} {x : Str}
theorem jv (i : Nat) {x : Str} {pos : Pos} (hN : X.N[i]? = some x := by rfl) (hv : Vis X.env.scope x := by first | exact Or.inl rfl | exact Or.inr (Or.inl rfl) | exact Or.inr (Or.inr rfl)) (hdb : (x == ("__debug__" : Str)) = false := by decide)
    (hcd : (x == ("__classdict__" : Str)) = false := by decide) : JP X (.Name x pos) (eVar i) 0 := jp_var hN hv hdb hcd
theorem jp_cal {x : Str} {st : Stmt} {ps ks : List Str} {F : FnD} {perm : List Nat} {l : Nat} (C : Cal X.prog X.w X.K X.mg X.base x st ps j F k) (hj : j ≤ l) (hr : Room l X.A) (hgu : X.A.guards = some [])
    (hb : ∀ (kV doc pm : Value) (an : Option Addr) (cdv ct : Value) (us ws : List Value), us.length = n → ws.length = ks.length → bindArgs (PySem.W.fnOf x x (defArgs st) (defBody st) (defScope st) .none kV doc pm an cdv ct) ⟨us, ks.zip ws⟩ = pure (ps.zip (pick Value.none perm (us ++ ws))))
    (ha : JA X (e :: es) fs 0) (hfl : ∀ vw s d s', fs vw s = some (d, s') → d.length = n) (hkw : JK X kws gs) (hgl : ∀ vw s d s', gs vw s = some (d, s') → d.length = ks.length) (hg : Gl X x := by rfl)
    (hn : (e :: es).length = n := by rfl) (hkn : kws.length = ks.length := by rfl) (hpl' : perm.length = ps.length := by rfl)
    (hall : (backToKw pos (keywordEach kws X.env)).all (·.1.isSome) = true := by rfl) (hks : (backToKw pos (keywordEach kws X.env)).filterMap (·.1) = ks := by rfl)
    (hdb : (x == ("__debug__" : Str)) = false := by decide) (he : starEach (e :: es) X.env = (false, eval e X.env) :: starEach es X.env := by rfl)
    (hpl : ((backTo pos (starEach (e :: es) X.env)).any (·.1) || (backToKw pos (keywordEach kws X.env)).any (·.1.isNone)) = false := by rfl) :
    JP X (.Call (.Name x p) (e :: es) kws pos) (eCall F perm (aApp fs gs)) k := by
  obtain ⟨fa, fd, h1, h2, h3⟩ := C
  exact jp_call h3 (hr.mono hj) hgu hg h2 h1.kp (kbn_of perm h1 hb) hn hkn hpl' ha hkw hfl hgl hall hks hdb he hpl
theorem jp_cal0 {x : Str} {st : Stmt} {ps ks : List Str} {F : FnD} {perm : List Nat} {l : Nat} (C : Cal X.prog X.w X.K X.mg X.base x st ps j F k) (hj : j ≤ l) (hr : Room l X.A) (hgu : X.A.guards = some [])
    (hb : ∀ (kV doc pm : Value) (an : Option Addr) (cdv ct : Value) (us ws : List Value), us.length = 0 → ws.length = ks.length → bindArgs (PySem.W.fnOf x x (defArgs st) (defBody st) (defScope st) .none kV doc pm an cdv ct) ⟨us, ks.zip ws⟩ = pure (ps.zip (pick Value.none perm (us ++ ws))))
    (hkw : JK X kws gs) (hgl : ∀ vw s d s', gs vw s = some (d, s') → d.length = ks.length) (hg : Gl X x := by rfl)
    (hkn : kws.length = ks.length := by rfl) (hpl' : perm.length = ps.length := by rfl)
    (hall : (backToKw pos (keywordEach kws X.env)).all (·.1.isSome) = true := by rfl) (hks : (backToKw pos (keywordEach kws X.env)).filterMap (·.1) = ks := by rfl)
    (hdb : (x == ("__debug__" : Str)) = false := by decide)
    (hpl : ((backTo pos (starEach [] X.env)).any (·.1) || (backToKw pos (keywordEach kws X.env)).any (·.1.isNone)) = false := by rfl) :
    JP X (.Call (.Name x p) [] kws pos) (eCall F perm gs) k := by
  obtain ⟨fa, fd, h1, h2, h3⟩ := C
  exact jp_call0 h3 (hr.mono hj) hgu hg h2 h1.kp (kbn_of perm h1 hb) hkn hpl' hkw hgl hall hks hdb hpl
end
end J
namespace J
open PySem PySem.Spec PyProof.Rows L2
section
variable {X : Cx} {k' : Nat}
/-- a plain datum appended to an inner list of an owned one -/
theorem Sr.app1 {C : Hp} {S0 S : List Addr} {A0 : Addr → Prop} {H0 H' : Hp} {σ : Sg} {env : J.Env} {sto' : STO} {Fs' : Nat → List Addr} {i m : Nat} {ds es : List D} {v : V} {d : D}
    (r2 : Sr X.K C S0 S A0 H0 σ H' env sto' Fs') (hsl : env[i]? = some (.ow (k' + 2) (.list ds))) (hes : ds[m]? = some (.list es)) (hd1 : isScal d = true) (hv : Rp X.K S (hid (hd S Fs' A0) H') v d) :
    ∃ a0 vs b0 ws Fs2, σ[i]? = some (some (.ref a0)) ∧ H' a0 = some (.lst vs) ∧ vs.length = ds.length ∧ vs[m]? = some (.ref b0) ∧ a0 ≠ b0 ∧ H' b0 = some (.lst ws) ∧ ws.length = es.length ∧ a0 ∈ Fs' i ∧ b0 ∈ Fs' i ∧
      Sr X.K C S0 S A0 H0 σ (upd H' b0 (.lst (ws ++ [v]))) (env.set i (.ow (k' + 2) (.list (ds.set m (.list (es ++ [d])))))) sto' Fs2 := by
  have hlt : i < env.length := (List.getElem?_eq_some_iff.mp hsl).1
  obtain ⟨F, eF0, rs⟩ : ∃ F : List Addr, F = [] ∧ Res X.K S (hd S Fs' A0) H' sto' k' H' v d F := ⟨[], rfl, .atom r2.wd (scal_atomic hd1) hv⟩
  have H1 : Hp := H'
  obtain ⟨u, e2, ow'⟩ := r2.sl i _ hsl
  obtain ⟨a0, vs, G0, rfl, eG, e3', ow1⟩ := ow'.lstI
  obtain ⟨vm', G1, Gj, G2, g1, k2, k3, k4, k5⟩ := ow1.split hes
  obtain ⟨b0, ws, Gb, rfl, rfl, h5, ow2⟩ := k4.lstI
  subst k2
  have ha : a0 ∈ Fs' i := by rw [eG]; exact List.mem_cons_self
  have hb : b0 ∈ Fs' i := by rw [eG]; exact List.mem_cons_of_mem _ (List.mem_append_right _ (List.mem_append_left _ List.mem_cons_self))
  have hin : ∀ c ∈ G1 ++ ((b0 :: Gb) ++ G2), c ∈ Fs' i := fun c hc => by rw [eG]; exact List.mem_cons_of_mem _ hc
  have hab : a0 ≠ b0 := fun c => by
    have := r2.nd i
    rw [eG] at this
    exact (List.nodup_cons.mp this).1 (by rw [c]; exact List.mem_append_right _ (List.mem_append_left _ List.mem_cons_self))
  have nd0 := r2.nd i
  rw [eG] at nd0
  obtain ⟨nda, nd1⟩ := List.nodup_cons.mp nd0
  obtain ⟨ndG1, ndR, ndx⟩ := List.nodup_append.mp nd1
  obtain ⟨ndb, ndG2, ndy⟩ := List.nodup_append.mp ndR
  obtain ⟨nbG, ndGb⟩ := List.nodup_cons.mp ndb
  have h5' : H' b0 = some (.lst ws) := rs.ext b0 _ (r2.ns i b0 hb) h5
  have h3' : H' a0 = some (.lst vs) := rs.ext a0 _ (r2.ns i a0 ha) e3'
  have hwl := ow2.length
  have hdis : ∀ c ∈ F, c ∉ Fs' i := fun c hc h => r2.wd.al c (.inl ⟨i, h⟩) (rs.fr c hc)
  have hB : plus F (hd S Fs' A0) b0 := .inr (.inl ⟨i, hb⟩)
  have mem3 : ∀ c, c ∈ a0 :: (G1 ++ ((b0 :: (Gb ++ F)) ++ G2)) → c ∈ F ∨ c ∈ Fs' i := fun c h => by
    rcases List.mem_cons.mp h with rfl | h
    · exact .inr ha
    · rcases List.mem_append.mp h with h | h
      · exact .inr (hin c (List.mem_append_left _ h))
      · rcases List.mem_append.mp h with h | h
        · rcases List.mem_cons.mp h with rfl | h
          · exact .inr hb
          · rcases List.mem_append.mp h with h | h
            · exact .inr (hin c (List.mem_append_right _ (List.mem_append_left _ (List.mem_cons_of_mem _ h))))
            · exact .inl h
        · exact .inr (hin c (List.mem_append_right _ (List.mem_append_right _ h)))
  have r3 := r2.mut (i := i) (F := a0 :: (G1 ++ ((b0 :: (Gb ++ F)) ++ G2))) (ov := some (.ref a0)) (s := .ow (k' + 2) (.list (ds.set m (.list (es ++ [d]))))) (H' := upd H' b0 (.lst (ws ++ [v]))) (sto' := sto') hlt ?_ ?_ ?_ ?_ ?_
  · rw [set_same e2] at r3
    exact ⟨a0, vs, b0, ws, _, e2, h3', ow1.length, g1, hab, h5', ow2.length, ha, hb, r3⟩
  · intro c o hcS hn h
    rw [upd_ne (fun q : c = b0 => hn (q ▸ hb))]
    exact rs.ext c o hcS h
  · have w1 := rs.wd.upd (o := .lst (ws ++ [v])) hB (r2.ns i b0 hb) ⟨_, h5'⟩
    refine w1.less (fun c h => ?_) (fun a e => .inr (.inr (.inr e)))
    rcases h with h | h
    · exact (mem3 c h).imp id fun h => .inl ⟨i, h⟩
    · exact .inr h
  · refine List.nodup_cons.mpr ⟨fun h => ?_, List.nodup_append.mpr ⟨ndG1, List.nodup_append.mpr ⟨List.nodup_cons.mpr ⟨fun h => ?_, List.nodup_append.mpr ⟨ndGb, rs.nd, fun c hc c' hc' e => hdis c' hc' (e ▸ hin c (List.mem_append_right _ (List.mem_append_left _ (List.mem_cons_of_mem _ hc))))⟩⟩, ndG2, fun c hc c' hc' e => ?_⟩, fun c hc c' hc' e => ?_⟩⟩
    · rcases List.mem_append.mp h with h | h
      · exact nda (List.mem_append_left _ h)
      · rcases List.mem_append.mp h with h | h
        · rcases List.mem_cons.mp h with h | h
          · exact hab h
          · rcases List.mem_append.mp h with h | h
            · exact nda (List.mem_append_right _ (List.mem_append_left _ (List.mem_cons_of_mem _ h)))
            · exact hdis a0 h ha
        · exact nda (List.mem_append_right _ (List.mem_append_right _ h))
    · rcases List.mem_append.mp h with h | h
      · exact nbG h
      · exact hdis b0 h hb
    · subst e
      rcases List.mem_cons.mp hc with rfl | hc
      · exact ndy _ List.mem_cons_self _ hc' rfl
      · rcases List.mem_append.mp hc with hc | hc
        · exact ndy c (List.mem_cons_of_mem _ hc) c hc' rfl
        · exact hdis c hc (hin c (List.mem_append_right _ (List.mem_append_right _ hc')))
    · subst e
      rcases List.mem_append.mp hc' with hc' | hc'
      · rcases List.mem_cons.mp hc' with rfl | hc'
        · exact ndx _ hc _ (List.mem_append_left _ List.mem_cons_self) rfl
        · rcases List.mem_append.mp hc' with hc' | hc'
          · exact ndx c hc c (List.mem_append_left _ (List.mem_cons_of_mem _ hc')) rfl
          · exact hdis c hc' (hin c (List.mem_append_left _ hc))
      · exact ndx c hc c (List.mem_append_right _ hc') rfl
  · intro c h
    exact (mem3 c h).symm.imp id id |>.symm.imp (fun h => rs.fr c h) id
  · refine ⟨.ref a0, rfl, ?_⟩
    generalize hF3 : a0 :: (G1 ++ ((b0 :: (Gb ++ F)) ++ G2)) = F3 at mem3
    have sub : ∀ c, hd S (setF Fs' i F3) A0 c → plus F (hd S Fs' A0) c := fun c h => by
      rcases hd_set r2 c h with h | h
      · exact (mem3 c h).imp id fun h => .inl ⟨i, h⟩
      · exact .inr h
    have hu : hid (plus F (hd S Fs' A0)) (upd H' b0 (.lst (ws ++ [v]))) = hid (plus F (hd S Fs' A0)) H' := hid_upd hB
    have s2 : Same (hid (plus F (hd S Fs' A0)) H') (hid (hd S (setF Fs' i F3) A0) (upd H' b0 (.lst (ws ++ [v])))) := fun c o q => by rw [← hu] at q; exact hid_le sub c o q
    have s1 : Same (hid (hd S Fs' A0) H') (hid (plus F (hd S Fs' A0)) H') := hid_move rs.ext r2.wd.hS fun c h => by
      rcases h with h | h
      · exact .inr (rs.fr c h)
      · exact .inl h
    have s3 : Same (hid (hd S Fs' A0) H') (hid (hd S (setF Fs' i F3) A0) (upd H' b0 (.lst (ws ++ [v])))) := fun c o q => s2 c o (s1 c o q)
    have keep : ∀ c ∈ Fs' i, c ≠ b0 → ∀ o, H' c = some o → upd H' b0 (.lst (ws ++ [v])) c = some o := fun c hc hn o q => by
      rw [upd_ne hn]
      exact rs.ext c o (r2.ns i c hc) q
    have o1 := k3.mv s3 fun c hc o q => keep c (hin c (List.mem_append_left _ hc)) (fun e => ndx c hc b0 (List.mem_append_left _ List.mem_cons_self) e) o q
    have o3 := k5.mv s3 fun c hc o q => keep c (hin c (List.mem_append_right _ (List.mem_append_right _ hc))) (fun e => ndy b0 List.mem_cons_self c hc e.symm) o q
    have o2 := ow2.mv s3 fun c hc o q => keep c (hin c (List.mem_append_right _ (List.mem_append_left _ (List.mem_cons_of_mem _ hc)))) (fun e => nbG (e ▸ hc)) o q
    have o4 : Ow X.K S (hd S (setF Fs' i F3) A0) (upd H' b0 (.lst (ws ++ [v]))) k' v d F := rs.ow.mv s2 fun c hc o q => by
      rw [upd_ne (fun e : c = b0 => hdis c hc (e ▸ hb))]
      exact q
    have o5 := o2.append (.cons o4 .nil)
    rw [List.append_nil] at o5
    rw [← hF3]
    refine .lst (vs := vs) (by rw [upd_ne hab]; exact h3') ?_
    have hml : m < ds.length := (List.getElem?_eq_some_iff.mp hes).1
    have hvl := ow1.length
    have ev : vs = vs.take m ++ (.ref b0 :: vs.drop (m + 1)) := by
      have := set_split vs m (.ref b0) (by omega)
      rw [← this]
      apply List.ext_getElem?
      intro l
      rw [List.getElem?_set]
      by_cases c : m = l
      · subst c
        rw [if_pos rfl, g1, if_pos (by omega)]
      · rw [if_neg c]
    rw [set_split ds m _ hml]
    rw [hF3]
    rw [ev] 
    have := o1.append (.cons (.lst upd_same o5) o3)
    rw [← ev]
    rw [← ev] at this
    exact this
/-- each inner list with one more item -/
def snocD (d : D) : D → D
  | .list es => .list (es ++ [d])
  | x => x
/-- the first m of them -/
def dsm (d : D) (ds : List D) (m : Nat) : List D := (ds.take m).map (snocD d) ++ ds.drop m
theorem dsm_zero (d : D) (ds : List D) : dsm d ds 0 = ds := by simp [dsm]
theorem dsm_all (d : D) (ds : List D) : dsm d ds ds.length = ds.map (snocD d) := by simp [dsm]
theorem dsm_len (d : D) (ds : List D) (m : Nat) : (dsm d ds m).length = ds.length := by
  simp only [dsm, List.length_append, List.length_map, List.length_take, List.length_drop]
  omega
theorem dsm_get (d : D) (ds : List D) (m : Nat) : (dsm d ds m)[m]? = ds[m]? := by
  unfold dsm
  by_cases h : m < ds.length
  · rw [List.getElem?_append_right (by rw [List.length_map, List.length_take]; omega), List.length_map, List.length_take, show m - min m ds.length = 0 by omega, List.getElem?_drop]
    rfl
  · rw [List.getElem?_eq_none (by simp only [List.length_append, List.length_map, List.length_take, List.length_drop]; omega), List.getElem?_eq_none (by omega)]
theorem dsm_succ (d : D) (ds : List D) (m : Nat) (es : List D) (h : ds[m]? = some (.list es)) : (dsm d ds m).set m (.list (es ++ [d])) = dsm d ds (m + 1) := by
  obtain ⟨hm, he⟩ := List.getElem?_eq_some_iff.mp h
  unfold dsm
  rw [List.set_append_right _ _ (by rw [List.length_map, List.length_take]; omega), List.length_map, List.length_take, show m - min m ds.length = 0 by omega]
  rw [List.drop_eq_getElem_cons hm, List.set_cons_zero, List.take_add_one, h]
  simp only [Option.toList_some, List.map_append, List.map_cons, List.map_nil, List.append_assoc, List.cons_append, List.nil_append]
  rfl
variable {i l : Nat}
theorem appAllT {C : Hp} {S0 S : List Addr} {A0 : Addr → Prop} {H0 H : Hp} {σ : Sg} {env : J.Env} {sto : STO} {Fs : Nat → List Addr} {aL : Addr} {vs : List V} {E : Ends} {d : D} {ds : List D} {g : TS}
    (r : Sr X.K C S0 S A0 H0 σ H env sto Fs) (hil : i ≠ l) (hl : l < env.length) (hsl : env[i]? = some (.ow (k' + 2) (.list ds))) (hds : ds.all lstLt = true) (hσ : σ[i]? = some (some (.ref aL))) (hH : H aL = some (.lst vs)) (hsc : isScal d = true)
    (hg : ∀ S1 (σ1 : Sg) H1 env1 sto1 Fs1 b ws (E1 : Ends), Sr X.K (hid (hd S Fs A0) H) S0 S1 A0 H0 σ1 H1 env1 sto1 Fs1 → H1 b = some (.lst ws) → b ∈ Fs1 i → ws.length < 16777216 → σ1[l]? = some (some (.ref b)) →
      (∀ v H2, Ext S1 H1 H2 → Wd X.K S1 (hd S1 Fs1 A0) H2 sto1 → Rp X.K S1 (hid (hd S1 Fs1 A0) H2) v d → E1.nx σ1 (upd H2 b (.lst (ws ++ [v])))) → g E1 σ1 H1)
    (z : ∀ S σ H Fs, Sr X.K C S0 S A0 H0 σ H ((env.set i (.ow (k' + 2) (.list (ds.map (snocD d))))).set l .no) sto Fs → E.nx σ H) :
    ∃ W : Nat → Nat → L2.St → Hp → Prop, (∃ m, W 0 m σ H) ∧ ∀ i m σ H, W i m σ H →
      ((Itl X.K aL).stop i H ∧ E.nx σ H) ∨ ((Itl X.K aL).go i H ∧ ∃ N : L2.St → Hp → Prop, (∀ σ' H', N σ' H' → ∃ m', m' < m ∧ W (i + 1) m' σ' H') ∧ ∀ x H', (Itl X.K aL).yld i H x H' → gName l x σ H' fun σ2 H2 => g { E with nx := N, ct := N, bk := E.nx } σ2 H2) := by
  have hvl : vs.length = ds.length := by
    obtain ⟨u, e2, ow'⟩ := r.sl i _ hsl
    obtain ⟨a0, vs', G0, rfl, eG, e3', ow1⟩ := ow'.lstI
    rw [hσ] at e2
    cases e2
    rw [hH] at e3'
    cases e3'
    exact ow1.length
  have hi : i < env.length := (List.getElem?_eq_some_iff.mp hsl).1
  refine for_it (walk_list (xs := vs)) (tb := g) (D := E) (fun m σ1 H1 => ∃ Fs1, Sr X.K (hid (hd S Fs A0) H) S0 S A0 H0 σ1 H1 ((env.set i (.ow (k' + 2) (.list (dsm d ds m)))).set l .no) sto Fs1 ∧ σ1[i]? = some (some (.ref aL)) ∧ H1 aL = some (.lst vs)) ?_ ?_ ?_ ?_
  · have hlσ : l < σ.length := by rw [← r.len]; exact hl
    have r2 := r.chk.drop (i := l) hl (σ.getD l none)
    rw [set_same (by rw [List.getD_eq_getElem?_getD, List.getElem?_eq_getElem hlσ]; rfl)] at r2
    have e0 : env.set i (.ow (k' + 2) (.list (dsm d ds 0))) = env := by
      rw [dsm_zero]
      apply List.ext_getElem?
      intro m
      rw [List.getElem?_set]
      by_cases c : i = m
      · subst c
        rw [if_pos rfl, if_pos hi, hsl]
      · rw [if_neg c]
    exact ⟨setF Fs l [], by rw [e0]; exact r2, hσ, hH⟩
  · rintro m σ1 H1 _ ⟨Fs1, r1, _, h2⟩
    exact .inl (.inl h2)
  · rintro m x σ1 H1 H2 hm ⟨Fs1, r1, h1, h2⟩ ⟨rfl, hx⟩
    rw [hvl] at hm
    obtain ⟨es, hes, hesl⟩ : ∃ es, ds[m]? = some (.list es) ∧ es.length < 16777216 := by
      have h3 := List.all_eq_true.mp hds ds[m] (List.getElem_mem hm)
      cases q : ds[m] with
      | list es => rw [q] at h3; exact ⟨es, by rw [List.getElem?_eq_getElem hm, q], of_decide_eq_true h3⟩
      | _ => rw [q] at h3; exact absurd h3 (fun z => nomatch z)
    have hl1 : l < ((env.set i (Slot.ow (k' + 2) (.list (dsm d ds m)))).set l .no).length := by rw [List.length_set, List.length_set]; exact hl
    have r2 := r1.drop (i := l) hl1 (some x)
    rw [List.set_set] at r2
    have hsl2 : ((env.set i (Slot.ow (k' + 2) (.list (dsm d ds m)))).set l .no)[i]? = some (.ow (k' + 2) (.list (dsm d ds m))) := by
      rw [List.getElem?_set_ne (Ne.symm hil), List.getElem?_set, if_pos rfl, if_pos hi]
    have hes2 : (dsm d ds m)[m]? = some (.list es) := by rw [dsm_get]; exact hes
    have hσ2 : (σ1.set l (some x))[i]? = some (some (.ref aL)) := by rw [List.getElem?_set_ne (Ne.symm hil)]; exact h1
    obtain ⟨a0, vs', b0, ws, _, q1, q2, q3, q4, q5, q6, q7, q8, q9, _⟩ := r2.app1 (d := .none) (v := .non) hsl2 hes2 rfl .non
    rw [hσ2] at q1
    cases q1
    rw [h2] at q2
    cases q2
    rw [hx] at q4
    cases q4
    refine hg S _ H2 _ sto _ b0 ws _ r2 q6 q9 (by omega) (by rw [List.getElem?_set, if_pos rfl, if_pos (by rw [← r1.len]; exact hl1)]) fun v H3 x3 w3 p3 => ?_
    have r3 := r2.go x3 w3
    obtain ⟨a1, vs1, b1, ws1, Fs2, p1, p2, p3', p4, p5, p6, p7, p8, p9, r4⟩ := r3.app1 hsl2 hes2 hsc p3
    rw [hσ2] at p1
    cases p1
    have h2' : H3 aL = some (.lst vs) := x3 aL _ (r2.ns i aL q8) h2
    rw [h2'] at p2
    cases p2
    rw [hx] at p4
    cases p4
    have q6' : H3 b0 = some (.lst ws) := x3 b0 _ (r2.ns i b0 q9) q6
    rw [q6'] at p6
    cases p6
    refine ⟨Fs2, ?_, hσ2, ?_⟩
    · rw [dsm_succ d ds m es hes] at r4
      have eset : ((env.set i (Slot.ow (k' + 2) (.list (dsm d ds m)))).set l .no).set i (.ow (k' + 2) (.list (dsm d ds (m + 1)))) = (env.set i (Slot.ow (k' + 2) (.list (dsm d ds (m + 1))))).set l .no := by
        rw [List.set_comm _ _ (Ne.symm hil), List.set_set]
      rw [eset] at r4
      exact r4
    · rw [upd_ne q5]
      exact h2'
  · rintro σ1 H1 ⟨Fs1, r1, _, _⟩
    rw [hvl, dsm_all] at r1
    exact z S σ1 H1 Fs1 (r1.back r.pub)
variable {Z : List Addr → Prop} {e : Expr} {f : Ev} {k : Nat} {pos p apos cpos : Pos} {x y : Str}
/-- for y in x: y.append(e), told -/
def sAppAllT (i l : Nat) (d : D) : Sv := fun env s => if i ≠ l ∧ l < env.length then match env[i]? with
  | some (.ow (k + 2) (.list ds)) => if ds.all lstLt = true then some (.nx, (env.set i (.ow (k + 2) (.list (ds.map (snocD d))))).set l .no, s) else none
  | _ => none
  else none
theorem js_appAllT {py : Pos} {p5 p6 : Pos} (hp : PassesOwn (model X.prog X.w) X.A X.env X.xe) (hc : X.calm = true) (hN : X.N.Nodup) {d : D} (he : JP X e f 0) (hf : ∀ s, f [] s = some (d, s)) (hsc : isScal d = true) (hi : X.N[i]? = some x) (hx : Vis X.env.scope x) (hly : X.N[l]? = some y) (hyl : X.env.scope.names.lookup y = some .local)
    (hdb : (x == Str.ofString "__debug__") = false := by decide) (hcd : (x == Str.ofString "__classdict__") = false := by decide) (hdb2 : (y == Str.ofString "__debug__") = false := by decide) (hcd2 : (y == Str.ofString "__classdict__") = false := by decide)
    (hbase : attributeBase (.Name y p) "append" X.env (eval (.Name y p) X.env) = eval (.Name y p) X.env := by rfl)
    (hfew : ((backTo cpos (starEach [e] X.env)).all (fun x => !x.1) && (backToKw cpos (keywordEach [] X.env)).all (fun x => x.1.isSome) && decide ([e].length + ([] : List Keyword).length + (if ([] : List Keyword).isEmpty then 0 else 1) < 30)) = true := by rfl)
    (hline : (apos.endLine == cpos.line) = true := by rfl) (hs : starEach [e] X.env = (false, eval e X.env) :: starEach [] X.env := by rfl) (hsw : swapsWith (.Call (.Attribute (.Name y p) "append" apos) [e] [] cpos) none p6.line X.env = pure false := by rfl)
    (hfs : ∀ z, foldedSetIterable (.Name x p5) X.env z = pure z := by intro _; rfl) :
    JS Z X (.For (.Name y py) (.Name x p5) [.Expr (.Call (.Attribute (.Name y p) "append" apos) [e] [] cpos) p6] [] pos) (sAppAllT i l d) k := fun C S0 S A0 H0 σ H env sto Fs o env' sto' E hZ r q z => by
  unfold sAppAllT at q
  split at q
  case isFalse => cases q
  rename_i hil
  obtain ⟨hil, hl⟩ := hil
  split at q
  case h_2 => cases q
  rename_i k' ds hsl
  split at q
  case isFalse => cases q
  rename_i hds
  cases q
  obtain ⟨u, e2, ow⟩ := r.sl i _ hsl
  obtain ⟨a0, vs, F0, rfl, eF, e3, ow0⟩ := ow.lstI
  refine wpS.by (ps_for hp hc (pi_list (pe_var hi hx hdb hcd)) (pg_name hN hly (.inl hyl) (.inr hyl)) (pss_one (ps_expr (pe_bm PySem.F.plainAttrs_list PySem.F.slot_list_append rfl mt_append (pe_var hly (.inl hyl) hdb2 hcd2) (pa_cons wpE_pe pa_nil hs) hbase hfew hline hs rfl) hsw)) hfs) ?_
  refine ⟨_, e2, a0, rfl, ⟨vs, .of e3⟩, ?_⟩
  refine appAllT r hil hl hsl hds e2 e3 hsc ?_ z
  intro S1 σ1 H1 env1 sto1 Fs1 b ws E1 r1 h1 h2 h3 h4 h5
  refine ⟨_, h4, .inl ⟨rfl, ws, .of h1⟩, ?_⟩
  have rd : RdV X.K S1 (hd S1 Fs1 A0) σ1 H1 [] := ⟨Nat.zero_le _, fun i d h => by simp at h⟩
  refine he.use r1.wd rd (hf _) fun v H2 x2 w2 _ p2 => ⟨b, ws, v, rfl, rfl, x2 b _ (r1.ns i b h2) h1, by rw [sizeLine_eq]; omega, h5 v H2 x2 w2 p2⟩
end
end J
namespace J
open PySem PySem.Spec PyProof.Rows L2
section
variable {X : Cx} {a b c e o i : Expr} {f g h : Ev} {k : Nat} {pos p p1 p2 p3 apos cpos : Pos} {x : Str}
/-! ### xs[::-1] -/
def dRevL : D → Option D
  | .list ds => some (.list ds.reverse)
  | _ => none
theorem RpA.rev {K : PySem.W.Frag} {S : List Addr} {H : Hp} : ∀ {vs : List V} {ds : List D}, RpA K S H vs ds → RpA K S H vs.reverse ds.reverse
  | _, _, .nil => .nil
  | _, _, .cons a b => by
    rw [List.reverse_cons, List.reverse_cons]
    exact b.rev.append (.cons a .nil)
theorem jp_rev {kk : Nat} (ha : JP X e f 0) : JP X (.Subscript e (.Slice none none (some (.UnaryOp .USub (.Constant (.int 1) kk p1) p2)) p3) pos) (eUn dRevL f) 1 := fun A S σ H vw sto d sto' Q w r q z => by
  unfold eUn at q
  obtain ⟨⟨y, s1⟩, e1, q⟩ := bind_some' q
  obtain ⟨t, e2, q⟩ := map_some' q
  cases q
  refine wpE.by (pe_revL wpE_pe) (ha.use w r e1 fun v H1 x1 w1 r1 p1 => ?_)
  cases y with
  | list ds =>
    cases e2
    obtain ⟨l, xs, rfl, h1, h2⟩ := p1.lstI
    exact ⟨l, xs, rfl, .inl h1.out, fun b hb => z _ _ [b] ((Res.lst w1 (.shared w1 h2.rev) hb).later x1 w1)⟩
  | _ => cases e2
/-! ### a cell's list: its length, its item taken out -/
def eLenC (f : Ev) : Ev := fun vw s => (f vw s).bind fun p => (isTok p.1).bind fun j => (cellL p.2 j).map fun ds => (.int ds.length, p.2)
theorem jp_lenC (ha : JP X e f 0) (hg : Gl X "len") (hm : X.mg "len" = none) (hv : bootBuiltins "len" = some (.builtin "len") := by rfl)
    (he : starEach [e] X.env = (false, eval e X.env) :: starEach [] X.env := by rfl) (hpl : (backTo pos (starEach [] X.env)).any (·.1) = false := by rfl) : JP X (.Call (.Name "len" p) [e] [] pos) (eLenC f) k := fun A S σ H vw sto d sto' Q w r q z => by
  unfold eLenC at q
  obtain ⟨⟨y, s1⟩, e1, q⟩ := bind_some' q
  obtain ⟨j, e2, q⟩ := bind_some' q
  obtain ⟨ds, e3, q⟩ := map_some' q
  cases q
  have ht := isTok_eq e2
  simp only at ht e3
  subst ht
  refine wpE.by (pe_callB call_len_seq hg hm hv (pa_cons wpE_pe pa_nil he) (by decide) (by decide) he hpl) (ha.use w r e1 fun v H1 x1 w1 r1 p1 => ?_)
  obtain ⟨l, rfl, hS⟩ := p1.tokI
  obtain ⟨vs, h1, h2⟩ := w1.cellL hS e3
  refine ⟨l, vs, rfl, .inl (.of h1), ?_⟩
  rw [h2.length]
  exact z _ H1 [] ((Res.atom w1 (atomic_int _) (.int _)).after x1 noF)
/-- x.pop(i), x in a cell -/
def ePopC (f g : Ev) : Ev := fun vw s => (f vw s).bind fun p => (isTok p.1).bind fun j => (cellL p.2 j).bind fun _ => (g vw p.2).bind fun q => match q.1 with
  | .int n => (cellL q.2 j).bind fun ds => if ds.length ≤ 16777216 then (ixN ds.length n).bind fun m => ds[m]?.map fun d => (d, q.2.set j (.lst (ds.eraseIdx m))) else none
  | _ => none
theorem RpA.eraseIdx {K : PySem.W.Frag} {S : List Addr} {H : Hp} : ∀ {vs : List V} {ds : List D} (m : Nat), RpA K S H vs ds → RpA K S H (vs.eraseIdx m) (ds.eraseIdx m)
  | _, _, _, .nil => .nil
  | _, _, 0, .cons a b => b
  | _, _, m + 1, .cons a b => .cons a (b.eraseIdx m)
theorem jp_popC (ha : JP X o f 0) (hb : JP X e g 0)
    (hbase : attributeBase o "pop" X.env (eval o X.env) = eval o X.env := by rfl)
    (hfew : ((backTo cpos (starEach [e] X.env)).all (fun x => !x.1) && (backToKw cpos (keywordEach [] X.env)).all (fun x => x.1.isSome) && decide ([e].length + ([] : List Keyword).length + (if ([] : List Keyword).isEmpty then 0 else 1) < 30)) = true := by rfl)
    (hline : (apos.endLine == cpos.line) = true := by rfl) (hs : starEach [e] X.env = (false, eval e X.env) :: starEach [] X.env := by rfl) (hpl : (backTo cpos (starEach [] X.env)).any (·.1) = false := by rfl) :
    JP X (.Call (.Attribute o "pop" apos) [e] [] cpos) (ePopC f g) 0 := fun A S σ H vw sto d sto' Q w r q z => by
  unfold ePopC at q
  obtain ⟨⟨y, s1⟩, e1, q⟩ := bind_some' q
  obtain ⟨j, e2, q⟩ := bind_some' q
  obtain ⟨ds0, e0, q⟩ := bind_some' q
  obtain ⟨⟨yi, s2⟩, e3, q⟩ := bind_some' q
  simp only at q
  split at q
  case h_2 => cases q
  rename_i n
  obtain ⟨ds, e4, q⟩ := bind_some' q
  split at q
  case isFalse => cases q
  rename_i hlen
  obtain ⟨m, e5, q⟩ := bind_some' q
  obtain ⟨dd, e6, q⟩ := map_some' q
  cases q
  have ht := isTok_eq e2
  simp only at ht e3 e4 e0
  subst ht
  refine wpE.by (pe_bm PySem.F.plainAttrs_list PySem.F.slot_list_pop rfl mt_popAt wpE_pe (pa_cons wpE_pe pa_nil hs) hbase hfew hline hs hpl) (ha.use w r e1 fun v H1 x1 w1 r1 p1 => ?_)
  obtain ⟨l, rfl, hS⟩ := p1.tokI
  obtain ⟨vs0, hv0, _⟩ := w1.cellL hS e0
  refine ⟨.inl ⟨rfl, vs0, .of hv0⟩, hb.use w1 r1 e3 fun u H2 x2 w2 r2 p2 => ?_⟩
  have eu := p2.intI
  subst eu
  obtain ⟨vs, h1, h2⟩ := w2.cellL hS e4
  obtain ⟨i1, i2, i3, i4⟩ := ixN_seq e5
  obtain ⟨v, hv, rv⟩ := h2.get e6
  rw [← h2.length] at i1
  have hA : A l := w2.hS l (List.mem_of_getElem? hS)
  refine ⟨l, vs, n, m, v, rfl, rfl, h1, by omega, by omega, i1, hv, ?_⟩
  obtain ⟨x3, w3⟩ := w2.put hS (o := .lst (vs.eraseIdx m)) (c := .lst (ds.eraseIdx m)) ⟨_, upd_same, by rw [hid_upd hA]; exact h2.eraseIdx m⟩
  have rv' : Rp X.K S (hid A (upd H2 l (.lst (vs.eraseIdx m)))) v d := by rw [hid_upd hA]; exact rv
  exact z _ _ [] ((Res.shared w3 rv').after ((x1.trans x2).trans x3) noF)
/-! ### what was made is never changed -/
theorem wpE.lock {σ : Sg} {H : Hp} {Q : VK} (h : wpE X e σ H fun v H1 => ∃ d u, H1 d = some u ∧ Mut (some u) ∧ ∀ od, Q v (upd H1 d (.frz od u))) : wpE X e σ H Q := fun pins s I => by
  refine thn (h pins s I) fun v s1 ⟨x, H1, I1, r1, d, u, hd, mu, q⟩ => ?_
  obtain ⟨od, I2⟩ := I1.lock hd mu
  exact ⟨x, _, I2, r1, q od⟩
/-- {} -/
theorem jp_dict0 : JP X (.Dict [] [] pos) (eC (.dict [])) 0 := fun A S σ H vw sto d sto' Q w r q z => by
  cases q
  refine wpE.lock (wpE.by pe_dnewK fun b hb => ⟨b, .dK [], upd_same, trivial, fun od => ?_⟩)
  have e : upd (upd H b (.dK [])) b (.frz od (.dK [])) = upd H b (.frz od (.dK [])) := by
    funext c
    by_cases hc : c = b
    · rw [hc, upd_same, upd_same]
    · rw [upd_ne hc, upd_ne hc, upd_ne hc]
  rw [e]
  have sm := same_upd (o := .frz od (.dK [])) hb
  have w1 : Wd X.K S A (upd H b (.frz od (.dK []))) sto := w.grow sm (fun a h => .inl h) fun a h => h
  refine z _ _ [] ((Res.shared w1 (.dK (o := od) (kvs := []) (hid_eq.mpr ⟨w.notA hb, upd_same⟩) .nil)).after (Ext.of sm) noF)
end
end J
namespace J
open PySem PySem.Spec PyProof.Rows L2
/-! ### repr of lists that may hold small dicts -/
def isKy : D → Bool
  | .int _ => true
  | .str _ => true
  | _ => false
mutual
def pln : D → Bool
  | .list ds => plnA ds
  | .tuple ds => plnA ds
  | .dict es => es.all fun p => isKy p.1 && isScal p.2
  | _ => true
def plnA : List D → Bool
  | [] => true
  | d :: r => pln d && plnA r
end
section
variable {X : Cx} {pins : List (Addr × Obj)} {σ : Sg} {H : Hp} {s : Shared}
theorem scal_read {K : PySem.W.Frag} {S : List Addr} {v : V} {d : D} {u : Value} (h : isScal d = true) (p : Rp K S H v d) (r : L2.RelV v u) : Reads s.heap u d [] := by
  cases p with
  | non => cases r; exact .none
  | bl b => cases r; exact .bool b
  | int i => obtain ⟨t, rfl⟩ := r; exact .int i t
  | str x => obtain ⟨t, rfl⟩ := r; exact .str x t
  | _ => exact absurd h (by simp [isScal, tokD, skD])
theorem scal_ents {P : Program} {w : World} {K : PySem.W.Frag} {S : List Addr} : ∀ {kvs : List (Key × V)} {es : List (D × D)}, RpK K S H kvs es → ∀ {vs : List (Key × Value)} {ents : List DictEntry}, (es.all fun p => isKy p.1 && isScal p.2) = true → KV kvs vs → PySem.Pairs (L2.mixKind P w) ents vs →
    ReadsAll s.heap (ents.map (·.key)) (es.map (·.1)) [] ∧ ReadsAll s.heap (ents.map (·.val)) (es.map (·.2)) []
  | _, _, .nil, _, _, _, .nil, .nil => ⟨.nil, .nil⟩
  | _, _, .cons (k := k) a b, _, _, h, .cons ra rb, .cons (e := en) p1 p2 p3 => by
    rw [List.all_cons, Bool.and_eq_true, Bool.and_eq_true] at h
    obtain ⟨h1, h2⟩ := scal_ents b h.2 rb p3
    have hv := scal_read (s := s) h.1.2 a ra.2
    rw [← p2] at hv
    have hk : Reads s.heap en.key (kD k) [] := by
      have q := ra.1
      simp only at q
      rcases keyIs_shape p1 with ⟨i, t, e1, e2⟩ | ⟨x, t, e1, e2⟩
      · rw [e2, q, e1]; exact .int i t
      · rw [e2, q, e1]; exact .str x t
    exact ⟨ReadsAll.cons hk h1, ReadsAll.cons hv h2⟩
abbrev RpD (X : Cx) (s : Shared) (u : Value) (d : D) : Prop := d.showable = true → d.shown.length ≤ sizeLine → ∃ as bs, Reads s.heap u d as ∧ ReadAtMost s.heap d.depth bs ∧ ReprK X.prog X.w bs s.heap d.depth u d.shown
abbrev RpDs (X : Cx) (s : Shared) (us : List Value) (ds : List D) : Prop := PyData.showableAll ds = true → (∀ t ∈ PyData.shownAll ds, t.length ≤ sizeLine) → ∃ as bs, ReadsAll s.heap us ds as ∧ ReadAtMost s.heap (PyData.depthAll ds) bs ∧ ReprAllK X.prog X.w bs s.heap (PyData.depthAll ds) us (PyData.shownAll ds)
theorem rpD_plain {u : Value} {d : D} {as : List Addr} (r : Reads s.heap u d as) (hn : sysModules ∉ as) : RpD X s u d := fun hs hz => by
  obtain ⟨bs, h1, h2⟩ := ReprK.of_reads (prog := X.prog) (w := X.w) r hs (fun _ => hn) hz
  exact ⟨as, bs, r, h1, h2⟩
theorem rpD_list {a : Addr} {its : List Value} {n : Nat} {ds : List D} (g : s.heap.get? a = some { cls := .type "list", data := .seq its.toArray n }) (h : RpDs X s its ds) : RpD X s (.ref a) (.list ds) := fun hs hz => by
  have hz' : (listText (PyData.shownAll ds)).length ≤ sizeLine := by simpa only [PyData.shown] using hz
  obtain ⟨as, bs, h4, hb, hk⟩ := h (by simpa [PyData.showable] using hs) (fun t ht => Nat.le_trans (listText_mem_le ht) hz')
  have r : Reads s.heap (.ref a) (.list ds) _ := .list g rfl rfl (by simpa using h4)
  have hna : a ∉ bs := not_mem_of_deeper r (by simp only [PyData.depth]; omega) hb
  refine ⟨_, a :: bs, r, ReadAtMost.cons r (by simp only [PyData.depth]; omega) hb, ?_⟩
  simp only [PyData.depth, PyData.shown]
  cases its with
  | nil =>
    cases h4
    simp only [PyData.shownAll, listText_nil]
    exact ReprK.listEmpty g rfl rfl
  | cons x l => exact ReprK.list g rfl rfl hna (by simpa using hk.length_eq) (fun i y e => hk.item i y (by simpa using e))
theorem rpD_tuple {a : Addr} {its : List Value} {ds : List D} (g : PyProof.Rows.IsTup s.heap a its.toArray) (h : RpDs X s its ds) : RpD X s (.ref a) (.tuple ds) := fun hs hz => by
  have hz' : (tupleText (PyData.shownAll ds)).length ≤ sizeLine := by simpa only [PyData.shown] using hz
  obtain ⟨as, bs, h4, hb, hk⟩ := h (by simpa [PyData.showable] using hs) (fun t ht => Nat.le_trans (tupleText_mem_le ht) hz')
  obtain ⟨o, h1, h2, n, h3⟩ := g
  have r : Reads s.heap (.ref a) (.tuple ds) _ := .tuple h1 h2 h3 (by simpa using h4)
  have hna : a ∉ bs := not_mem_of_deeper r (by simp only [PyData.depth]; omega) hb
  refine ⟨_, a :: bs, r, ReadAtMost.cons r (by simp only [PyData.depth]; omega) hb, ?_⟩
  simp only [PyData.depth, PyData.shown]
  exact ReprK.tuple h1 h2 h3 hna (by simpa using hk)
theorem rpDs_cons {u : Value} {us : List Value} {d : D} {ds : List D} (h1 : RpD X s u d) (h2 : RpDs X s us ds) : RpDs X s (u :: us) (d :: ds) := fun hs hz => by
  have hs' : d.showable = true ∧ PyData.showableAll ds = true := by simpa [PyData.showableAll] using hs
  obtain ⟨a1, b1, r1, hb1, k1⟩ := h1 hs'.1 (hz _ (by simp only [PyData.shownAll]; exact List.mem_cons_self ..))
  obtain ⟨a2, b2, r2, hb2, k2⟩ := h2 hs'.2 (fun t ht => hz t (by simp only [PyData.shownAll]; exact List.mem_cons_of_mem _ ht))
  refine ⟨_, b1 ++ b2, .cons r1 r2, ?_, ?_⟩
  · simp only [PyData.depthAll]
    exact (hb1.mono (Nat.le_max_left _ _)).append (hb2.mono (Nat.le_max_right _ _))
  · simp only [PyData.depthAll, PyData.shownAll]
    exact .cons ((k1.more fun b hb => List.mem_append_left _ hb).level_le (Nat.le_max_left _ _)) (k2.more_le (fun b hb => List.mem_append_right _ hb) (Nat.le_max_right _ _))
theorem Rp.shows (I : L2.Inv X pins σ H s) {S : List Addr} {v : V} {d : D} (h : Rp X.K S H v d) : pln d = true → ∀ u, L2.RelV v u → RpD X s u d :=
  Rp.rec (motive_1 := fun v d _ => pln d = true → ∀ u, L2.RelV v u → RpD X s u d) (motive_2 := fun vs ds _ => plnA ds = true → ∀ us, Vals vs us → RpDs X s us ds) (motive_3 := fun _ _ _ => True) (motive_4 := fun _ _ _ => True)
    (fun _ u r => rpD_plain (scal_read (K := X.K) (S := S) (H := H) rfl .non r) List.not_mem_nil)
    (fun b _ u r => rpD_plain (scal_read (K := X.K) (S := S) (H := H) rfl (.bl b) r) List.not_mem_nil)
    (fun i _ u r => rpD_plain (scal_read (K := X.K) (S := S) (H := H) rfl (.int i) r) List.not_mem_nil)
    (fun x _ u r => rpD_plain (scal_read (K := X.K) (S := S) (H := H) rfl (.str x) r) List.not_mem_nil)
    (fun {a xs ds} hr _ ih e u r => by
      cases r
      obtain ⟨_, its, n, rv, g⟩ := Rd.ok hr I.hok
      exact rpD_list g (ih (by rw [pln] at e; exact e) its rv))
    (fun {a xs ds} hr _ ih e u r => by
      cases r
      obtain ⟨_, its, rv, g⟩ := I.hok _ _ hr
      exact rpD_tuple g (ih (by rw [pln] at e; exact e) its rv))
    (fun {a o kvs es} hr hk _ e u r => by
      cases r
      obtain ⟨_, _, hsy, vs, kv, ob, ents, ep, g, ⟨hc, _⟩, hd, _, pr, _⟩ := I.hok _ _ hr
      rw [pln] at e
      obtain ⟨h1, h2⟩ := scal_ents (s := s) hk e kv pr
      refine rpD_plain (.dict g hc hd h1 h2) fun z => ?_
      rcases List.mem_cons.mp z with z | z
      · rw [← z] at hsy; exact absurd hsy (by decide)
      · exact absurd z (by simp))
    (fun {a o p kvs es} hr hk _ e u r => by
      cases hk with
      | cons _ _ => rw [pln, List.all_cons] at e; exact absurd e (by simp [isKy]))
    (fun {a i} _ e => by unfold tokD at e; rw [pln, List.all_cons] at e; exact absurd e (by simp [isKy]))
    (fun {a xs ds} _ _ _ e => by unfold skD at e; rw [pln, List.all_cons] at e; exact absurd e (by simp [isKy]))
    (fun {a o kvs es} _ _ _ e => by rw [pln, List.all_cons] at e; exact absurd e (by simp [isKy]))
    (fun {a o kvs es} _ _ _ e => by rw [pln, List.all_cons] at e; exact absurd e (by simp [isKy]))
    (fun _ us r => by cases r; exact fun _ _ => ⟨[], [], .nil, (fun _ h => nomatch h), by simp only [PyData.shownAll]; exact .nil⟩)
    (fun {v vs d ds} _ _ ih1 ih2 e us r => by
      rw [plnA, Bool.and_eq_true] at e
      cases r with
      | cons ra rb => exact rpDs_cons (ih1 e.1 _ ra) (ih2 e.2 _ rb))
    trivial (fun _ _ _ _ => trivial) trivial (fun _ _ _ _ => trivial) h
end
theorem RpA.shows {X : Cx} {pins : List (Addr × Obj)} {σ : Sg} {H : Hp} {s : Shared} (I : L2.Inv X pins σ H s) {S : List Addr} : ∀ {vs : List V} {ds : List D} {us : List Value}, RpA X.K S H vs ds → Vals vs us → plnA ds = true → RpDs X s us ds
  | _, _, _, .nil, .nil, _ => fun _ _ => ⟨[], [], .nil, (fun _ h => nomatch h), by simp only [PyData.shownAll]; exact .nil⟩
  | _, _, _, .cons a b, .cons ra rb, e => by
    rw [plnA, Bool.and_eq_true] at e
    exact rpDs_cons (Rp.shows I a e.1 _ ra) (RpA.shows I b rb e.2)
def showG (d : D) : Bool := d.showable && pln d && decide (d.depth ≤ 64) && decide (d.shown.length ≤ 16777216)
def dReprG : D → Option D
  | .list ds => if showG (.list ds) = true then some (.str (PyData.shown (.list ds))) else none
  | _ => none
def rReprG (X : Cx) : List V → Hp → VK → Prop := fun vs H Q => ∃ S a ds, vs = [.ref a] ∧ Rp X.K S H (.ref a) (.list ds) ∧ showG (.list ds) = true ∧ Q (.str (PyData.shown (.list ds))) H
theorem showG_iff {d : D} (h : showG d = true) : d.showable = true ∧ pln d = true ∧ d.depth ≤ 64 ∧ d.shown.length ≤ 16777216 := by
  unfold showG at h
  rw [Bool.and_eq_true, Bool.and_eq_true, Bool.and_eq_true] at h
  exact ⟨h.1.1.1, h.1.1.2, of_decide_eq_true h.1.2, of_decide_eq_true h.2⟩
theorem cr_reprG {X : Cx} (hgu : X.A.guards = some []) (hu : X.A.units + 66 < cLine) : CallR X (.builtin "repr") (rReprG X) := by
  intro pins s σ H vs us Q I r h
  obtain ⟨S, a, ds, rfl, hd, hs, q⟩ := h
  obtain ⟨h1, h2, h3, h4⟩ := showG_iff hs
  have h4' : (PyData.shown (.list ds)).length ≤ sizeLine := by rw [sizeLine_eq]; exact h4
  rw [Vals.ref1 r]
  cases hd with
  | lst hr ha =>
  obtain ⟨_, its, n, rv, g⟩ := Rd.ok hr I.hok
  have hz' : (listText (PyData.shownAll ds)).length ≤ sizeLine := by simpa only [PyData.shown] using h4'
  obtain ⟨as, bs, ra, hb, hk⟩ := RpA.shows I ha rv (by rw [pln] at h2; exact h2) (by simpa [PyData.showable] using h1) (fun t ht => Nat.le_trans (listText_mem_le ht) hz')
  have rr : Reads s.heap (.ref a) (.list ds) _ := .list g rfl rfl (by simpa using ra)
  have hna : a ∉ bs := not_mem_of_deeper rr (by simp only [PyData.depth]; omega) hb
  have hdp : PyData.depth (.list ds) = PyData.depthAll ds + 1 := by simp only [PyData.depth]
  have fin : ∀ h' u tk, (∀ b o, s.heap.get? b = some o → h'.get? b = some o) → EP X pins σ Q (.str (PyData.shown (.list ds)) u) { s with heap := h', toks := tk } :=
    fun h' u tk hk => ⟨.str (PyData.shown (.list ds)), H, I.kept (t' := tk) hk, ⟨u, rfl⟩, q⟩
  refine call_repr_slot (by omega) ⟨_, g, rfl⟩ F.slot_list_repr.toG ?_
  simp only [PyData.shown] at fin
  cases its with
  | nil =>
    cases ra
    simp only [PyData.shownAll, listText_nil] at fin
    exact call_list_repr_empty ⟨_, g, rfl⟩ g rfl ⟨_, _, rfl, fin s.heap _ _ fun _ _ e => e⟩
  | cons x l =>
    refine call_list_reprK g rfl rfl hna (by simpa using hk.length_eq) (fun i y e => hk.item i y (by simpa using e)) hgu (fun b _ => Clear.nil b) ?_ (fun _ _ h => h) (fun h' u tk hk => ⟨_, _, rfl, fin h' u tk hk⟩) hz'
    show X.A.units + 1 + _ < cLine
    omega
section
variable {X : Cx} {e : Expr} {f : Ev} {k : Nat} {pos p : Pos}
theorem jp_reprG (ha : JP X e f 0) (hgu : X.A.guards = some []) (hu : X.A.units + 66 < cLine) (hg : Gl X "repr") (hm : X.mg "repr" = none) (hv : bootBuiltins "repr" = some (.builtin "repr") := by rfl)
    (he : starEach [e] X.env = (false, eval e X.env) :: starEach [] X.env := by rfl) (hpl : (backTo pos (starEach [] X.env)).any (·.1) = false := by rfl) : JP X (.Call (.Name "repr" p) [e] [] pos) (eUn dReprG f) k := fun A S σ H vw sto d sto' Q w r q z => by
  unfold eUn at q
  obtain ⟨⟨x, s1⟩, e1, q⟩ := bind_some' q
  obtain ⟨t, e2, q⟩ := map_some' q
  cases q
  simp only at e2
  unfold dReprG at e2
  split at e2
  case h_2 => cases e2
  split at e2
  case isFalse => cases e2
  rename_i hc
  cases e2
  refine wpE.by (pe_callB (cr_reprG hgu hu) hg hm hv (pa_cons wpE_pe pa_nil he) (by decide) (by decide) he hpl) (ha.use w r e1 fun v H1 x1 w1 r1 p1 => ?_)
  obtain ⟨a, xs, rfl, _, _⟩ := p1.lstI
  exact ⟨S, a, _, rfl, p1.out, hc, z _ H1 [] ((Res.atom w1 (atomic_str _) (.str _)).later x1 w1)⟩
end
end J
namespace J
open PySem PySem.Spec PyProof.Rows L2
section
variable {Z : List Addr → Prop} {X : Cx} {st : Stmt} {rest body orelse : List Stmt} {tg it e a b c : Expr} {f g : Ev} {gb : Sv} {gt : TG} {bd : Bd} {fi : EvI} {t : EvT} {j k n i l : Nat} {pos p p2 apos cpos : Pos} {x y : Str} {M : List Nat}
/-- name.extend(e) -/
def sExt (i : Nat) (M : List Nat) (k : Nat) (g : Ev) : Sv := fun env s => (g (see M env) s).bind fun p => match p.1, (fzIf (k + 1) p.1 M p.2 env)[i]? with
  | .list es, some (.ow (k' + 1) (.list ds)) => if k' = k ∧ ds.length + es.length ≤ 16777216 then some (.nx, (fzIf (k + 1) p.1 M p.2 env).set i (.ow (k + 1) (.list (ds ++ es))), p.2) else none
  | _, _ => none
theorem js_ext (he : JP X e g (j + 1)) (hi : X.N[i]? = some x) (hx : Vis X.env.scope x) (hdb : (x == Str.ofString "__debug__") = false := by decide) (hcd : (x == Str.ofString "__classdict__") = false := by decide)
    (hbase : attributeBase (.Name x p) "extend" X.env (eval (.Name x p) X.env) = eval (.Name x p) X.env := by rfl)
    (hfew : ((backTo cpos (starEach [e] X.env)).all (fun x => !x.1) && (backToKw cpos (keywordEach [] X.env)).all (fun x => x.1.isSome) && decide ([e].length + ([] : List Keyword).length + (if ([] : List Keyword).isEmpty then 0 else 1) < 30)) = true := by rfl)
    (hline : (apos.endLine == cpos.line) = true := by rfl) (hs : starEach [e] X.env = (false, eval e X.env) :: starEach [] X.env := by rfl) (hsw : swapsWith (.Call (.Attribute (.Name x p) "extend" apos) [e] [] cpos) none pos.line X.env = pure false := by rfl) :
    JS Z X (.Expr (.Call (.Attribute (.Name x p) "extend" apos) [e] [] cpos) pos) (sExt i M j g) k := fun C S0 S A0 H0 σ H env sto Fs o env' sto' E hZ r q z => by
  unfold sExt at q
  obtain ⟨⟨d, s1⟩, q1, q⟩ := bind_some' q
  simp only at q
  split at q
  case h_2 => cases q
  rename_i es k' ds hsl
  split at q
  case isFalse => cases q
  rename_i hk
  obtain ⟨rfl, hlen⟩ := hk
  cases q
  have hlt : i < (fzIf (k' + 1) (.list es) M sto' env).length := (List.getElem?_eq_some_iff.mp hsl).1
  -- the receiver
  have hrc : ∃ a0 vs0, σ[i]? = some (some (.ref a0)) ∧ H a0 = some (.lst vs0) := by
    have : ∃ d', env[i]? = some (.ow (k' + 1) d') ∧ d' = .list ds := by
      unfold fzIf at hsl
      split at hsl
      · exact ⟨_, hsl, rfl⟩
      · rw [fz_get] at hsl
        cases e1 : env[i]? with
        | none => rw [e1] at hsl; cases hsl
        | some s =>
          rw [e1] at hsl
          have h' : fzS (M.contains i) s = .ow (k' + 1) (.list ds) := Option.some.inj hsl
          cases s with
          | no => cases h'
          | sh d' => cases h'
          | ow k2 d' =>
            have h' : (if M.contains i = true then Slot.sh d' else .ow k2 d') = .ow (k' + 1) (.list ds) := h'
            split at h'
            · cases h'
            · cases h'; exact ⟨_, rfl, rfl⟩
    obtain ⟨d', e1, rfl⟩ := this
    obtain ⟨u, e2, ow⟩ := r.sl i _ e1
    obtain ⟨a0, vs0, F0, rfl, _, e3, _⟩ := ow.lstI
    exact ⟨a0, vs0, e2, e3⟩
  obtain ⟨a0, vs0, hσ, hH⟩ := hrc
  refine wpS.by (ps_expr (pe_bm PySem.F.plainAttrs_list PySem.F.slot_list_extend rfl mt_extend (pe_var hi hx hdb hcd) (pa_cons wpE_pe pa_nil hs) hbase hfew hline hs rfl) hsw) ?_
  refine ⟨_, hσ, .inl ⟨rfl, vs0, .of hH⟩, r.eval he q1 fun v H' F Fs' r2 rs => ?_⟩
  obtain ⟨u, e2, ow⟩ := r2.sl i _ hsl
  obtain ⟨a1, vs, F0, rfl, eF, e3, ow0⟩ := ow.lstI
  rw [hσ] at e2
  cases e2
  have ha : a0 ∈ Fs' i := by rw [eF]; exact List.mem_cons_self
  have haS : a0 ∉ S := r2.ns i a0 ha
  have e4 : H' a0 = some (.lst vs) := rs.ext a0 _ haS e3
  have hvl := ow0.length
  obtain ⟨b0, ws, Fb, rfl, rfl, e5, owb0⟩ := rs.ow.lstI
  have hwl := owb0.length
  have hsubF : ∀ c, plus Fb (hd S Fs' A0) c → plus (b0 :: Fb) (hd S Fs' A0) c := fun c h => h.imp (List.mem_cons_of_mem _) id
  have wb := rs.wd.less hsubF (fun a e => .inr (r2.wd.hS a e))
  have owb : OwA X.K S (plus Fb (hd S Fs' A0)) H' k' ws es Fb := owb0.mv (hid_le hsubF) fun c _ o q => q
  have ndb := (List.nodup_cons.mp rs.nd).2
  have frb : ∀ c ∈ Fb, H c = none := fun c hc => rs.fr c (List.mem_cons_of_mem _ hc)
  refine ⟨a0, b0, vs, ws, rfl, rfl, e4, e5, by rw [sizeLine_eq]; omega, ?_⟩
  have hdis : ∀ b ∈ Fb, b ∉ Fs' i := fun b hb h => r2.wd.al b (.inl ⟨i, h⟩) (frb b hb)
  have nd0 := r2.nd i
  rw [eF] at nd0
  have hF0 : ∀ b ∈ F0, b ∈ Fs' i := fun b hb => by rw [eF]; exact List.mem_cons_of_mem _ hb
  have hA : plus Fb (hd S Fs' A0) a0 := .inr (.inl ⟨i, ha⟩)
  have r3 := r2.mut (i := i) (F := a0 :: (F0 ++ Fb)) (ov := some (.ref a0)) (s := .ow (k' + 1) (.list (ds ++ es))) (H' := upd H' a0 (.lst (vs ++ ws))) (sto' := sto') hlt ?_ ?_ ?_ ?_ ?_
  · have eσ : σ.set i (some (.ref a0)) = σ := by
      apply List.ext_getElem?
      intro m
      rw [List.getElem?_set]
      by_cases c : i = m
      · subst c
        rw [if_pos rfl, hσ]
        rw [if_pos (List.getElem?_eq_some_iff.mp hσ).1]
      · rw [if_neg c]
    rw [eσ] at r3
    exact z S _ _ _ r3
  · intro b o hb hn h
    rw [upd_ne (fun c : b = a0 => hn (c ▸ ha))]
    exact rs.ext b o hb h
  · have w1 := wb.upd (o := .lst (vs ++ ws)) hA haS ⟨_, e4⟩
    refine w1.less (fun b h => ?_) (fun a e => .inr (.inr (.inr e)))
    rcases h with h | h
    · rcases List.mem_cons.mp h with rfl | h
      · exact hA
      · rcases List.mem_append.mp h with h | h
        · exact .inr (.inl ⟨i, hF0 b h⟩)
        · exact .inl h
    · exact .inr h
  · refine List.nodup_cons.mpr ⟨fun h => ?_, List.nodup_append.mpr ⟨(List.nodup_cons.mp nd0).2, ndb, fun b hb c hc e => hdis c hc (e ▸ hF0 b hb)⟩⟩
    rcases List.mem_append.mp h with h | h
    · exact (List.nodup_cons.mp nd0).1 h
    · exact hdis a0 h ha
  · intro b h
    rcases List.mem_cons.mp h with rfl | h
    · exact .inr ha
    · rcases List.mem_append.mp h with h | h
      · exact .inr (hF0 b h)
      · exact .inl (frb b h)
  · refine ⟨.ref a0, rfl, .lst upd_same ?_⟩
    have sub : ∀ b, hd S (setF Fs' i (a0 :: (F0 ++ Fb))) A0 b → plus Fb (hd S Fs' A0) b := fun b h => by
      rcases hd_set r2 b h with h | h
      · rcases List.mem_cons.mp h with rfl | h
        · exact hA
        · rcases List.mem_append.mp h with h | h
          · exact .inr (.inl ⟨i, hF0 b h⟩)
          · exact .inl h
      · exact .inr h
    have hu : hid (plus Fb (hd S Fs' A0)) (upd H' a0 (.lst (vs ++ ws))) = hid (plus Fb (hd S Fs' A0)) H' := hid_upd hA
    have s2 : Same (hid (plus Fb (hd S Fs' A0)) H') (hid (hd S (setF Fs' i (a0 :: (F0 ++ Fb))) A0) (upd H' a0 (.lst (vs ++ ws)))) := fun b o q => by rw [← hu] at q; exact hid_le sub b o q
    have s1 : Same (hid (hd S Fs' A0) H) (hid (plus Fb (hd S Fs' A0)) H') := hid_move rs.ext r2.wd.hS fun b h => by
      rcases h with h | h
      · exact .inr (frb b h)
      · exact .inl h
    have o1 : OwA X.K S (hd S (setF Fs' i (a0 :: (F0 ++ Fb))) A0) (upd H' a0 (.lst (vs ++ ws))) k' vs ds F0 := ow0.mv (fun b o q => s2 b o (s1 b o q)) fun b hb o q => by
      rw [upd_ne (fun c : b = a0 => (List.nodup_cons.mp nd0).1 (c ▸ hb))]
      exact rs.ext b o (r2.ns i b (hF0 b hb)) q
    have o2 : OwA X.K S (hd S (setF Fs' i (a0 :: (F0 ++ Fb))) A0) (upd H' a0 (.lst (vs ++ ws))) k' ws es Fb := owb.mv s2 fun b hb o q => by
      rw [upd_ne (fun c : b = a0 => hdis b hb (c ▸ ha))]
      exact q
    exact o1.append o2
end
end J
namespace J
open PySem PySem.Spec PyProof.Rows L2
/-! ### sorted(set(xs)), xs a list of ints -/
abbrev emptySet (w : World) : Obj := { cls := .type "set", dict := none, data := .set #[] 0 (.fresh 0 0 (!w.params.followText "set-order")) }
section
variable {P : Program} {w : World} {A : Around} {E : Value → Shared → Prop} {s : Shared}
/-- the new set takes the list's items in -/
theorem set_fill {l : Addr} {items : Array Value} (ns : List Int) (hh : A.handled = none) (hl : s.heap.IsList l items) (hit : IntsAre items.toList ns) (hb : ns.length + 1 < scanBound) :
    codeAny (model P w) A (.call (.builtin "set.__init__") ⟨[.ref s.heap.objs.size, .ref l], []⟩)
      (wants (fun r s₂ => r = .none ∧ ∃ h' tk c, s₂ = { s with heap := h', toks := tk } ∧ SetR w h' s.heap.objs.size (fun j => decide (j ∈ ns)) c ∧ c ≤ ns.length ∧ (∀ b o, s.heap.get? b = some o → h'.get? b = some o)) E)
      { s with heap := s.heap.push (emptySet w) } := by
  have hisz : items.size = ns.length := by
    have q := IntsAre.length hit
    rwa [Array.length_toList] at q
  have hlS : l < s.heap.objs.size := by obtain ⟨o, e, _⟩ := hl; exact Heap.lt_size e
  have hS : (s.heap.push (emptySet w)).get? s.heap.objs.size = some (emptySet w) := Heap.get?_push_size _ rfl
  have hT : Shared.TypeIs { s with heap := s.heap.push (emptySet w) } (.ref s.heap.objs.size) "set" := ⟨_, hS, rfl⟩
  have hz1 : (s.heap.push (emptySet w)).objs.size = s.heap.objs.size + 1 := Heap.size_push ..
  have hneI : l ≠ (s.heap.push (emptySet w)).objs.size := by rw [hz1]; exact Nat.ne_of_lt (Nat.lt_succ_of_lt hlS)
  have hSf : s.heap.objs.size ∉ [(s.heap.push (emptySet w)).objs.size, l] := by
    rw [hz1]
    simp only [List.mem_cons, List.not_mem_nil, or_false, not_or]
    exact ⟨Nat.ne_of_lt (Nat.lt_succ_self _), Nat.ne_of_gt hlS⟩
  have hh3 : A.in1.in1.handled = none := by simp [hh]
  refine codeAny_call_builtin F.called_set.init.plain F.entry_set_init (check_set_init_1 hT ?_)
  obtain ⟨⟨ocls, odict, odata, oslots⟩, hol, hcl, nl, hdl⟩ := hl
  simp only at hcl hdl
  subst hcl hdl
  have hl1 : (s.heap.push (emptySet w)).IsList l items := ⟨_, Heap.get?_push_of_some _ hol, rfl, nl, rfl⟩
  have hol' : (s.heap.push (emptySet w)).get? l = some { cls := .type "list", dict := odict, data := .seq items nl, slots := oslots } := Heap.get?_push_of_some _ hol
  have hsls := F.sub_list_set
  have hslf := F.sub_list_frozenset
  have hne : (Value.type "list" == Value.type "dict") = false := by decide
  unfold Builtin.«set.__init__» noKeywords Builtin.Frozenset.updateFrom
  generalize hPI : pyIter = PI
  wp_walk
  subst hPI
  refine wpAny_pyIter_list hl1 (wpAny_bind (wpAny_runValue ?_))
  refine set_update_ints ((Walks.list hh3 _ l hneI items).toS) s.heap.objs.size hSf ns hisz hb (fun i v hv => ?_) (items.size - 0) 0 _ (by omega) (Nat.zero_le _) ?_
    ⟨0, Nat.le_refl 0, ?_⟩ fun s' c' hm hc' hS' => ?_
  · obtain ⟨t, e⟩ := PyProof.Rows.IntsAre.int_at hit i v (by rw [Array.getElem?_toList]; exact hv)
    have hi : i < ns.length := by rw [← hisz]; exact (Array.getElem?_eq_some_iff.mp hv).1
    exact ⟨ns[i], t, List.getElem?_eq_getElem hi, by rw [e, List.getD_eq_getElem?_getD, List.getElem?_eq_getElem hi] <;> rfl⟩
  · exact ⟨⟨_, Heap.get?_push_size _ rfl, rfl, rfl⟩, hl1.push _⟩
  · exact setR_new_at (w := w) (Heap.get?_push_of_some _ hS)
  · obtain ⟨h', g2, d', tk', os'⟩ := s'
    obtain rfl : g2 = s.gens := hm.gens
    obtain rfl : d' = s.drawn := hm.drawn
    obtain rfl : os' = s.os := hm.os
    refine wpAny_pure (wpAny_pure ⟨rfl, h', tk', c', rfl, hS', by omega, fun b o e => hm.heap b o ?_ (Heap.get?_push_of_some _ (Heap.get?_push_of_some _ e))⟩)
    have := Heap.lt_size e
    rw [hz1]
    simp only [List.mem_cons, List.not_mem_nil, or_false, not_or]
    exact ⟨Nat.ne_of_lt this, Nat.ne_of_lt (Nat.lt_succ_of_lt this)⟩
theorem call_setL {l : Addr} {items : Array Value} (ns : List Int) {Q : Value → Shared → Prop} (hh : A.handled = none) (hl : s.heap.IsList l items) (hit : IntsAre items.toList ns) (hb : ns.length + 1 < scanBound)
    (h : ∀ (h' : Heap) (tk c : Nat), SetR w h' s.heap.objs.size (fun j => decide (j ∈ ns)) c → c ≤ ns.length → (∀ b o, s.heap.get? b = some o → h'.get? b = some o) → Q (.ref s.heap.objs.size) { s with heap := h', toks := tk }) :
    wpAny (model P w) A (call (.type "set") [.ref l]) Q E s := by
  obtain ⟨c, tl, hmro⟩ := F.called_set.mro
  have hmade := F.called_set.made
  have hsub := F.called_set.sub
  refine wpAny_call (codeAny_of_tree ?_)
  show wpAny _ _ (callAny (.type "set") _) _ _ _
  refine wpAny_pure ⟨Code.quiet_builtin _ (by decide +kernel), codeAny_builtin F.entry_type_call ?_⟩
  rw [Around.under_plain (weight_type_call_type "set" [.ref l] []) rfl]
  have h1 := F.called_set.notType
  have h2 := F.called_set.canCreate
  have hct := F.typeCall_set_1 (.ref l)
  repeat (any_goals (first | assumption | wp_step))
  refine codeAny_mono (code_set_led1 (.ref l) (E := E) (Q₁ := fun obj s₁ => obj = .ref s.heap.objs.size ∧ s₁ = { s with heap := s.heap.push (emptySet w) }) ⟨rfl, rfl⟩) fun r s₁ hr => ?_
  cases r with
  | error e => exact hr
  | ok fl =>
    cases fl with
    | ret obj =>
      obtain ⟨e1, e2⟩ := hr
      subst e1 e2
      have hS : (s.heap.push (emptySet w)).get? s.heap.objs.size = some (emptySet w) := Heap.get?_push_size _ rfl
      have hT : Shared.TypeIs { s with heap := s.heap.push (emptySet w) } (.ref s.heap.objs.size) "set" := ⟨_, hS, rfl⟩
      have hli := F.called_set.init.lookup
      have hbi := F.called_set.init.bind (.ref s.heap.objs.size)
      repeat (any_goals (first | assumption | wp_step))
      refine codeAny_mono (set_fill (E := E) ns hh hl hit hb) fun r₂ s₂ hr₂ => ?_
      cases r₂ with
      | error e => exact hr₂
      | ok fl₂ =>
        cases fl₂ with
        | ret r =>
          obtain ⟨e3, h', tk, c', e4, hS', hc', hk'⟩ := hr₂
          subst e3 e4
          repeat (any_goals (first | assumption | wp_step))
          exact h _ _ _ hS' hc' hk'
        | _ => exact hr₂.elim
    | _ => exact hr.elim
end
def isIntsD : List D → Option (List Int)
  | [] => some []
  | .int i :: r => (isIntsD r).map (i :: ·)
  | _ => none
theorem RpA.intsD {K : PySem.W.Frag} {S : List Addr} {H : Hp} : ∀ {vs : List V} {ds : List D} {ns : List Int}, RpA K S H vs ds → isIntsD ds = some ns → vs = ns.map V.int
  | _, [], _, .nil, h => by cases h; rfl
  | _, .int i :: r, ns, .cons a b, h => by
    unfold isIntsD at h
    obtain ⟨m, e1, e2⟩ := map_some' h
    subst e2
    rw [a.intI, b.intsD e1]
    rfl
/-- the members of a list of ints, ascending -/
def insI (x : Int) : List Int → List Int
  | [] => [x]
  | y :: r => if x < y then x :: y :: r else if x = y then y :: r else y :: insI x r
def setI (ns : List Int) : List Int := ns.foldr insI []
theorem mem_insI {x k : Int} : ∀ {l : List Int}, k ∈ insI x l ↔ k = x ∨ k ∈ l
  | [] => by simp [insI]
  | y :: r => by
    unfold insI
    split
    · simp
    · split
      · rename_i h; subst h; simp
      · rw [List.mem_cons, mem_insI, List.mem_cons]
        constructor
        · rintro (h | h | h)
          · exact .inr (.inl h)
          · exact .inl h
          · exact .inr (.inr h)
        · rintro (h | h | h)
          · exact .inr (.inl h)
          · exact .inl h
          · exact .inr (.inr h)
theorem asc_insI {x : Int} : ∀ {l : List Int}, l.Pairwise (· < ·) → (insI x l).Pairwise (· < ·)
  | [], _ => by simp [insI]
  | y :: r, h => by
    obtain ⟨h1, h2⟩ := List.pairwise_cons.mp h
    unfold insI
    split
    · rename_i hx
      refine List.pairwise_cons.mpr ⟨fun z hz => ?_, h⟩
      rcases List.mem_cons.mp hz with rfl | hz
      · exact hx
      · exact Int.lt_trans hx (h1 z hz)
    · split
      · exact h
      · refine List.pairwise_cons.mpr ⟨fun z hz => ?_, asc_insI h2⟩
        rcases mem_insI.mp hz with rfl | hz
        · omega
        · exact h1 z hz
theorem mem_setI {k : Int} : ∀ {ns : List Int}, k ∈ setI ns ↔ k ∈ ns
  | [] => Iff.rfl
  | x :: r => by
    show k ∈ insI x (setI r) ↔ _
    rw [mem_insI, mem_setI, List.mem_cons]
theorem asc_setI : ∀ {ns : List Int}, (setI ns).Pairwise (· < ·)
  | [] => .nil
  | x :: r => asc_insI asc_setI
theorem ascI_ext : ∀ {l m : List Int}, l.Pairwise (· < ·) → m.Pairwise (· < ·) → (∀ k, k ∈ l ↔ k ∈ m) → l = m
  | [], [], _, _, _ => rfl
  | [], y :: m, _, _, h => by have := (h y).mpr List.mem_cons_self; cases this
  | x :: l, [], _, _, h => by have := (h x).mp List.mem_cons_self; cases this
  | x :: l, y :: m, hl, hm, h => by
    obtain ⟨l1, l2⟩ := List.pairwise_cons.mp hl
    obtain ⟨m1, m2⟩ := List.pairwise_cons.mp hm
    have e : x = y := by
      rcases List.mem_cons.mp ((h x).mp List.mem_cons_self) with e | e
      · exact e
      · rcases List.mem_cons.mp ((h y).mpr List.mem_cons_self) with e' | e'
        · exact e'.symm
        · have := m1 x e; have := l1 y e'; omega
    subst e
    refine congrArg _ (ascI_ext l2 m2 fun k => ⟨fun hk => ?_, fun hk => ?_⟩)
    · rcases List.mem_cons.mp ((h k).mp (List.mem_cons_of_mem _ hk)) with e | e
      · have := l1 k hk; omega
      · exact e
    · rcases List.mem_cons.mp ((h k).mpr (List.mem_cons_of_mem _ hk)) with e | e
      · have := m1 k hk; omega
      · exact e
/-- sorted(set(xs)) -/
def dSortSet : D → Option D
  | .list ds => (isIntsD ds).bind fun ns => if ns.length < 64 then some (.list ((setI ns).map .int)) else none
  | _ => none
section
variable {X : Cx} {e : Expr} {f : Ev} {k : Nat} {pos p p2 q2 : Pos}
def tSortSet (K : PySem.W.Frag) (ta : TE) : TE := fun σ H Q => ta σ H fun x H1 => ∃ (l : Addr) (ns : List Int), x = .ref l ∧ SqL K H1 l (ns.map V.int) ∧ ns.length < 64 ∧ ∀ b, H1 b = none → Q (.ref b) (upd H1 b (.lst ((setI ns).map V.int)))
theorem pe_sortSet {ta : TE} (hg : Gl X "sorted") (hm : X.mg "sorted" = none) (hg2 : Gl X "set") (hm2 : X.mg "set" = none) (ha : PE X e ta) (hc : X.calm = true)
    (na : starEach [e] X.env = (false, eval e X.env) :: starEach [] X.env := by rfl) : PE X (.Call (.Name "sorted" p) [.Call (.Name "set" p2) [e] [] q2] [] pos) (tSortSet X.K ta) := by
  refine ⟨fun pins s σ H Q I h => ?_⟩
  refine Call_ (ld_blt I hg hm rfl ?_)
  refine PyProof.Rows.callWith_builtin1 (PyProof.Rows.args_cons ?_ rfl) rfl rfl
  refine Call_ (ld_blt I hg2 hm2 PyProof.Rows.boot_set ?_)
  refine PyProof.Rows.callWith_type1 (PyProof.Rows.args_cons (thn (ha.run pins s σ H _ I h) fun v s1 ⟨x, H1, I1, r1, q1⟩ => PyProof.Rows.args_nil ?_) na) na rfl
  obtain ⟨l, ns, rfl, hq, hl, q1⟩ := q1
  cases r1
  obtain ⟨its, r, pl, hz⟩ := I1.list hq
  refine call_setL ns (I1.ok.hd hc) pl.isList (by simpa using r.ints) (by unfold scanBound; omega) fun h' tk c R hcn hk => ?_
  refine PyProof.Rows.args_nil ?_
  have I2 : L2.Inv X pins σ H1 { s1 with heap := h', toks := tk } := I1.kept fun b o e => hk b o e
  have R2 : SetR X.w ({ s1 with heap := h', toks := tk } : Shared).heap s1.heap.objs.size (fun j => decide (j ∈ ns)) c := R
  clear R hk
  revert I2 R2
  generalize ({ s1 with heap := h', toks := tk } : Shared) = s2
  intro I2 R2
  refine sorted_set R2 (I2.ok.hd hc) (by omega) fun s' p out c2 ks k g o hp hgt hi hs hmm hln => ?_
  have e : ks = setI ns := ascI_ext hs asc_setI fun j => by rw [hmm, mem_setI]; exact decide_eq_true_iff
  subst e
  have hlen : ((setI ns).map V.int).length ≤ sizeLine := by rw [List.length_map, hln, sizeLine_eq]; omega
  have hn : H1 p = none := I2.hok.fresh hp
  have J : L2.Inv X pins σ (upd H1 p (.lst ((setI ns).map V.int))) { s2 with heap := s'.heap, gens := s'.gens, drawn := s'.drawn, toks := s'.toks } :=
    I2.call (ch := []) (Un.laid k hp hn) (I2.hok.laid k hp ⟨hlen, out.toList, c2, vals_of_ints hi, hgt⟩) (by rw [g]; exact I2.bare) (fun _ z => nomatch z)
  have e' : s' = { s2 with heap := s'.heap, gens := s'.gens, drawn := s'.drawn, toks := s'.toks } := by
    cases s'
    cases s2
    cases o
    rfl
  rw [e']
  exact ⟨.ref p, _, J, rfl, q1 p hn⟩
theorem RpA.intsV {K : PySem.W.Frag} {S : List Addr} {H : Hp} : ∀ ns : List Int, RpA K S H (ns.map V.int) (ns.map PyData.int)
  | [] => .nil
  | n :: r => .cons (.int n) (RpA.intsV r)
theorem jp_sortSet (ha : JP X e f 0) (hc : X.calm = true) (hg : Gl X "sorted") (hm : X.mg "sorted" = none) (hg2 : Gl X "set") (hm2 : X.mg "set" = none)
    (na : starEach [e] X.env = (false, eval e X.env) :: starEach [] X.env := by rfl) : JP X (.Call (.Name "sorted" p) [.Call (.Name "set" p2) [e] [] q2] [] pos) (eUn dSortSet f) 1 := fun A S σ H vw sto d sto' Q w r q z => by
  unfold eUn at q
  obtain ⟨⟨x, s1⟩, e1, q⟩ := bind_some' q
  obtain ⟨t, e2, q⟩ := map_some' q
  cases q
  simp only at e2
  unfold dSortSet at e2
  split at e2
  case h_2 => cases e2
  rename_i ds
  obtain ⟨ns, e3, e2⟩ := bind_some' e2
  split at e2
  case isFalse => cases e2
  rename_i hl
  cases e2
  refine wpE.by (pe_sortSet hg hm hg2 hm2 wpE_pe hc na) (ha.use w r e1 fun v H1 x1 w1 r1 p1 => ?_)
  obtain ⟨l, xs, rfl, h1, h2⟩ := p1.lstI
  have := h2.intsD e3
  subst this
  exact ⟨l, ns, rfl, .inl h1.out, hl, fun b hb => z _ _ [b] ((Res.lst w1 (.shared w1 (RpA.intsV _)) hb).later x1 w1)⟩
end
end J
namespace J
open PySem PySem.Spec PyProof.Rows L2
/-! ### written data -/
def mapO {α β : Type} (f : α → Option β) : List α → Option (List β)
  | [] => some []
  | a :: r => (f a).bind fun b => (mapO f r).map (b :: ·)
def constD : Nat → Expr → Option D
  | n + 1, .Constant .none _ _ => some .none
  | n + 1, .Constant (.bool b) _ _ => some (.bool b)
  | n + 1, .Constant (.int i) _ _ => some (.int i)
  | n + 1, .Constant (.str x) _ _ => some (.str x)
  | n + 1, .List es _ => (mapO (constD n) es).bind fun ds => if ds.length ≤ 16777216 then some (.list ds) else none
  | n + 1, .Tuple es _ _ => (mapO (constD n) es).bind fun ds => if ds.length ≤ 16777216 then some (.tuple ds) else none
  | n + 1, .UnaryOp .USub a _ => (constD n a).bind dNeg
  | n + 1, .BinOp a .Pow b _ => (constD n a).bind fun x => (constD n b).bind fun y => dPow x y
  | n + 1, .Dict [] [] _ => some (.dict [])
  | _, _ => none
section
variable {X : Cx}
theorem JP.congr {e : Expr} {f g : Ev} {k : Nat} (h : JP X e f k) (q : ∀ vw s, f vw s = g vw s) : JP X e g k := by
  have : f = g := funext fun vw => funext fun s => q vw s
  rw [← this]; exact h
theorem JA.congr {es : List Expr} {f g : EvA} {k : Nat} (h : JA X es f k) (q : ∀ vw s, f vw s = g vw s) : JA X es g k := by
  have : f = g := funext fun vw => funext fun s => q vw s
  rw [← this]; exact h
theorem constD_star {n : Nat} {a : Expr} {d : D} (h : constD n a = some d) (es : List Expr) : starEach (a :: es) X.env = (false, eval a X.env) :: starEach es X.env := by
  cases n with
  | zero => cases h
  | succ n => cases a <;> first | rfl | (simp [constD] at h)
def eCs (ds : List D) : EvA := fun _ s => some (ds, s)
theorem ja_const {n : Nat} (ih : ∀ (e : Expr) (d : D), constD n e = some d → JP X e (eC d) 0) : ∀ (es : List Expr) (ds : List D), mapO (constD n) es = some ds → JA X es (eCs ds) 0
  | [], _, h => by cases h; exact ja_nil
  | e :: r, ds, h => by
    unfold mapO at h
    obtain ⟨d, e1, h⟩ := bind_some' h
    obtain ⟨xs, e2, e3⟩ := map_some' h
    subst e3
    exact (ja_cons (ih e d e1) (ja_const ih r xs e2) (constD_star e1 r)).congr fun _ _ => rfl
theorem jp_constN : ∀ (n : Nat) (e : Expr) (d : D), constD n e = some d → JP X e (eC d) 0
  | 0, _, _, h => by cases h
  | n + 1, e, d, h => by
    unfold constD at h
    split at h
    · rename_i hh; cases hh; cases h; exact jp_non
    · rename_i hh; cases hh; cases h; exact jp_bl
    · rename_i hh; cases hh; cases h; exact jp_int
    · rename_i hh; cases hh; cases h; exact jp_str
    · rename_i hh; cases hh
      obtain ⟨ds, e1, h⟩ := bind_some' h
      split at h
      · rename_i hl
        cases h
        exact (jp_lst (ja_const (jp_constN n) _ ds e1)).zero.congr fun _ _ => by unfold eLst eCs; simp only [Option.bind_some, if_pos hl]; rfl
      · cases h
    · rename_i hh; cases hh
      obtain ⟨ds, e1, h⟩ := bind_some' h
      split at h
      · rename_i hl
        cases h
        exact (jp_tup (ja_const (jp_constN n) _ ds e1)).congr fun _ _ => by unfold eTup eCs; simp only [Option.bind_some, if_pos hl]; rfl
      · cases h
    · rename_i hh; cases hh
      obtain ⟨x, e1, h⟩ := bind_some' h
      exact (jp_un uj_neg (jp_constN n _ x e1)).congr fun _ _ => by unfold eUn eC; simp only [Option.bind_some, h]; rfl
    · rename_i hh; cases hh
      obtain ⟨x, e1, h⟩ := bind_some' h
      obtain ⟨y, e2, h⟩ := bind_some' h
      exact (jp_bin oj_pow (jp_constN n _ x e1) (jp_constN n _ y e2)).congr fun _ _ => by unfold eBin eC; simp only [Option.bind_some, h]; rfl
    · rename_i hh; cases hh; cases h; exact jp_dict0
    · cases h
theorem jp_const {e : Expr} {d : D} (h : constD 9 e = some d) : JP X e (eC d) 0 := jp_constN 9 e d h
theorem jp_constL {es : List Expr} {pos : Pos} {ds : List D} (h : mapO (constD 9) es = some ds) (hl : ds.length ≤ 16777216) : JP X (.List es pos) (eC (.list ds)) 1 :=
  (jp_lst (ja_const (jp_constN 9) es ds h)).congr fun _ _ => by unfold eLst eCs; simp only [Option.bind_some, if_pos hl]; rfl
end
end J
namespace J
open PySem PySem.Spec PyProof.Rows L2
/-! ### keys, entries -/
def isKD : D → Option Key
  | .int i => some (.inl i)
  | .str x => some (.inr x)
  | _ => none
def isKDs : List D → Option (List Key)
  | [] => some []
  | d :: r => (isKD d).bind fun k => (isKDs r).map (k :: ·)
def isKT : D → Option (List Key)
  | .tuple ds => isKDs ds
  | _ => none
theorem isKD_kD : ∀ k : Key, isKD (kD k) = some k
  | .inl _ => rfl
  | .inr _ => rfl
theorem isKD_some {d : D} {k : Key} (h : isKD d = some k) : d = kD k := by
  unfold isKD at h
  split at h
  · cases h; rfl
  · cases h; rfl
  · cases h
theorem isKDs_map : ∀ k : List Key, isKDs (k.map kD) = some k
  | [] => rfl
  | x :: r => by rw [List.map_cons, isKDs, isKD_kD, Option.bind_some, isKDs_map r]; rfl
theorem isKDs_some : ∀ {ds : List D} {k : List Key}, isKDs ds = some k → ds = k.map kD
  | [], k, h => by cases h; rfl
  | d :: r, k, h => by
    unfold isKDs at h
    obtain ⟨x, e1, h⟩ := bind_some' h
    obtain ⟨y, e2, h⟩ := map_some' h
    subst h
    rw [isKD_some e1, isKDs_some e2]
    rfl
theorem isKT_some {d : D} {k : List Key} (h : isKT d = some k) : d = .tuple (k.map kD) := by
  unfold isKT at h
  split at h
  · rw [isKDs_some h]
  · cases h
theorem isKT_t (k : List Key) : isKT (.tuple (k.map kD)) = some k := isKDs_map k
def getK (es : List (D × D)) (k : Key) : Option D := (es.find? fun p => decide (isKD p.1 = some k)).map (·.2)
def getT (es : List (D × D)) (k : List Key) : Option D := (es.find? fun p => decide (isKT p.1 = some k)).map (·.2)
def putKD (es : List (D × D)) (k : Key) (d : D) : List (D × D) := if (es.any fun p => decide (isKD p.1 = some k)) = true then es.map (fun p => if isKD p.1 = some k then (p.1, d) else p) else es ++ [(kD k, d)]
def putTD (es : List (D × D)) (k : List Key) (d : D) : List (D × D) := if (es.any fun p => decide (isKT p.1 = some k)) = true then es.map (fun p => if isKT p.1 = some k then (p.1, d) else p) else es ++ [(.tuple (k.map kD), d)]
/-- an entry of a dict whose keys are ints and texts (tuples of them where t) -/
def getE (t : Bool) (es : List (D × D)) (k : D) : Option (Option D) := if t = true then (isKT k).map (getT es) else (isKD k).map (getK es)
def putE (t : Bool) (es : List (D × D)) (k d : D) : Option (List (D × D)) := if t = true then (isKT k).map fun x => putTD es x d else (isKD k).map fun x => putKD es x d
section
variable {K : PySem.W.Frag} {S : List Addr} {H : Hp}
theorem RpK.find : ∀ {kvs : List (Key × V)} {es : List (D × D)} (k : Key), RpK K S H kvs es → (∃ v d, valV kvs k = some v ∧ getK es k = some d ∧ Rp K S H v d) ∨ (valV kvs k = none ∧ getK es k = none)
  | _, _, k, .nil => .inr ⟨rfl, rfl⟩
  | _, _, k, .cons (k := k1) (v := v) (r := r) (d := d) (es := es) a b => by
    by_cases e : k1 = k
    · subst e
      refine .inl ⟨v, d, valV_pos rfl, ?_, a⟩
      unfold getK
      rw [List.find?_cons_of_pos (p := fun p : D × D => decide (isKD p.1 = some k1)) (a := (kD k1, d)) (decide_eq_true (isKD_kD k1))]
      rfl
    · have h1 : valV ((k1, v) :: r) k = valV r k := valV_neg e
      have h2 : getK ((kD k1, d) :: es) k = getK es k := by
        unfold getK
        rw [List.find?_cons_of_neg (by rw [isKD_kD]; simpa using e)]
      rw [h1, h2]
      exact b.find k
theorem RpT.find : ∀ {kvs : List (List Key × V)} {es : List (D × D)} (k : List Key), RpT K S H kvs es → (∃ v d, valV kvs k = some v ∧ getT es k = some d ∧ Rp K S H v d) ∨ (valV kvs k = none ∧ getT es k = none)
  | _, _, k, .nil => .inr ⟨rfl, rfl⟩
  | _, _, k, .cons (k := k1) (v := v) (r := r) (d := d) (es := es) a b => by
    by_cases e : k1 = k
    · subst e
      refine .inl ⟨v, d, valV_pos rfl, ?_, a⟩
      unfold getT
      rw [List.find?_cons_of_pos (p := fun p : D × D => decide (isKT p.1 = some k1)) (a := (.tuple (k1.map kD), d)) (decide_eq_true (isKT_t k1))]
      rfl
    · have h1 : valV ((k1, v) :: r) k = valV r k := valV_neg e
      have h2 : getT ((.tuple (k1.map kD), d) :: es) k = getT es k := by
        unfold getT
        rw [List.find?_cons_of_neg (by rw [isKT_t]; simpa using e)]
      rw [h1, h2]
      exact b.find k
theorem RpK.any (k : Key) : ∀ {kvs : List (Key × V)} {es : List (D × D)}, RpK K S H kvs es → (kvs.any fun kv => decide (kv.1 = k)) = es.any fun p => decide (isKD p.1 = some k)
  | _, _, .nil => rfl
  | _, _, .cons (k := k1) a b => by
    rw [List.any_cons, List.any_cons, b.any k, isKD_kD]
    congr 1
    exact decide_eq_decide.mpr (by simp)
theorem RpT.any (k : List Key) : ∀ {kvs : List (List Key × V)} {es : List (D × D)}, RpT K S H kvs es → (kvs.any fun kv => decide (kv.1 = k)) = es.any fun p => decide (isKT p.1 = some k)
  | _, _, .nil => rfl
  | _, _, .cons (k := k1) a b => by
    rw [List.any_cons, List.any_cons, b.any k, isKT_t]
    congr 1
    exact decide_eq_decide.mpr (by simp)
theorem RpK.snoc : ∀ {kvs : List (Key × V)} {es : List (D × D)} {k : Key} {v : V} {d : D}, RpK K S H kvs es → Rp K S H v d → RpK K S H (kvs ++ [(k, v)]) (es ++ [(kD k, d)])
  | _, _, _, _, _, .nil, p => .cons p .nil
  | _, _, _, _, _, .cons a b, p => .cons a (b.snoc p)
theorem RpT.snoc : ∀ {kvs : List (List Key × V)} {es : List (D × D)} {k : List Key} {v : V} {d : D}, RpT K S H kvs es → Rp K S H v d → RpT K S H (kvs ++ [(k, v)]) (es ++ [(.tuple (k.map kD), d)])
  | _, _, _, _, _, .nil, p => .cons p .nil
  | _, _, _, _, _, .cons a b, p => .cons a (b.snoc p)
theorem RpK.repl {k : Key} {v : V} {d : D} (p : Rp K S H v d) : ∀ {kvs : List (Key × V)} {es : List (D × D)}, RpK K S H kvs es → RpK K S H (kvs.map fun kv => if kv.1 = k then (kv.1, v) else kv) (es.map fun p => if isKD p.1 = some k then (p.1, d) else p)
  | _, _, .nil => .nil
  | _, _, .cons (k := k1) a b => by
    rw [List.map_cons, List.map_cons]
    by_cases e : k1 = k
    · rw [if_pos e, if_pos (by rw [isKD_kD, e])]
      exact .cons p (b.repl p)
    · rw [if_neg e, if_neg (by rw [isKD_kD]; simpa using e)]
      exact .cons a (b.repl p)
theorem RpT.repl {k : List Key} {v : V} {d : D} (p : Rp K S H v d) : ∀ {kvs : List (List Key × V)} {es : List (D × D)}, RpT K S H kvs es → RpT K S H (kvs.map fun kv => if kv.1 = k then (kv.1, v) else kv) (es.map fun p => if isKT p.1 = some k then (p.1, d) else p)
  | _, _, .nil => .nil
  | _, _, .cons (k := k1) a b => by
    rw [List.map_cons, List.map_cons]
    by_cases e : k1 = k
    · rw [if_pos e, if_pos (by rw [isKT_t, e])]
      exact .cons p (b.repl p)
    · rw [if_neg e, if_neg (by rw [isKT_t]; simpa using e)]
      exact .cons a (b.repl p)
theorem RpK.put {kvs : List (Key × V)} {es : List (D × D)} {k : Key} {v : V} {d : D} (r : RpK K S H kvs es) (p : Rp K S H v d) : RpK K S H (putK kvs k v) (putKD es k d) := by
  unfold putK putKD
  rw [r.any k]
  split
  · exact r.repl p
  · exact r.snoc p
theorem RpT.put {kvs : List (List Key × V)} {es : List (D × D)} {k : List Key} {v : V} {d : D} (r : RpT K S H kvs es) (p : Rp K S H v d) : RpT K S H (putK kvs k v) (putTD es k d) := by
  unfold putK putTD
  rw [r.any k]
  split
  · exact r.repl p
  · exact r.snoc p
theorem RpK.len : ∀ {kvs : List (Key × V)} {es : List (D × D)}, RpK K S H kvs es → kvs.length = es.length
  | _, _, .nil => rfl
  | _, _, .cons _ b => congrArg (· + 1) b.len
theorem RpT.len : ∀ {kvs : List (List Key × V)} {es : List (D × D)}, RpT K S H kvs es → kvs.length = es.length
  | _, _, .nil => rfl
  | _, _, .cons _ b => congrArg (· + 1) b.len
theorem Rp.keyI {y : V} {k : Key} (p : Rp K S H y (kD k)) : y = kV k := by
  cases k with
  | inl i => exact p.intI
  | inr x => exact p.strI
theorem RpA.keys : ∀ {vs : List V} {k : List Key}, RpA K S H vs (k.map kD) → vs = k.map kV
  | _, [], .nil => rfl
  | _, x :: r, .cons a b => by rw [a.keyI, b.keys]; rfl
theorem Rp.keyT {y : V} {k : List Key} (p : Rp K S H y (.tuple (k.map kD))) : ∃ b, y = .ref b ∧ H b = some (.tup (k.map kV)) := by
  obtain ⟨b, xs, rfl, h1, h2⟩ := p.tupI'
  rw [h2.keys] at h1
  exact ⟨b, rfl, h1⟩
end
/-- the entries of a dict, in a cell or written once for all -/
def dEnt (s : STO) (d : D) : Option (Bool × List (D × D)) := match isTok d with
  | some j => (match s[j]? with
    | some (.dct t es) => some (t, es)
    | some (.fdc t es) => some (t, es)
    | _ => none)
  | none => match d with
    | .dict [] => some (false, [])
    | .dict ((.none, .bool t) :: r) => some (t, r)
    | _ => none
/-- where such a dict stands -/
def DAt (K : PySem.W.Frag) (S : List Addr) (A : Addr → Prop) (H : Hp) (a : Addr) (t : Bool) (es : List (D × D)) : Prop :=
  (t = false ∧ ∃ kvs, Rd H a (.dK kvs) ∧ RpK K S (hid A H) kvs es) ∨ (t = true ∧ ∃ kvs, Rd H a (.dT kvs) ∧ RpT K S (hid A H) kvs es)
section
variable {K : PySem.W.Frag} {S : List Addr} {A : Addr → Prop} {H : Hp} {sto : STO}
theorem Rp.dict0 {x : V} (p : Rp K S (hid A H) x (.dict [])) : ∃ a o, x = .ref a ∧ H a = some (.frz o (.dK [])) := by
  cases p with
  | dK h1 h2 => cases h2; exact ⟨_, _, rfl, (hid_eq.mp h1).2⟩
  | dT h1 h2 => cases h2
theorem Rp.dictR {x : V} {t : Bool} {es : List (D × D)} (p : Rp K S (hid A H) x (.dict ((.none, .bool t) :: es))) : ∃ a, x = .ref a ∧ DAt K S A H a t es := by
  generalize ed : PyData.dict ((.none, .bool t) :: es) = d at p
  cases p with
  | dK h1 h2 =>
    injection ed with ed
    subst ed
    obtain ⟨k, e⟩ := h2.key _ List.mem_cons_self
    cases k <;> cases e
  | dT h1 h2 =>
    injection ed with ed
    subst ed
    obtain ⟨k, e⟩ := h2.key _ List.mem_cons_self
    cases e
  | tok h1 => unfold tokD at ed; injection ed with ed; injection ed with ed _; injection ed with _ ed; cases ed
  | sk h1 h2 => unfold skD at ed; injection ed with ed; injection ed with ed _; injection ed with _ ed; cases ed
  | rK h1 h2 =>
    injection ed with ed
    injection ed with e1 e2
    injection e1 with _ e1
    injection e1 with e1
    subst e1
    subst e2
    exact ⟨_, rfl, .inl ⟨rfl, _, .inr ⟨_, (hid_eq.mp h1).2⟩, h2⟩⟩
  | rT h1 h2 =>
    injection ed with ed
    injection ed with e1 e2
    injection e1 with _ e1
    injection e1 with e1
    subst e1
    subst e2
    exact ⟨_, rfl, .inr ⟨rfl, _, .inr ⟨_, (hid_eq.mp h1).2⟩, h2⟩⟩
  | _ => cases ed
theorem Wd.dent {x : V} {d : D} {t : Bool} {es : List (D × D)} (w : Wd K S A H sto) (p : Rp K S (hid A H) x d) (e : dEnt sto d = some (t, es)) : ∃ a, x = .ref a ∧ DAt K S A H a t es := by
  unfold dEnt at e
  split at e
  · rename_i j hj
    have := isTok_eq hj
    subst this
    obtain ⟨a, rfl, hS⟩ := p.tokI
    split at e
    · rename_i t' es' hc
      cases e
      have ok := w.st j a _ hS hc
      cases t with
      | false => obtain ⟨kvs, h1, h2⟩ := ok; exact ⟨a, rfl, .inl ⟨rfl, kvs, .inl h1, h2⟩⟩
      | true => obtain ⟨kvs, h1, h2⟩ := ok; exact ⟨a, rfl, .inr ⟨rfl, kvs, .inl h1, h2⟩⟩
    · rename_i t' es' hc
      cases e
      have ok := w.st j a _ hS hc
      cases t with
      | false => obtain ⟨o, kvs, h1, h2⟩ := ok; exact ⟨a, rfl, .inl ⟨rfl, kvs, .inr ⟨o, h1⟩, h2⟩⟩
      | true => obtain ⟨o, kvs, h1, h2⟩ := ok; exact ⟨a, rfl, .inr ⟨rfl, kvs, .inr ⟨o, h1⟩, h2⟩⟩
    · cases e
  · split at e
    · cases e
      obtain ⟨a, o, rfl, h1⟩ := p.dict0
      exact ⟨a, rfl, .inl ⟨rfl, [], .inr ⟨o, h1⟩, .nil⟩⟩
    · cases e
      exact p.dictR
    · cases e
theorem DAt.isD {a : Addr} {t : Bool} {es : List (D × D)} (h : DAt K S A H a t es) : IsD H a := by
  rcases h with ⟨_, kvs, h, _⟩ | ⟨_, kvs, h, _⟩
  · exact .inl ⟨kvs, h⟩
  · exact .inr ⟨kvs, h⟩
theorem DAt.get {a : Addr} {t : Bool} {es : List (D × D)} {y : V} {kd : D} {od : Option D} (h : DAt K S A H a t es) (p : Rp K S (hid A H) y kd) (g : getE t es kd = some od) :
    ∃ ov, DGet H a y ov ∧ ((∃ v d, ov = some v ∧ od = some d ∧ Rp K S (hid A H) v d) ∨ (ov = none ∧ od = none)) := by
  unfold getE at g
  rcases h with ⟨rfl, kvs, h1, h2⟩ | ⟨rfl, kvs, h1, h2⟩
  · rw [if_neg Bool.false_ne_true] at g
    obtain ⟨k, e1, e2⟩ := map_some' g
    rw [isKD_some e1] at p
    have := p.keyI
    subst this
    subst e2
    refine ⟨valV kvs k, .inl ⟨kvs, k, h1, rfl, rfl⟩, ?_⟩
    exact h2.find k
  · rw [if_pos rfl] at g
    obtain ⟨k, e1, e2⟩ := map_some' g
    rw [isKT_some e1] at p
    obtain ⟨b, rfl, hb⟩ := p.keyT
    subst e2
    refine ⟨valV kvs k, .inr ⟨kvs, k, b, h1, rfl, (hid_eq.mp hb).2, rfl⟩, ?_⟩
    exact h2.find k
end
/-! ### reading -/
/-- d[k] -/
def eDGet (f g : Ev) : Ev := fun vw s => (f vw s).bind fun p => (g vw p.2).bind fun q => (dEnt q.2 p.1).bind fun es => (getE es.1 es.2 q.1).bind fun o => o.map fun r => (r, q.2)
/-- d.get(k, x) -/
def eDGet2 (f g h : Ev) : Ev := fun vw s => (f vw s).bind fun p => (g vw p.2).bind fun q => (h vw q.2).bind fun u => (dEnt p.2 p.1).bind fun _ => (dEnt u.2 p.1).bind fun es => (getE es.1 es.2 q.1).map fun o => (o.getD u.1, u.2)
/-- k in d -/
def eDIn (b : Bool) (g f : Ev) : Ev := fun vw s => (g vw s).bind fun q => (f vw q.2).bind fun p => (dEnt p.2 p.1).bind fun es => (getE es.1 es.2 q.1).map fun o => (.bool (o.isSome == b), p.2)
section
variable {X : Cx} {a b c e o i : Expr} {f g h : Ev} {k : Nat} {pos p2 apos cpos : Pos}
theorem jp_dget (ha : JP X a f 0) (hb : JP X b g 0) (hu : X.A.units + 1 < cLine) (hs : NoSl b) : JP X (.Subscript a b pos) (eDGet f g) 0 := fun A S σ H vw sto d sto' Q w r q z => by
  unfold eDGet at q
  obtain ⟨⟨x, s1⟩, e1, q⟩ := bind_some' q
  obtain ⟨⟨y, s2⟩, e2, q⟩ := bind_some' q
  obtain ⟨⟨t, es⟩, e3, q⟩ := bind_some' q
  obtain ⟨od, e4, q⟩ := bind_some' q
  obtain ⟨dd, e5, q⟩ := map_some' q
  cases q
  simp only at e2 e3 e4
  refine wpE.by (pe_dget hu wpE_pe wpE_pe hs) (ha.use2 hb w r e1 e2 fun v u H' x' w' r' p1 p2 => ?_)
  obtain ⟨l, rfl, hd⟩ := w'.dent p1 e3
  obtain ⟨ov, g1, g2⟩ := hd.get p2 e4
  rcases g2 with ⟨v', d', rfl, h2, h3⟩ | ⟨_, h2⟩
  · rw [e5] at h2
    cases h2
    exact ⟨l, v', rfl, g1, z v' H' [] ((Res.shared w' h3).after x' noF)⟩
  · rw [e5] at h2; cases h2
theorem jp_din {bb : Bool} (ha : JP X a g 0) (hb : JP X b f 0) (hu : X.A.units + 1 < cLine) (hm : behindInMarks (if bb then CmpOp.In else .NotIn) b = false := by rfl) : JP X (.Compare a [if bb then CmpOp.In else .NotIn] [b] pos) (eDIn bb g f) k := fun A S σ H vw sto d sto' Q w r q z => by
  unfold eDIn at q
  obtain ⟨⟨y, s1⟩, e1, q⟩ := bind_some' q
  obtain ⟨⟨x, s2⟩, e2, q⟩ := bind_some' q
  obtain ⟨⟨t, es⟩, e3, q⟩ := bind_some' q
  obtain ⟨od, e4, q⟩ := map_some' q
  cases q
  simp only at e2 e3 e4
  have key : ∀ v u H', Ext S H H' → Wd X.K S A H' s2 → Rp X.K S (hid A H') v y → Rp X.K S (hid A H') u x → ∃ l ov, u = .ref l ∧ DGet H' l v ov ∧ ov.isSome = od.isSome := fun v u H' x' w' p1 p2 => by
    obtain ⟨l, rfl, hd⟩ := w'.dent p2 e3
    obtain ⟨ov, g1, g2⟩ := hd.get p1 e4
    refine ⟨l, ov, rfl, g1, ?_⟩
    rcases g2 with ⟨v', d', rfl, rfl, h3⟩ | ⟨rfl, rfl⟩ <;> rfl
  cases bb with
  | true =>
    refine wpE.by (pe_cmp (pc_din hu wpE_pe wpE_pe) hm) (ha.use2 hb w r e1 e2 fun v u H' x' w' r' p1 p2 => ?_)
    obtain ⟨l, ov, rfl, g1, g2⟩ := key v u H' x' w' p1 p2
    refine ⟨l, ov, rfl, g1, ?_⟩
    have : (od.isSome == true) = ov.isSome := by rw [g2]; cases od <;> rfl
    rw [this] at z
    exact z _ H' [] ((Res.atom w' (atomic_bool _) (.bl _)).after x' noF)
  | false =>
    refine wpE.by (pe_cmp (pc_dnotin hu wpE_pe wpE_pe) hm) (ha.use2 hb w r e1 e2 fun v u H' x' w' r' p1 p2 => ?_)
    obtain ⟨l, ov, rfl, g1, g2⟩ := key v u H' x' w' p1 p2
    refine ⟨l, ov, rfl, g1, ?_⟩
    have : (od.isSome == false) = !ov.isSome := by rw [g2]; cases od <;> rfl
    rw [this] at z
    exact z _ H' [] ((Res.atom w' (atomic_bool _) (.bl _)).after x' noF)
theorem jp_dget2 (ha : JP X a f 0) (hb : JP X b g 0) (hc : JP X c h 0) (hu : X.A.units + 1 < cLine) (m : M2 X a "get" apos b c cpos) : JP X (.Call (.Attribute a "get" apos) [b, c] [] cpos) (eDGet2 f g h) 0 := fun A S σ H vw sto d sto' Q w r q z => by
  unfold eDGet2 at q
  obtain ⟨⟨x, s1⟩, e1, q⟩ := bind_some' q
  obtain ⟨⟨y, s2⟩, e2, q⟩ := bind_some' q
  obtain ⟨⟨u, s3⟩, e3, q⟩ := bind_some' q
  obtain ⟨⟨t0, es0⟩, e00, q⟩ := bind_some' q
  obtain ⟨⟨t, es⟩, e4, q⟩ := bind_some' q
  obtain ⟨od, e5, q⟩ := map_some' q
  cases q
  simp only at e2 e3 e4 e5 e00
  refine wpE.by (pe_dget2 hu wpE_pe wpE_pe wpE_pe m) (ha.use w r e1 fun v H1 x1 w1 r1 p1 => ?_)
  obtain ⟨l, rfl, hd0⟩ := w1.dent p1 e00
  refine ⟨l, rfl, hd0.isD, hb.use w1 r1 e2 fun v2 H2 x2 w2 r2 p2 => hc.use w2 r2 e3 fun v3 H3 x3 w3 r3 p3 => ?_⟩
  obtain ⟨l', el, hd⟩ := w3.dent (p1.le (hid_move (x2.trans x3) w1.hS fun a h => .inl h)) e4
  cases el
  obtain ⟨ov, g1, g2⟩ := hd.get (p2.le (hid_move x3 w2.hS fun a h => .inl h)) e5
  refine ⟨ov, g1, ?_⟩
  have x' := (x1.trans x2).trans x3
  rcases g2 with ⟨v', d', rfl, rfl, h3⟩ | ⟨rfl, rfl⟩
  · exact z _ H3 [] ((Res.shared w3 h3).after x' noF)
  · exact z _ H3 [] ((Res.shared w3 p3).after x' noF)
end
end J
namespace J
open PySem PySem.Spec PyProof.Rows L2
/-! ### a new dict -/
section
variable {Z : List Addr → Prop} {X : Cx} {a e : Expr} {f : Ev} {k i : Nat} {pos p dpos : Pos} {x : Str}
/-- name = {}, a cell; t: its keys are tuples -/
def sNewD (t : Bool) (i : Nat) : Sv := fun env s => if i < env.length then some (.nx, env.set i (.sh (tokD s.length)), s ++ [.dct t []]) else none
theorem Sr.newCell {K : PySem.W.Frag} {C : Hp} {S0 S : List Addr} {A0 : Addr → Prop} {H0 H : Hp} {σ : Sg} {env : Env} {sto : STO} {Fs : Nat → List Addr} {i : Nat} {b : Addr} {o : HO} {c : Cell} (r : Sr K C S0 S A0 H0 σ H env sto Fs) (hi : i < env.length) (hb : H b = none)
    (hc : ∀ A : Addr → Prop, CellOk K S A (upd H b o) b c) : ∃ S' Fs', Sr K C S0 S' A0 H0 (σ.set i (some (.ref b))) (upd H b o) (env.set i (.sh (tokD sto.length))) (sto ++ [c]) Fs' := by
  have sm := same_upd (o := o) hb
  have w : Wd K S (plus [b] (hd S Fs A0)) (upd H b o) sto := r.wd.grow sm (fun a h => h.elim (fun h => .inr (by rw [List.mem_singleton.mp h]; exact ⟨hb, (hc A0).hdn⟩)) .inl) fun a h => .inr h
  have r2 := r.mut (i := i) (H' := upd H b o) (F := [b]) (s := .no) (ov := some (.ref b)) hi (fun c u _ _ e => sm c u e) w (List.nodup_cons.mpr ⟨List.not_mem_nil, List.nodup_nil⟩) (fun a h => .inl (by rw [List.mem_singleton.mp h]; exact hb)) trivial
  have r3 := r2.toCell (i := i) (b := b) (c := c) (by rw [List.length_set]; exact hi) (by unfold setF; rw [if_pos rfl]) (by rw [List.getElem?_set, if_pos rfl, if_pos (by rw [← r.len]; exact hi)]) (hc _)
  rw [List.set_set, r.wd.len] at r3
  exact ⟨_, _, r3⟩
theorem js_newD {t : Bool} (hN : X.N.Nodup) (hi : X.N[i]? = some x) (hx : Loc X.env.scope x) (hs : swapsWith (.Dict [] [] dpos) (some (.Name x p)) pos.line X.env = pure false := by rfl) (hf : X.fn x = true ∨ X.env.scope.names.lookup x = some .local := by first | exact .inl rfl | exact .inr rfl | assumption) :
    JS Z X (.Assign [.Name x p] (.Dict [] [] dpos) pos) (sNewD t i) k := fun C S0 S A0 H0 σ H env sto Fs o env' sto' E hZ r q z => by
  unfold sNewD at q
  split at q
  case isFalse => cases q
  rename_i hlt
  cases q
  cases t with
  | false =>
    refine wpS.by (ps_set hN hi hx pe_dnewK hs hf) fun b hb => ?_
    obtain ⟨S', Fs', r'⟩ := r.newCell (o := .dK []) (c := .dct false []) hlt hb fun A => ⟨[], upd_same, .nil⟩
    exact z S' _ _ Fs' r'
  | true =>
    refine wpS.by (ps_set hN hi hx pe_dnewT hs hf) fun b hb => ?_
    obtain ⟨S', Fs', r'⟩ := r.newCell (o := .dT []) (c := .dct true []) hlt hb fun A => ⟨[], upd_same, .nil⟩
    exact z S' _ _ Fs' r'
end
/-! ### d[k] = v -/
theorem hdM_nil {S : List Addr} {Fs : Nat → List Addr} {A0 : Addr → Prop} : hdM S [] Fs A0 = hd S Fs A0 := by
  funext a
  simp only [eq_iff_iff]
  refine ⟨hdM_le a, fun h => ?_⟩
  rcases h with ⟨i, h⟩ | h
  · exact .inl ⟨i, by simp, h⟩
  · exact .inr h
/-- the same, with a key beside -/
theorem Sr.evalK {K : PySem.W.Frag} {C : Hp} {S0 S : List Addr} {A0 : Addr → Prop} {H0 H H' : Hp} {σ : Sg} {env : Env} {sto sto' : STO} {Fs : Nat → List Addr} {M : List Nat} {v u : V} {d du : D} (r : Sr K C S0 S A0 H0 σ H env sto Fs) (x : Ext S H H') (w : Wd K S (hdM S M Fs A0) H' sto') (p : Rp K S (hid (hdM S M Fs A0) H') v d)
    (pu : Rp K S (hid (hdM S M Fs A0) H') u du) (hM : (M.isEmpty || isScal du) = true) :
    ∃ Fs', Sr K C S0 S A0 H0 σ H' (fzIf 0 d M sto' env) sto' Fs' ∧ Rp K S (hid (hd S Fs' A0) H') v d ∧ Rp K S (hid (hd S Fs' A0) H') u du := by
  by_cases h : (full 0 d && okM M sto') = true
  · have h' := h
    rw [Bool.and_eq_true, full_zero] at h'
    refine ⟨Fs, by unfold fzIf; rw [if_pos h]; exact r.go x (r.wd.wide x w (okM_g h'.2)), scal_rp h'.1 p, ?_⟩
    rcases Bool.or_eq_true_iff.mp hM with hM | hM
    · rw [List.isEmpty_iff.mp hM, hdM_nil] at pu
      exact pu
    · exact scal_rp hM pu
  · exact ⟨fzF M Fs, by unfold fzIf; rw [if_neg h]; exact (r.freeze M).go x (by rw [hd_fz]; exact w), by rw [hd_fz]; exact p, by rw [hd_fz]; exact pu⟩
def sDSto (M : List Nat) (fp fi fv : Ev) : Sv := fun env s => (fv (see M env) s).bind fun p => (fp (see M env) p.2).bind fun q => (isTok q.1).bind fun j => (fi (see M env) q.2).bind fun u => match u.2[j]? with
    | some (.dct t es) => if es.length < 16777216 ∧ (M.isEmpty || isScal u.1) = true then (putE t es u.1 p.1).map fun es' => (.nx, fzIf 0 p.1 M u.2 env, u.2.set j (.dct t es')) else none
    | _ => none
theorem putE_put {K : PySem.W.Frag} {S : List Addr} {A : Addr → Prop} {H : Hp} {sto : STO} {j : Nat} {a : Addr} {t : Bool} {es es' : List (D × D)} {y v : V} {kd d : D} (w : Wd K S A H sto) (hS : S[j]? = some a) (hc : sto[j]? = some (.dct t es)) (hl : es.length < 16777216)
    (py : Rp K S (hid A H) y kd) (pv : Rp K S (hid A H) v d) (g : putE t es kd d = some es') : ∃ H', DPut H a y v H' ∧ Ext S H H' ∧ Wd K S A H' (sto.set j (.dct t es')) := by
  have ok := w.st j a _ hS hc
  have hA := w.hS a (List.mem_of_getElem? hS)
  unfold putE at g
  cases t with
  | false =>
    obtain ⟨kvs, h1, h2⟩ := ok
    rw [if_neg Bool.false_ne_true] at g
    obtain ⟨kk, e1, e2⟩ := map_some' g
    rw [isKD_some e1] at py
    have := py.keyI
    subst this
    subst e2
    refine ⟨_, .inl ⟨kvs, kk, h1, rfl, by rw [h2.len, sizeLine_eq]; exact hl, rfl⟩, w.put hS ⟨_, upd_same, ?_⟩⟩
    rw [hid_upd hA]
    exact h2.put pv
  | true =>
    obtain ⟨kvs, h1, h2⟩ := ok
    rw [if_pos rfl] at g
    obtain ⟨kk, e1, e2⟩ := map_some' g
    rw [isKT_some e1] at py
    obtain ⟨b, rfl, hb⟩ := py.keyT
    subst e2
    refine ⟨_, .inr ⟨kvs, kk, b, h1, rfl, (hid_eq.mp hb).2, by rw [h2.len, sizeLine_eq]; exact hl, rfl⟩, w.put hS ⟨_, upd_same, ?_⟩⟩
    rw [hid_upd hA]
    exact h2.put pv
section
variable {Z : List Addr → Prop} {X : Cx} {a e io : Expr} {fp f fv : Ev} {k : Nat} {pos p tpos : Pos} {M : List Nat}
theorem js_dsto (hv : JP X e fv 0) (ho : JP X a fp 0) (hi : JP X io f 0) (hu : X.A.units + 1 < cLine) (hs : swapsWith e (some (.Subscript a io tpos)) pos.line X.env = pure false := by rfl) :
    JS Z X (.Assign [.Subscript a io tpos] e pos) (sDSto M fp f fv) k := fun C S0 S A0 H0 σ H env sto Fs o env' sto' E hZ r q z => by
  unfold sDSto at q
  obtain ⟨⟨d, s1⟩, q1, q⟩ := bind_some' q
  obtain ⟨⟨dt, s2⟩, q2, q⟩ := bind_some' q
  obtain ⟨jj, ht, q⟩ := bind_some' q
  obtain ⟨⟨di, s3⟩, q3, q⟩ := bind_some' q
  simp only at q
  split at q
  case h_2 => cases q
  rename_i t es hc
  split at q
  case isFalse => cases q
  rename_i hl
  obtain ⟨es', q5, q⟩ := map_some' q
  cases q
  have ht := isTok_eq ht
  simp only at ht q2 q3
  subst ht
  refine wpS.by (ps_dput hu wpE_pe wpE_pe wpE_pe hs) (hv.use (r.wdM M) (r.rdM M) q1 fun v H1 x1 w1 r1 p1 => ho.use w1 r1 q2 fun vo H2 x2 w2 r2 p2 => hi.use w2 r2 q3 fun vi H3 x3 w3 r3 p3 => ?_)
  obtain ⟨l, rfl, hS⟩ := p2.tokI
  obtain ⟨Fs', r5, p5, p6⟩ := r.evalK ((x1.trans x2).trans x3) w3 (p1.le (hid_move (x2.trans x3) w1.hS fun a h => .inl h)) p3 hl.2
  obtain ⟨H4, g1, x4, w5⟩ := putE_put r5.wd hS hc hl.1 p6 p5 q5
  exact ⟨l, H4, rfl, g1, z S _ _ _ (r5.go x4 w5)⟩
end
/-! ### a dict changes no more -/
def eFrz (f : Ev) : Ev := fun vw s => (f vw s).bind fun p => match isTok p.1 with
  | some j => (match p.2[j]? with
    | some (.dct t es) => some (p.1, p.2.set j (.fdc t es))
    | some (.fdc _ _) => some p
    | _ => none)
  | none => some p
section
variable {X : Cx} {a e b c : Expr} {f : Ev} {k : Nat} {pos p p2 apos mpos cpos : Pos}
theorem jp_frz (ha : JP X a f 0) : JP X a (eFrz f) 0 := fun A S σ H vw sto d sto' Q w r q z => by
  unfold eFrz at q
  obtain ⟨⟨y, s1⟩, e1, q⟩ := bind_some' q
  simp only at q
  split at q
  · rename_i j hj
    split at q
    · rename_i t es hc
      cases q
      have ht := isTok_eq hj
      subst ht
      refine wpE.lock (ha.use w r e1 fun v H1 x1 w1 r1 p1 => ?_)
      obtain ⟨l, rfl, hS⟩ := p1.tokI
      have ok := w1.st j l _ hS hc
      have hA := w1.hS l (List.mem_of_getElem? hS)
      cases t with
      | false =>
        obtain ⟨kvs, h1, h2⟩ := ok
        refine ⟨l, .dK kvs, h1, trivial, fun od => ?_⟩
        obtain ⟨x2, w2⟩ := w1.put hS (o := .frz od (.dK kvs)) (c := .fdc false es) ⟨od, kvs, upd_same, by rw [hid_upd hA]; exact h2⟩
        exact z _ _ [] ((Res.shared w2 (.tok hS)).after (x1.trans x2) noF)
      | true =>
        obtain ⟨kvs, h1, h2⟩ := ok
        refine ⟨l, .dT kvs, h1, trivial, fun od => ?_⟩
        obtain ⟨x2, w2⟩ := w1.put hS (o := .frz od (.dT kvs)) (c := .fdc true es) ⟨od, kvs, upd_same, by rw [hid_upd hA]; exact h2⟩
        exact z _ _ [] ((Res.shared w2 (.tok hS)).after (x1.trans x2) noF)
    · cases q
      exact ha A S σ H vw sto _ _ Q w r e1 z
    · cases q
  · cases q
    exact ha A S σ H vw sto _ _ Q w r e1 z
/-! ### list(d), len(d) -/
def eDKeys (f : Ev) : Ev := fun vw s => (f vw s).bind fun p => (dEnt p.2 p.1).bind fun es => if es.1 = false then some (.list (es.2.map (·.1)), p.2) else none
theorem RpK.keysA {K : PySem.W.Frag} {S : List Addr} {H H' : Hp} : ∀ {kvs : List (Key × V)} {es : List (D × D)}, RpK K S H kvs es → RpA K S H' (kvs.map fun kv => kV kv.1) (es.map (·.1))
  | _, _, .nil => .nil
  | _, _, .cons (k := k) a b => .cons (match k with | .inl i => .int i | .inr x => .str x) b.keysA
theorem jp_dkeys (ha : JP X e f 0) (hc : X.calm = true) (hg : Gl X "list") (hm : X.mg "list" = none) (hv : bootBuiltins "list" = some (.type "list") := by rfl)
    (he : starEach [e] X.env = (false, eval e X.env) :: starEach [] X.env := by rfl) (hpl : (backTo pos (starEach [] X.env)).any (·.1) = false := by rfl) : JP X (.Call (.Name "list" p) [e] [] pos) (eDKeys f) 1 := fun A S σ H vw sto d sto' Q w r q z => by
  unfold eDKeys at q
  obtain ⟨⟨y, s1⟩, e1, q⟩ := bind_some' q
  obtain ⟨⟨t, es⟩, e2, q⟩ := bind_some' q
  simp only at e2 q
  split at q
  case isFalse => cases q
  rename_i ht
  subst ht
  cases q
  refine wpE.by (pe_callTy (call_listD hc) hg hm hv (pa_cons wpE_pe pa_nil he) (by decide) (by decide) he hpl) (ha.use w r e1 fun v H1 x1 w1 r1 p1 => ?_)
  obtain ⟨l, rfl, hd⟩ := w1.dent p1 e2
  rcases hd with ⟨_, kvs, h1, h2⟩ | ⟨ht, _⟩
  · exact ⟨l, kvs, rfl, h1, fun b hb => z _ _ [b] ((Res.lst w1 (.shared w1 h2.keysA) hb).later x1 w1)⟩
  · cases ht
end
end J
namespace J
open PySem PySem.Spec PyProof.Rows L2
/-! ### d.items(), the keys tuples -/
def ItiT (d : Addr) (o : Obj) (kvs : List (List Key × V)) : It where
  go := fun i H => H d = some (.frz o (.dT kvs)) ∧ i < kvs.length
  yld := fun i H x H' => ∃ T k v q, kvs[i]? = some (k, v) ∧ H q = some (.tup (k.map kV)) ∧ x = .ref T ∧ H T = none ∧ H' = upd H T (.tup [.ref q, v])
  stop := fun i H => H d = some (.frz o (.dT kvs)) ∧ kvs.length ≤ i
section
variable {X : Cx} {pins : List (Addr × Obj)} {σ : Sg} {H : Hp} {s : Shared} {d : Addr} {o : Obj}
theorem entsT {kvs : List (List Key × V)} (I : L2.Inv X pins σ H s) (h : H d = some (.frz o (.dT kvs))) :
    (d == sysModules) = false ∧ s.heap.get? d = some o ∧ o.ExactDict ∧ ∃ (es : Array DictEntry) (ep : Nat), o.data = .dict es ep ∧ es.size = kvs.length ∧
      ∀ (i : Nat) (k : List Key) (v : V), kvs[i]? = some (k, v) → ∃ (en : DictEntry) (q : Addr), es[i]? = some en ∧ en.key = .ref q ∧ H q = some (.tup (k.map kV)) ∧ RelV v en.val := by
  obtain ⟨a1, a2, a3, es, ep, a4, a5, a6⟩ := I.frzT h
  obtain ⟨_, _, _, xs, pr, o', es', ep', ho, hx, hdt, he, _⟩ := I.hok d _ h
  have eo : o = o' := Option.some.inj (a2.symm.trans ho)
  subst eo
  obtain ⟨rfl, rfl⟩ := dict_ep a4 hdt
  refine ⟨a1, a2, a3, _, _, a4, a5, fun i k v e => ?_⟩
  obtain ⟨p, hp, _, e2, e3⟩ := paired_get pr e
  exact ⟨_, p.2.1, by rw [entry_at he i, hp]; rfl, rfl, e2, e3⟩
end
theorem turn_itT {P : Program} {w : World} {K : PySem.W.Frag} {d : Addr} {o : Obj} {es : Array DictEntry} {ep : Nat} {kvs : List (List Key × V)} {elts : List Expr} {kk : Nat} {tpos : Pos} (it : Addr) (hod : o.data = .dict es ep) :
    Turn P w K (.Tuple elts kk tpos) (ItiT d o kvs) [it] it (fun i h => ∃ x y, IsItemIter h it d i es.size ep x y) where
  mem := List.mem_singleton.mpr rfl
  obj := fun i h st b hb => by
    obtain ⟨x, y, q⟩ := st
    rw [List.mem_singleton.mp hb]
    exact ⟨_, q, fun v z => by cases z⟩
  keep := fun i h h' st k => by
    obtain ⟨x, y, q⟩ := st
    exact ⟨x, y, k it (List.mem_singleton.mpr rfl) _ q⟩
  item := by
    intro X e1 e2 e3 hc i pins s σ H E I hf st hg
    subst e1; subst e2; subst e3
    obtain ⟨hd, hi⟩ := hg
    obtain ⟨_, a2, a3, es', ep', a4, a5, a6⟩ := entsT I hd
    obtain ⟨rfl, rfl⟩ := dict_ep hod a4
    obtain ⟨⟨k, v⟩, hkv⟩ : ∃ p, kvs[i]? = some p := ⟨kvs[i], List.getElem?_eq_getElem hi⟩
    obtain ⟨en, q, b1, b2, b3, b4⟩ := a6 i k v hkv
    obtain ⟨x, y, hit⟩ := st
    have hlt : i < es'.size := by omega
    have hen : es'[i] = en := by
      rw [Array.getElem?_eq_getElem hlt] at b1
      exact Option.some.inj b1
    have hz : it < s.heap.objs.size := Heap.lt_size hit
    refine wpAny_pyNext_items_item_raw hit ⟨o, a2, a3, a4⟩ hlt fun h' c1 c2 c3 c4 => ⟨_, rfl, wpAny_letOwnedTupleGo_items (s := { s with heap := h' }) c1 fun h2 c5 c6 => ?_⟩
    rw [hen, b2] at c2
    have c7 : h2.get? s.heap.objs.size = some { cls := .type "tuple", data := .seq #[.ref q, en.val] } := (c6.2 _ (Nat.ne_of_gt hz)).trans c2
    have ob : ObjOk X.prog X.w (upd H s.heap.objs.size (.tup [.ref q, v])) h2 s.heap.objs.size (.tup [.ref q, v]) := ⟨by show 2 ≤ sizeLine; decide, [.ref q, en.val], .cons rfl (.cons b4 .nil), ⟨_, c7, rfl, _, rfl⟩⟩
    have I1 := I.turnedNew (t' := s.toks) (h' := h2) (ch := [it]) (fun b u hb e => (c6.2 b (fun z => hb (List.mem_singleton.mpr z))).trans (c4 b u (fun z => hb (List.mem_singleton.mpr z)) e)) hf (Nat.le_refl _) ob
    refine ⟨.ref s.heap.objs.size, _, I1, rfl, ⟨_, k, v, q, hkv, b3, rfl, I.hok.fresh (Nat.le_refl _), rfl⟩, ⟨_, _, c5⟩, fun b hb => ?_⟩
    rw [List.mem_singleton.mp hb, upd_ne (Nat.ne_of_lt hz)]
    exact (hf it (List.mem_singleton.mpr rfl)).1
  done := by
    intro X e1 e2 e3 hc i pins s σ H E I hf st hg
    subst e1; subst e2; subst e3
    obtain ⟨hd, hi⟩ := hg
    obtain ⟨_, a2, a3, es', ep', a4, a5, _⟩ := entsT I hd
    obtain ⟨rfl, rfl⟩ := dict_ep hod a4
    obtain ⟨g0, g1, g2, g3, g4, g5⟩ := hf it (List.mem_singleton.mpr rfl)
    obtain ⟨x, y, hit⟩ := st
    exact wpAny_pyNext_items_end_raw (I.ok.hd hc) hit ⟨o, a2, a3, a4⟩ (by omega) fun h' eb => ⟨rfl, I.turned (t' := s.toks) (fun b u hb e => eb b u hb e) g0 g1 g3 g4 g5⟩
  self := fun A i s Q E st h => by
    obtain ⟨x, y, q⟩ := st
    exact PySem.W.kcp_self q h
def iItT (td : TE) : TI := fun σ H R => td σ H fun x H1 => ∃ d o kvs, x = .ref d ∧ H1 d = some (.frz o (.dT kvs)) ∧ R (ItiT d o kvs) H1
theorem pi_itT {X : Cx} {e : Expr} {td : TE} {apos cpos : Pos} {elts : List Expr} {kk : Nat} {tpos : Pos} (he : PE X e td) (hbase : attributeBase e "items" X.env (eval e X.env) = eval e X.env := by rfl) (hline : (apos.endLine == cpos.line) = true := by rfl) :
    PI X (.Tuple elts kk tpos) (.Call (.Attribute e "items" apos) [] [] cpos) (iItT td) := ⟨fun pins s σ H R I h => by
  refine wpAny_Call_method (T := "dict") (id := "dict.items") hbase rfl hline F.plainAttrs_dict F.slot_dict_items F.type_dict_items (thn (he.run pins s σ H _ I h) fun u s1 ⟨x, H1, I1, rx, d, o, kvs, ex, hd, q⟩ => ?_)
  subst ex
  obtain rfl : u = Value.ref d := rx
  obtain ⟨a1, a2, a3, es, ep, a4, a5, _⟩ := entsT I1 hd
  have ty : s1.TypeIs (.ref d) "dict" := ⟨o, a2, a3.1⟩
  refine ⟨ty, fun ob eb => ?_, ?_⟩
  · cases eb
    exact ⟨o, a2, a3.2.1⟩
  have I2 : L2.Inv X pins σ H1 { s1 with heap := s1.heap.push { cls := .type "dict_items", data := .fields #[.ref d] } } := I1.kept (t' := s1.toks) fun b ob q => Heap.get?_push_of_some _ q
  have last : wpAny (model X.prog X.w) X.A (pyIter (.ref s1.heap.objs.size)) (PIE X pins σ (.Tuple elts kk tpos) R) X.xe { s1 with heap := s1.heap.push { cls := .type "dict_items", data := .fields #[.ref d] } } :=
    wpAny_pyIter_items_raw (d := d) (es := es) (ep := ep) ⟨_, Heap.get?_push_size _ rfl, rfl, rfl⟩ ⟨o, Heap.get?_push_of_some _ a2, a3, a4⟩ (pi_one (tk := s1.toks) I2 _ (turn_itT _ a4) ⟨.none, .none, Heap.get?_push_size _ rfl⟩ q)
  show wpAny _ _ (callWith cpos (.builtin "dict.items") [.ref d] [] []) _ X.xe s1
  exact method_meetsIn F.slot_dict_items F.entry_dict_items rfl (PySem.evalArgs_none ⟨rfl, ty, F.args_dict_items_1 _, _, meets_dict_items_raw d a1, ⟨⟨es, ep, o, a2, a3, a4⟩, last⟩⟩)⟩
/-! ### told -/
def pairD (p : D × D) : D := .tuple [p.1, p.2]
def dIt (d : D) : Option (List D) := match isTok d with
  | some _ => none
  | none => match d with
    | .dict [] => some []
    | .dict ((.none, .bool _) :: es) => some (es.map pairD)
    | _ => none
theorem kD_rp {K : PySem.W.Frag} {S : List Addr} {H : Hp} (k : Key) : Rp K S H (kV k) (kD k) := match k with
  | .inl i => .int i
  | .inr x => .str x
theorem ks_rpa {K : PySem.W.Frag} {S : List Addr} {H : Hp} : ∀ k : List Key, RpA K S H (k.map kV) (k.map kD)
  | [] => .nil
  | x :: r => .cons (kD_rp x) (ks_rpa r)
theorem Rp.rKI {K : PySem.W.Frag} {S : List Addr} {H : Hp} {x : V} {es : List (D × D)} (p : Rp K S H x (.dict ((.none, .bool false) :: es))) : ∃ a o kvs, x = .ref a ∧ H a = some (.frz o (.dK kvs)) ∧ RpK K S H kvs es := by
  generalize ed : PyData.dict ((.none, .bool false) :: es) = d at p
  cases p with
  | dK h1 h2 =>
    injection ed with ed
    subst ed
    obtain ⟨k, e⟩ := h2.key _ List.mem_cons_self
    cases k <;> cases e
  | dT h1 h2 =>
    injection ed with ed
    subst ed
    obtain ⟨k, e⟩ := h2.key _ List.mem_cons_self
    cases e
  | tok h1 => unfold tokD at ed; injection ed with ed; injection ed with ed _; injection ed with _ ed; cases ed
  | sk h1 h2 => unfold skD at ed; injection ed with ed; injection ed with ed _; injection ed with _ ed; cases ed
  | rK h1 h2 =>
    injection ed with ed
    injection ed with _ e2
    subst e2
    exact ⟨_, _, _, rfl, h1, h2⟩
  | rT h1 h2 =>
    injection ed with ed
    injection ed with e1 e2
    injection e1 with _ e1
    injection e1 with e1
    cases e1
  | _ => cases ed
theorem Rp.rTI {K : PySem.W.Frag} {S : List Addr} {H : Hp} {x : V} {es : List (D × D)} (p : Rp K S H x (.dict ((.none, .bool true) :: es))) : ∃ a o kvs, x = .ref a ∧ H a = some (.frz o (.dT kvs)) ∧ RpT K S H kvs es := by
  generalize ed : PyData.dict ((.none, .bool true) :: es) = d at p
  cases p with
  | dK h1 h2 =>
    injection ed with ed
    subst ed
    obtain ⟨k, e⟩ := h2.key _ List.mem_cons_self
    cases k <;> cases e
  | dT h1 h2 =>
    injection ed with ed
    subst ed
    obtain ⟨k, e⟩ := h2.key _ List.mem_cons_self
    cases e
  | tok h1 => unfold tokD at ed; injection ed with ed; injection ed with ed _; injection ed with _ ed; cases ed
  | sk h1 h2 => unfold skD at ed; injection ed with ed; injection ed with ed _; injection ed with _ ed; cases ed
  | rT h1 h2 =>
    injection ed with ed
    injection ed with _ e2
    subst e2
    exact ⟨_, _, _, rfl, h1, h2⟩
  | rK h1 h2 =>
    injection ed with ed
    injection ed with e1 e2
    injection e1 with _ e1
    injection e1 with e1
    cases e1
  | _ => cases ed
section
variable {K : PySem.W.Frag} {S : List Addr} {A : Addr → Prop} {H : Hp}
theorem RpK.get : ∀ {kvs : List (Key × V)} {es : List (D × D)} {i : Nat} {k : Key} {v : V}, RpK K S H kvs es → kvs[i]? = some (k, v) → ∃ d, es[i]? = some (kD k, d) ∧ Rp K S H v d
  | _, _, _, _, _, .nil, h => by simp at h
  | _, _, 0, _, _, .cons a b, h => by simp at h; obtain ⟨rfl, rfl⟩ := h; exact ⟨_, rfl, a⟩
  | _, _, i + 1, _, _, .cons a b, h => by
    obtain ⟨d, e, r⟩ := RpK.get (i := i) b (by simpa using h)
    exact ⟨d, by simpa using e, r⟩
theorem RpT.get : ∀ {kvs : List (List Key × V)} {es : List (D × D)} {i : Nat} {k : List Key} {v : V}, RpT K S H kvs es → kvs[i]? = some (k, v) → ∃ d, es[i]? = some (.tuple (k.map kD), d) ∧ Rp K S H v d
  | _, _, _, _, _, .nil, h => by simp at h
  | _, _, 0, _, _, .cons a b, h => by simp at h; obtain ⟨rfl, rfl⟩ := h; exact ⟨_, rfl, a⟩
  | _, _, i + 1, _, _, .cons a b, h => by
    obtain ⟨d, e, r⟩ := RpT.get (i := i) b (by simpa using h)
    exact ⟨d, by simpa using e, r⟩
theorem walk_itK {d : Addr} {o : Obj} {kvs : List (Key × V)} {es : List (D × D)} (hd : hid A H d = some (.frz o (.dK kvs))) (q : RpK K S (hid A H) kvs es) : Walk (Iti d o kvs) (es.map pairD).length (fun H1 => Same (hid A H) H1) (YD K S A H (es.map pairD)) := by
  have hl : (es.map pairD).length = kvs.length := by rw [List.length_map, q.len]
  refine ⟨fun i H1 hi h => ⟨h _ _ hd, by omega⟩, fun H1 h => ⟨h _ _ hd, by omega⟩, fun i H1 x H2 hi h y => ?_⟩
  obtain ⟨T, k, v, e1, rfl, hT, rfl⟩ := y
  obtain ⟨dd, e2, p⟩ := q.get e1
  exact ⟨pairD (kD k, dd), by rw [List.getElem?_map, e2]; rfl, .inr ⟨T, _, hT, rfl⟩, fun A2 h2 al => yd_pair hT (kD_rp k) (p.le h2) al⟩
theorem walk_itT {d : Addr} {o : Obj} {kvs : List (List Key × V)} {es : List (D × D)} (hd : hid A H d = some (.frz o (.dT kvs))) (q : RpT K S (hid A H) kvs es) : Walk (ItiT d o kvs) (es.map pairD).length (fun H1 => Same (hid A H) H1) (YD K S A H (es.map pairD)) := by
  have hl : (es.map pairD).length = kvs.length := by rw [List.length_map, q.len]
  refine ⟨fun i H1 hi h => ⟨h _ _ hd, by omega⟩, fun H1 h => ⟨h _ _ hd, by omega⟩, fun i H1 x H2 hi h y => ?_⟩
  obtain ⟨T, k, v, a, e1, ha, rfl, hT, rfl⟩ := y
  obtain ⟨dd, e2, p⟩ := q.get e1
  refine ⟨pairD (.tuple (k.map kD), dd), by rw [List.getElem?_map, e2]; rfl, .inr ⟨T, _, hT, rfl⟩, fun A2 h2 al => yd_pair hT (.tup (hid_eq.mpr ⟨?_, ?_⟩) (ks_rpa k)) (p.le h2) al⟩
  · exact fun z => (al a z).2 _ ha
  · exact ha
end
section
variable {X : Cx} {a e : Expr} {f : Ev} {apos cpos tpos p pos : Pos} {elts : List Expr} {kk : Nat}
/-- for (k, v) in d.items(), d a dict that was handed back -/
theorem ji_items (ha : JP X a f 0) (hbase : attributeBase a "items" X.env (eval a X.env) = eval a X.env := by rfl) (hline : (apos.endLine == cpos.line) = true := by rfl) :
    JI X (.Tuple elts kk tpos) (.Call (.Attribute a "items" apos) [] [] cpos) (iU dIt f) := fun A S σ H vw sto ds sto' R w r q z => by
  obtain ⟨x, e1, e2⟩ := iU_some q
  unfold dIt at e2
  split at e2
  · cases e2
  · rename_i hn
    split at e2
    · cases e2
      refine wpI.by (pi_items wpE_pe hbase hline) (ha.use w r e1 fun v H1 x1 w1 r1 p1 => ?_)
      cases p1 with
      | dK h1 h2 =>
        have h3 := hid_eq.mp h1
        cases h2
        exact ⟨_, _, _, rfl, h3.2, z _ H1 x1 w1 (walk_itK (es := []) h1 .nil)⟩
      | dT h1 h2 => cases h2
    · rename_i t es
      cases e2
      cases t with
      | false =>
        refine wpI.by (pi_items wpE_pe hbase hline) (ha.use w r e1 fun v H1 x1 w1 r1 p1 => ?_)
        obtain ⟨l, o, kvs, rfl, h1, h2⟩ := p1.rKI
        exact ⟨l, o, kvs, rfl, (hid_eq.mp h1).2, z _ H1 x1 w1 (walk_itK h1 h2)⟩
      | true =>
        refine wpI.by (pi_itT wpE_pe hbase hline) (ha.use w r e1 fun v H1 x1 w1 r1 p1 => ?_)
        obtain ⟨l, o, kvs, rfl, h1, h2⟩ := p1.rTI
        exact ⟨l, o, kvs, rfl, (hid_eq.mp h1).2, z _ H1 x1 w1 (walk_itT h1 h2)⟩
    · cases e2
end
end J
namespace J
open PySem PySem.Spec PyProof.Rows L2
/-! ### sorted(d.values()) -/
mutual
theorem reads_live {h : Heap} : ∀ {v : Value} {d : PyData} {as : List Addr}, Reads h v d as → ∀ x ∈ as, ∃ o, h.get? x = some o
  | _, _, _, .none, _, hx => nomatch hx
  | _, _, _, .bool b, _, hx => nomatch hx
  | _, _, _, .int i t, _, hx => nomatch hx
  | _, _, _, .str x t, _, hx => nomatch hx
  | _, _, _, .list h1 _ _ h4, x, hx => by
    rcases List.mem_cons.mp hx with rfl | hx
    · exact ⟨_, h1⟩
    · exact readsAll_live h4 x hx
  | _, _, _, .tuple h1 _ _ h4, x, hx => readsAll_live h4 x hx
  | _, _, _, .dict h1 _ _ h4 h5, x, hx => by
    rcases List.mem_append.mp hx with hx | hx
    · rcases List.mem_cons.mp hx with rfl | hx
      · exact ⟨_, h1⟩
      · exact readsAll_live h4 x hx
    · exact readsAll_live h5 x hx
theorem readsAll_live {h : Heap} : ∀ {vs : List Value} {ds : List PyData} {as : List Addr}, ReadsAll h vs ds as → ∀ x ∈ as, ∃ o, h.get? x = some o
  | _, _, _, .nil, _, hx => nomatch hx
  | _, _, _, .cons h1 h2, x, hx => (List.mem_append.mp hx).elim (reads_live h1 x) (readsAll_live h2 x)
end
theorem kv_vals : ∀ {kvs : List (Key × V)} {vs : List (Key × Value)}, KV kvs vs → Vals (kvs.map (·.2)) (vs.map (·.2))
  | _, _, .nil => .nil
  | _, _, .cons a b => .cons a.2 (kv_vals b)
theorem each_reads_off {X : Cx} {pins : List (Addr × Obj)} {σ : Sg} {H : Hp} {s : Shared} {h' : Heap} {L : Addr} (I : Inv X pins σ H s) (k : ∀ b o, s.heap.get? b = some o → h'.get? b = some o) (hL : s.heap.get? L = none) : ∀ {ps : List Pc} {us : List Value}, Vals (ps.map (·.1)) us → (∀ p ∈ ps, Dp X.K H p.1 p.2.1) →
    PySem.W.EachIs (fun (v : Value) (p : Pc) => ∃ as, Reads h' v p.2.1 as ∧ L ∉ as) us ps
  | [], _, .nil, _ => .nil
  | p :: ps, _, .cons a b, h => by
    obtain ⟨as, r⟩ := Dp.reads I _ _ _ (h p List.mem_cons_self) a
    refine .cons ⟨as, PyProof.Rows.Reads.keeps k r, fun z => ?_⟩ (each_reads_off I k hL b fun q hq => h q (List.mem_cons_of_mem _ hq))
    obtain ⟨o, e⟩ := reads_live r L z
    rw [hL] at e
    cases e
def tSortVals (K : PySem.W.Frag) (td : TE) : TE := fun σ H Q => td σ H fun x H1 => ∃ a, ∃ ps : List Pc, ∃ kvs : List (Key × V), x = .ref a ∧ Rd H1 a (.dK kvs) ∧ kvs.map (·.2) = ps.map (·.1) ∧ (∀ p ∈ ps, Dp K H1 p.1 p.2.1) ∧ sortOk (ps.map fun p => p.2.1) = true ∧
  ∀ b, H1 b = none → Q (.ref b) (upd H1 b (.lst ((ps.mergeSort pcLe).map (·.1))))
section
variable {X : Cx} {e : Expr} {f : Ev} {k : Nat} {pos p apos mpos : Pos} {td : TE}
theorem pe_sortVals (hu : X.A.units + 66 < cLine) (hc : X.calm = true) (hg : Gl X "sorted") (hm : X.mg "sorted" = none) (he : PE X e td) (hbase : attributeBase e "values" X.env (eval e X.env) = eval e X.env := by rfl) (hline : (apos.endLine == mpos.line) = true := by rfl)
    (hse : starEach [Expr.Call (.Attribute e "values" apos) [] [] mpos] X.env = (false, eval (Expr.Call (.Attribute e "values" apos) [] [] mpos) X.env) :: starEach [] X.env := by rfl) :
    PE X (.Call (.Name "sorted" p) [.Call (.Attribute e "values" apos) [] [] mpos] [] pos) (tSortVals X.K td) := by
  refine ⟨fun pins s σ H Q I h => ?_⟩
  refine Call_ (ld_blt I hg hm rfl ?_)
  refine PyProof.Rows.callWith_builtin1 (PyProof.Rows.args_cons ?_ hse) hse rfl
  refine wpAny_Call_method (T := "dict") (id := "dict.values") hbase rfl hline F.plainAttrs_dict F.slot_dict_values F.type_dict_values (thn (he.run pins s σ H _ I h) fun u s1 ⟨x, H1, I1, rx, a, ps, kvs, ex, hd, hv, hdp, hok, q⟩ => ?_)
  subst ex
  obtain rfl : u = Value.ref a := rx
  obtain ⟨z, hsys, vs, rel, dof⟩ := dk_rd I1.hok hd
  obtain ⟨ep, dat⟩ := dof.dictAt
  refine ⟨dof.typeIs, dof.mapOf.noDict, ?_⟩
  have hlv : vs.length = kvs.length := (KV.length rel).symm
  have hlp : ps.length = kvs.length := by
    have := congrArg List.length hv
    simpa using this.symm
  have I2 : L2.Inv X pins σ H1 { s1 with heap := s1.heap.push { cls := .type "dict_values", data := .fields #[.ref a] } } := I1.kept (t' := s1.toks) fun b ob q => Heap.get?_push_of_some _ q
  have dat2 : (s1.heap.push { cls := .type "dict_values", data := .fields #[.ref a] }).DictAt (mixKind X.prog X.w) a vs ep := dat.keep fun b u e => Heap.get?_push_of_some _ e
  show wpAny _ _ (callWith mpos (.builtin "dict.values") [.ref a] [] []) _ _ s1
  refine method_meetsIn F.slot_dict_values F.entry_dict_values rfl (PySem.evalArgs_none ⟨rfl, dof.typeIs, F.args_dict_values_1 _, _, meets_dict_values (mixKind X.prog X.w) a hsys, ⟨vs, dof⟩, ?_⟩)
  refine PyProof.Rows.args_nil ?_
  refine Calls.call_function_entry PyProof.Rows.kind_sorted PyProof.Rows.plain_sorted PyProof.Rows.entry_sorted (PyProof.Rows.args_sorted1 _) ?_
  unfold Builtin.«sorted»
  refine wpAny_bind (m := checkCount "sorted" 1 1 _) (wpAny_pure ?_)
  refine wpAny_bind (PySem.W.kdu_collect (A := X.A.in1) (PySem.W.kdl_values (knd := mixKind X.prog X.w) (kvs := vs) (ep := ep) (d := a)) (I.ok.hd hc) ⟨⟨_, Heap.get?_push_size _ rfl, rfl, rfl⟩, dat2⟩ (by rw [hlv]; exact z) fun h' tk acc hk hacc => ?_)
  have I3 : L2.Inv X pins σ H1 { s1 with heap := h', toks := tk } := I2.kept (t' := tk) hk
  have hal : acc.toList.length = kvs.length := by rw [Array.length_toList, hacc.1, hlv]
  have eacc : acc.toList = vs.map (·.2) := PySem.W.kdl_vals_eq _ (by rw [hal, hlv]) fun j v e => hacc.2 j v (by rw [← Array.getElem?_toList]; exact e)
  have rv : Vals (ps.map (·.1)) acc.toList := by
    rw [eacc, ← hv]
    exact kv_vals rel
  refine wpAny_bind (wpAny_newList ?_ (by rw [hal]; exact z))
  have hoL : (h'.push (seqObj "list" acc.toList.toArray 0)).get? h'.objs.size = some (seqObj "list" acc.toList.toArray 0) := Heap.get?_push_size _ rfl
  have hoN : h'.get? h'.objs.size = none := by
    cases q : h'.get? h'.objs.size with
    | none => rfl
    | some o => exact absurd (Heap.lt_size q) (Nat.lt_irrefl _)
  unfold sortOk at hok
  rw [Bool.and_eq_true, Bool.and_eq_true] at hok
  obtain ⟨⟨h1, h2⟩, h3⟩ := hok
  have hdep := SeqAt.depth_of_shaped h3
  rw [PyData.depth] at hdep
  show wpAny _ _ _ _ _ { s1 with heap := h'.push (seqObj "list" acc.toList.toArray 0), toks := tk }
  refine wpAny_bind (wpAny_holding (PySem.W.list_sort_data (enc := fun p : Pc => p.2.1) (R := fun (v : Value) (p : Pc) => RelV p.1 v) (vs := acc.toList) (bs := ps) (n := 0) (s := { s1 with heap := h'.push (seqObj "list" acc.toList.toArray 0), toks := tk }) hoL (each_pcs rv)
    (each_reads_off I3 (fun b o e => Heap.get?_push_of_some _ e) hoN rv hdp) (alike_of h1) (sortable_of h2) (by rw [hlp]; exact z) (fun b hb => ?_) fun out ho eo => ?_))
  · have := depth_mem (List.mem_map.mpr ⟨b, hb, rfl⟩ : b.2.1 ∈ ps.map fun p => p.2.1)
    show X.A.units + 1 + 1 + b.2.1.depth < cLine
    omega
  · obtain ⟨ep', he'⟩ := PyProof.Rows.sortedHeap_at (vs := acc.toList) (out := out.toArray) hoL
    have hlen : ((ps.mergeSort pcLe).map (·.1)).length ≤ sizeLine := by
      rw [List.length_map, List.length_mergeSort, hlp]
      exact z
    refine wpAny_pure ⟨_, rfl, .ref h'.objs.size, upd H1 h'.objs.size (.lst ((ps.mergeSort pcLe).map (·.1))), I3.laid (t' := tk) (fun b u e => ?_) (Nat.le_refl _)
      (show ObjOk X.prog X.w _ _ _ (.lst ((ps.mergeSort pcLe).map (·.1))) from ⟨hlen, out, ep', each_vals eo, he'⟩), rfl, q _ (I3.hok.fresh (Nat.le_refl _))⟩
    have hb : b < h'.objs.size := Heap.lt_size e
    rw [PyProof.Rows.sortedHeap_old (Nat.ne_of_lt hb) (by rw [size_push']; exact Nat.lt_succ_of_lt hb)]
    exact Heap.get?_push_of_some _ e
/-- sorted(d.values()): the values are given to all -/
def eSortVals (f : Ev) : Ev := fun vw s => (f vw s).bind fun p => (dEnt p.2 p.1).bind fun es => if es.1 = false then (dSort (.list (es.2.map (·.2)))).map fun d => (d, p.2) else none
theorem RpK.valsA {K : PySem.W.Frag} {S : List Addr} {H : Hp} : ∀ {kvs : List (Key × V)} {es : List (D × D)}, RpK K S H kvs es → RpA K S H (kvs.map (·.2)) (es.map (·.2))
  | _, _, .nil => .nil
  | _, _, .cons a b => .cons a b.valsA
theorem jp_sortVals (ha : JP X e f 0) (hu : X.A.units + 66 < cLine) (hc : X.calm = true) (hg : Gl X "sorted") (hm : X.mg "sorted" = none) (hbase : attributeBase e "values" X.env (eval e X.env) = eval e X.env := by rfl) (hline : (apos.endLine == mpos.line) = true := by rfl)
    (hse : starEach [Expr.Call (.Attribute e "values" apos) [] [] mpos] X.env = (false, eval (Expr.Call (.Attribute e "values" apos) [] [] mpos) X.env) :: starEach [] X.env := by rfl) :
    JP X (.Call (.Name "sorted" p) [.Call (.Attribute e "values" apos) [] [] mpos] [] pos) (eSortVals f) 1 := fun A S σ H vw sto d sto' Q w r q z => by
  unfold eSortVals at q
  obtain ⟨⟨y, s1⟩, e1, q⟩ := bind_some' q
  obtain ⟨⟨t, es⟩, e2, q⟩ := bind_some' q
  simp only at e2 q
  split at q
  case isFalse => cases q
  rename_i ht
  subst ht
  obtain ⟨dd, e3, q⟩ := map_some' q
  cases q
  obtain ⟨ds, rfl', hok, hln, rfl⟩ := dSort_some e3
  injection rfl' with rfl'
  subst rfl'
  refine wpE.by (pe_sortVals hu hc hg hm wpE_pe hbase hline hse) (ha.use w r e1 fun v H1 x1 w1 r1 p1 => ?_)
  obtain ⟨l, rfl, hd⟩ := w1.dent p1 e2
  rcases hd with ⟨_, kvs, h1, h2⟩ | ⟨ht, _⟩
  · have ow : OwA X.K S A H1 0 (kvs.map (·.2)) (es.map (·.2)) [] := .zero h2.valsA
    obtain ⟨ps, e4, e5, e6, o2⟩ := ow.sorted hok
    refine ⟨l, ps, kvs, rfl, h1, e4.symm, OwA.dps (F := []) (by rw [e4, e5]; exact ow) (by rw [e5]; exact hok) fun _ _ => trivial, by rw [e5]; exact hok, fun b hb => ?_⟩
    have o3 := o2.zero'
    exact z _ _ [b] ((Res.lst w1 (.shared w1 o3.2) hb).later x1 w1)
  · cases ht
end
end J
namespace J
open PySem PySem.Spec PyProof.Rows L2
/-! ### xs[i] = e, xs an own list -/
section
variable {Z : List Addr → Prop} {X : Cx} {e io : Expr} {f fv : Ev} {k i : Nat} {pos p p2 tpos : Pos} {M : List Nat} {x : Str}
def sStoS (i : Nat) (M : List Nat) (fi fv : Ev) : Sv := fun env s => (fv (see M env) s).bind fun p => (fi (see M env) p.2).bind fun u => match (fzIf 0 p.1 M u.2 env)[i]?, u.1 with
  | some (.ow 1 (.list ds)), .int n => (ixN ds.length n).map fun m => (.nx, (fzIf 0 p.1 M u.2 env).set i (.ow 1 (.list (ds.set m p.1))), u.2)
  | _, _ => none
theorem js_stoS (hv : JP X e fv 0) (hi : JP X io f 0) (hN : X.N[i]? = some x) (hx : Vis X.env.scope x) (hs : swapsWithSole [.Subscript (.Name x p2) io tpos] e pos.line X.env = pure false := by rfl) (hw : swappedStores [.Subscript (.Name x p2) io tpos] e X.env = pure none := by rfl)
    (h1 : (assignEach [.Subscript (.Name x p2) io tpos] X.env).map (·.2) = [assign (.Subscript (.Name x p2) io tpos) X.env] := by rfl)
    (hg : ∀ {to ti : TE}, PE X (.Name x p2) to → PE X io ti → PG X (.Subscript (.Name x p2) io tpos) (gSub to ti rSetL)) (hdb : (x == ("__debug__" : Str)) = false := by decide) (hcd : (x == ("__classdict__" : Str)) = false := by decide) :
    JS Z X (.Assign [.Subscript (.Name x p2) io tpos] e pos) (sStoS i M f fv) k := fun C S0 S A0 H0 σ H env sto Fs o env' sto' E hZ r q z => by
  unfold sStoS at q
  obtain ⟨⟨d, s1⟩, q1, q⟩ := bind_some' q
  obtain ⟨⟨di, s2⟩, q2, q⟩ := bind_some' q
  simp only at q q2
  split at q
  case h_2 => cases q
  rename_i ds n hsl
  obtain ⟨m, q4, q⟩ := map_some' q
  cases q
  have hlt : i < (fzIf 0 d M sto' env).length := (List.getElem?_eq_some_iff.mp hsl).1
  have hrc : ∃ a0, σ[i]? = some (some (.ref a0)) := by
    have : ∃ d', env[i]? = some (.ow 1 d') ∧ d' = .list ds := by
      unfold fzIf at hsl
      split at hsl
      · exact ⟨_, hsl, rfl⟩
      · rw [fz_get] at hsl
        cases e1 : env[i]? with
        | none => rw [e1] at hsl; cases hsl
        | some s =>
          rw [e1] at hsl
          have h' : fzS (M.contains i) s = .ow 1 (.list ds) := Option.some.inj hsl
          cases s with
          | no => cases h'
          | sh d' => cases h'
          | ow k2 d' =>
            have h' : (if M.contains i = true then Slot.sh d' else .ow k2 d') = .ow 1 (.list ds) := h'
            split at h'
            · cases h'
            · cases h'; exact ⟨_, rfl, rfl⟩
    obtain ⟨d', e1, rfl⟩ := this
    obtain ⟨u, e2, ow⟩ := r.sl i _ e1
    obtain ⟨a0, vs0, F0, rfl, _, e3, _⟩ := ow.lstI
    exact ⟨a0, e2⟩
  obtain ⟨a0, hσ⟩ := hrc
  refine wpS.by (ps_asg wpE_pe (hg (pe_var hN hx hdb hcd) wpE_pe) hs hw h1) (hv.use (r.wdM M) (r.rdM M) q1 fun v H1 x1 w1 r1 p1 => ?_)
  refine ⟨_, hσ, hi.use w1 r1 q2 fun vi H2 x2 w2 r2 pi => ?_⟩
  obtain ⟨Fs', r5, p5⟩ := r.evalS (x1.trans x2) w2 (p1.le (hid_move x2 w1.hS fun a h => .inl h))
  obtain ⟨u, e2, ow⟩ := r5.sl i _ hsl
  obtain ⟨a1, vs, F0, rfl, eF, e3, ow0⟩ := ow.lstI
  rw [hσ] at e2
  cases e2
  obtain ⟨rfl, rp0⟩ := ow0.zero'
  have ha : a0 ∈ Fs' i := by rw [eF]; exact List.mem_cons_self
  have haS : a0 ∉ S := r5.ns i a0 ha
  have hA : hd S Fs' A0 a0 := .inl ⟨i, ha⟩
  have sub : ∀ b, hd S (setF Fs' i [a0]) A0 b → hd S Fs' A0 b := fun b h => by
    rcases hd_set r5 b h with h | h
    · rw [List.mem_singleton.mp h]; exact hA
    · exact h
  have r6 := r5.mut (i := i) (F := [a0]) (ov := some (.ref a0)) (s := .ow 1 (.list (ds.set m d))) (H' := upd H2 a0 (.lst (vs.set m v))) (sto' := sto') hlt ?_ ?_ ?_ ?_ ?_
  · have eσ : σ.set i (some (.ref a0)) = σ := by
      apply List.ext_getElem?
      intro c
      rw [List.getElem?_set]
      by_cases hc : i = c
      · subst hc
        rw [if_pos rfl, hσ, if_pos (List.getElem?_eq_some_iff.mp hσ).1]
      · rw [if_neg hc]
    rw [eσ] at r6
    exact ⟨a0, vs, n, m, rfl, pi.intI, e3, by rw [rp0.length]; exact q4, z S _ _ _ r6⟩
  · intro b o hb hn h
    rw [upd_ne (fun c : b = a0 => hn (c ▸ ha))]
    exact h
  · refine (r5.wd.upd (o := .lst (vs.set m v)) hA haS ⟨_, e3⟩).less (fun b h => ?_) fun a e => .inr (.inr (.inr e))
    rcases h with h | h
    · rw [List.mem_singleton.mp h]; exact hA
    · exact h
  · exact List.nodup_cons.mpr ⟨List.not_mem_nil, List.nodup_nil⟩
  · intro b h
    rw [List.mem_singleton.mp h]
    exact .inr ha
  · refine ⟨.ref a0, rfl, .lst upd_same (.zero ?_)⟩
    have := (rp0.set p5 m).le (show Same (hid (hd S Fs' A0) H2) (hid (hd S Fs' A0) (upd H2 a0 (.lst (vs.set m v)))) by rw [hid_upd hA]; exact fun _ _ h => h)
    exact this.le (hid_le sub)
end
end J
namespace J
open PySem PySem.Spec PyProof.Rows L2
theorem u1 {A : Around} {k : Nat} (hr : Room k A) : A.units + 1 < cLine := by have := u65 hr; omega
end J
namespace J
open PySem PySem.Spec PyProof.Rows L2
/-! ### starred items of a display -/
section
variable {K : PySem.W.Frag} {S : List Addr} {A : Addr → Prop} {H H1 H2 : Hp} {sto sto1 sto2 : STO} {k : Nat} {vs ws : List V} {ds es : List D} {F G : List Addr}
theorem ResA.app (w : Wd K S A H sto) (r : ResA K S A H sto1 k H1 vs ds F) (q : ResA K S (plus F A) H1 sto2 k H2 ws es G) : ResA K S A H sto2 k H2 (vs ++ ws) (ds ++ es) (F ++ G) := by
  have hlive : ∀ a ∈ G, a ∉ S := fun a ha => r.wd.live (q.fr a ha)
  refine ⟨r.ext.trans q.ext, by rw [← plus_append]; exact q.wd, List.nodup_append.mpr ⟨r.nd, q.nd, fun x hx y hy e => ?_⟩, fun a ha => ?_, ?_⟩
  · subst e
    exact r.wd.al x (.inl hx) (q.fr x hy)
  · rcases List.mem_append.mp ha with h | h
    · exact r.fr a h
    · exact none_of_ext r.ext (hlive a h) (q.fr a h)
  · rw [← plus_append]
    refine OwA.append (r.ow.move q.ext r.wd.hS (fun a h => ?_) fun a ha => w.live (r.fr a ha)) q.ow
    rcases h with h | h
    · exact .inr (q.fr a h)
    · exact .inl h
/-- the items of a new list, the list itself left -/
theorem Res.items {a : Addr} {d : D} (h : d = .list ds) (w : Wd K S A H sto) {v : V} (r : Res K S A H sto1 (k + 1) H1 v d F) : ∃ a vs G, v = .ref a ∧ H1 a = some (.lst vs) ∧ ResA K S A H sto1 k H1 vs ds G := by
  subst h
  obtain ⟨a, vs, F0, rfl, rfl, e3, ow⟩ := r.ow.lstI
  have hsub : ∀ b, plus F0 A b → plus (a :: F0) A b := fun b h => h.imp (List.mem_cons_of_mem _) id
  exact ⟨a, vs, F0, rfl, e3, r.ext, r.wd.less hsub fun a e => .inr (w.hS a e), (List.nodup_cons.mp r.nd).2, fun b hb => r.fr b (List.mem_cons_of_mem _ hb), ow.mv (hid_le hsub) fun a _ o q => q⟩
end
def aStar (f : Ev) (g : EvA) : EvA := fun vw s => (f vw s).bind fun p => match p.1 with
  | .list ds => (g vw p.2).map fun q => (ds ++ q.1, q.2)
  | _ => none
section
variable {X : Cx} {a e : Expr} {es : List Expr} {f : Ev} {gs : EvA} {k : Nat} {pos p q1 : Pos}
theorem ja_star (ha : JP X a f (k + 1)) (hr : JA X es gs k) (hs : starEach (.Starred a p :: es) X.env = (true, eval a X.env) :: starEach es X.env := by rfl) : JA X (.Starred a p :: es) (aStar f gs) k := fun A S σ H vw sto d sto' Q w r q z => by
  unfold aStar at q
  obtain ⟨⟨x, s1⟩, e1, q⟩ := bind_some' q
  simp only at q
  split at q
  case h_2 => cases q
  rename_i ds
  obtain ⟨⟨ys, s2⟩, e2, q⟩ := map_some' q
  cases q
  refine wpA.by (StX.pa_star wpE_pe wpA_pa hs) (ha A S σ H vw sto _ s1 _ w r e1 fun v H1 F rs => ?_)
  obtain ⟨l, vs, G, rfl, hl, ra⟩ := Res.items (a := 0) rfl w rs
  refine ⟨l, vs, rfl, .inr (.inl (.inl hl)), ?_⟩
  refine hr (plus G A) S σ H1 vw s1 ys s2 _ ra.wd (r.move ra.ext w.hS fun a h => ?_) e2 fun vs2 H2 G2 qs => z (vs ++ vs2) H2 (G ++ G2) (.app w ra qs)
  rcases h with h | h
  · exact .inr (ra.fr a h)
  · exact .inl h
theorem ja_star0 (ha : JP X a f 0) (hr : JA X es gs 0) (hs : starEach (.Starred a p :: es) X.env = (true, eval a X.env) :: starEach es X.env := by rfl) : JA X (.Starred a p :: es) (aStar f gs) 0 := fun A S σ H vw sto d sto' Q w r q z => by
  unfold aStar at q
  obtain ⟨⟨x, s1⟩, e1, q⟩ := bind_some' q
  simp only at q
  split at q
  case h_2 => cases q
  rename_i ds
  obtain ⟨⟨ys, s2⟩, e2, q⟩ := map_some' q
  cases q
  refine wpA.by (StX.pa_star wpE_pe wpA_pa hs) (ha.use w r e1 fun v H1 x1 w1 r1 p1 => ?_)
  obtain ⟨l, vs, rfl, r2, q2⟩ := p1.lstI
  refine ⟨l, vs, rfl, .inr (.inl r2.out), ?_⟩
  have ra : ResA X.K S A H s1 0 H1 vs ds [] := ⟨x1, by rw [plus_nil]; exact w1, .nil, noF, by rw [plus_nil]; exact .zero q2⟩
  refine hr (plus [] A) S σ H1 vw s1 ys s2 _ ra.wd (by rw [plus_nil]; exact r1) e2 fun vs2 H2 G2 qs => z (vs ++ vs2) H2 ([] ++ G2) (.app w ra qs)
end
/-! ### min and max of a list of data -/
def cmpOk (ds : List D) : Bool := allAlike ds && ds.all (fun d => match d with | .none => false | _ => true) && SeqAt.shaped (.list ds)
def dMin : D → Option D
  | .list (x :: xs) => if cmpOk (x :: xs) = true then some (PySem.W.minD x xs) else none
  | _ => none
def dMax : D → Option D
  | .list (x :: xs) => if cmpOk (x :: xs) = true then some (PySem.W.maxD x xs) else none
  | _ => none
theorem dMin_some {y t : D} (h : dMin y = some t) : ∃ x xs, y = .list (x :: xs) ∧ cmpOk (x :: xs) = true ∧ t = PySem.W.minD x xs := by
  unfold dMin at h
  split at h
  · rename_i x xs
    split at h
    · rename_i hok
      cases h
      exact ⟨x, xs, rfl, hok, rfl⟩
    · cases h
  · cases h
theorem dMax_some {y t : D} (h : dMax y = some t) : ∃ x xs, y = .list (x :: xs) ∧ cmpOk (x :: xs) = true ∧ t = PySem.W.maxD x xs := by
  unfold dMax at h
  split at h
  · rename_i x xs
    split at h
    · rename_i hok
      cases h
      exact ⟨x, xs, rfl, hok, rfl⟩
    · cases h
  · cases h
theorem minD_at (x : D) (xs : List D) : (x :: xs)[PySem.argBest (fun i j => PySem.W.dataLt ((x :: xs).getD i .none) ((x :: xs).getD j .none)) xs.length]? = some (PySem.W.minD x xs) := by
  obtain ⟨h1, h2⟩ := PySem.W.argBest_fold PySem.W.dataLt PyData.none x xs xs.length (Nat.le_refl _)
  rw [List.take_length] at h2
  generalize PySem.argBest (fun i j => PySem.W.dataLt ((x :: xs).getD i .none) ((x :: xs).getD j .none)) xs.length = m at *
  rw [List.getD_eq_getElem?_getD] at h2
  rw [List.getElem?_eq_getElem (by rw [List.length_cons]; omega)] at h2 ⊢
  exact congrArg some h2
theorem cmpOk_alike {ds : List D} (h : cmpOk ds = true) : PySem.W.AlikeAll ds ∧ SeqAt.shaped (.list ds) = true := by
  unfold cmpOk at h
  rw [Bool.and_eq_true, Bool.and_eq_true] at h
  refine ⟨⟨fun x hx y hy => alike_of h.1.1 x hx y hy, fun x hx e => ?_⟩, h.2⟩
  have := List.all_eq_true.mp h.1.2 x hx
  rw [e] at this
  cases this
theorem vals_get {xs : List V} {us : List Value} {i : Nat} {u : Value} (r : Vals xs us) (h : us[i]? = some u) : ∃ x, xs[i]? = some x ∧ RelV x u := by
  have hi := (List.getElem?_eq_some_iff.mp h).1
  have hl := r.length
  have e : xs[i]? = some xs[i] := List.getElem?_eq_getElem (by omega)
  obtain ⟨w, h1, h2⟩ := r.get e
  rw [h] at h1
  cases h1
  exact ⟨_, e, h2⟩
section
variable {X : Cx}
def rMinD (K : PySem.W.Frag) : List V → Hp → VK → Prop := fun us H Q => ∃ l vs x ds, us = [.ref l] ∧ Rd H l (.lst vs) ∧ DpAll K H vs (x :: ds) ∧ cmpOk (x :: ds) = true ∧ ∀ (i : Nat) v, vs[i]? = some v → (x :: ds)[i]? = some (PySem.W.minD x ds) → Q v H
theorem cr_minD (hu : X.A.units + 66 < cLine) (hc : X.calm = true) : CallR X (.builtin "min") (rMinD X.K) := by
  intro pins s σ H us ws Q I r h
  obtain ⟨l, vs, x, ds, rfl, hs, hd, hok, q⟩ := h
  obtain ⟨its, rv, hl, hz⟩ := I.list (.inl hs)
  rw [Vals.ref1 r]
  obtain ⟨ha, hsh⟩ := cmpOk_alike hok
  have hdep := SeqAt.depth_of_shaped hsh
  rw [PyData.depth] at hdep
  obtain ⟨as, hr⟩ := Dp.readsAll I _ _ _ hd rv
  have hr' : ReadsAll s.heap its.toArray.toList (x :: ds) as := by simpa using hr
  have hn := PySem.W.readsAll_len hr'
  rw [List.length_cons] at hn
  refine call_min_walkH (PySem.W.iter_listW (A := X.A.in1) (I.ok.hd hc) hl.isList fun t e W st hf hw hkp => ⟨_, _, _, _, _, _, _, s.heap, _, rfl, W, st, hf, by omega, hw, hkp, PySem.W.cmpIn_lt (A := X.A.in1) hr' ha (by show X.A.units + 1 + _ < _; omega), fun v t' hP mv => ?_⟩)
  obtain ⟨h', tk, rfl, hk'⟩ := PySem.W.moved_old e rfl mv
  have I2 : L2.Inv X pins σ H { s with heap := h', toks := tk } := I.kept hk'
  have hm : its.toArray.size - 1 = ds.length := by omega
  rw [hm] at hP
  have hP' : its[PySem.argBest (fun i j => PySem.W.dataLt ((x :: ds).getD i .none) ((x :: ds).getD j .none)) ds.length]? = some v := by simpa using hP
  obtain ⟨vv, hv, rr⟩ := vals_get rv hP'
  exact ⟨vv, H, I2, rr, q _ vv hv (minD_at x ds)⟩
theorem maxD_at (x : D) (xs : List D) : (x :: xs)[PySem.argBest (fun i j => PySem.W.dataLt ((x :: xs).getD j .none) ((x :: xs).getD i .none)) xs.length]? = some (PySem.W.maxD x xs) := by
  obtain ⟨h1, h2⟩ := PySem.W.argBest_fold (fun a b => PySem.W.dataLt b a) PyData.none x xs xs.length (Nat.le_refl _)
  rw [List.take_length] at h2
  generalize PySem.argBest (fun i j => PySem.W.dataLt ((x :: xs).getD j .none) ((x :: xs).getD i .none)) xs.length = m at *
  rw [List.getD_eq_getElem?_getD] at h2
  rw [List.getElem?_eq_getElem (by rw [List.length_cons]; omega)] at h2 ⊢
  exact congrArg some h2
def rMaxD (K : PySem.W.Frag) : List V → Hp → VK → Prop := fun us H Q => ∃ l vs x ds, us = [.ref l] ∧ Rd H l (.lst vs) ∧ DpAll K H vs (x :: ds) ∧ cmpOk (x :: ds) = true ∧ ∀ (i : Nat) v, vs[i]? = some v → (x :: ds)[i]? = some (PySem.W.maxD x ds) → Q v H
theorem cr_maxD (hu : X.A.units + 66 < cLine) (hc : X.calm = true) : CallR X (.builtin "max") (rMaxD X.K) := by
  intro pins s σ H us ws Q I r h
  obtain ⟨l, vs, x, ds, rfl, hs, hd, hok, q⟩ := h
  obtain ⟨its, rv, hl, hz⟩ := I.list (.inl hs)
  rw [Vals.ref1 r]
  obtain ⟨ha, hsh⟩ := cmpOk_alike hok
  have hdep := SeqAt.depth_of_shaped hsh
  rw [PyData.depth] at hdep
  obtain ⟨as, hr⟩ := Dp.readsAll I _ _ _ hd rv
  have hr' : ReadsAll s.heap its.toArray.toList (x :: ds) as := by simpa using hr
  have hn := PySem.W.readsAll_len hr'
  rw [List.length_cons] at hn
  refine call_max_walkH (PySem.W.iter_listW (A := X.A.in1) (I.ok.hd hc) hl.isList fun t e W st hf hw hkp => ⟨_, _, _, _, _, _, _, s.heap, _, rfl, W, st, hf, by omega, hw, hkp, PySem.W.cmpIn_gt (A := X.A.in1) hr' ha (by show X.A.units + 1 + _ < _; omega), fun v t' hP mv => ?_⟩)
  obtain ⟨h', tk, rfl, hk'⟩ := PySem.W.moved_old e rfl mv
  have I2 : L2.Inv X pins σ H { s with heap := h', toks := tk } := I.kept hk'
  have hm : its.toArray.size - 1 = ds.length := by omega
  rw [hm] at hP
  have hP' : its[PySem.argBest (fun i j => PySem.W.dataLt ((x :: ds).getD j .none) ((x :: ds).getD i .none)) ds.length]? = some v := by simpa using hP
  obtain ⟨vv, hv, rr⟩ := vals_get rv hP'
  exact ⟨vv, H, I2, rr, q _ vv hv (maxD_at x ds)⟩
theorem RpA.dpAll {K : PySem.W.Frag} {S : List Addr} {A : Addr → Prop} {H : Hp} : ∀ {vs : List V} {ds : List D}, RpA K S (hid A H) vs ds → PyData.canLayAll0 ds = true → DpAll K H vs ds
  | _, _, .nil, _ => .nil
  | _, _, .cons a b, h => by
    have h' := Bool.and_eq_true_iff.mp (by simpa [PyData.canLayAll0] using h)
    exact .cons (a.out.dp h'.1) (b.dpAll h'.2)
variable {e : Expr} {f : Ev} {pos p : Pos}
theorem jp_minD (ha : JP X e f 0) (hc : X.calm = true) (hu : X.A.units + 66 < cLine) (hg : Gl X "min") (hm : X.mg "min" = none) (hv : bootBuiltins "min" = some (.builtin "min") := by rfl)
    (he : starEach [e] X.env = (false, eval e X.env) :: starEach [] X.env := by rfl) (hpl : (backTo pos (starEach [] X.env)).any (·.1) = false := by rfl) : JP X (.Call (.Name "min" p) [e] [] pos) (eUn dMin f) 0 := fun A S σ H vw sto d sto' Q w r q z => by
  unfold eUn at q
  obtain ⟨⟨y, s1⟩, e1, q⟩ := bind_some' q
  obtain ⟨t, e2, q⟩ := map_some' q
  cases q
  obtain ⟨x, xs, rfl, hok, rfl⟩ := dMin_some e2
  refine wpE.by (pe_callB (cr_minD hu hc) hg hm hv (pa_cons wpE_pe pa_nil he) (by decide) (by decide) he hpl) (ha.use w r e1 fun v H1 x1 w1 r1 p1 => ?_)
  obtain ⟨l, vs, rfl, r2, q2⟩ := p1.lstI
  have hl := SeqAt.canLay_of_shaped (cmpOk_alike hok).2
  rw [PyData.canLay0] at hl
  refine ⟨l, vs, x, xs, rfl, r2.out, q2.dpAll hl, hok, fun i v hv hi => ?_⟩
  obtain ⟨v', h1, h2⟩ := q2.get hi
  rw [hv] at h1
  cases h1
  exact z _ _ [] ((Res.shared w1 h2).after x1 noF)
theorem jp_maxD (ha : JP X e f 0) (hc : X.calm = true) (hu : X.A.units + 66 < cLine) (hg : Gl X "max") (hm : X.mg "max" = none) (hv : bootBuiltins "max" = some (.builtin "max") := by rfl)
    (he : starEach [e] X.env = (false, eval e X.env) :: starEach [] X.env := by rfl) (hpl : (backTo pos (starEach [] X.env)).any (·.1) = false := by rfl) : JP X (.Call (.Name "max" p) [e] [] pos) (eUn dMax f) 0 := fun A S σ H vw sto d sto' Q w r q z => by
  unfold eUn at q
  obtain ⟨⟨y, s1⟩, e1, q⟩ := bind_some' q
  obtain ⟨t, e2, q⟩ := map_some' q
  cases q
  obtain ⟨x, xs, rfl, hok, rfl⟩ := dMax_some e2
  refine wpE.by (pe_callB (cr_maxD hu hc) hg hm hv (pa_cons wpE_pe pa_nil he) (by decide) (by decide) he hpl) (ha.use w r e1 fun v H1 x1 w1 r1 p1 => ?_)
  obtain ⟨l, vs, rfl, r2, q2⟩ := p1.lstI
  have hl := SeqAt.canLay_of_shaped (cmpOk_alike hok).2
  rw [PyData.canLay0] at hl
  refine ⟨l, vs, x, xs, rfl, r2.out, q2.dpAll hl, hok, fun i v hv hi => ?_⟩
  obtain ⟨v', h1, h2⟩ := q2.get hi
  rw [hv] at h1
  cases h1
  exact z _ _ [] ((Res.shared w1 h2).after x1 noF)
end
end J
namespace J
open PySem PySem.Spec PyProof.Rows L2
/-! ### {k: v for x in e}, the keys of either kind -/
section
variable {X : Cx}
/-- an entry put into a dict of either kind -/
theorem put_either {pins : List (Addr × Obj)} {σ : Sg} {H H' : Hp} {s : Shared} {E : Value → Shared → Prop} {a : Addr} {y v : V} {yv vv : Value} {Q : Unit → Shared → Prop} (hu : X.A.units < cLine) (I : L2.Inv X pins σ H s) (g : DPut H a y v H')
    (h1 : RelV y yv) (h2 : RelV v vv) (q : ∀ s', L2.Inv X pins σ H' s' → Q () s') : wpAny (model X.prog X.w) X.A (dictSet a yv vv) Q E s := by
  rcases g with ⟨kvs, k, e1, e2, e3, e4⟩ | ⟨kvs, k, b, e1, e2, e3, e4, e5⟩
  · cases e2
    cases e4
    exact d_dictSet I e1 e3 h1 h2 q
  · cases e2
    cases e5
    obtain rfl : yv = Value.ref b := h1
    obtain ⟨u1, u2, xs, u3, u4⟩ := dt_of I.hok e1
    have u5 := Paired.length u3
    have u6 := length_putK kvs k v
    refine wpAny_dictSet_heap (hsz := by omega) (show (tupleKind (mixKind X.prog X.w)).room X.A from hu) (key_of I.hok e3) u4 fun h' dd same => q _ ?_
    obtain ⟨ob, es, ep, w1, w2, w3, w4, _, w5⟩ := dd
    have hm : Mut (H a) := by rw [e1]; trivial
    refine d_write I hm same ⟨ob, w1⟩ ⟨by omega, u2, _, (u3.put k e3 h2).keeps fun c ys ec => ?_, ob, es, ep, w1, w2, w3, w4, w5⟩
    have hc : c ≠ a := fun z => by
      rw [z, e1] at ec
      cases ec
    exact (upd_ne hc).trans ec
/-- the empty dict -/
def d0 (t : Bool) : HO := if t = true then .dT [] else .dK []
theorem d0_ok (t : Bool) {P : Program} {w : World} {H : Hp} (h : Heap) (hb : sysModules < h.objs.size) : ObjOk P w H (h.push { cls := .type "dict", data := .dict #[] }) h.objs.size (d0 t) := by
  cases t with
  | false => exact dk_empty h hb
  | true => exact dt_empty h hb
/-- what a dict comprehension does, D the new dict -/
def tDn (t : Bool) (wi : TI) (g : TG) (tk tv : TE) (vs : List Nat) : TE := fun σ H Q => wi σ H fun J H1 => ∀ D, H1 D = none → ∃ W : Nat → Nat → Hp → Prop, (∃ m, W 0 m (upd H1 D (d0 t))) ∧ ∀ i m Hi, W i m Hi →
  (J.stop i Hi ∧ Q (.ref D) Hi) ∨ (J.go i Hi ∧ ∃ N : Hp → Prop, (∀ H', N H' → ∃ m', m' < m ∧ W (i + 1) m' H') ∧ ∀ x H', J.yld i Hi x H' →
    g x (wipe σ vs) H' fun σ2 H2 => wipe σ2 vs = wipe σ vs ∧ tk σ2 H2 fun y H4 => tv σ2 H4 fun z H5 => ∃ H6, DPut H5 D y z H6 ∧ N H6)
theorem pe_dcn {t : Bool} {kx vx tg it : Expr} {scope : Scope} {own : List (Str × Nat)} {pos : Pos} {wi : TI} {g : TG} {tk tv : TE} (hu : X.A.units < cLine) (hc : X.calm = true) (hN : X.N.Nodup) (hi : PI X tg it wi) (ok : BlkOk X.N X.env.scope scope own)
    (hg : ∀ (s : Shared) (H : Hp) (C : Addr) (cl : List (Str × Addr)) (fp : List Addr), PG (X.blk s H scope (compEnvC scope cl C X.env) fp) tg g) (hk : ∀ (s : Shared) (H : Hp) (C : Addr) (cl : List (Str × Addr)) (fp : List Addr), PE (X.blk s H scope (compEnvC scope cl C X.env) fp) kx tk)
    (hv : ∀ (s : Shared) (H : Hp) (C : Addr) (cl : List (Str × Addr)) (fp : List Addr), PE (X.blk s H scope (compEnvC scope cl C X.env) fp) vx tv) (hs : ∀ x, foldedSetIterable it X.env x = pure x) : PE X (.DictComp kx vx [⟨tg, it, [], 0⟩] scope pos) (tDn t wi g tk tv (own.map (·.2))) := by
  refine ⟨fun pins s σ H Q I h => ?_⟩
  rw [arm_eval_DictComp]
  have free : ∀ y ∈ scope.names, y.2 = .free → ∃ c, X.env.cells.lookup y.1 = some c := fun y hy e => I.ok.has _ (ok.free y hy e)
  refine wpAny_comprehension_free rfl hs (closure_ok free) ok.kind (fun y hy e => by rw [ok.uniq y hy, e]) (thn (hi.run pins s σ H _ I h) fun _ s1 p1 => thn p1 fun _ s2 p2 => ?_)
  obtain ⟨i0, fp, tn, J, H2, e, I2, T, st, fr, q⟩ := p2
  subst e
  refine wpAny_newObj_type (newEnv_comp ?_)
  generalize eD : s2.heap.objs.size = D
  have nD : H2 D = none := I2.hok.fresh (Nat.le_of_eq eD)
  obtain ⟨W, ⟨m0, W0⟩, turn⟩ := q D nD
  obtain ⟨s3, es3⟩ : ∃ s3 : Shared, s3 = { s2 with heap := s2.heap.push { cls := .type "dict", data := .dict #[] } } := ⟨_, rfl⟩
  rw [← es3]
  have hp3 : s3.heap = s2.heap.push { cls := .type "dict", data := .dict #[] } := by rw [es3]
  obtain ⟨H3, eH3⟩ : ∃ H3, H3 = upd H2 D (d0 t) := ⟨_, rfl⟩
  rw [← eH3] at W0
  have I3 : L2.Inv X pins σ H3 s3 := by
    rw [es3, eH3, ← eD]
    exact I2.laid (t' := s2.toks) (fun _ _ e => Heap.get?_push_of_some _ e) (Nat.le_refl _) (d0_ok t s2.heap I2.big)
  have f3 : ∀ b ∈ fp, FpOk X pins H3 b ∧ b < s3.heap.objs.size := fun b hb => by
    obtain ⟨o, e, _⟩ := T.obj _ _ st b hb
    have lt : b < s2.heap.objs.size := Heap.lt_size e
    have ne : b ≠ D := fun z => Nat.lt_irrefl _ (by rw [← eD] at z; rw [z] at lt; exact lt)
    refine ⟨⟨by rw [eH3, upd_ne ne]; exact (fr b hb).1, (fr b hb).2⟩, ?_⟩
    rw [hp3, Heap.size_push]
    exact Nat.lt_succ_of_lt lt
  have I4 := block_start I3 ok hN f3
  have st3 : tn 0 s3.heap := T.keep _ _ _ st fun b _ o e => by rw [hp3]; exact Heap.get?_push_of_some _ e
  have pg := hg s3 H3 s3.heap.objs.size (cellsFrom (s3.heap.objs.size + 1) scope.names (cloFrom X.env.cells scope.names [])) fp
  have pk := hk s3 H3 s3.heap.objs.size (cellsFrom (s3.heap.objs.size + 1) scope.names (cloFrom X.env.cells scope.names [])) fp
  have pv := hv s3 H3 s3.heap.objs.size (cellsFrom (s3.heap.objs.size + 1) scope.names (cloFrom X.env.cells scope.names [])) fp
  show codeAny _ _ (.compStart (.DictComp kx vx [⟨tg, it, [], 0⟩] scope pos) 0 (.ref i0) (.ref D) (compEnvC scope (cellsFrom (s3.heap.objs.size + 1) scope.names (cloFrom X.env.cells scope.names [])) s3.heap.objs.size X.env)) (compPost _ _ _ none _ (.ref D) s3.heap.objs.size) { s3 with heap := pushCells (s3.heap.push { cls := .type "dict", data := .dict #[] }) scope.names }
  have out : ∀ b ∈ fp, H3 b = none := fun b hb => (f3 b hb).1.1
  generalize ece : compEnvC scope (cellsFrom (s3.heap.objs.size + 1) scope.names (cloFrom X.env.cells scope.names [])) s3.heap.objs.size X.env = ce at I4 pg pk pv ⊢
  have loc : ce.locals = s3.heap.objs.size := by rw [← ece]; rfl
  generalize es4 : ({ s3 with heap := pushCells (s3.heap.push { cls := .type "dict", data := .dict #[] }) scope.names } : Shared) = s4 at I4 ⊢
  have st4 : tn 0 s4.heap := T.keep _ _ _ st3 fun b _ o e => by rw [← es4]; exact pushCells_keeps _ _ _ _ (Heap.get?_push_of_some _ e)
  have fps : ∀ {σ' : Sg} {H' : Hp} {s' : Shared}, L2.Inv (X.blk s3 H3 scope ce fp) [] σ' H' s' → (∀ b ∈ fp, H' b = none) → ∀ b ∈ fp, FpOk (X.blk s3 H3 scope ce fp) [] H' b := fun {σ' H' s'} I' n b hb =>
    ⟨n b hb, (I'.ok.exf b hb).1, I'.ok.exfs b hb, .inl hb, (I'.ok.exf b hb).2, fun p hp => nomatch (show p ∈ ([] : List (Addr × Obj)) from hp)⟩
  have L : codeAny (model X.prog X.w) X.A (.compLoop (.DictComp kx vx [⟨tg, it, [], 0⟩] scope pos) 0 (.ref i0) (.ref D) ce) (compPost (model X.prog X.w) X.A X.xe none (fun v s' => ∃ x H', L2.Inv X pins σ H' s' ∧ RelV x v ∧ Q x H') (.ref D) s3.heap.objs.size) s4 := by
    refine compLoop_anyD (fun n s' => ∃ i Hi, L2.Inv (X.blk s3 H3 scope ce fp) [] (wipe σ (own.map (·.2))) Hi s' ∧ tn i s'.heap ∧ (∀ b ∈ fp, Hi b = none) ∧ W i n Hi) ?_ m0 ⟨0, H3, I4, st4, out, W0⟩
    rintro n s5 ⟨i, H5, I5, st5, n5, w5⟩
    rcases turn i n H5 w5 with ⟨stop, qq⟩ | ⟨go, N, hN', step⟩
    · refine thnF (T.done (X.blk s3 H3 scope ce fp) rfl rfl rfl hc i [] s5 _ H5 (fun _ _ => False) I5 (fps I5 n5) st5 stop) fun r s6 ⟨er, I6⟩ => ?_
      cases er
      have I7 : L2.Inv X pins σ H5 s6 := I3.call' (ch := fp) I6.os I6.base I6.hok I6.bare fun b hb => have z := (f3 b hb).1.2; ⟨z.2.2.1, z.1, z.2.2.2.1, z.2.2.2.2⟩
      obtain ⟨mm, hn, _⟩ := I6.loc
      have hn : s6.heap.Ns ce.locals mm := hn
      have nl : H5 ce.locals = none := I6.free
      rw [loc] at hn nl
      obtain ⟨f0, f1, f2, f4, f5, f6⟩ := I3.fpOk (Nat.le_refl _) nl
      refine ⟨mm, hn, fun h'' sb => ⟨.ref D, H5, I7.turned (t' := s6.toks) (fun b o hb e => (sb.2 b hb).trans e) f0 f1 f4 f5 f6, rfl, qq⟩⟩
    · refine thnF (T.item (X.blk s3 H3 scope ce fp) rfl rfl rfl hc i [] s5 _ H5 (fun _ _ => False) I5 (fps I5 n5) st5 go) fun r s6 ⟨u, er, h6⟩ => ?_
      cases er
      refine thnF h6 fun _ s7 ⟨x, H7, I7, r7, y7, st7, n7⟩ => ?_
      refine thnF (pg.run _ s7 _ H7 x u _ (I7.pinned (fps I7 n7) (T.obj _ _ st7)) r7 (step x H7 y7)) fun _ s8 ⟨σ8, H8, I8, ew, q8⟩ => ?_
      refine thnF ((pts_nil (X := X.blk s3 H3 scope ce fp)).run _ s8 σ8 H8 _ I8 (show tYes σ8 H8 fun b H' => b = true ∧ H' = H8 from ⟨rfl, rfl⟩)) fun b s9 ⟨H9, I9, eb, eH⟩ => ?_
      subst eb eH
      rw [if_pos rfl]
      refine thnF (pk.run _ s9 σ8 _ _ I9 q8) fun kv s10 ⟨yk, H10, I10, r10, q10⟩ => ?_
      refine thnF (pv.run _ s10 σ8 H10 _ I10 q10) fun vv s11 ⟨yv, H11, I11, r11, H12, put, nx⟩ => ?_
      refine put_either (X := X.blk s3 H3 scope ce fp) hu I11 put r10 r11 fun s12 I12 => ?_
      obtain ⟨m', hm, w'⟩ := hN' H12 nx
      have pin : ∀ b ∈ fp, ∀ o, s7.heap.get? b = some o → s12.heap.get? b = some o ∧ H12 b = none := fun b hb o e =>
        have z := I12.pin (b, o) (List.mem_append_right _ (List.mem_append_right _ (mem_pinsAt hb e)))
        ⟨z.1, z.2.1⟩
      have hl : (wipe σ (own.map (·.2))).length = σ8.length := by rw [← ew, wipe_length]
      refine ⟨m', hm, i + 1, H12, (I12.unpinned (pins := [])).weak hl (fun j v e => by rw [← ew] at e; exact (wipe_some e).1), T.keep _ _ _ st7 fun b hb o e => (pin b hb o e).1, fun b hb => ?_, w'⟩
      obtain ⟨o, e, _⟩ := T.obj _ _ st7 b hb
      exact (pin b hb o e).2
  exact codeAny_compStart_dict L (T.self X.A 0 _ _ _ st4 L)
end
end J
namespace J
open PySem PySem.Spec PyProof.Rows L2
/-! ### name = {k: v for x in e}, a cell -/
def compD (t : Bool) (bd : Bd) (fk fv : Ev) (own : List Nat) (vw : VW) : List (D × D) → List D → STO → Option (List (D × D) × STO)
  | es, [], s => some (es, s)
  | es, d :: r, s => (bd d).bind fun l => (fk (setV (wipeV vw own) l) s).bind fun p => (fv (setV (wipeV vw own) l) p.2).bind fun q => (putE t es p.1 q.1).bind fun es' => compD t bd fk fv own vw es' r q.2
def sNewDC (t : Bool) (i : Nat) (fi : EvI) (bd : Bd) (fk fv : Ev) (own : List Nat) : Sv := fun env s => if i < env.length then (fi (see [] env) s).bind fun p => if p.1.length ≤ 16777216 then (compD t bd fk fv own (see [] env) [] p.1 p.2).map fun q => (.nx, env.set i (.sh (tokD q.2.length)), q.2 ++ [.dct t q.1]) else none else none
theorem putKD_len {es : List (D × D)} {k : Key} {d : D} : (putKD es k d).length ≤ es.length + 1 := by
  unfold putKD
  split
  · rw [List.length_map]; omega
  · rw [List.length_append]; exact Nat.le_refl _
theorem putTD_len {es : List (D × D)} {k : List Key} {d : D} : (putTD es k d).length ≤ es.length + 1 := by
  unfold putTD
  split
  · rw [List.length_map]; omega
  · rw [List.length_append]; exact Nat.le_refl _
theorem putE_len {t : Bool} {es es' : List (D × D)} {k d : D} (h : putE t es k d = some es') : es'.length ≤ es.length + 1 := by
  unfold putE at h
  split at h
  · obtain ⟨x, _, rfl⟩ := map_some' h
    exact putTD_len
  · obtain ⟨x, _, rfl⟩ := map_some' h
    exact putKD_len
theorem dn_it {It0 : It} {n : Nat} {G : Hp → Prop} {Y : Nat → Hp → V → Hp → Prop} (w : Walk It0 n G Y) {g : TG} {tk tv : TE} {vs : List Nat} {σ : Sg} {Hs : Hp} {D : Addr} {Qd : Hp → Prop} (Pv : Nat → Hp → Prop) (h0 : Pv 0 Hs) (hG : ∀ i H, i ≤ n → Pv i H → G H)
    (hs : ∀ i x H H', i < n → Pv i H → Y i H x H' → g x (wipe σ vs) H' fun σ2 H2 => wipe σ2 vs = wipe σ vs ∧ tk σ2 H2 fun y H4 => tv σ2 H4 fun z H5 => ∃ H6, DPut H5 D y z H6 ∧ Pv (i + 1) H6) (hd : ∀ H, Pv n H → Qd H) :
    ∃ W : Nat → Nat → Hp → Prop, (∃ m, W 0 m Hs) ∧ ∀ i m Hi, W i m Hi → (It0.stop i Hi ∧ Qd Hi) ∨ (It0.go i Hi ∧ ∃ N : Hp → Prop, (∀ H', N H' → ∃ m', m' < m ∧ W (i + 1) m' H') ∧ ∀ x H', It0.yld i Hi x H' →
      g x (wipe σ vs) H' fun σ2 H2 => wipe σ2 vs = wipe σ vs ∧ tk σ2 H2 fun y H4 => tv σ2 H4 fun z H5 => ∃ H6, DPut H5 D y z H6 ∧ N H6) := by
  refine ⟨fun i m H => m + i = n ∧ Pv i H, ⟨n, rfl, h0⟩, fun i m Hi ⟨e, p⟩ => ?_⟩
  have q := hG i Hi (by omega) p
  cases m with
  | zero =>
    have e : i = n := by omega
    subst e
    exact .inl ⟨w.stops Hi q, hd Hi p⟩
  | succ m => exact .inr ⟨w.goes i Hi (by omega) q, Pv (i + 1), fun H' p' => ⟨m, by omega, by omega, p'⟩, fun x H' y => hs i x Hi H' (by omega) p (w.yields i Hi x H' (by omega) q y)⟩
section
variable {K : PySem.W.Frag} {S : List Addr} {A : Addr → Prop} {H : Hp} {sto : STO}
theorem Wd.updD {B : Addr} {o : HO} {c : Cell} {t : Bool} {es : List (D × D)} (w : Wd K S A H sto) (h : A B) (hS : B ∉ S) (hc : CellOk K S A H B (.dct t es)) (ho : ∀ xs, o ≠ .tup xs := by intro _ z; cases z) : Wd K S A (L2.upd H B o) sto := by
  refine w.keeps (fun a ha => ?_) w.hS (by rw [hid_upd h]; exact fun _ _ h => h) (fun a ha x hx => ?_) fun c q hq => ?_
  · by_cases e : a = B
    · rw [e, upd_same]; exact ⟨(fun z => nomatch z), fun xs z => ho xs (Option.some.inj z)⟩
    · rw [upd_ne e]; exact w.alt a ha
  · have e : a ≠ B := fun e => hS (e ▸ ha)
    rw [upd_ne e]; exact hx
  · have e : c ≠ B := fun e => by
      subst e
      exact hc.notCode hq
    rw [upd_ne e]; exact hq
theorem put_new {B : Addr} {t : Bool} {es es' : List (D × D)} {y v : V} {kd d : D} (w : Wd K S A H sto) (hA : A B) (hS : B ∉ S) (ok : CellOk K S A H B (.dct t es)) (hl : es.length < 16777216)
    (py : Rp K S (hid A H) y kd) (pv : Rp K S (hid A H) v d) (g : putE t es kd d = some es') : ∃ H', DPut H B y v H' ∧ (∀ b, b ≠ B → H' b = H b) ∧ Wd K S A H' sto ∧ CellOk K S A H' B (.dct t es') := by
  have ok0 := ok
  unfold putE at g
  cases t with
  | false =>
    obtain ⟨kvs, h1, h2⟩ := ok
    rw [if_neg Bool.false_ne_true] at g
    obtain ⟨kk, e1, e2⟩ := map_some' g
    rw [isKD_some e1] at py
    have := py.keyI
    subst this e2
    refine ⟨_, .inl ⟨kvs, kk, h1, rfl, by rw [h2.len, sizeLine_eq]; exact hl, rfl⟩, fun b hb => upd_ne hb, w.updD (c := .lst []) hA hS ok0, ⟨_, upd_same, ?_⟩⟩
    rw [hid_upd hA]
    exact h2.put pv
  | true =>
    obtain ⟨kvs, h1, h2⟩ := ok
    rw [if_pos rfl] at g
    obtain ⟨kk, e1, e2⟩ := map_some' g
    rw [isKT_some e1] at py
    obtain ⟨b, rfl, hb⟩ := py.keyT
    subst e2
    refine ⟨_, .inr ⟨kvs, kk, b, h1, rfl, (hid_eq.mp hb).2, by rw [h2.len, sizeLine_eq]; exact hl, rfl⟩, fun b hb => upd_ne hb, w.updD (c := .lst []) hA hS ok0, ⟨_, upd_same, ?_⟩⟩
    rw [hid_upd hA]
    exact h2.put pv
end
theorem dc_read {X : Cx} {t : Bool} {tg it kx vx : Expr} {scope : Scope} {own : List Nat} {fi : EvI} {bd : Bd} {fk fv : Ev} {g : TG} (hi : JI X tg it fi) (hg : gSpec X.K g bd) (hk : JPB X scope kx fk 0) (hv : JPB X scope vx fv 0) (hown : ∀ d l, bd d = some l → ∀ p ∈ l, p.1 ∈ own)
    {A : Addr → Prop} {S : List Addr} {σ : Sg} {H : Hp} {vw : VW} {sto s1 s2 : STO} {ds : List D} {esF : List (D × D)} {Q : VK} (w : Wd X.K S A H sto) (r : RdV X.K S A σ H vw) (e1 : fi vw sto = some (ds, s1)) (hlen : ds.length ≤ 16777216) (e2 : compD t bd fk fv own vw [] ds s1 = some (esF, s2))
    (z : ∀ D H', H D = none → Ext S H H' → Wd X.K S (plus [D] A) H' s2 → CellOk X.K S (plus [D] A) H' D (.dct t esF) → Q (.ref D) H') : tDn t (wpI X tg it) g (wpEB X scope kx) (wpEB X scope vx) own σ H Q := by
  refine hi A S σ H vw sto ds s1 _ w r e1 fun J H1 x1 w1 wk => fun D hD => ?_
  have hSD : D ∉ S := w1.live hD
  have hAD : plus [D] A D := .inl (by simp)
  have hA2 : ∀ a, plus [D] A a → A a ∨ H1 a = none := fun a h => by
    rcases h with h | h
    · have e : a = D := by simpa using h
      subst e
      exact .inr hD
    · exact .inl h
  refine dn_it wk (fun i Hi => ∃ es si, compD t bd fk fv own vw es (ds.drop i) si = some (esF, s2) ∧ es.length ≤ i ∧ Ext S H1 Hi ∧ Wd X.K S (plus [D] A) Hi si ∧ CellOk X.K S (plus [D] A) Hi D (.dct t es)) ?_ ?_ ?_ ?_
  · refine ⟨[], s1, by simpa using e2, Nat.le_refl _, Ext.of (same_upd hD), ?_, ?_⟩
    · refine w1.grow (same_upd hD) (fun a h => ?_) fun a h => .inr h
      rcases h with h | h
      · have e : a = D := by simpa using h
        subst e
        exact .inr ⟨hD, by rw [upd_same]; cases t <;> exact ⟨(fun z => nomatch z), fun _ z => nomatch z⟩⟩
      · exact .inl h
    · cases t with
      | false => exact ⟨[], upd_same, .nil⟩
      | true => exact ⟨[], upd_same, .nil⟩
  · rintro i Hi _ ⟨es, si, _, _, ex, _, _⟩
    exact hid_ext ex w1.hS
  · rintro i x Hi H' hi' ⟨es, si, c1, c2, ex, wi, ok⟩ ⟨dx, e3, hH', rp⟩
    have hdrop : ds.drop i = dx :: ds.drop (i + 1) := by
      obtain ⟨hlt, e⟩ := List.getElem?_eq_some_iff.mp e3
      rw [List.drop_eq_getElem_cons hlt, e]
    rw [hdrop] at c1
    unfold compD at c1
    obtain ⟨l, el, c1⟩ := bind_some' c1
    obtain ⟨⟨dk, sk⟩, ek, c1⟩ := bind_some' c1
    obtain ⟨⟨dv, sv⟩, ev, c1⟩ := bind_some' c1
    obtain ⟨es', ep, c1⟩ := bind_some' c1
    simp only at ev ep c1
    have smi : Same Hi H' := by
      rcases hH' with rfl | ⟨T, o, hT, rfl⟩
      · exact fun _ _ h => h
      · exact same_upd hT
    have w2 : Wd X.K S (plus [D] A) H' si := wi.grow smi (fun a h => .inl h) fun a h => h
    have px : Rp X.K S (hid (plus [D] A) H') x dx := rp _ (hid_move ex w1.hS hA2) wi.alt
    have ext2 : Ext S H1 H' := ex.trans (Ext.of smi)
    refine hg S _ _ H' x dx l _ same_hid px el fun vl sl => ?_
    refine ⟨wipe_set (sl.mem fun p hp => hown dx l el p hp), ?_⟩
    have r2 : RdV X.K S (plus [D] A) (setS (wipe σ own) vl) H' (setV (wipeV vw own) l) := sl.rd (((r.move x1 w.hS fun a h => .inl h).move ext2 w1.hS hA2).wipe own)
    intro s0 H0 C cl fp
    refine (hk s0 H0 C cl fp).use w2 r2 ek fun y H4 x4 w4 r4 p4 => ?_
    have w4 : Wd X.K S (plus [D] A) H4 sk := w4
    intro s0 H0 C cl fp
    refine (hv s0 H0 C cl fp).use w4 r4 ev fun v H5 x5 w5 r5 p5 => ?_
    have w5 : Wd X.K S (plus [D] A) H5 sv := w5
    have hDi : ∃ o, Hi D = some o := by
      have := (wi.alt D hAD).1
      cases q : Hi D with
      | none => exact absurd q this
      | some o => exact ⟨o, rfl⟩
    have exi : Ext S Hi H5 := (Ext.of smi).trans (x4.trans x5)
    have ok5 : CellOk X.K S (plus [D] A) H5 D (.dct t es) := ok.keep (hid_move exi wi.hS fun a h => .inl h) (fun o h => exi D o hSD h) fun c q h => exi c _ (wi.code h) h
    obtain ⟨H6, g1, g2, w6, ok6⟩ := put_new (kd := dk) (d := dv) w5 hAD hSD ok5 (by omega) (p4.le (hid_move x5 w4.hS fun a h => .inl h)) p5 ep
    refine ⟨H6, g1, es', sv, c1, by have := putE_len ep; omega, ?_, w6, ok6⟩
    intro a o hS h
    have e : a ≠ D := fun e => by
      subst e
      rw [hD] at h
      cases h
    rw [g2 a e]
    exact (ext2.trans (x4.trans x5)) a o hS h
  · rintro Hn ⟨es, si, c1, c2, ex, wi, ok⟩
    rw [List.drop_length] at c1
    cases c1
    exact z D Hn (none_of_ext x1 hSD hD) (x1.trans ex) wi ok
section
variable {Z : List Addr → Prop} {X : Cx} {k i : Nat} {pos p : Pos} {x : Str}
theorem Sr.newCell2 {K : PySem.W.Frag} {C : Hp} {S0 S : List Addr} {A0 : Addr → Prop} {H0 H H' : Hp} {σ : Sg} {env : Env} {sto sto' : STO} {Fs : Nat → List Addr} {i : Nat} {b : Addr} {c : Cell} (r : Sr K C S0 S A0 H0 σ H env sto Fs) (hi : i < env.length) (hb : H b = none)
    (x : Ext S H H') (w : Wd K S (plus [b] (hd S Fs A0)) H' sto') (hc : CellOk K S (plus [b] (hd S Fs A0)) H' b c) : ∃ S' Fs', Sr K C S0 S' A0 H0 (σ.set i (some (.ref b))) H' (env.set i (.sh (tokD sto'.length))) (sto' ++ [c]) Fs' := by
  have r2 := r.mut (i := i) (H' := H') (F := [b]) (s := .no) (ov := some (.ref b)) hi (fun b' o h1 _ h2 => x b' o h1 h2) w (List.nodup_cons.mpr ⟨List.not_mem_nil, List.nodup_nil⟩) (fun a h => .inl (by rw [List.mem_singleton.mp h]; exact hb)) trivial
  have hc2 : CellOk K S (hd S (setF Fs i [b]) A0) H' b c := hc.keep (hid_le (hd_set r)) (fun _ h => h) fun _ _ h => h
  have r3 := r2.toCell (i := i) (b := b) (c := c) (by rw [List.length_set]; exact hi) (by unfold setF; rw [if_pos rfl]) (by rw [List.getElem?_set, if_pos rfl, if_pos (by rw [← r.len]; exact hi)]) hc2
  rw [List.set_set, w.len] at r3
  exact ⟨_, _, r3⟩
theorem js_dcomp {t : Bool} {tg it kx vx : Expr} {scope : Scope} {own : List (Str × Nat)} {cpos : Pos} {fi : EvI} {bd : Bd} {fk fv : Ev} (hu : X.A.units < cLine) (hc : X.calm = true) (hN : X.N.Nodup) (hy : X.N[i]? = some x) (hx : Loc X.env.scope x)
    (hi : JI X tg it fi) (ok : BlkOk X.N X.env.scope scope own) (hg : JG X scope tg bd) (hk : JPB X scope kx fk 0) (hv : JPB X scope vx fv 0) (hown : ∀ d l, bd d = some l → ∀ p ∈ l, p.1 ∈ own.map (·.2)) (hs : ∀ x, foldedSetIterable it X.env x = pure x)
    (hsw : swapsWith (.DictComp kx vx [⟨tg, it, [], 0⟩] scope cpos) (some (.Name x p)) pos.line X.env = pure false := by rfl) (hf : X.fn x = true ∨ X.env.scope.names.lookup x = some .local := by first | exact .inl rfl | exact .inr rfl | assumption) :
    JS Z X (.Assign [.Name x p] (.DictComp kx vx [⟨tg, it, [], 0⟩] scope cpos) pos) (sNewDC t i fi bd fk fv (own.map (·.2))) k := fun C S0 S A0 H0 σ H env sto Fs o env' sto' E hZ r q z => by
  obtain ⟨g, hg1, hg2⟩ := hg
  unfold sNewDC at q
  split at q
  case isFalse => cases q
  rename_i hlt
  obtain ⟨⟨ds, s1⟩, q1, q⟩ := bind_some' q
  simp only at q
  split at q
  case isFalse => cases q
  rename_i hlen
  obtain ⟨⟨esF, s2⟩, q2, q⟩ := map_some' q
  cases q
  refine wpS.by (ps_set hN hy hx (pe_dcn (t := t) hu hc hN wpI_pi ok hg1 wpEB_pe wpEB_pe hs) hsw hf) (dc_read hi hg2 hk hv hown (r.wdM []) (r.rdM []) q1 hlen q2 fun D H' hD x' w' c' => ?_)
  rw [hdM_nil] at w' c'
  obtain ⟨S', Fs', r'⟩ := r.newCell2 hlt hD x' w' c'
  exact z S' _ _ Fs' r'
end
end J
namespace J
open PySem PySem.Spec PyProof.Rows L2
/-! ### list(range(a, b, c)) -/
def eLRg3 (fa : EvA) : Ev := fun vw s => (fa vw s).bind fun p => match p.1 with
  | [.int i, .int j, .int c] => if (c ≠ 0 ∧ c.natAbs < 1073741824) ∧ Builtin.Range.small i j c = true ∧ Builtin.Range.rangeSize i j c = ((Builtin.Range.rangeSize i j c).toNat : Nat) ∧ (Builtin.Range.rangeSize i j c).toNat ≤ 16777216 then some (.list (rgD i c (Builtin.Range.rangeSize i j c).toNat), p.2) else none
  | _ => none
section
variable {X : Cx} {a b c : Expr} {fa : EvA} {p p2 pos pos2 : Pos}
def rgV3 (i c : Int) (n : Nat) : List V := (List.range n).map fun k : Nat => V.int (i + (k : Nat) * c)
theorem rg3_rp {K : PySem.W.Frag} {S : List Addr} {H : Hp} (i c : Int) (n : Nat) : RpA K S H (rgV3 i c n) (rgD i c n) := by
  unfold rgV3 rgD
  induction List.range n with
  | nil => exact .nil
  | cons x l ih => exact .cons (.int _) ih
theorem rgV3_vals {i c : Int} {n : Nat} {acc : Array Value} (h : ItemsOf (fun k v => ∃ t, v = .int (i + k * c) t) acc n) : Vals (rgV3 i c n) acc.toList := by
  have e : acc.toList.length = n := by rw [Array.length_toList]; exact h.1
  unfold rgV3
  rw [← e]
  exact vals_of_get acc.toList _ fun k u hk => h.2 k u (by rw [← hk, Array.getElem?_toList])
def tL3 (ta : TA) : TE := fun σ H Q => ta σ H fun vs H1 => ∃ (i j c : Int) (n : Nat), vs = [.int i, .int j, .int c] ∧ RgC i j c n ∧ n ≤ 16777216 ∧ ∀ q, H1 q = none → Q (.ref q) (upd H1 q (.lst (rgV3 i c n)))
theorem pe_list3 {ta : TA} (ha : PA X [a, b, c] ta) (hc : X.calm = true) (hg : Gl X "range") (hm : X.mg "range" = none) (hg2 : Gl X "list") (hm2 : X.mg "list" = none)
    (hs : starEach [a, b, c] X.env = (false, eval a X.env) :: starEach [b, c] X.env) (hpl : (backTo pos2 (starEach [b, c] X.env)).any (·.1) = false)
    (na : starEach [.Call (.Name "range" p2) [a, b, c] [] pos2] X.env = (false, eval (.Call (.Name "range" p2) [a, b, c] [] pos2) X.env) :: starEach [] X.env) :
    PE X (.Call (.Name "list" p) [.Call (.Name "range" p2) [a, b, c] [] pos2] [] pos) (tL3 ta) := by
  refine ⟨fun pins s σ H Q I h => Call_ (ld_blt I hg2 hm2 boot_list (PyProof.Rows.callWith_type1 (args_cons (Call_ (ld_blt I hg hm boot_range (PyProof.Rows.callWith_type1 (thn (ha.run pos2 pins s σ H _ I h) fun us s1 q1 => ?_) hs hpl))) na) na))⟩
  obtain ⟨vs, H1, I1, r1, i, j, k, n, e, ⟨c0, c1, c2, c3⟩, hn, q⟩ := q1
  cases e
  obtain ⟨u1, u2, u3, rfl⟩ : ∃ u1 u2 u3, us = [u1, u2, u3] := by
    have := r1.length
    match us, this with
    | [x, y, z], _ => exact ⟨x, y, z, rfl⟩
  obtain ⟨t1, rfl⟩ : RelV (.int i) u1 := by cases r1; assumption
  obtain ⟨t2, rfl⟩ : RelV (.int j) u2 := by cases r1 with | cons _ r => cases r; assumption
  obtain ⟨t3, rfl⟩ : RelV (.int k) u3 := by cases r1 with | cons _ r => cases r with | cons _ r => cases r; assumption
  refine call_range_3 c0 (args_nil ?_) (.inl (PyProof.noPylong_small c1))
  have I2 : L2.Inv X pins σ H1 { s1 with heap := s1.heap.push { cls := .type "range", data := .fields #[.int i t1, .int j t2, .int k t3] } } := I1.kept (t' := s1.toks) fun b o e => Heap.get?_push_of_some _ e
  refine call_list_range (n := n) (I2.ok.hd hc) (IsRange.new ..) c2 c3 (by omega) fun h' tk acc cc hk e' hi => ?_
  refine ⟨.ref _, upd H1 _ (.lst (rgV3 i k n)), I2.laid hk (Nat.le_refl _) ?_, rfl, q _ (I2.hok.fresh (Nat.le_refl _))⟩
  refine ⟨?_, acc.toList, cc, rgV3_vals hi, ?_⟩
  · rw [sizeLine_eq]
    unfold rgV3
    rw [List.length_map, List.length_range]
    omega
  · rw [Array.toArray_toList]
    exact e'
theorem jp_listRg3 (ha : JA X [a, b, c] fa 0) (hc : X.calm = true) (hg : Gl X "range") (hm : X.mg "range" = none) (hg2 : Gl X "list") (hm2 : X.mg "list" = none)
    (hs : starEach [a, b, c] X.env = (false, eval a X.env) :: starEach [b, c] X.env := by rfl) (hpl : (backTo pos2 (starEach [b, c] X.env)).any (·.1) = false := by rfl)
    (na : starEach [.Call (.Name "range" p2) [a, b, c] [] pos2] X.env = (false, eval (.Call (.Name "range" p2) [a, b, c] [] pos2) X.env) :: starEach [] X.env := by rfl) :
    JP X (.Call (.Name "list" p) [.Call (.Name "range" p2) [a, b, c] [] pos2] [] pos) (eLRg3 fa) 1 := fun A S σ H vw sto d sto' Q w r q z => by
  unfold eLRg3 at q
  obtain ⟨⟨ds, s1⟩, e1, q⟩ := bind_some' q
  simp only at q
  split at q
  case h_2 => cases q
  rename_i i j k
  split at q
  case isFalse => cases q
  rename_i hb
  cases q
  refine wpE.by (pe_list3 wpA_pa hc hg hm hg2 hm2 hs hpl na) (ha.use w r e1 fun vs H1 x1 w1 r1 p1 => ?_)
  refine ⟨i, j, k, _, ?_, ⟨hb.1.1, hb.1.2, hb.2.1, hb.2.2.1⟩, hb.2.2.2, fun l hl => z _ _ [l] ((Res.lst w1 (.shared w1 (rg3_rp i k _)) hl).later x1 w1)⟩
  cases p1 with
  | cons x p1 => cases p1 with
    | cons y p1 => cases p1 with
      | cons u p1 =>
        cases p1
        rw [x.intI, y.intI, u.intI]
end
end J
namespace K33
open PySem PySem.Spec PyProof.Rows L2 J
def topS (i : Nat) : Stmt := PySem.Challenge.pw_twopartings_k33_changes_by_all_marks.main.body.getD i (.Pass ⟨0, 0, 0, 0⟩)
abbrev s_is_integer : Stmt := topS 6
theorem sc_is_integer : FnScope ["thing"] ["thing"] (defScope s_is_integer) := ⟨rfl, rfl, rfl, by decide +kernel, rfl, by decide +kernel, by decide +kernel⟩
def b_is_integer : Sv := (sSeq (sRet [] (eAnd (eUn (dIsi "int") (eVar 0)) (eUn dNot (eUn (dIsi "bool") (eVar 0)))))
    sNil)
def F_is_integer : FnD := fnD 1 b_is_integer
theorem ok_is_integer {P : Program} {w : World} {K : PySem.W.Frag} {mg : Str → Option Value} {base : Heap} (D : Dfn K mg "is_integer" s_is_integer)
    (z_bool : mg "bool" = none)
    (z_int : mg "int" = none)
    (z_isinstance : mg "isinstance" = none) :
    Cal P w K mg base "is_integer" s_is_integer ["thing"] 1 F_is_integer 0 :=
  cal_def D sc_is_integer fun f cdv A outer s H hr hg => by
    unfold b_is_integer
    refine jss_cons ?_ jss_nil
    refine js_ret (M := []) ?_
    refine jp_and ?_ ?_
    · refine jp_isi ist_int (jv 0) ?_ ?_ ?_ ?_ ?_
      · rfl
      · exact z_isinstance
      · rfl
      · exact z_int
      · decide +kernel
    · refine jp_one ?_
      refine jp_not ?_
      refine jp_isi ist_bool (jv 0) ?_ ?_ ?_ ?_ ?_
      · rfl
      · exact z_isinstance
      · rfl
      · exact z_bool
      · decide +kernel
abbrev s_is_row : Stmt := topS 7
theorem sc_is_row : FnScope ["many", "thing", "one", "other", "item"] ["many", "thing"] (defScope s_is_row) := ⟨rfl, rfl, rfl, by decide +kernel, rfl, by decide +kernel, by decide +kernel⟩
def c_is_row_1 : Ev := (eComp (iVal (eVar 1)) (bN 4) tY (eAnd (eCall F_is_integer [0] (aApp (aC (eVar 4) aN) aN)) (eChain dLe dLt (eC (.int 0)) (eVar 4) (eVar 0))) [4])
def c_is_row_2 : Ev := (eComp (iB (fun x y => (isLst x).bind fun ds => (isLst y).map fun es => ziD ds es) (eVar 1) (eSl (eVar 1) (oS (eC (.int 1))) oN)) (bT2 2 3) tY (eBin dLt (eVar 2) (eVar 3)) [2, 3])
def b_is_row : Sv := (sSeq (sIf [] (oT (nT (bT (eUn (dIsi "list") (eVar 1)))) (nT (bT (eOp cAll (aC c_is_row_1 aN)))))
    (sSeq (sRet [] (eC (.bool false)))
    sNil)
    sNil)
    (sSeq (sRet [] (eOp cAll (aC c_is_row_2 aN)))
    sNil))
def F_is_row : FnD := fnD 5 b_is_row
theorem ok_is_row {P : Program} {w : World} {K : PySem.W.Frag} {mg : Str → Option Value} {base : Heap} (D : Dfn K mg "is_row" s_is_row)
    (q_is_integer : Cal P w K mg base "is_integer" s_is_integer ["thing"] 1 F_is_integer 0)
    (z_all : mg "all" = none)
    (z_isinstance : mg "isinstance" = none)
    (z_list : mg "list" = none)
    (z_zip : mg "zip" = none) :
    Cal P w K mg base "is_row" s_is_row ["many", "thing"] 2 F_is_row 0 :=
  cal_def D sc_is_row fun f cdv A outer s H hr hg => by
    unfold b_is_row
    refine jss_cons ?_ ?_
    · refine js_if (M := []) ?_ ?_ jss_nil
      · refine jt_pw ?_
        refine jw_or ?_ ?_
        · refine jt_not ?_
          refine jt_val ?_ ?_
          · refine jp_isi ist_list (jv 1) ?_ ?_ ?_ ?_ ?_
            · rfl
            · exact z_isinstance
            · rfl
            · exact z_list
            · decide +kernel
          · exact fun _ => rfl
        · refine jw_or1 ?_
          refine jt_not ?_
          refine jt_val ?_ ?_
          · refine jp_callB (cj_all ?_) ?_ ?_ ?_ ?_
            · rfl
            · rfl
            · exact z_all
            · decide +kernel
            · refine ja_cons ?_ ja_nil
              refine JP.zero (k := 1) ?_
              refine jp_comp (own := [("item", 4)]) ?_ ?_ ?_ ?_ ?_ jts_nil (fun _ _ _ _ _ => ?_) ho_n ?_
              · rfl
              · exact sc_is_row.nd
              · exact ji_val (jv 1)
              · refine blkOk_by (N := ["many", "thing", "one", "other", "item"]) (sc := defScope s_is_row) ?_
                decide +kernel
              · refine jg_n ?_ ?_ ?_
                · exact sc_is_row.nd
                · rfl
                · exact fun _ _ _ _ _ => .inl rfl
              · refine jp_and ?_ ?_
                · refine jp_cal (st := s_is_integer) (ps := ["thing"]) (n := 1) (ks := []) (perm := [0]) (j := 1) (l := 1) ?_ ?_ ?_ ?_ ?_ ?_ (len_aC len_aN) jk_nil len_aN
                  · exact q_is_integer
                  · omega
                  · exact hr
                  · exact hg
                  · exact fun _ _ _ _ _ _ us ws h1 h2 => match us, ws, h1, h2 with | [_], [], _, _ => rfl
                  · exact ja_cons (jv 4) ja_nil
                · refine jp_one ?_
                  refine jp_chain oj_le (oj_lt ?_) jp_int (jv 4) (jv 0) ?_
                  · exact u64 hr
                  · rfl
              · exact fun _ => rfl
          · exact fun _ => rfl
      · refine jss_cons ?_ jss_nil
        exact js_ret (M := []) jp_bl
    · refine jss_cons ?_ jss_nil
      refine js_ret (M := []) ?_
      refine jp_callB (cj_all ?_) ?_ ?_ ?_ ?_
      · rfl
      · rfl
      · exact z_all
      · decide +kernel
      · refine ja_cons ?_ ja_nil
        refine JP.zero (k := 1) ?_
        refine jp_comp (own := [("one", 2), ("other", 3)]) ?_ ?_ ?_ ?_ ?_ jts_nil (fun _ _ _ _ _ => ?_) ho_t ?_
        · rfl
        · exact sc_is_row.nd
        · refine ji_zip (jv 1) ?_ ?_ ?_
          · refine JP.zero (k := 1) ?_
            refine jp_slice (jv 1) ?_ jo_none
            exact jo_some jp_int
          · rfl
          · exact z_zip
        · refine blkOk_by (N := ["many", "thing", "one", "other", "item"]) (sc := defScope s_is_row) ?_
          decide +kernel
        · refine jg_t ?_ ?_ ?_ ?_ ?_
          · exact sc_is_row.nd
          · rfl
          · rfl
          · exact fun _ _ _ _ _ => .inl rfl
          · exact fun _ _ _ _ _ => .inl rfl
        · refine jp_cmp (oj_lt ?_) (jv 2) (jv 3) (nomark _)
          exact u64 hr
        · exact fun _ => rfl
abbrev s_is_group : Stmt := topS 8
theorem sc_is_group : FnScope ["many", "thing"] ["many", "thing"] (defScope s_is_group) := ⟨rfl, rfl, rfl, by decide +kernel, rfl, by decide +kernel, by decide +kernel⟩
def b_is_group : Sv := (sSeq (sRet [] (eAnd (eCall F_is_row [0, 1] (aApp (aC (eVar 0) (aC (eVar 1) aN)) aN)) (eBin dGt (eOp cLen (aC (eVar 1) aN)) (eC (.int 1)))))
    sNil)
def F_is_group : FnD := fnD 2 b_is_group
theorem ok_is_group {P : Program} {w : World} {K : PySem.W.Frag} {mg : Str → Option Value} {base : Heap} (D : Dfn K mg "is_group" s_is_group)
    (q_is_row : Cal P w K mg base "is_row" s_is_row ["many", "thing"] 2 F_is_row 0)
    (z_len : mg "len" = none) :
    Cal P w K mg base "is_group" s_is_group ["many", "thing"] 3 F_is_group 0 :=
  cal_def D sc_is_group fun f cdv A outer s H hr hg => by
    unfold b_is_group
    refine jss_cons ?_ jss_nil
    refine js_ret (M := []) ?_
    refine jp_and ?_ ?_
    · refine jp_cal (st := s_is_row) (ps := ["many", "thing"]) (n := 2) (ks := []) (perm := [0, 1]) (j := 2) (l := 2) ?_ ?_ ?_ ?_ ?_ ?_ (len_aC (len_aC len_aN)) jk_nil len_aN
      · exact q_is_row
      · omega
      · exact hr
      · exact hg
      · exact fun _ _ _ _ _ _ us ws h1 h2 => match us, ws, h1, h2 with | [_, _], [], _, _ => rfl
      · refine ja_cons (jv 0) ?_
        exact ja_cons (jv 1) ja_nil
    · refine jp_one ?_
      refine jp_cmp oj_gt ?_ jp_int (nomark _)
      refine jp_callB cj_len ?_ ?_ ?_ ?_
      · rfl
      · exact z_len
      · decide +kernel
      · exact ja_cons (jv 1) ja_nil
abbrev s_lies_in : Stmt := topS 9
theorem sc_lies_in : FnScope ["inner", "group", "person"] ["inner", "group"] (defScope s_lies_in) := ⟨rfl, rfl, rfl, by decide +kernel, rfl, by decide +kernel, by decide +kernel⟩
def c_lies_in_1 : Ev := (eComp (iVal (eVar 0)) (bN 2) tY (eBin dIn (eVar 2) (eVar 1)) [2])
def b_lies_in : Sv := (sSeq (sRet [] (eOp cAll (aC c_lies_in_1 aN)))
    sNil)
def F_lies_in : FnD := fnD 3 b_lies_in
theorem ok_lies_in {P : Program} {w : World} {K : PySem.W.Frag} {mg : Str → Option Value} {base : Heap} (D : Dfn K mg "lies_in" s_lies_in)
    (z_all : mg "all" = none) :
    Cal P w K mg base "lies_in" s_lies_in ["inner", "group"] 1 F_lies_in 0 :=
  cal_def D sc_lies_in fun f cdv A outer s H hr hg => by
    unfold b_lies_in
    refine jss_cons ?_ jss_nil
    refine js_ret (M := []) ?_
    refine jp_callB (cj_all ?_) ?_ ?_ ?_ ?_
    · rfl
    · rfl
    · exact z_all
    · decide +kernel
    · refine ja_cons ?_ ja_nil
      refine JP.zero (k := 1) ?_
      refine jp_comp (own := [("person", 2)]) ?_ ?_ ?_ ?_ ?_ jts_nil (fun _ _ _ _ _ => ?_) ho_n ?_
      · rfl
      · exact sc_lies_in.nd
      · exact ji_val (jv 0)
      · refine blkOk_by (N := ["inner", "group", "person"]) (sc := defScope s_lies_in) ?_
        decide +kernel
      · refine jg_n ?_ ?_ ?_
        · exact sc_lies_in.nd
        · rfl
        · exact fun _ _ _ _ _ => .inl rfl
      · refine jp_cmp (oj_in ?_) (jv 2) (jv 1) ?_
        · exact u65 hr
        · rfl
      · exact fun _ => rfl
abbrev s_parts_in : Stmt := topS 10
theorem sc_parts_in : FnScope ["parting", "group", "first", "other", "person"] ["parting", "group"] (defScope s_parts_in) := ⟨rfl, rfl, rfl, by decide +kernel, rfl, by decide +kernel, by decide +kernel⟩
def l_parts_in_1 : Sv := (sSeq (sIf [] (aT (bT (eChain dLt dLt (eOp cLen (aC (eVar 2) aN)) (eOp cLen (aC (eVar 3) aN)) (eOp cLen (aC (eVar 1) aN)))) (bT (eBin dIn (eIdx (eVar 1) (eC (.int 0))) (eVar 3))))
    (sSeq (sSet 2 0 [] (eOp cList (aC (eVar 3) aN)))
    sNil)
    sNil)
    sNil)
def c_parts_in_1 : Ev := (eComp (iVal (eVar 1)) (bN 4) (bT (eBin dNotIn (eVar 4) (eVar 2))) (eVar 4) [4])
def b_parts_in : Sv := (sSeq (sSet 2 0 [] (eSl (eVar 1) oN (oS (eC (.int 1)))))
    (sSeq (sFor [] (iVal (eVar 0)) (bN 3)
    l_parts_in_1)
    (sSeq (sRet [] (eLst (aC (eVar 2) (aC c_parts_in_1 aN))))
    sNil)))
def F_parts_in : FnD := fnD 5 b_parts_in
theorem ok_parts_in {P : Program} {w : World} {K : PySem.W.Frag} {mg : Str → Option Value} {base : Heap} (D : Dfn K mg "parts_in" s_parts_in)
    (z_len : mg "len" = none)
    (z_list : mg "list" = none) :
    Cal P w K mg base "parts_in" s_parts_in ["parting", "group"] 1 F_parts_in 0 :=
  cal_def D sc_parts_in fun f cdv A outer s H hr hg => by
    unfold b_parts_in
    refine jss_cons ?_ ?_
    · refine js_set (i := 2) (M := []) ?_ ?_ ?_ ?_
      · refine JP.zero (k := 1) ?_
        refine jp_slice (jv 1) jo_none ?_
        exact jo_some jp_int
      · exact sc_parts_in.nd
      · rfl
      · exact .inr rfl
    · refine jss_cons ?_ ?_
      · refine js_for (M := []) ?_ ?_ ?_ ?_ gspec_name ?_
        · exact PassesOwn.never
        · rfl
        · exact ji_val (jv 0)
        · refine pg_name (i := 3) ?_ ?_ ?_
          · exact sc_parts_in.nd
          · rfl
          · exact .inl rfl
        · refine jss_cons ?_ jss_nil
          refine js_if (M := []) ?_ ?_ jss_nil
          · refine jt_pw ?_
            refine jw_and ?_ ?_
            · refine jt_chain (oj_lt ?_) (oj_lt ?_) ?_ ?_ ?_ ?_
              · exact u64 hr
              · exact u64 hr
              · refine jp_callB cj_len ?_ ?_ ?_ ?_
                · rfl
                · exact z_len
                · decide +kernel
                · exact ja_cons (jv 2) ja_nil
              · refine jp_callB cj_len ?_ ?_ ?_ ?_
                · rfl
                · exact z_len
                · decide +kernel
                · exact ja_cons (jv 3) ja_nil
              · refine jp_callB cj_len ?_ ?_ ?_ ?_
                · rfl
                · exact z_len
                · decide +kernel
                · exact ja_cons (jv 1) ja_nil
              · rfl
            · refine jw_and1 ?_
              refine jt_cmp (oj_in ?_) ?_ (jv 3) ?_
              · exact u65 hr
              · refine jp_idx (jv 1) jp_int ?_
                exact fun _ _ => rfl
              · rfl
          · refine jss_cons ?_ jss_nil
            refine js_set (i := 2) (M := []) ?_ ?_ ?_ ?_
            · refine JP.zero (k := 1) ?_
              refine jp_callTy cj_list ?_ ?_ ?_ ?_
              · rfl
              · exact z_list
              · decide +kernel
              · exact ja_cons (jv 3) ja_nil
            · exact sc_parts_in.nd
            · rfl
            · exact .inr rfl
      · refine jss_cons ?_ jss_nil
        refine js_ret (M := []) ?_
        refine JP.zero (k := 1) ?_
        refine jp_lst ?_
        refine ja_cons (jv 2) ?_
        refine ja_cons ?_ ja_nil
        refine JP.zero (k := 1) ?_
        refine jp_comp (own := [("person", 4)]) ?_ ?_ ?_ ?_ ?_ ?_ (fun _ _ _ _ _ => (jv 4)) ho_n ?_
        · rfl
        · exact sc_parts_in.nd
        · exact ji_val (jv 1)
        · refine blkOk_by (N := ["parting", "group", "first", "other", "person"]) (sc := defScope s_parts_in) ?_
          decide +kernel
        · refine jg_n ?_ ?_ ?_
          · exact sc_parts_in.nd
          · rfl
          · exact fun _ _ _ _ _ => .inl rfl
        · refine jts_one (fun _ _ _ _ _ => ?_)
          refine jt_cmp (oj_notIn ?_) (jv 4) (jv 2) ?_
          · exact u65 hr
          · rfl
        · exact fun _ => rfl
abbrev s_has_parts : Stmt := topS 11
theorem sc_has_parts : FnScope ["groups", "group", "first", "second"] ["groups", "group"] (defScope s_has_parts) := ⟨rfl, rfl, rfl, by decide +kernel, rfl, by decide +kernel, by decide +kernel⟩
def b_has_parts : Sv := (sSeq (sBind [] (bL2 2 3) (eCall F_parts_in [0, 1] (aApp (aC (eVar 0) (aC (eVar 1) aN)) aN)))
    (sSeq (sRet [] (eAnd (eCall F_lies_in [0, 1] (aApp (aC (eVar 2) (aC (eVar 1) aN)) aN)) (eOr (eBin dEq (eOp cLen (aC (eVar 3) aN)) (eC (.int 1))) (eBin dIn (eVar 3) (eVar 0)))))
    sNil))
def F_has_parts : FnD := fnD 4 b_has_parts
theorem ok_has_parts {P : Program} {w : World} {K : PySem.W.Frag} {mg : Str → Option Value} {base : Heap} (D : Dfn K mg "has_parts" s_has_parts)
    (q_lies_in : Cal P w K mg base "lies_in" s_lies_in ["inner", "group"] 1 F_lies_in 0)
    (q_parts_in : Cal P w K mg base "parts_in" s_parts_in ["parting", "group"] 1 F_parts_in 0)
    (z_len : mg "len" = none) :
    Cal P w K mg base "has_parts" s_has_parts ["groups", "group"] 2 F_has_parts 0 :=
  cal_def D sc_has_parts fun f cdv A outer s H hr hg => by
    unfold b_has_parts
    refine jss_cons ?_ ?_
    · refine js_bind (M := []) ?_ ?_ gspec_lst2
      · refine jp_cal (st := s_parts_in) (ps := ["parting", "group"]) (n := 2) (ks := []) (perm := [0, 1]) (j := 1) (l := 1) ?_ ?_ ?_ ?_ ?_ ?_ (len_aC (len_aC len_aN)) jk_nil len_aN
        · exact q_parts_in
        · omega
        · exact hr
        · exact hg
        · exact fun _ _ _ _ _ _ us ws h1 h2 => match us, ws, h1, h2 with | [_, _], [], _, _ => rfl
        · refine ja_cons (jv 0) ?_
          exact ja_cons (jv 1) ja_nil
      · refine pg_unl ?_ (pgs_cons (pg_name (i := 2) ?_ ?_ ?_) (pgs_cons (pg_name (i := 3) ?_ ?_ ?_) pgs_nil))
        · rfl
        · exact sc_has_parts.nd
        · rfl
        · exact .inl rfl
        · exact sc_has_parts.nd
        · rfl
        · exact .inl rfl
    · refine jss_cons ?_ jss_nil
      refine js_ret (M := []) ?_
      refine jp_and ?_ ?_
      · refine jp_cal (st := s_lies_in) (ps := ["inner", "group"]) (n := 2) (ks := []) (perm := [0, 1]) (j := 1) (l := 1) ?_ ?_ ?_ ?_ ?_ ?_ (len_aC (len_aC len_aN)) jk_nil len_aN
        · exact q_lies_in
        · omega
        · exact hr
        · exact hg
        · exact fun _ _ _ _ _ _ us ws h1 h2 => match us, ws, h1, h2 with | [_, _], [], _, _ => rfl
        · refine ja_cons (jv 2) ?_
          exact ja_cons (jv 1) ja_nil
      · refine jp_one ?_
        refine jp_or ?_ ?_
        · refine jp_cmp (oj_eq ?_) ?_ jp_int (nomark _)
          · exact u64 hr
          · refine jp_callB cj_len ?_ ?_ ?_ ?_
            · rfl
            · exact z_len
            · decide +kernel
            · exact ja_cons (jv 3) ja_nil
        · refine jp_one ?_
          refine jp_cmp (oj_in ?_) (jv 3) (jv 0) ?_
          · exact u65 hr
          · rfl
abbrev s_is_parting : Stmt := topS 12
theorem sc_is_parting : FnScope ["thing", "group", "one", "other"] ["thing"] (defScope s_is_parting) := ⟨rfl, rfl, rfl, by decide +kernel, rfl, by decide +kernel, by decide +kernel⟩
def c_is_parting_1 : Ev := (eComp (iVal (eVar 0)) (bN 1) tY (eCall F_is_group [0, 1] (aApp (aC (eBin dAdd (eOp cLen (aC (eVar 0) aN)) (eC (.int 1))) (aC (eVar 1) aN)) aN)) [1])
def c_is_parting_2 : Ev := (eComp (iB (fun x y => (isLst x).bind fun ds => (isLst y).map fun es => ziD ds es) (eVar 0) (eSl (eVar 0) (oS (eC (.int 1))) oN)) (bT2 2 3) tY (eBin dLt (eVar 2) (eVar 3)) [2, 3])
def c_is_parting_3 : Ev := (eComp (iVal (eVar 0)) (bN 1) tY (eCall F_has_parts [0, 1] (aApp (aC (eVar 0) (aC (eVar 1) aN)) aN)) [1])
def b_is_parting : Sv := (sSeq (sIf [] (oT (nT (bT (eUn (dIsi "list") (eVar 0)))) (bT (eBin dGe (eOp cLen (aC (eVar 0) aN)) (eC (.int 20)))))
    (sSeq (sRet [] (eC (.bool false)))
    sNil)
    sNil)
    (sSeq (sIf [] (nT (bT (eOp cAll (aC c_is_parting_1 aN))))
    (sSeq (sRet [] (eC (.bool false)))
    sNil)
    sNil)
    (sSeq (sIf [] (nT (bT (eOp cAll (aC c_is_parting_2 aN))))
    (sSeq (sRet [] (eC (.bool false)))
    sNil)
    sNil)
    (sSeq (sIf [] (aT (bT (eBin dNe (eVar 0) (eLst aN))) (bT (eBin dNotIn (eLRg (r1 (eBin dAdd (eOp cLen (aC (eVar 0) aN)) (eC (.int 1))))) (eVar 0))))
    (sSeq (sRet [] (eC (.bool false)))
    sNil)
    sNil)
    (sSeq (sRet [] (eOp cAll (aC c_is_parting_3 aN)))
    sNil)))))
def F_is_parting : FnD := fnD 4 b_is_parting
theorem ok_is_parting {P : Program} {w : World} {K : PySem.W.Frag} {mg : Str → Option Value} {base : Heap} (D : Dfn K mg "is_parting" s_is_parting)
    (q_is_group : Cal P w K mg base "is_group" s_is_group ["many", "thing"] 3 F_is_group 0)
    (q_has_parts : Cal P w K mg base "has_parts" s_has_parts ["groups", "group"] 2 F_has_parts 0)
    (z_all : mg "all" = none)
    (z_isinstance : mg "isinstance" = none)
    (z_len : mg "len" = none)
    (z_list : mg "list" = none)
    (z_range : mg "range" = none)
    (z_zip : mg "zip" = none)
    {t_MOST_PERSONS : Tok} (c_MOST_PERSONS : mg "MOST_PERSONS" = some (.int 20 t_MOST_PERSONS)) :
    Cal P w K mg base "is_parting" s_is_parting ["thing"] 4 F_is_parting 0 :=
  cal_def D sc_is_parting fun f cdv A outer s H hr hg => by
    unfold b_is_parting
    refine jss_cons ?_ ?_
    · refine js_if (M := []) ?_ ?_ jss_nil
      · refine jt_pw ?_
        refine jw_or ?_ ?_
        · refine jt_not ?_
          refine jt_val ?_ ?_
          · refine jp_isi ist_list (jv 0) ?_ ?_ ?_ ?_ ?_
            · rfl
            · exact z_isinstance
            · rfl
            · exact z_list
            · decide +kernel
          · exact fun _ => rfl
        · refine jw_or1 ?_
          refine jt_cmp oj_ge ?_ ?_ (nomark _)
          · refine jp_callB cj_len ?_ ?_ ?_ ?_
            · rfl
            · exact z_len
            · decide +kernel
            · exact ja_cons (jv 0) ja_nil
          · refine jp_glob (t := t_MOST_PERSONS) ?_ ?_
            · rfl
            · exact c_MOST_PERSONS
      · refine jss_cons ?_ jss_nil
        exact js_ret (M := []) jp_bl
    · refine jss_cons ?_ ?_
      · refine js_if (M := []) ?_ ?_ jss_nil
        · refine jt_not ?_
          refine jt_val ?_ ?_
          · refine jp_callB (cj_all ?_) ?_ ?_ ?_ ?_
            · rfl
            · rfl
            · exact z_all
            · decide +kernel
            · refine ja_cons ?_ ja_nil
              refine JP.zero (k := 1) ?_
              refine jp_comp (own := [("group", 1)]) ?_ ?_ ?_ ?_ ?_ jts_nil (fun _ _ _ _ _ => ?_) ho_n ?_
              · rfl
              · exact sc_is_parting.nd
              · exact ji_val (jv 0)
              · refine blkOk_by (N := ["thing", "group", "one", "other"]) (sc := defScope s_is_parting) ?_
                decide +kernel
              · refine jg_n ?_ ?_ ?_
                · exact sc_is_parting.nd
                · rfl
                · exact fun _ _ _ _ _ => .inl rfl
              · refine jp_cal (st := s_is_group) (ps := ["many", "thing"]) (n := 2) (ks := []) (perm := [0, 1]) (j := 3) (l := 3) ?_ ?_ ?_ ?_ ?_ ?_ (len_aC (len_aC len_aN)) jk_nil len_aN
                · exact q_is_group
                · omega
                · exact hr
                · exact hg
                · exact fun _ _ _ _ _ _ us ws h1 h2 => match us, ws, h1, h2 with | [_, _], [], _, _ => rfl
                · refine ja_cons ?_ ?_
                  · refine JP.zero (k := 1) ?_
                    refine jp_bin oj_add ?_ jp_int
                    refine jp_callB cj_len ?_ ?_ ?_ ?_
                    · rfl
                    · exact z_len
                    · decide +kernel
                    · exact ja_cons (jv 0) ja_nil
                  · exact ja_cons (jv 1) ja_nil
              · exact fun _ => rfl
          · exact fun _ => rfl
        · refine jss_cons ?_ jss_nil
          exact js_ret (M := []) jp_bl
      · refine jss_cons ?_ ?_
        · refine js_if (M := []) ?_ ?_ jss_nil
          · refine jt_not ?_
            refine jt_val ?_ ?_
            · refine jp_callB (cj_all ?_) ?_ ?_ ?_ ?_
              · rfl
              · rfl
              · exact z_all
              · decide +kernel
              · refine ja_cons ?_ ja_nil
                refine JP.zero (k := 1) ?_
                refine jp_comp (own := [("one", 2), ("other", 3)]) ?_ ?_ ?_ ?_ ?_ jts_nil (fun _ _ _ _ _ => ?_) ho_t ?_
                · rfl
                · exact sc_is_parting.nd
                · refine ji_zip (jv 0) ?_ ?_ ?_
                  · refine JP.zero (k := 1) ?_
                    refine jp_slice (jv 0) ?_ jo_none
                    exact jo_some jp_int
                  · rfl
                  · exact z_zip
                · refine blkOk_by (N := ["thing", "group", "one", "other"]) (sc := defScope s_is_parting) ?_
                  decide +kernel
                · refine jg_t ?_ ?_ ?_ ?_ ?_
                  · exact sc_is_parting.nd
                  · rfl
                  · rfl
                  · exact fun _ _ _ _ _ => .inl rfl
                  · exact fun _ _ _ _ _ => .inl rfl
                · refine jp_cmp (oj_lt ?_) (jv 2) (jv 3) (nomark _)
                  exact u64 hr
                · exact fun _ => rfl
            · exact fun _ => rfl
          · refine jss_cons ?_ jss_nil
            exact js_ret (M := []) jp_bl
        · refine jss_cons ?_ ?_
          · refine js_if (M := []) ?_ ?_ jss_nil
            · refine jt_pw ?_
              refine jw_and ?_ ?_
              · refine jt_cmp (oj_ne ?_) (jv 0) ?_ (nomark _)
                · exact u64 hr
                · refine JP.zero (k := 1) ?_
                  exact jp_lst ja_nil
              · refine jw_and1 ?_
                refine jt_cmp (oj_notIn ?_) ?_ (jv 0) ?_
                · exact u65 hr
                · refine JP.zero (k := 1) ?_
                  refine jp_listRg ?_ ?_ ?_ ?_
                  · refine jrg_1 ?_ ?_ ?_
                    · refine JP.zero (k := 1) ?_
                      refine jp_bin oj_add ?_ jp_int
                      refine jp_callB cj_len ?_ ?_ ?_ ?_
                      · rfl
                      · exact z_len
                      · decide +kernel
                      · exact ja_cons (jv 0) ja_nil
                    · rfl
                    · exact z_range
                  · rfl
                  · rfl
                  · exact z_list
                · rfl
            · refine jss_cons ?_ jss_nil
              exact js_ret (M := []) jp_bl
          · refine jss_cons ?_ jss_nil
            refine js_ret (M := []) ?_
            refine jp_callB (cj_all ?_) ?_ ?_ ?_ ?_
            · rfl
            · rfl
            · exact z_all
            · decide +kernel
            · refine ja_cons ?_ ja_nil
              refine JP.zero (k := 1) ?_
              refine jp_comp (own := [("group", 1)]) ?_ ?_ ?_ ?_ ?_ jts_nil (fun _ _ _ _ _ => ?_) ho_n ?_
              · rfl
              · exact sc_is_parting.nd
              · exact ji_val (jv 0)
              · refine blkOk_by (N := ["thing", "group", "one", "other"]) (sc := defScope s_is_parting) ?_
                decide +kernel
              · refine jg_n ?_ ?_ ?_
                · exact sc_is_parting.nd
                · rfl
                · exact fun _ _ _ _ _ => .inl rfl
              · refine jp_cal (st := s_has_parts) (ps := ["groups", "group"]) (n := 2) (ks := []) (perm := [0, 1]) (j := 2) (l := 3) ?_ ?_ ?_ ?_ ?_ ?_ (len_aC (len_aC len_aN)) jk_nil len_aN
                · exact q_has_parts
                · omega
                · exact hr
                · exact hg
                · exact fun _ _ _ _ _ _ us ws h1 h2 => match us, ws, h1, h2 with | [_, _], [], _, _ => rfl
                · refine ja_cons (jv 0) ?_
                  exact ja_cons (jv 1) ja_nil
              · exact fun _ => rfl
abbrev s_need_parting : Stmt := topS 13
theorem sc_need_parting : FnScope ["parting"] ["parting"] (defScope s_need_parting) := ⟨rfl, rfl, rfl, by decide +kernel, rfl, by decide +kernel, by decide +kernel⟩
def b_need_parting : Sv := (sSeq (sIf [] (nT (bT (eCall F_is_parting [0] (aApp (aC (eVar 0) aN) aN))))
    (sSeq sNever
    sNil)
    sNil)
    sNil)
def F_need_parting : FnD := fnD 1 b_need_parting
theorem ok_need_parting {P : Program} {w : World} {K : PySem.W.Frag} {mg : Str → Option Value} {base : Heap} (D : Dfn K mg "need_parting" s_need_parting)
    (q_is_parting : Cal P w K mg base "is_parting" s_is_parting ["thing"] 4 F_is_parting 0) :
    Cal P w K mg base "need_parting" s_need_parting ["parting"] 5 F_need_parting 0 :=
  cal_def D sc_need_parting fun f cdv A outer s H hr hg => by
    unfold b_need_parting
    refine jss_cons ?_ jss_nil
    refine js_if (M := []) ?_ ?_ jss_nil
    · refine jt_not ?_
      refine jt_val ?_ ?_
      · refine jp_cal (st := s_is_parting) (ps := ["thing"]) (n := 1) (ks := []) (perm := [0]) (j := 4) (l := 4) ?_ ?_ ?_ ?_ ?_ ?_ (len_aC len_aN) jk_nil len_aN
        · exact q_is_parting
        · omega
        · exact hr
        · exact hg
        · exact fun _ _ _ _ _ _ us ws h1 h2 => match us, ws, h1, h2 with | [_], [], _, _ => rfl
        · exact ja_cons (jv 0) ja_nil
      · exact fun _ => rfl
    · exact jss_cons js_never jss_nil
abbrev s_many_in : Stmt := topS 14
theorem sc_many_in : FnScope ["parting"] ["parting"] (defScope s_many_in) := ⟨rfl, rfl, rfl, by decide +kernel, rfl, by decide +kernel, by decide +kernel⟩
def b_many_in : Sv := (sSeq (sRet [] (eBin dAdd (eOp cLen (aC (eVar 0) aN)) (eC (.int 1))))
    sNil)
def F_many_in : FnD := fnD 1 b_many_in
theorem ok_many_in {P : Program} {w : World} {K : PySem.W.Frag} {mg : Str → Option Value} {base : Heap} (D : Dfn K mg "many_in" s_many_in)
    (z_len : mg "len" = none) :
    Cal P w K mg base "many_in" s_many_in ["parting"] 1 F_many_in 0 :=
  cal_def D sc_many_in fun f cdv A outer s H hr hg => by
    unfold b_many_in
    refine jss_cons ?_ jss_nil
    refine js_ret (M := []) ?_
    refine JP.zero (k := 1) ?_
    refine jp_bin oj_add ?_ jp_int
    refine jp_callB cj_len ?_ ?_ ?_ ?_
    · rfl
    · exact z_len
    · decide +kernel
    · exact ja_cons (jv 0) ja_nil
abbrev s_need_marked : Stmt := topS 16
theorem sc_need_marked : FnScope ["many", "some", "person", "later"] ["many", "some"] (defScope s_need_marked) := ⟨rfl, rfl, rfl, by decide +kernel, rfl, by decide +kernel, by decide +kernel⟩
def c_need_marked_1 : Ev := (eComp (iVal (eVar 1)) (bN 2) tY (eAnd (eCall F_is_integer [0] (aApp (aC (eVar 2) aN) aN)) (eChain dLe dLt (eC (.int 0)) (eVar 2) (eVar 0))) [2])
def c_need_marked_2 : Ev := (eComp (iB (fun x y => (isLst x).bind fun ds => (isLst y).map fun es => ziD ds es) (eVar 1) (eSl (eVar 1) (oS (eC (.int 1))) oN)) (bT2 2 3) tY (eBin dLt (eVar 2) (eVar 3)) [2, 3])
def b_need_marked : Sv := (sSeq (sIf [] (oT (nT (bT (eUn (dIsi "list") (eVar 1)))) (nT (bT (eOp cAll (aC c_need_marked_1 aN)))))
    (sSeq sNever
    sNil)
    sNil)
    (sSeq (sIf [] (nT (bT (eOp cAll (aC c_need_marked_2 aN))))
    (sSeq sNever
    sNil)
    sNil)
    sNil))
def F_need_marked : FnD := fnD 4 b_need_marked
theorem ok_need_marked {P : Program} {w : World} {K : PySem.W.Frag} {mg : Str → Option Value} {base : Heap} (D : Dfn K mg "need_marked" s_need_marked)
    (q_is_integer : Cal P w K mg base "is_integer" s_is_integer ["thing"] 1 F_is_integer 0)
    (z_all : mg "all" = none)
    (z_isinstance : mg "isinstance" = none)
    (z_list : mg "list" = none)
    (z_zip : mg "zip" = none) :
    Cal P w K mg base "need_marked" s_need_marked ["many", "some"] 2 F_need_marked 0 :=
  cal_def D sc_need_marked fun f cdv A outer s H hr hg => by
    unfold b_need_marked
    refine jss_cons ?_ ?_
    · refine js_if (M := []) ?_ ?_ jss_nil
      · refine jt_pw ?_
        refine jw_or ?_ ?_
        · refine jt_not ?_
          refine jt_val ?_ ?_
          · refine jp_isi ist_list (jv 1) ?_ ?_ ?_ ?_ ?_
            · rfl
            · exact z_isinstance
            · rfl
            · exact z_list
            · decide +kernel
          · exact fun _ => rfl
        · refine jw_or1 ?_
          refine jt_not ?_
          refine jt_val ?_ ?_
          · refine jp_callB (cj_all ?_) ?_ ?_ ?_ ?_
            · rfl
            · rfl
            · exact z_all
            · decide +kernel
            · refine ja_cons ?_ ja_nil
              refine JP.zero (k := 1) ?_
              refine jp_comp (own := [("person", 2)]) ?_ ?_ ?_ ?_ ?_ jts_nil (fun _ _ _ _ _ => ?_) ho_n ?_
              · rfl
              · exact sc_need_marked.nd
              · exact ji_val (jv 1)
              · refine blkOk_by (N := ["many", "some", "person", "later"]) (sc := defScope s_need_marked) ?_
                decide +kernel
              · refine jg_n ?_ ?_ ?_
                · exact sc_need_marked.nd
                · rfl
                · exact fun _ _ _ _ _ => .inl rfl
              · refine jp_and ?_ ?_
                · refine jp_cal (st := s_is_integer) (ps := ["thing"]) (n := 1) (ks := []) (perm := [0]) (j := 1) (l := 1) ?_ ?_ ?_ ?_ ?_ ?_ (len_aC len_aN) jk_nil len_aN
                  · exact q_is_integer
                  · omega
                  · exact hr
                  · exact hg
                  · exact fun _ _ _ _ _ _ us ws h1 h2 => match us, ws, h1, h2 with | [_], [], _, _ => rfl
                  · exact ja_cons (jv 2) ja_nil
                · refine jp_one ?_
                  refine jp_chain oj_le (oj_lt ?_) jp_int (jv 2) (jv 0) ?_
                  · exact u64 hr
                  · rfl
              · exact fun _ => rfl
          · exact fun _ => rfl
      · exact jss_cons js_never jss_nil
    · refine jss_cons ?_ jss_nil
      refine js_if (M := []) ?_ ?_ jss_nil
      · refine jt_not ?_
        refine jt_val ?_ ?_
        · refine jp_callB (cj_all ?_) ?_ ?_ ?_ ?_
          · rfl
          · rfl
          · exact z_all
          · decide +kernel
          · refine ja_cons ?_ ja_nil
            refine JP.zero (k := 1) ?_
            refine jp_comp (own := [("person", 2), ("later", 3)]) ?_ ?_ ?_ ?_ ?_ jts_nil (fun _ _ _ _ _ => ?_) ho_t ?_
            · rfl
            · exact sc_need_marked.nd
            · refine ji_zip (jv 1) ?_ ?_ ?_
              · refine JP.zero (k := 1) ?_
                refine jp_slice (jv 1) ?_ jo_none
                exact jo_some jp_int
              · rfl
              · exact z_zip
            · refine blkOk_by (N := ["many", "some", "person", "later"]) (sc := defScope s_need_marked) ?_
              decide +kernel
            · refine jg_t ?_ ?_ ?_ ?_ ?_
              · exact sc_need_marked.nd
              · rfl
              · rfl
              · exact fun _ _ _ _ _ => .inl rfl
              · exact fun _ _ _ _ _ => .inl rfl
            · refine jp_cmp (oj_lt ?_) (jv 2) (jv 3) (nomark _)
              exact u64 hr
            · exact fun _ => rfl
        · exact fun _ => rfl
      · exact jss_cons js_never jss_nil
abbrev s_changes_of : Stmt := topS 17
theorem sc_changes_of : FnScope ["parting", "some", "marks", "found", "group", "size", "one", "other", "both", "person", "part", "mark"] ["parting", "some"] (defScope s_changes_of) := ⟨rfl, rfl, rfl, by decide +kernel, rfl, by decide +kernel, by decide +kernel⟩
def k_changes_of_1 : Ev := (eTup (aC (eVar 9) aN))
def v_changes_of_1 : Ev := (eLst (aC (eOp cInt (aC (eBin dIn (eVar 9) (eVar 1)) aN)) aN))
def c_changes_of_2 : Ev := (eComp (iVal (eVar 0)) (bN 4) tY (eTup (aC (eOp cLen (aC (eVar 4) aN)) (aC (eVar 4) aN))) [4])
def c_changes_of_3 : Ev := (eComp (iVal (eCall F_parts_in [0, 1] (aApp (aC (eVar 0) (aC (eVar 4) aN)) aN))) (bN 10) tY (eDGet (eVar 2) (eOp cTuple (aC (eVar 10) aN))) [10])
def c_changes_of_4 : Ev := (eComp (iVal (eVar 6)) (bN 11) (bT (eBin dIn (eVar 11) (eVar 7))) (eVar 11) [11])
def l_changes_of_1 : Sv := (sSeq (sBind [] (bL2 6 7) c_changes_of_3)
    (sSeq (sSet 8 0 [] c_changes_of_4)
    (sSeq (sAug 3 [] (fun i j => i + j) (eOp cInt (aC (eBin dEq (eVar 8) (eLst aN)) aN)))
    (sSeq (sDSto [] (eVar 2) (eOp cTuple (aC (eVar 4) aN)) (eIf (bT (eBin dNe (eVar 8) (eLst aN))) (eVar 8) (eC (.list [(.int 0), (.int 1)]))))
    sNil))))
def b_changes_of : Sv := (sSeq (sEx [] (eCall F_need_parting [0] (aApp (aC (eVar 0) aN) aN)))
    (sSeq (sEx [] (eCall F_need_marked [0, 1] (aApp (aC (eCall F_many_in [0] (aApp (aC (eVar 0) aN) aN)) (aC (eVar 1) aN)) aN)))
    (sSeq (sNewDC true 2 (iU rg1 (eCall F_many_in [0] (aApp (aC (eVar 0) aN) aN))) (bN 9) k_changes_of_1 v_changes_of_1 [9])
    (sSeq (sSet 3 0 [] (eC (.int 0)))
    (sSeq (sFor [] (iVal (eUn dSort c_changes_of_2)) (bT2 5 4)
    l_changes_of_1)
    (sSeq (sRet [] (eVar 3))
    sNil))))))
def F_changes_of : FnD := fnD 12 b_changes_of
theorem ok_changes_of {P : Program} {w : World} {K : PySem.W.Frag} {mg : Str → Option Value} {base : Heap} (D : Dfn K mg "changes_of" s_changes_of)
    (q_parts_in : Cal P w K mg base "parts_in" s_parts_in ["parting", "group"] 1 F_parts_in 0)
    (q_need_parting : Cal P w K mg base "need_parting" s_need_parting ["parting"] 5 F_need_parting 0)
    (q_many_in : Cal P w K mg base "many_in" s_many_in ["parting"] 1 F_many_in 0)
    (q_need_marked : Cal P w K mg base "need_marked" s_need_marked ["many", "some"] 2 F_need_marked 0)
    (z_int : mg "int" = none)
    (z_len : mg "len" = none)
    (z_range : mg "range" = none)
    (z_sorted : mg "sorted" = none)
    (z_tuple : mg "tuple" = none) :
    Cal P w K mg base "changes_of" s_changes_of ["parting", "some"] 6 F_changes_of 0 :=
  cal_def D sc_changes_of fun f cdv A outer s H hr hg => by
    unfold b_changes_of
    refine jss_cons ?_ ?_
    · refine js_ex (M := []) ?_
      refine jp_cal (st := s_need_parting) (ps := ["parting"]) (n := 1) (ks := []) (perm := [0]) (j := 5) (l := 5) ?_ ?_ ?_ ?_ ?_ ?_ (len_aC len_aN) jk_nil len_aN
      · exact q_need_parting
      · omega
      · exact hr
      · exact hg
      · exact fun _ _ _ _ _ _ us ws h1 h2 => match us, ws, h1, h2 with | [_], [], _, _ => rfl
      · exact ja_cons (jv 0) ja_nil
    · refine jss_cons ?_ ?_
      · refine js_ex (M := []) ?_
        refine jp_cal (st := s_need_marked) (ps := ["many", "some"]) (n := 2) (ks := []) (perm := [0, 1]) (j := 2) (l := 5) ?_ ?_ ?_ ?_ ?_ ?_ (len_aC (len_aC len_aN)) jk_nil len_aN
        · exact q_need_marked
        · omega
        · exact hr
        · exact hg
        · exact fun _ _ _ _ _ _ us ws h1 h2 => match us, ws, h1, h2 with | [_, _], [], _, _ => rfl
        · refine ja_cons ?_ ?_
          · refine jp_cal (st := s_many_in) (ps := ["parting"]) (n := 1) (ks := []) (perm := [0]) (j := 1) (l := 5) ?_ ?_ ?_ ?_ ?_ ?_ (len_aC len_aN) jk_nil len_aN
            · exact q_many_in
            · omega
            · exact hr
            · exact hg
            · exact fun _ _ _ _ _ _ us ws h1 h2 => match us, ws, h1, h2 with | [_], [], _, _ => rfl
            · exact ja_cons (jv 0) ja_nil
          · exact ja_cons (jv 1) ja_nil
      · refine jss_cons ?_ ?_
        · refine js_dcomp (t := true) (own := [("person", 9)]) (i := 2) ?_ ?_ ?_ ?_ ?_ ?_ ?_ ?_ (fun _ _ _ _ _ => ?_) (fun _ _ _ _ _ => ?_) ho_n ?_
          · exact Nat.lt_of_succ_lt (u1 hr)
          · rfl
          · exact sc_changes_of.nd
          · rfl
          · exact .inr rfl
          · refine ji_range1 ?_ ?_ ?_
            · refine jp_cal (st := s_many_in) (ps := ["parting"]) (n := 1) (ks := []) (perm := [0]) (j := 1) (l := 5) ?_ ?_ ?_ ?_ ?_ ?_ (len_aC len_aN) jk_nil len_aN
              · exact q_many_in
              · omega
              · exact hr
              · exact hg
              · exact fun _ _ _ _ _ _ us ws h1 h2 => match us, ws, h1, h2 with | [_], [], _, _ => rfl
              · exact ja_cons (jv 0) ja_nil
            · rfl
            · exact z_range
          · refine blkOk_by (N := ["parting", "some", "marks", "found", "group", "size", "one", "other", "both", "person", "part", "mark"]) (sc := defScope s_changes_of) ?_
            decide +kernel
          · refine jg_n ?_ ?_ ?_
            · exact sc_changes_of.nd
            · rfl
            · exact fun _ _ _ _ _ => .inl rfl
          · refine jp_tup ?_
            exact ja_cons (jv 9) ja_nil
          · refine JP.zero (k := 1) ?_
            refine jp_lst ?_
            refine ja_cons ?_ ja_nil
            refine jp_callTy cj_int ?_ ?_ ?_ ?_
            · rfl
            · exact z_int
            · decide +kernel
            · refine ja_cons ?_ ja_nil
              refine jp_cmp (oj_in ?_) (jv 9) (jv 1) ?_
              · exact u65 hr
              · rfl
          · exact fun _ => rfl
        · refine jss_cons ?_ ?_
          · refine js_set (i := 3) (M := []) jp_int ?_ ?_ ?_
            · exact sc_changes_of.nd
            · rfl
            · exact .inl rfl
          · refine jss_cons ?_ ?_
            · refine js_for (M := []) ?_ ?_ ?_ ?_ gspec_tup2 ?_
              · exact PassesOwn.never
              · rfl
              · refine ji_val ?_
                refine JP.zero (k := 1) ?_
                refine jp_sorted ?_ ?_ ?_ ?_
                · refine jp_comp (own := [("group", 4)]) ?_ ?_ ?_ ?_ ?_ jts_nil (fun _ _ _ _ _ => ?_) ho_n ?_
                  · rfl
                  · exact sc_changes_of.nd
                  · exact ji_val (jv 0)
                  · refine blkOk_by (N := ["parting", "some", "marks", "found", "group", "size", "one", "other", "both", "person", "part", "mark"]) (sc := defScope s_changes_of) ?_
                    decide +kernel
                  · refine jg_n ?_ ?_ ?_
                    · exact sc_changes_of.nd
                    · rfl
                    · exact fun _ _ _ _ _ => .inl rfl
                  · refine jp_tup ?_
                    refine ja_cons ?_ ?_
                    · refine jp_callB cj_len ?_ ?_ ?_ ?_
                      · rfl
                      · exact z_len
                      · decide +kernel
                      · exact ja_cons (jv 4) ja_nil
                    · exact ja_cons (jv 4) ja_nil
                  · exact fun _ => rfl
                · exact u66 hr
                · rfl
                · exact z_sorted
              · refine pg_tup ?_ (pgs_cons (pg_name (i := 5) ?_ ?_ ?_) (pgs_cons (pg_name (i := 4) ?_ ?_ ?_) pgs_nil))
                · rfl
                · exact sc_changes_of.nd
                · rfl
                · exact .inl rfl
                · exact sc_changes_of.nd
                · rfl
                · exact .inl rfl
              · refine jss_cons ?_ ?_
                · refine js_bind (M := []) ?_ ?_ gspec_lst2
                  · refine JP.zero (k := 1) ?_
                    refine jp_comp (own := [("part", 10)]) ?_ ?_ ?_ ?_ ?_ jts_nil (fun _ _ _ _ _ => ?_) ho_n ?_
                    · rfl
                    · exact sc_changes_of.nd
                    · refine ji_val ?_
                      refine jp_cal (st := s_parts_in) (ps := ["parting", "group"]) (n := 2) (ks := []) (perm := [0, 1]) (j := 1) (l := 5) ?_ ?_ ?_ ?_ ?_ ?_ (len_aC (len_aC len_aN)) jk_nil len_aN
                      · exact q_parts_in
                      · omega
                      · exact hr
                      · exact hg
                      · exact fun _ _ _ _ _ _ us ws h1 h2 => match us, ws, h1, h2 with | [_, _], [], _, _ => rfl
                      · refine ja_cons (jv 0) ?_
                        exact ja_cons (jv 4) ja_nil
                    · refine blkOk_by (N := ["parting", "some", "marks", "found", "group", "size", "one", "other", "both", "person", "part", "mark"]) (sc := defScope s_changes_of) ?_
                      decide +kernel
                    · refine jg_n ?_ ?_ ?_
                      · exact sc_changes_of.nd
                      · rfl
                      · exact fun _ _ _ _ _ => .inl rfl
                    · refine jp_dget (jv 2) ?_ ?_ ?_
                      · refine jp_callTy cj_tuple ?_ ?_ ?_ ?_
                        · rfl
                        · exact z_tuple
                        · decide +kernel
                        · exact ja_cons (jv 10) ja_nil
                      · exact u1 hr
                      · exact fun _ _ => rfl
                    · exact fun _ => rfl
                  · refine pg_unl ?_ (pgs_cons (pg_name (i := 6) ?_ ?_ ?_) (pgs_cons (pg_name (i := 7) ?_ ?_ ?_) pgs_nil))
                    · rfl
                    · exact sc_changes_of.nd
                    · rfl
                    · exact .inl rfl
                    · exact sc_changes_of.nd
                    · rfl
                    · exact .inr rfl
                · refine jss_cons ?_ ?_
                  · refine js_comp0 (j := 0) (own := [("mark", 11)]) (i := 8) (M := []) ?_ ?_ ?_ ?_ ?_ ?_ ?_ ?_ ?_ (fun _ _ _ _ _ => (jv 11)) ho_n ?_
                    · rfl
                    · exact sc_changes_of.nd
                    · rfl
                    · rfl
                    · exact sw_true rfl rfl rfl (by decide +kernel)
                    · exact ji_val (jv 6)
                    · refine blkOk_by (N := ["parting", "some", "marks", "found", "group", "size", "one", "other", "both", "person", "part", "mark"]) (sc := defScope s_changes_of) ?_
                      decide +kernel
                    · refine jg_n ?_ ?_ ?_
                      · exact sc_changes_of.nd
                      · rfl
                      · exact fun _ _ _ _ _ => .inl rfl
                    · refine jts_one (fun _ _ _ _ _ => ?_)
                      refine jt_cmp (oj_in ?_) (jv 11) (jv 7) ?_
                      · exact u65 hr
                      · rfl
                    · exact fun _ => rfl
                  · refine jss_cons ?_ ?_
                    · refine js_aug (i := 3) (M := []) ip_add ?_ ?_ ?_ ?_
                      · refine jp_callTy cj_int ?_ ?_ ?_ ?_
                        · rfl
                        · exact z_int
                        · decide +kernel
                        · refine ja_cons ?_ ja_nil
                          refine jp_cmp (oj_eq ?_) (jv 8) ?_ (nomark _)
                          · exact u64 hr
                          · refine JP.zero (k := 1) ?_
                            exact jp_lst ja_nil
                      · exact sc_changes_of.nd
                      · rfl
                      · exact .inl rfl
                    · refine jss_cons ?_ jss_nil
                      refine js_dsto (M := []) ?_ (jv 2) ?_ ?_
                      · refine jp_if ?_ (jv 8) ?_
                        · refine jt_cmp (oj_ne ?_) (jv 8) ?_ (nomark _)
                          · exact u64 hr
                          · refine JP.zero (k := 1) ?_
                            exact jp_lst ja_nil
                        · refine jp_const ?_
                          rfl
                      · refine jp_callTy cj_tuple ?_ ?_ ?_ ?_
                        · rfl
                        · exact z_tuple
                        · decide +kernel
                        · exact ja_cons (jv 4) ja_nil
                      · exact u1 hr
            · refine jss_cons ?_ jss_nil
              exact js_ret (M := []) (jv 3)
abbrev s__law_store : Stmt := topS 19
theorem sc__law_store : FnScope ["script", "k", "cell"] ["script", "k"] (defScope s__law_store) := ⟨rfl, rfl, rfl, by decide +kernel, rfl, by decide +kernel, by decide +kernel⟩
def b__law_store : Sv := (sSeq (sSet 2 0 [] (eIf (bT (eBin dLt (eVar 1) (eOp cLen (aC (eVar 0) aN)))) (eOp cAbs (aC (eIdx (eVar 0) (eVar 1)) aN)) (eC (.int 0))))
    (sSeq (sRet [] (eLst (aC (eOp cMax (aC (eC (.int 0)) (aC (eBin dSub (eVar 2) (eBin dPow (eC (.int 10)) (eC (.int 18)))) aN))) (aC (eBin dAdd (eBin dMul (eBin dMod (eOp cInt (aC (eVar 2) aN)) (eBin dAdd (eBin dPow (eC (.int 10)) (eC (.int 37))) (eC (.int 43)))) (eC (.int 83))) (eBin dMul (eC (.int 7)) (eVar 1))) (aC (eC (.int 0)) aN)))))
    sNil))
def F__law_store : FnD := fnD 3 b__law_store
theorem ok__law_store {P : Program} {w : World} {K : PySem.W.Frag} {mg : Str → Option Value} {base : Heap} (D : Dfn K mg "_law_store" s__law_store)
    (z_abs : mg "abs" = none)
    (z_int : mg "int" = none)
    (z_len : mg "len" = none)
    (z_max : mg "max" = none) :
    Cal P w K mg base "_law_store" s__law_store ["script", "k"] 1 F__law_store 1 :=
  cal_def D sc__law_store fun f cdv A outer s H hr hg => by
    unfold b__law_store
    refine jss_cons ?_ ?_
    · refine js_set (i := 2) (M := []) ?_ ?_ ?_ ?_
      · refine jp_if ?_ ?_ jp_int
        · refine jt_cmp (oj_lt ?_) (jv 1) ?_ (nomark _)
          · exact u64 hr
          · refine jp_callB cj_len ?_ ?_ ?_ ?_
            · rfl
            · exact z_len
            · decide +kernel
            · exact ja_cons (jv 0) ja_nil
        · refine jp_callB cj_abs ?_ ?_ ?_ ?_
          · rfl
          · exact z_abs
          · decide +kernel
          · refine ja_cons ?_ ja_nil
            refine jp_idx (jv 0) (jv 1) ?_
            exact fun _ _ => rfl
      · exact sc__law_store.nd
      · rfl
      · exact .inl rfl
    · refine jss_cons ?_ jss_nil
      refine js_ret (M := []) ?_
      refine jp_lst ?_
      refine ja_cons ?_ ?_
      · refine jp_callB (cj_max ?_) ?_ ?_ ?_ ?_
        · rfl
        · rfl
        · exact z_max
        · decide +kernel
        · refine ja_cons jp_int ?_
          refine ja_cons ?_ ja_nil
          refine jp_bin oj_sub (jv 2) ?_
          exact jp_bin oj_pow jp_int jp_int
      · refine ja_cons ?_ ?_
        · refine JP.zero (k := 1) ?_
          refine jp_bin oj_add ?_ ?_
          · refine JP.zero (k := 1) ?_
            refine jp_bin oj_mul ?_ jp_int
            refine jp_bin oj_mod ?_ ?_
            · refine jp_callTy cj_int ?_ ?_ ?_ ?_
              · rfl
              · exact z_int
              · decide +kernel
              · exact ja_cons (jv 2) ja_nil
            · refine JP.zero (k := 1) ?_
              refine jp_bin oj_add ?_ jp_int
              exact jp_bin oj_pow jp_int jp_int
          · refine JP.zero (k := 1) ?_
            exact jp_bin oj_mul jp_int (jv 1)
        · exact ja_cons jp_int ja_nil
abbrev s__law_pick : Stmt := topS 20
theorem sc__law_pick : FnScope ["store", "bound", "digit", "mixed"] ["store", "bound"] (defScope s__law_pick) := ⟨rfl, rfl, rfl, by decide +kernel, rfl, by decide +kernel, by decide +kernel⟩
def b__law_pick : Sv := (sSeq (sIf [] (bT (eBin dGt (eIdx (eVar 0) (eC (.int 0))) (eC (.int 0))))
    (sSeq (sSet 2 0 [] (eBin dMod (eOp cInt (aC (eIdx (eVar 0) (eC (.int 0))) aN)) (eVar 1)))
    (sSeq (sSto [] (eVar 0) (eC (.int 0)) (eBin dFdiv (eIdx (eVar 0) (eC (.int 0))) (eVar 1)))
    (sSeq (sRet [] (eVar 2))
    sNil)))
    sNil)
    (sSeq (sSto [] (eVar 0) (eC (.int 2)) (eBin dAdd (eIdx (eVar 0) (eC (.int 2))) (eC (.int 1))))
    (sSeq (sSet 3 0 [] (eBin dMod (eOp cInt (aC (eBin dPow (eBin dAdd (eIdx (eVar 0) (eC (.int 1))) (eBin dMul (eC (.int 32416187567)) (eIdx (eVar 0) (eC (.int 2))))) (eC (.int 3))) aN)) (eBin dAdd (eBin dPow (eC (.int 10)) (eC (.int 40))) (eC (.int 121)))))
    (sSeq (sSet 3 0 [] (eBin dMod (eOp cInt (aC (eBin dPow (eBin dAdd (eVar 3) (eBin dMul (eC (.int 27644437)) (eIdx (eVar 0) (eC (.int 2))))) (eC (.int 3))) aN)) (eBin dAdd (eBin dPow (eC (.int 10)) (eC (.int 39))) (eC (.int 3)))))
    (sSeq (sRet [] (eBin dMod (eOp cInt (aC (eBin dFdiv (eVar 3) (eC (.int 16381))) aN)) (eVar 1)))
    sNil)))))
def F__law_pick : FnD := fnD 4 b__law_pick
theorem ok__law_pick {P : Program} {w : World} {K : PySem.W.Frag} {mg : Str → Option Value} {base : Heap} (D : Dfn K mg "_law_pick" s__law_pick)
    (z_int : mg "int" = none) :
    Cal P w K mg base "_law_pick" s__law_pick ["store", "bound"] 1 F__law_pick 0 :=
  cal_def D sc__law_pick fun f cdv A outer s H hr hg => by
    unfold b__law_pick
    refine jss_cons ?_ ?_
    · refine js_if (M := []) ?_ ?_ jss_nil
      · refine jt_cmp oj_gt ?_ jp_int (nomark _)
        refine jp_idx (jv 0) jp_int ?_
        exact fun _ _ => rfl
      · refine jss_cons ?_ ?_
        · refine js_set (i := 2) (M := []) ?_ ?_ ?_ ?_
          · refine jp_bin oj_mod ?_ (jv 1)
            refine jp_callTy cj_int ?_ ?_ ?_ ?_
            · rfl
            · exact z_int
            · decide +kernel
            · refine ja_cons ?_ ja_nil
              refine jp_idx (jv 0) jp_int ?_
              exact fun _ _ => rfl
          · exact sc__law_pick.nd
          · rfl
          · exact .inl rfl
        · refine jss_cons ?_ ?_
          · refine js_sto (M := []) ?_ (jv 0) jp_int ?_ ?_ ?_ (fun h1 h2 => pg_sub h1 h2 set_list)
            · refine jp_bin oj_fdiv ?_ (jv 1)
              refine jp_idx (jv 0) jp_int ?_
              exact fun _ _ => rfl
            · rfl
            · rfl
            · rfl
          · refine jss_cons ?_ jss_nil
            exact js_ret (M := []) (jv 2)
    · refine jss_cons ?_ ?_
      · refine js_sto (M := []) ?_ (jv 0) jp_int ?_ ?_ ?_ (fun h1 h2 => pg_sub h1 h2 set_list)
        · refine JP.zero (k := 1) ?_
          refine jp_bin oj_add ?_ jp_int
          refine jp_idx (jv 0) jp_int ?_
          exact fun _ _ => rfl
        · rfl
        · rfl
        · rfl
      · refine jss_cons ?_ ?_
        · refine js_set (i := 3) (M := []) ?_ ?_ ?_ ?_
          · refine jp_bin oj_mod ?_ ?_
            · refine jp_callTy cj_int ?_ ?_ ?_ ?_
              · rfl
              · exact z_int
              · decide +kernel
              · refine ja_cons ?_ ja_nil
                refine jp_bin oj_pow ?_ jp_int
                refine JP.zero (k := 1) ?_
                refine jp_bin oj_add ?_ ?_
                · refine jp_idx (jv 0) jp_int ?_
                  exact fun _ _ => rfl
                · refine JP.zero (k := 1) ?_
                  refine jp_bin oj_mul jp_int ?_
                  refine jp_idx (jv 0) jp_int ?_
                  exact fun _ _ => rfl
            · refine JP.zero (k := 1) ?_
              refine jp_bin oj_add ?_ jp_int
              exact jp_bin oj_pow jp_int jp_int
          · exact sc__law_pick.nd
          · rfl
          · exact .inl rfl
        · refine jss_cons ?_ ?_
          · refine js_set (i := 3) (M := []) ?_ ?_ ?_ ?_
            · refine jp_bin oj_mod ?_ ?_
              · refine jp_callTy cj_int ?_ ?_ ?_ ?_
                · rfl
                · exact z_int
                · decide +kernel
                · refine ja_cons ?_ ja_nil
                  refine jp_bin oj_pow ?_ jp_int
                  refine JP.zero (k := 1) ?_
                  refine jp_bin oj_add (jv 3) ?_
                  refine JP.zero (k := 1) ?_
                  refine jp_bin oj_mul jp_int ?_
                  refine jp_idx (jv 0) jp_int ?_
                  exact fun _ _ => rfl
              · refine JP.zero (k := 1) ?_
                refine jp_bin oj_add ?_ jp_int
                exact jp_bin oj_pow jp_int jp_int
            · exact sc__law_pick.nd
            · rfl
            · exact .inl rfl
          · refine jss_cons ?_ jss_nil
            refine js_ret (M := []) ?_
            refine jp_bin oj_mod ?_ (jv 1)
            refine jp_callTy cj_int ?_ ?_ ?_ ?_
            · rfl
            · exact z_int
            · decide +kernel
            · refine ja_cons ?_ ja_nil
              exact jp_bin oj_fdiv (jv 3) jp_int
abbrev s__law_groups : Stmt := topS 21
theorem sc__law_groups : FnScope ["items", "made", "place", "item", "base", "maker", "wide"] ["items"] (defScope s__law_groups) := ⟨rfl, rfl, rfl, by decide +kernel, rfl, by decide +kernel, by decide +kernel⟩
def l__law_groups_1 : Sv := (sSeq (sSet 6 0 [] (eDGet (eVar 1) (eVar 5)))
    (sSeq (sIf [] (aT (bT (eBin dGt (eOp cLen (aC (eVar 6) aN)) (eOp cLen (aC (eVar 4) aN)))) (bT (eBin dIn (eIdx (eVar 4) (eC (.int 0))) (eVar 6))))
    (sSeq (sDSto [] (eVar 1) (eVar 5) (eBin dAdd (eVar 6) (eLst (aC (eBin dAdd (eVar 2) (eC (.int 1))) aN))))
    sNil)
    sNil)
    sNil))
def l__law_groups_2 : Sv := (sSeq (sSet 4 0 [] (eIf (bT (eBin dGe (eVar 3) (eC (.int 0)))) (eLst (aC (eVar 3) aN)) (eDGet (eVar 1) (eBin dSub (eC (.int 0)) (eVar 3)))))
    (sSeq (sFor [] (iVal (eDKeys (eVar 1))) (bN 5)
    l__law_groups_1)
    (sSeq (sDSto [] (eVar 1) (eBin dAdd (eVar 2) (eC (.int 1))) (eBin dAdd (eVar 4) (eLst (aC (eBin dAdd (eVar 2) (eC (.int 1))) aN))))
    sNil)))
def b__law_groups : Sv := (sSeq (sNewD false 1)
    (sSeq (sFor [] (iU (fun d => (isLst d).map fun ds => enD ds 0) (eVar 0)) (bT2 2 3)
    l__law_groups_2)
    (sSeq (sRet [] (eSortVals (eVar 1)))
    sNil)))
def F__law_groups : FnD := fnD 7 b__law_groups
theorem ok__law_groups {P : Program} {w : World} {K : PySem.W.Frag} {mg : Str → Option Value} {base : Heap} (D : Dfn K mg "_law_groups" s__law_groups)
    (z_enumerate : mg "enumerate" = none)
    (z_len : mg "len" = none)
    (z_list : mg "list" = none)
    (z_sorted : mg "sorted" = none) :
    Cal P w K mg base "_law_groups" s__law_groups ["items"] 1 F__law_groups 0 :=
  cal_def D sc__law_groups fun f cdv A outer s H hr hg => by
    unfold b__law_groups
    refine jss_cons ?_ ?_
    · refine js_newD (t := false) (i := 1) ?_ ?_ ?_
      · exact sc__law_groups.nd
      · rfl
      · exact .inl rfl
    · refine jss_cons ?_ ?_
      · refine js_for (M := []) ?_ ?_ ?_ ?_ gspec_tup2 ?_
        · exact PassesOwn.never
        · rfl
        · refine ji_enum (jv 0) ?_ ?_
          · rfl
          · exact z_enumerate
        · refine pg_tup ?_ (pgs_cons (pg_name (i := 2) ?_ ?_ ?_) (pgs_cons (pg_name (i := 3) ?_ ?_ ?_) pgs_nil))
          · rfl
          · exact sc__law_groups.nd
          · rfl
          · exact .inl rfl
          · exact sc__law_groups.nd
          · rfl
          · exact .inl rfl
        · refine jss_cons ?_ ?_
          · refine js_set (i := 4) (M := []) ?_ ?_ ?_ ?_
            · refine jp_if ?_ ?_ ?_
              · exact jt_cmp oj_ge (jv 3) jp_int (nomark _)
              · refine JP.zero (k := 1) ?_
                refine jp_lst ?_
                exact ja_cons (jv 3) ja_nil
              · refine jp_dget (jv 1) ?_ ?_ ?_
                · exact jp_bin oj_sub jp_int (jv 3)
                · exact u1 hr
                · exact fun _ _ => rfl
            · exact sc__law_groups.nd
            · rfl
            · exact .inl rfl
          · refine jss_cons ?_ ?_
            · refine js_for (M := []) ?_ ?_ ?_ ?_ gspec_name ?_
              · exact PassesOwn.never
              · rfl
              · refine ji_val ?_
                refine JP.zero (k := 1) ?_
                refine jp_dkeys (jv 1) ?_ ?_ ?_
                · rfl
                · rfl
                · exact z_list
              · refine pg_name (i := 5) ?_ ?_ ?_
                · exact sc__law_groups.nd
                · rfl
                · exact .inl rfl
              · refine jss_cons ?_ ?_
                · refine js_set (i := 6) (M := []) ?_ ?_ ?_ ?_
                  · refine jp_dget (jv 1) (jv 5) ?_ ?_
                    · exact u1 hr
                    · exact fun _ _ => rfl
                  · exact sc__law_groups.nd
                  · rfl
                  · exact .inl rfl
                · refine jss_cons ?_ jss_nil
                  refine js_if (M := []) ?_ ?_ jss_nil
                  · refine jt_pw ?_
                    refine jw_and ?_ ?_
                    · refine jt_cmp oj_gt ?_ ?_ (nomark _)
                      · refine jp_callB cj_len ?_ ?_ ?_ ?_
                        · rfl
                        · exact z_len
                        · decide +kernel
                        · exact ja_cons (jv 6) ja_nil
                      · refine jp_callB cj_len ?_ ?_ ?_ ?_
                        · rfl
                        · exact z_len
                        · decide +kernel
                        · exact ja_cons (jv 4) ja_nil
                    · refine jw_and1 ?_
                      refine jt_cmp (oj_in ?_) ?_ (jv 6) ?_
                      · exact u65 hr
                      · refine jp_idx (jv 4) jp_int ?_
                        exact fun _ _ => rfl
                      · rfl
                  · refine jss_cons ?_ jss_nil
                    refine js_dsto (M := []) ?_ (jv 1) (jv 5) ?_
                    · refine JP.zero (k := 1) ?_
                      refine jp_bin oj_add (jv 6) ?_
                      refine JP.zero (k := 1) ?_
                      refine jp_lst ?_
                      refine ja_cons ?_ ja_nil
                      refine JP.zero (k := 1) ?_
                      exact jp_bin oj_add (jv 2) jp_int
                    · exact u1 hr
            · refine jss_cons ?_ jss_nil
              refine js_dsto (M := []) ?_ (jv 1) ?_ ?_
              · refine JP.zero (k := 1) ?_
                refine jp_bin oj_add (jv 4) ?_
                refine JP.zero (k := 1) ?_
                refine jp_lst ?_
                refine ja_cons ?_ ja_nil
                refine JP.zero (k := 1) ?_
                exact jp_bin oj_add (jv 2) jp_int
              · refine JP.zero (k := 1) ?_
                exact jp_bin oj_add (jv 2) jp_int
              · exact u1 hr
      · refine jss_cons ?_ jss_nil
        refine js_ret (M := []) ?_
        refine JP.zero (k := 1) ?_
        refine jp_sortVals (jv 1) ?_ ?_ ?_ ?_
        · exact u66 hr
        · rfl
        · rfl
        · exact z_sorted
abbrev s__law_come : Stmt := topS 22
theorem sc__law_come : FnScope ["store", "many_here", "found", "way", "who", "item"] ["store", "many_here"] (defScope s__law_come) := ⟨rfl, rfl, rfl, by decide +kernel, rfl, by decide +kernel, by decide +kernel⟩
def l__law_come_1 : Sv := (sSeq (sSet 5 0 [] (eBin dSub (eCall F__law_pick [0, 1] (aApp (aC (eVar 0) (aC (eBin dSub (eBin dMul (eC (.int 2)) (eVar 4)) (eC (.int 1))) aN)) aN)) (eBin dSub (eVar 4) (eC (.int 1)))))
    (sSeq (sIf [] (aT (bT (eBin dEq (eVar 3) (eC (.int 1)))) (aT (bT (eBin dGt (eVar 4) (eC (.int 1)))) (bT (eBin dGt (eCall F__law_pick [0, 1] (aApp (aC (eVar 0) (aC (eC (.int 3)) aN)) aN)) (eC (.int 0))))))
    (sSeq (sSet 5 0 [] (eBin dSub (eC (.int 1)) (eVar 4)))
    sNil)
    sNil)
    (sSeq (sIf [] (aT (bT (eBin dEq (eVar 3) (eC (.int 2)))) (bT (eBin dGt (eCall F__law_pick [0, 1] (aApp (aC (eVar 0) (aC (eC (.int 3)) aN)) aN)) (eC (.int 0)))))
    (sSeq (sSet 5 0 [] (eCall F__law_pick [0, 1] (aApp (aC (eVar 0) (aC (eVar 4) aN)) aN)))
    sNil)
    sNil)
    (sSeq (sApp 2 [] 0 (eVar 5))
    sNil))))
def b__law_come : Sv := (sSeq (sPar 2 3 1 0 [] [] (eLst aN) (eCall F__law_pick [0, 1] (aApp (aC (eVar 0) (aC (eC (.int 3)) aN)) aN)))
    (sSeq (sFor0 [] (iB rg2 (eC (.int 1)) (eVar 1)) (bN 4)
    l__law_come_1)
    (sSeq (sRet [2] (eVar 2))
    sNil)))
def F__law_come : FnD := fnD 6 b__law_come
theorem ok__law_come {P : Program} {w : World} {K : PySem.W.Frag} {mg : Str → Option Value} {base : Heap} (D : Dfn K mg "_law_come" s__law_come)
    (q__law_pick : Cal P w K mg base "_law_pick" s__law_pick ["store", "bound"] 1 F__law_pick 0)
    (z_range : mg "range" = none) :
    Cal P w K mg base "_law_come" s__law_come ["store", "many_here"] 2 F__law_come 0 :=
  cal_def D sc__law_come fun f cdv A outer s H hr hg => by
    unfold b__law_come
    refine jss_cons ?_ ?_
    · refine js_par (i := 2) (j := 3) (M1 := []) (M2 := []) ?_ ?_ ?_ ?_ ?_ ?_ ?_ ?_ ?_ ?_
      · exact jp_lst ja_nil
      · refine jp_cal (st := s__law_pick) (ps := ["store", "bound"]) (n := 2) (ks := []) (perm := [0, 1]) (j := 1) (l := 1) ?_ ?_ ?_ ?_ ?_ ?_ (len_aC (len_aC len_aN)) jk_nil len_aN
        · exact q__law_pick
        · omega
        · exact hr
        · exact hg
        · exact fun _ _ _ _ _ _ us ws h1 h2 => match us, ws, h1, h2 with | [_, _], [], _, _ => rfl
        · refine ja_cons (jv 0) ?_
          exact ja_cons jp_int ja_nil
      · rfl
      · exact sc__law_come.nd
      · rfl
      · rfl
      · decide
      · rfl
      · rfl
      · rfl
    · refine jss_cons ?_ ?_
      · refine js_for0 (M := []) ?_ ?_ ?_ ?_ gspec_name ?_
        · exact PassesOwn.never
        · rfl
        · refine ji0_range2 jp_int (jv 1) ?_ ?_
          · rfl
          · exact z_range
        · refine pg_name (i := 4) ?_ ?_ ?_
          · exact sc__law_come.nd
          · rfl
          · exact .inl rfl
        · refine jss_cons ?_ ?_
          · refine js_set (i := 5) (M := []) ?_ ?_ ?_ ?_
            · refine jp_bin oj_sub ?_ ?_
              · refine jp_cal (st := s__law_pick) (ps := ["store", "bound"]) (n := 2) (ks := []) (perm := [0, 1]) (j := 1) (l := 1) ?_ ?_ ?_ ?_ ?_ ?_ (len_aC (len_aC len_aN)) jk_nil len_aN
                · exact q__law_pick
                · omega
                · exact hr
                · exact hg
                · exact fun _ _ _ _ _ _ us ws h1 h2 => match us, ws, h1, h2 with | [_, _], [], _, _ => rfl
                · refine ja_cons (jv 0) ?_
                  refine ja_cons ?_ ja_nil
                  refine jp_bin oj_sub ?_ jp_int
                  refine JP.zero (k := 1) ?_
                  exact jp_bin oj_mul jp_int (jv 4)
              · exact jp_bin oj_sub (jv 4) jp_int
            · exact sc__law_come.nd
            · rfl
            · exact .inl rfl
          · refine jss_cons ?_ ?_
            · refine js_if (M := []) ?_ ?_ jss_nil
              · refine jt_pw ?_
                refine jw_and ?_ ?_
                · refine jt_cmp (oj_eq ?_) (jv 3) jp_int (nomark _)
                  exact u64 hr
                · refine jw_and ?_ ?_
                  · exact jt_cmp oj_gt (jv 4) jp_int (nomark _)
                  · refine jw_and1 ?_
                    refine jt_cmp oj_gt ?_ jp_int (nomark _)
                    refine jp_cal (st := s__law_pick) (ps := ["store", "bound"]) (n := 2) (ks := []) (perm := [0, 1]) (j := 1) (l := 1) ?_ ?_ ?_ ?_ ?_ ?_ (len_aC (len_aC len_aN)) jk_nil len_aN
                    · exact q__law_pick
                    · omega
                    · exact hr
                    · exact hg
                    · exact fun _ _ _ _ _ _ us ws h1 h2 => match us, ws, h1, h2 with | [_, _], [], _, _ => rfl
                    · refine ja_cons (jv 0) ?_
                      exact ja_cons jp_int ja_nil
              · refine jss_cons ?_ jss_nil
                refine js_set (i := 5) (M := []) ?_ ?_ ?_ ?_
                · exact jp_bin oj_sub jp_int (jv 4)
                · exact sc__law_come.nd
                · rfl
                · exact .inl rfl
            · refine jss_cons ?_ ?_
              · refine js_if (M := []) ?_ ?_ jss_nil
                · refine jt_pw ?_
                  refine jw_and ?_ ?_
                  · refine jt_cmp (oj_eq ?_) (jv 3) jp_int (nomark _)
                    exact u64 hr
                  · refine jw_and1 ?_
                    refine jt_cmp oj_gt ?_ jp_int (nomark _)
                    refine jp_cal (st := s__law_pick) (ps := ["store", "bound"]) (n := 2) (ks := []) (perm := [0, 1]) (j := 1) (l := 1) ?_ ?_ ?_ ?_ ?_ ?_ (len_aC (len_aC len_aN)) jk_nil len_aN
                    · exact q__law_pick
                    · omega
                    · exact hr
                    · exact hg
                    · exact fun _ _ _ _ _ _ us ws h1 h2 => match us, ws, h1, h2 with | [_, _], [], _, _ => rfl
                    · refine ja_cons (jv 0) ?_
                      exact ja_cons jp_int ja_nil
                · refine jss_cons ?_ jss_nil
                  refine js_set (i := 5) (M := []) ?_ ?_ ?_ ?_
                  · refine jp_cal (st := s__law_pick) (ps := ["store", "bound"]) (n := 2) (ks := []) (perm := [0, 1]) (j := 1) (l := 1) ?_ ?_ ?_ ?_ ?_ ?_ (len_aC (len_aC len_aN)) jk_nil len_aN
                    · exact q__law_pick
                    · omega
                    · exact hr
                    · exact hg
                    · exact fun _ _ _ _ _ _ us ws h1 h2 => match us, ws, h1, h2 with | [_, _], [], _, _ => rfl
                    · refine ja_cons (jv 0) ?_
                      exact ja_cons (jv 4) ja_nil
                  · exact sc__law_come.nd
                  · rfl
                  · exact .inl rfl
              · refine jss_cons ?_ jss_nil
                refine js_app (i := 2) (M := []) (jv 5) ?_ ?_
                · rfl
                · exact .inl rfl
      · refine jss_cons ?_ jss_nil
        exact js_ret (M := [2]) (jv 2)
abbrev s__law_least_above : Stmt := topS 23
theorem sc__law_least_above : FnScope ["lot", "lane", "some_here", "row"] ["lot", "lane"] (defScope s__law_least_above) := ⟨rfl, rfl, rfl, by decide +kernel, rfl, by decide +kernel, by decide +kernel⟩
def c__law_least_above_1 : Ev := (eComp (iVal (eVar 0)) (bN 3) (aT (bT (eBin dGt (eOp cLen (aC (eVar 3) aN)) (eOp cLen (aC (eVar 1) aN)))) (bT (eBin dIn (eIdx (eVar 1) (eC (.int 0))) (eVar 3)))) (eTup (aC (eOp cLen (aC (eVar 3) aN)) (aC (eVar 3) aN))) [3])
def b__law_least_above : Sv := (sSeq (sSet 2 0 [] c__law_least_above_1)
    (sSeq (sRet [] (eIf (bT (eBin dNe (eVar 2) (eLst aN))) (eIdx (eUn dMin (eVar 2)) (eC (.int 1))) (eC .none)))
    sNil))
def F__law_least_above : FnD := fnD 4 b__law_least_above
theorem ok__law_least_above {P : Program} {w : World} {K : PySem.W.Frag} {mg : Str → Option Value} {base : Heap} (D : Dfn K mg "_law_least_above" s__law_least_above)
    (z_len : mg "len" = none)
    (z_min : mg "min" = none) :
    Cal P w K mg base "_law_least_above" s__law_least_above ["lot", "lane"] 1 F__law_least_above 0 :=
  cal_def D sc__law_least_above fun f cdv A outer s H hr hg => by
    unfold b__law_least_above
    refine jss_cons ?_ ?_
    · refine js_comp0 (j := 0) (own := [("row", 3)]) (i := 2) (M := []) ?_ ?_ ?_ ?_ ?_ ?_ ?_ ?_ ?_ (fun _ _ _ _ _ => ?_) ho_n ?_
      · rfl
      · exact sc__law_least_above.nd
      · rfl
      · rfl
      · exact sw_true rfl rfl rfl (by decide +kernel)
      · exact ji_val (jv 0)
      · refine blkOk_by (N := ["lot", "lane", "some_here", "row"]) (sc := defScope s__law_least_above) ?_
        decide +kernel
      · refine jg_n ?_ ?_ ?_
        · exact sc__law_least_above.nd
        · rfl
        · exact fun _ _ _ _ _ => .inl rfl
      · refine jts_one (fun _ _ _ _ _ => ?_)
        refine jt_pw ?_
        refine jw_and ?_ ?_
        · refine jt_cmp oj_gt ?_ ?_ (nomark _)
          · refine jp_callB cj_len ?_ ?_ ?_ ?_
            · rfl
            · exact z_len
            · decide +kernel
            · exact ja_cons (jv 3) ja_nil
          · refine jp_callB cj_len ?_ ?_ ?_ ?_
            · rfl
            · exact z_len
            · decide +kernel
            · exact ja_cons (jv 1) ja_nil
        · refine jw_and1 ?_
          refine jt_cmp (oj_in ?_) ?_ (jv 3) ?_
          · exact u65 hr
          · refine jp_idx (jv 1) jp_int ?_
            exact fun _ _ => rfl
          · rfl
      · refine jp_tup ?_
        refine ja_cons ?_ ?_
        · refine jp_callB cj_len ?_ ?_ ?_ ?_
          · rfl
          · exact z_len
          · decide +kernel
          · exact ja_cons (jv 3) ja_nil
        · exact ja_cons (jv 3) ja_nil
      · exact fun _ => rfl
    · refine jss_cons ?_ jss_nil
      refine js_ret (M := []) ?_
      refine jp_if ?_ ?_ jp_non
      · refine jt_cmp (oj_ne ?_) (jv 2) ?_ (nomark _)
        · exact u64 hr
        · refine JP.zero (k := 1) ?_
          exact jp_lst ja_nil
      · refine jp_idx ?_ jp_int ?_
        · refine jp_minD (jv 2) ?_ ?_ ?_ ?_
          · rfl
          · exact u66 hr
          · rfl
          · exact z_min
        · exact fun _ _ => rfl
abbrev s__law_by_all : Stmt := topS 24
theorem sc__law_by_all : FnScope ["lot", "many_here", "gang", "lanes", "least", "signs", "row", "lane", "above", "marked", "marks", "total", "wide", "who", "line"] ["lot", "many_here", "gang"] (defScope s__law_by_all) := ⟨rfl, rfl, rfl, by decide +kernel, rfl, by decide +kernel, by decide +kernel⟩
def c__law_by_all_1 : Ev := (eComp (iU rg1 (eVar 1)) (bN 13) tY (eLst (aC (eVar 13) aN)) [13])
def c__law_by_all_2 : Ev := (eComp (iVal (eVar 5)) (bN 14) tY (eBin dAdd (eVar 14) (eLst (aC (eVar 6) aN))) [14])
def l__law_by_all_1 : Sv := (sSeq (sSet 5 0 [] (eBin dAdd (eVar 5) c__law_by_all_2))
    sNil)
def c__law_by_all_3 : Ev := (eComp (iVal (eVar 3)) (bN 7) tY (eCall F__law_least_above [0, 1] (aApp (aC (eVar 0) (aC (eVar 7) aN)) aN)) [7])
def c__law_by_all_4 : Ev := (eComp (iVal (eVar 2)) (bN 13) tY (eLst (aC (eVar 13) aN)) [13])
def l__law_by_all_2 : Sv := (sSeq (sIf [] (aT (bT (eBin dIsNot (eVar 12) (eC .none))) (bT (eBin dNe (eBin dIn (eVar 7) (eVar 10)) (eBin dIn (eVar 12) (eVar 10)))))
    (sSeq (sSet 11 0 [] (eBin dAdd (eVar 11) (eC (.int 1))))
    sNil)
    sNil)
    sNil)
def l__law_by_all_3 : Sv := (sSeq (sSet 10 0 [] (eBin dAdd (eVar 9) c__law_by_all_4))
    (sSeq (sSet 11 0 [] (eC (.int 0)))
    (sSeq (sFor [] (iB (fun x y => (isLst x).bind fun ds => (isLst y).map fun es => ziD ds es) (eVar 3) (eVar 8)) (bT2 7 12)
    l__law_by_all_2)
    (sSeq (sSet 4 0 [] (eOp cMin (aC (eVar 4) (aC (eVar 11) aN))))
    sNil))))
def b__law_by_all : Sv := (sSeq (sSet 3 0 [] (eBin dAdd c__law_by_all_1 (eVar 0)))
    (sSeq (sPar 4 5 0 0 [] [] (eVar 1) (eC (.list [(.list [])])))
    (sSeq (sFor [] (iVal (eVar 0)) (bN 6)
    l__law_by_all_1)
    (sSeq (sSet 8 0 [] c__law_by_all_3)
    (sSeq (sFor [] (iVal (eVar 5)) (bN 9)
    l__law_by_all_3)
    (sSeq (sRet [] (eVar 4))
    sNil))))))
def F__law_by_all : FnD := fnD 15 b__law_by_all
theorem ok__law_by_all {P : Program} {w : World} {K : PySem.W.Frag} {mg : Str → Option Value} {base : Heap} (D : Dfn K mg "_law_by_all" s__law_by_all)
    (q__law_least_above : Cal P w K mg base "_law_least_above" s__law_least_above ["lot", "lane"] 1 F__law_least_above 0)
    (z_min : mg "min" = none)
    (z_range : mg "range" = none)
    (z_zip : mg "zip" = none) :
    Cal P w K mg base "_law_by_all" s__law_by_all ["lot", "many_here", "gang"] 2 F__law_by_all 0 :=
  cal_def D sc__law_by_all fun f cdv A outer s H hr hg => by
    unfold b__law_by_all
    refine jss_cons ?_ ?_
    · refine js_set (i := 3) (M := []) ?_ ?_ ?_ ?_
      · refine JP.zero (k := 1) ?_
        refine jp_bin oj_add ?_ (jv 0)
        refine JP.zero (k := 1) ?_
        refine jp_comp (own := [("who", 13)]) ?_ ?_ ?_ ?_ ?_ jts_nil (fun _ _ _ _ _ => ?_) ho_n ?_
        · rfl
        · exact sc__law_by_all.nd
        · refine ji_range1 (jv 1) ?_ ?_
          · rfl
          · exact z_range
        · refine blkOk_by (N := ["lot", "many_here", "gang", "lanes", "least", "signs", "row", "lane", "above", "marked", "marks", "total", "wide", "who", "line"]) (sc := defScope s__law_by_all) ?_
          decide +kernel
        · refine jg_n ?_ ?_ ?_
          · exact sc__law_by_all.nd
          · rfl
          · exact fun _ _ _ _ _ => .inl rfl
        · refine JP.zero (k := 1) ?_
          refine jp_lst ?_
          exact ja_cons (jv 13) ja_nil
        · exact fun _ => rfl
      · exact sc__law_by_all.nd
      · rfl
      · exact .inl rfl
    · refine jss_cons ?_ ?_
      · refine js_par (i := 4) (j := 5) (M1 := []) (M2 := []) (jv 1) ?_ ?_ ?_ ?_ ?_ ?_ ?_ ?_ ?_
        · refine jp_const ?_
          rfl
        · rfl
        · exact sc__law_by_all.nd
        · rfl
        · rfl
        · decide
        · rfl
        · rfl
        · rfl
      · refine jss_cons ?_ ?_
        · refine js_for (M := []) ?_ ?_ ?_ ?_ gspec_name ?_
          · exact PassesOwn.never
          · rfl
          · exact ji_val (jv 0)
          · refine pg_name (i := 6) ?_ ?_ ?_
            · exact sc__law_by_all.nd
            · rfl
            · exact .inr rfl
          · refine jss_cons ?_ jss_nil
            refine js_set (i := 5) (M := []) ?_ ?_ ?_ ?_
            · refine JP.zero (k := 1) ?_
              refine jp_bin oj_add (jv 5) ?_
              refine JP.zero (k := 1) ?_
              refine jp_comp (own := [("line", 14)]) ?_ ?_ ?_ ?_ ?_ jts_nil (fun _ _ _ _ _ => ?_) ho_n ?_
              · rfl
              · exact sc__law_by_all.nd
              · exact ji_val (jv 5)
              · refine blkOk_by (N := ["lot", "many_here", "gang", "lanes", "least", "signs", "row", "lane", "above", "marked", "marks", "total", "wide", "who", "line"]) (sc := defScope s__law_by_all) ?_
                decide +kernel
              · refine jg_n ?_ ?_ ?_
                · exact sc__law_by_all.nd
                · rfl
                · exact fun _ _ _ _ _ => .inl rfl
              · refine JP.zero (k := 1) ?_
                refine jp_bin oj_add (jv 14) ?_
                refine JP.zero (k := 1) ?_
                refine jp_lst ?_
                exact ja_cons (jv 6) ja_nil
              · exact fun _ => rfl
            · exact sc__law_by_all.nd
            · rfl
            · exact .inl rfl
        · refine jss_cons ?_ ?_
          · refine js_comp0 (j := 0) (own := [("lane", 7)]) (i := 8) (M := []) ?_ ?_ ?_ ?_ ?_ ?_ ?_ ?_ jts_nil (fun _ _ _ _ _ => ?_) ho_n ?_
            · rfl
            · exact sc__law_by_all.nd
            · rfl
            · rfl
            · exact sw_true rfl rfl rfl (by decide +kernel)
            · exact ji_val (jv 3)
            · refine blkOk_by (N := ["lot", "many_here", "gang", "lanes", "least", "signs", "row", "lane", "above", "marked", "marks", "total", "wide", "who", "line"]) (sc := defScope s__law_by_all) ?_
              decide +kernel
            · refine jg_n ?_ ?_ ?_
              · exact sc__law_by_all.nd
              · rfl
              · exact fun _ _ _ _ _ => .inl rfl
            · refine jp_cal (st := s__law_least_above) (ps := ["lot", "lane"]) (n := 2) (ks := []) (perm := [0, 1]) (j := 1) (l := 1) ?_ ?_ ?_ ?_ ?_ ?_ (len_aC (len_aC len_aN)) jk_nil len_aN
              · exact q__law_least_above
              · omega
              · exact hr
              · exact hg
              · exact fun _ _ _ _ _ _ us ws h1 h2 => match us, ws, h1, h2 with | [_, _], [], _, _ => rfl
              · refine ja_cons (jv 0) ?_
                exact ja_cons (jv 7) ja_nil
            · exact fun _ => rfl
          · refine jss_cons ?_ ?_
            · refine js_for (M := []) ?_ ?_ ?_ ?_ gspec_name ?_
              · exact PassesOwn.never
              · rfl
              · exact ji_val (jv 5)
              · refine pg_name (i := 9) ?_ ?_ ?_
                · exact sc__law_by_all.nd
                · rfl
                · exact .inl rfl
              · refine jss_cons ?_ ?_
                · refine js_set (i := 10) (M := []) ?_ ?_ ?_ ?_
                  · refine JP.zero (k := 1) ?_
                    refine jp_bin oj_add (jv 9) ?_
                    refine JP.zero (k := 1) ?_
                    refine jp_comp (own := [("who", 13)]) ?_ ?_ ?_ ?_ ?_ jts_nil (fun _ _ _ _ _ => ?_) ho_n ?_
                    · rfl
                    · exact sc__law_by_all.nd
                    · exact ji_val (jv 2)
                    · refine blkOk_by (N := ["lot", "many_here", "gang", "lanes", "least", "signs", "row", "lane", "above", "marked", "marks", "total", "wide", "who", "line"]) (sc := defScope s__law_by_all) ?_
                      decide +kernel
                    · refine jg_n ?_ ?_ ?_
                      · exact sc__law_by_all.nd
                      · rfl
                      · exact fun _ _ _ _ _ => .inl rfl
                    · refine JP.zero (k := 1) ?_
                      refine jp_lst ?_
                      exact ja_cons (jv 13) ja_nil
                    · exact fun _ => rfl
                  · exact sc__law_by_all.nd
                  · rfl
                  · exact .inl rfl
                · refine jss_cons ?_ ?_
                  · refine js_set (i := 11) (M := []) jp_int ?_ ?_ ?_
                    · exact sc__law_by_all.nd
                    · rfl
                    · exact .inl rfl
                  · refine jss_cons ?_ ?_
                    · refine js_for (M := []) ?_ ?_ ?_ ?_ gspec_tup2 ?_
                      · exact PassesOwn.never
                      · rfl
                      · refine ji_zip (jv 3) (jv 8) ?_ ?_
                        · rfl
                        · exact z_zip
                      · refine pg_tup ?_ (pgs_cons (pg_name (i := 7) ?_ ?_ ?_) (pgs_cons (pg_name (i := 12) ?_ ?_ ?_) pgs_nil))
                        · rfl
                        · exact sc__law_by_all.nd
                        · rfl
                        · exact .inl rfl
                        · exact sc__law_by_all.nd
                        · rfl
                        · exact .inl rfl
                      · refine jss_cons ?_ jss_nil
                        refine js_if (M := []) ?_ ?_ jss_nil
                        · refine jt_pw ?_
                          refine jw_and ?_ ?_
                          · exact jt_cmp oj_isNot (jv 12) jp_non (nomark _)
                          · refine jw_and1 ?_
                            refine jt_cmp (oj_ne ?_) ?_ ?_ (nomark _)
                            · exact u64 hr
                            · refine jp_cmp (oj_in ?_) (jv 7) (jv 10) ?_
                              · exact u65 hr
                              · rfl
                            · refine jp_cmp (oj_in ?_) (jv 12) (jv 10) ?_
                              · exact u65 hr
                              · rfl
                        · refine jss_cons ?_ jss_nil
                          refine js_set (i := 11) (M := []) ?_ ?_ ?_ ?_
                          · refine JP.zero (k := 1) ?_
                            exact jp_bin oj_add (jv 11) jp_int
                          · exact sc__law_by_all.nd
                          · rfl
                          · exact .inl rfl
                    · refine jss_cons ?_ jss_nil
                      refine js_set (i := 4) (M := []) ?_ ?_ ?_ ?_
                      · refine jp_callB (cj_min ?_) ?_ ?_ ?_ ?_
                        · rfl
                        · rfl
                        · exact z_min
                        · decide +kernel
                        · refine ja_cons (jv 4) ?_
                          exact ja_cons (jv 11) ja_nil
                      · exact sc__law_by_all.nd
                      · rfl
                      · exact .inl rfl
            · refine jss_cons ?_ jss_nil
              exact js_ret (M := []) (jv 4)
abbrev s__law_halves : Stmt := topS 25
theorem sc__law_halves : FnScope ["lot", "row", "first", "inner", "who"] ["lot", "row"] (defScope s__law_halves) := ⟨rfl, rfl, rfl, by decide +kernel, rfl, by decide +kernel, by decide +kernel⟩
def l__law_halves_1 : Sv := (sSeq (sIf [] (aT (bT (eChain dLt dLt (eOp cLen (aC (eVar 2) aN)) (eOp cLen (aC (eVar 3) aN)) (eOp cLen (aC (eVar 1) aN)))) (bT (eBin dIn (eIdx (eVar 1) (eC (.int 0))) (eVar 3))))
    (sSeq (sSet 2 0 [] (eVar 3))
    sNil)
    sNil)
    sNil)
def c__law_halves_1 : Ev := (eComp (iVal (eVar 1)) (bN 4) (bT (eBin dNotIn (eVar 4) (eVar 2))) (eVar 4) [4])
def b__law_halves : Sv := (sSeq (sSet 2 0 [] (eSl (eVar 1) oN (oS (eC (.int 1)))))
    (sSeq (sFor [] (iVal (eVar 0)) (bN 3)
    l__law_halves_1)
    (sSeq (sRet [] (eLst (aC (eVar 2) (aC c__law_halves_1 aN))))
    sNil)))
def F__law_halves : FnD := fnD 5 b__law_halves
theorem ok__law_halves {P : Program} {w : World} {K : PySem.W.Frag} {mg : Str → Option Value} {base : Heap} (D : Dfn K mg "_law_halves" s__law_halves)
    (z_len : mg "len" = none) :
    Cal P w K mg base "_law_halves" s__law_halves ["lot", "row"] 1 F__law_halves 0 :=
  cal_def D sc__law_halves fun f cdv A outer s H hr hg => by
    unfold b__law_halves
    refine jss_cons ?_ ?_
    · refine js_set (i := 2) (M := []) ?_ ?_ ?_ ?_
      · refine JP.zero (k := 1) ?_
        refine jp_slice (jv 1) jo_none ?_
        exact jo_some jp_int
      · exact sc__law_halves.nd
      · rfl
      · exact .inr rfl
    · refine jss_cons ?_ ?_
      · refine js_for (M := []) ?_ ?_ ?_ ?_ gspec_name ?_
        · exact PassesOwn.never
        · rfl
        · exact ji_val (jv 0)
        · refine pg_name (i := 3) ?_ ?_ ?_
          · exact sc__law_halves.nd
          · rfl
          · exact .inl rfl
        · refine jss_cons ?_ jss_nil
          refine js_if (M := []) ?_ ?_ jss_nil
          · refine jt_pw ?_
            refine jw_and ?_ ?_
            · refine jt_chain (oj_lt ?_) (oj_lt ?_) ?_ ?_ ?_ ?_
              · exact u64 hr
              · exact u64 hr
              · refine jp_callB cj_len ?_ ?_ ?_ ?_
                · rfl
                · exact z_len
                · decide +kernel
                · exact ja_cons (jv 2) ja_nil
              · refine jp_callB cj_len ?_ ?_ ?_ ?_
                · rfl
                · exact z_len
                · decide +kernel
                · exact ja_cons (jv 3) ja_nil
              · refine jp_callB cj_len ?_ ?_ ?_ ?_
                · rfl
                · exact z_len
                · decide +kernel
                · exact ja_cons (jv 1) ja_nil
              · rfl
            · refine jw_and1 ?_
              refine jt_cmp (oj_in ?_) ?_ (jv 3) ?_
              · exact u65 hr
              · refine jp_idx (jv 1) jp_int ?_
                exact fun _ _ => rfl
              · rfl
          · refine jss_cons ?_ jss_nil
            refine js_set (i := 2) (M := []) (jv 3) ?_ ?_ ?_
            · exact sc__law_halves.nd
            · rfl
            · exact .inr rfl
      · refine jss_cons ?_ jss_nil
        refine js_ret (M := []) ?_
        refine JP.zero (k := 1) ?_
        refine jp_lst ?_
        refine ja_cons (jv 2) ?_
        refine ja_cons ?_ ja_nil
        refine JP.zero (k := 1) ?_
        refine jp_comp (own := [("who", 4)]) ?_ ?_ ?_ ?_ ?_ ?_ (fun _ _ _ _ _ => (jv 4)) ho_n ?_
        · rfl
        · exact sc__law_halves.nd
        · exact ji_val (jv 1)
        · refine blkOk_by (N := ["lot", "row", "first", "inner", "who"]) (sc := defScope s__law_halves) ?_
          decide +kernel
        · refine jg_n ?_ ?_ ?_
          · exact sc__law_halves.nd
          · rfl
          · exact fun _ _ _ _ _ => .inl rfl
        · refine jts_one (fun _ _ _ _ _ => ?_)
          refine jt_cmp (oj_notIn ?_) (jv 4) (jv 2) ?_
          · exact u65 hr
          · rfl
        · exact fun _ => rfl
abbrev s__law_by_costs : Stmt := topS 26
theorem sc__law_by_costs : FnScope ["lot", "many_here", "gang", "table", "who", "row", "size_here", "costs", "mark", "below", "half", "cost"] ["lot", "many_here", "gang"] (defScope s__law_by_costs) := ⟨rfl, rfl, rfl, by decide +kernel, rfl, by decide +kernel, by decide +kernel⟩
def l__law_by_costs_1 : Sv := (sSeq (sDSto [] (eVar 3) (eUn dRepr (eLst (aC (eVar 4) aN))) (eIf (bT (eBin dIn (eVar 4) (eVar 2))) (eC (.list [(.int 99), (.int 0)])) (eC (.list [(.int 0), (.int 99)]))))
    sNil)
def c__law_by_costs_1 : Ev := (eComp (iVal (eVar 0)) (bN 5) tY (eTup (aC (eOp cLen (aC (eVar 5) aN)) (aC (eVar 5) aN))) [5])
def c__law_by_costs_2 : Ev := (eComp (iVal (eCall F__law_halves [0, 1] (aApp (aC (eVar 0) (aC (eVar 5) aN)) aN))) (bN 10) tY (eDGet (eVar 3) (eUn dRepr (eVar 10))) [10])
def c__law_by_costs_3 : Ev := (eComp (iVal (eVar 9)) (bN 11) tY (eOp cMin (aC (eIdx (eVar 11) (eVar 8)) (aC (eBin dAdd (eIdx (eVar 11) (eBin dSub (eC (.int 1)) (eVar 8))) (eC (.int 1))) aN))) [11])
def l__law_by_costs_2 : Sv := (sSeq (sSet 9 0 [] c__law_by_costs_2)
    (sSeq (sApp 7 [] 0 (eOp cSum (aC c__law_by_costs_3 aN)))
    sNil))
def l__law_by_costs_3 : Sv := (sSeq (sSet 7 1 [] (eLst aN))
    (sSeq (sFor [] (iVal (eC (.tuple [(.int 0), (.int 1)]))) (bN 8)
    l__law_by_costs_2)
    (sSeq (sDSto [7] (eVar 3) (eUn dRepr (eVar 5)) (eVar 7))
    sNil)))
def b__law_by_costs : Sv := (sSeq (sNewD false 3)
    (sSeq (sFor0 [] (iU rg1 (eVar 1)) (bN 4)
    l__law_by_costs_1)
    (sSeq (sFor [] (iVal (eUn dSort c__law_by_costs_1)) (bT2 6 5)
    l__law_by_costs_3)
    (sSeq (sRet [] (eUn dMin (eDGet (eVar 3) (eUn dRepr (eLRg (r1 (eVar 1)))))))
    sNil))))
def F__law_by_costs : FnD := fnD 12 b__law_by_costs
theorem ok__law_by_costs {P : Program} {w : World} {K : PySem.W.Frag} {mg : Str → Option Value} {base : Heap} (D : Dfn K mg "_law_by_costs" s__law_by_costs)
    (q__law_halves : Cal P w K mg base "_law_halves" s__law_halves ["lot", "row"] 1 F__law_halves 0)
    (z_len : mg "len" = none)
    (z_list : mg "list" = none)
    (z_min : mg "min" = none)
    (z_range : mg "range" = none)
    (z_repr : mg "repr" = none)
    (z_sorted : mg "sorted" = none)
    (z_sum : mg "sum" = none) :
    Cal P w K mg base "_law_by_costs" s__law_by_costs ["lot", "many_here", "gang"] 2 F__law_by_costs 0 :=
  cal_def D sc__law_by_costs fun f cdv A outer s H hr hg => by
    unfold b__law_by_costs
    refine jss_cons ?_ ?_
    · refine js_newD (t := false) (i := 3) ?_ ?_ ?_
      · exact sc__law_by_costs.nd
      · rfl
      · exact .inr rfl
    · refine jss_cons ?_ ?_
      · refine js_for0 (M := []) ?_ ?_ ?_ ?_ gspec_name ?_
        · exact PassesOwn.never
        · rfl
        · refine ji0_range1 (jv 1) ?_ ?_
          · rfl
          · exact z_range
        · refine pg_name (i := 4) ?_ ?_ ?_
          · exact sc__law_by_costs.nd
          · rfl
          · exact .inl rfl
        · refine jss_cons ?_ jss_nil
          refine js_dsto (M := []) ?_ (jv 3) ?_ ?_
          · refine jp_if ?_ ?_ ?_
            · refine jt_cmp (oj_in ?_) (jv 4) (jv 2) ?_
              · exact u65 hr
              · rfl
            · refine jp_const ?_
              rfl
            · refine jp_const ?_
              rfl
          · refine jp_repr ?_ ?_ ?_ ?_ ?_
            · refine JP.zero (k := 1) ?_
              refine jp_lst ?_
              exact ja_cons (jv 4) ja_nil
            · exact hg
            · exact u66 hr
            · rfl
            · exact z_repr
          · exact u1 hr
      · refine jss_cons ?_ ?_
        · refine js_for (M := []) ?_ ?_ ?_ ?_ gspec_tup2 ?_
          · exact PassesOwn.never
          · rfl
          · refine ji_val ?_
            refine JP.zero (k := 1) ?_
            refine jp_sorted ?_ ?_ ?_ ?_
            · refine jp_comp (own := [("row", 5)]) ?_ ?_ ?_ ?_ ?_ jts_nil (fun _ _ _ _ _ => ?_) ho_n ?_
              · rfl
              · exact sc__law_by_costs.nd
              · exact ji_val (jv 0)
              · refine blkOk_by (N := ["lot", "many_here", "gang", "table", "who", "row", "size_here", "costs", "mark", "below", "half", "cost"]) (sc := defScope s__law_by_costs) ?_
                decide +kernel
              · refine jg_n ?_ ?_ ?_
                · exact sc__law_by_costs.nd
                · rfl
                · exact fun _ _ _ _ _ => .inl rfl
              · refine jp_tup ?_
                refine ja_cons ?_ ?_
                · refine jp_callB cj_len ?_ ?_ ?_ ?_
                  · rfl
                  · exact z_len
                  · decide +kernel
                  · exact ja_cons (jv 5) ja_nil
                · exact ja_cons (jv 5) ja_nil
              · exact fun _ => rfl
            · exact u66 hr
            · rfl
            · exact z_sorted
          · refine pg_tup ?_ (pgs_cons (pg_name (i := 6) ?_ ?_ ?_) (pgs_cons (pg_name (i := 5) ?_ ?_ ?_) pgs_nil))
            · rfl
            · exact sc__law_by_costs.nd
            · rfl
            · exact .inl rfl
            · exact sc__law_by_costs.nd
            · rfl
            · exact .inl rfl
          · refine jss_cons ?_ ?_
            · refine js_set (i := 7) (M := []) ?_ ?_ ?_ ?_
              · exact jp_lst ja_nil
              · exact sc__law_by_costs.nd
              · rfl
              · exact .inl rfl
            · refine jss_cons ?_ ?_
              · refine js_for (M := []) ?_ ?_ ?_ ?_ gspec_name ?_
                · exact PassesOwn.never
                · rfl
                · refine ji_val ?_
                  refine jp_const ?_
                  rfl
                · refine pg_name (i := 8) ?_ ?_ ?_
                  · exact sc__law_by_costs.nd
                  · rfl
                  · exact .inr rfl
                · refine jss_cons ?_ ?_
                  · refine js_comp0 (j := 0) (own := [("half", 10)]) (i := 9) (M := []) ?_ ?_ ?_ ?_ ?_ ?_ ?_ ?_ jts_nil (fun _ _ _ _ _ => ?_) ho_n ?_
                    · rfl
                    · exact sc__law_by_costs.nd
                    · rfl
                    · rfl
                    · exact sw_true rfl rfl rfl (by decide +kernel)
                    · refine ji_val ?_
                      refine jp_cal (st := s__law_halves) (ps := ["lot", "row"]) (n := 2) (ks := []) (perm := [0, 1]) (j := 1) (l := 1) ?_ ?_ ?_ ?_ ?_ ?_ (len_aC (len_aC len_aN)) jk_nil len_aN
                      · exact q__law_halves
                      · omega
                      · exact hr
                      · exact hg
                      · exact fun _ _ _ _ _ _ us ws h1 h2 => match us, ws, h1, h2 with | [_, _], [], _, _ => rfl
                      · refine ja_cons (jv 0) ?_
                        exact ja_cons (jv 5) ja_nil
                    · refine blkOk_by (N := ["lot", "many_here", "gang", "table", "who", "row", "size_here", "costs", "mark", "below", "half", "cost"]) (sc := defScope s__law_by_costs) ?_
                      decide +kernel
                    · refine jg_n ?_ ?_ ?_
                      · exact sc__law_by_costs.nd
                      · rfl
                      · exact fun _ _ _ _ _ => .inl rfl
                    · refine jp_dget (jv 3) ?_ ?_ ?_
                      · refine jp_repr (jv 10) ?_ ?_ ?_ ?_
                        · exact hg
                        · exact u66 hr
                        · rfl
                        · exact z_repr
                      · exact u1 hr
                      · exact fun _ _ => rfl
                    · exact fun _ => rfl
                  · refine jss_cons ?_ jss_nil
                    refine js_app (i := 7) (M := []) ?_ ?_ ?_
                    · refine jp_callB (cj_sum ?_) ?_ ?_ ?_ ?_
                      · rfl
                      · rfl
                      · exact z_sum
                      · decide +kernel
                      · refine ja_cons ?_ ja_nil
                        refine JP.zero (k := 1) ?_
                        refine jp_comp (own := [("cost", 11)]) ?_ ?_ ?_ ?_ ?_ jts_nil (fun _ _ _ _ _ => ?_) ho_n ?_
                        · rfl
                        · exact sc__law_by_costs.nd
                        · exact ji_val (jv 9)
                        · refine blkOk_by (N := ["lot", "many_here", "gang", "table", "who", "row", "size_here", "costs", "mark", "below", "half", "cost"]) (sc := defScope s__law_by_costs) ?_
                          decide +kernel
                        · refine jg_n ?_ ?_ ?_
                          · exact sc__law_by_costs.nd
                          · rfl
                          · exact fun _ _ _ _ _ => .inl rfl
                        · refine jp_callB (cj_min ?_) ?_ ?_ ?_ ?_
                          · rfl
                          · rfl
                          · exact z_min
                          · decide +kernel
                          · refine ja_cons ?_ ?_
                            · refine jp_idx (jv 11) (jv 8) ?_
                              exact fun _ _ => rfl
                            · refine ja_cons ?_ ja_nil
                              refine JP.zero (k := 1) ?_
                              refine jp_bin oj_add ?_ jp_int
                              refine jp_idx (jv 11) ?_ ?_
                              · exact jp_bin oj_sub jp_int (jv 8)
                              · exact fun _ _ => rfl
                        · exact fun _ => rfl
                    · rfl
                    · exact .inl rfl
              · refine jss_cons ?_ jss_nil
                refine js_dsto (M := [7]) (jv 7) (jv 3) ?_ ?_
                · refine jp_repr (jv 5) ?_ ?_ ?_ ?_
                  · exact hg
                  · exact u66 hr
                  · rfl
                  · exact z_repr
                · exact u1 hr
        · refine jss_cons ?_ jss_nil
          refine js_ret (M := []) ?_
          refine jp_minD ?_ ?_ ?_ ?_ ?_
          · refine jp_dget (jv 3) ?_ ?_ ?_
            · refine jp_repr ?_ ?_ ?_ ?_ ?_
              · refine JP.zero (k := 1) ?_
                refine jp_listRg ?_ ?_ ?_ ?_
                · refine jrg_1 (jv 1) ?_ ?_
                  · rfl
                  · exact z_range
                · rfl
                · rfl
                · exact z_list
              · exact hg
              · exact u66 hr
              · rfl
              · exact z_repr
            · exact u1 hr
            · exact fun _ _ => rfl
          · rfl
          · exact u66 hr
          · rfl
          · exact z_min
abbrev s__law_right : Stmt := topS 27
theorem sc__law_right : FnScope ["store", "many_here", "lot", "rare", "kept", "gang", "rest", "due", "saved", "shown", "who"] ["store", "many_here"] (defScope s__law_right) := ⟨rfl, rfl, rfl, by decide +kernel, rfl, by decide +kernel, by decide +kernel⟩
def c__law_right_1 : Ev := (eComp (iU rg1 (eVar 1)) (bN 10) (bT (eBin dEq (eCall F__law_pick [0, 1] (aApp (aC (eVar 0) (aC (eVar 3) aN)) aN)) (eC (.int 0)))) (eVar 10) [10])
def c__law_right_2 : Ev := (eComp (iU rg1 (eVar 1)) (bN 10) (bT (eBin dNotIn (eVar 10) (eVar 5))) (eVar 10) [10])
def b__law_right : Sv := (sSeq (sSet 2 0 [] (eCall F__law_groups [0] (aApp (aC (eCall F__law_come [0, 1] (aApp (aC (eVar 0) (aC (eVar 1) aN)) aN)) aN) aN)))
    (sSeq (sBind [] (bT2 3 4) (eTup (aC (eIdx (eC (.list [(.int 2), (.int 2), (.int 5), (.int 1)])) (eCall F__law_pick [0, 1] (aApp (aC (eVar 0) (aC (eC (.int 4)) aN)) aN))) (aC (eUn dRepr (eVar 2)) aN))))
    (sSeq (sSet 5 0 [] c__law_right_1)
    (sSeq (sPar 6 7 0 0 [] [] c__law_right_2 (eCall F__law_by_costs [0, 1, 2] (aApp (aC (eVar 2) (aC (eVar 1) (aC (eVar 5) aN))) aN)))
    (sSeq (sSet 8 0 [] (eUn dRepr (eVar 5)))
    (sSeq (sIf [] (aT (bT (eBin dLt (eVar 1) (eC (.int 8)))) (bT (eBin dNe (eVar 7) (eCall F__law_by_all [0, 1, 2] (aApp (aC (eVar 2) (aC (eVar 1) (aC (eVar 5) aN))) aN)))))
    (sSeq (sRet [] (eC (.bool false)))
    sNil)
    sNil)
    (sSeq (sSet 9 0 [] (eLst (aC (eCall F_changes_of [0, 1] (aC (eVar 2) (aC (eVar 5) aN))) (aC (eCall F_changes_of [0, 1] (aApp (aC (eVar 2) (aC (eVar 6) aN)) aN)) (aC (eCall F_changes_of [0, 1] (aApp (aC (eVar 2) (aC (eOp cList (aC (eVar 5) aN)) aN)) aN)) aN)))))
    (sSeq (sIf [] (oT (bT (eBin dNe (eUn dRepr (eVar 9)) (eUn dRepr (eBin dMul (eLst (aC (eVar 7) aN)) (eC (.int 3)))))) (oT (bT (eBin dNe (eUn dRepr (eVar 2)) (eVar 4))) (bT (eBin dNe (eUn dRepr (eVar 5)) (eVar 8)))))
    (sSeq (sRet [] (eC (.bool false)))
    sNil)
    sNil)
    (sSeq (sRet [] (eAnd (eBin dEq (eCall F_changes_of [0, 1] (aApp (aC (eVar 2) (aC (eLst aN) aN)) aN)) (eC (.int 0))) (eBin dEq (eCall F_changes_of [0, 1] (aApp (aC (eVar 2) (aC (eLRg (r1 (eVar 1))) aN)) aN)) (eC (.int 0)))))
    sNil)))))))))
def F__law_right : FnD := fnD 11 b__law_right
theorem ok__law_right {P : Program} {w : World} {K : PySem.W.Frag} {mg : Str → Option Value} {base : Heap} (D : Dfn K mg "_law_right" s__law_right)
    (q_changes_of : Cal P w K mg base "changes_of" s_changes_of ["parting", "some"] 6 F_changes_of 0)
    (q__law_pick : Cal P w K mg base "_law_pick" s__law_pick ["store", "bound"] 1 F__law_pick 0)
    (q__law_groups : Cal P w K mg base "_law_groups" s__law_groups ["items"] 1 F__law_groups 0)
    (q__law_come : Cal P w K mg base "_law_come" s__law_come ["store", "many_here"] 2 F__law_come 0)
    (q__law_by_all : Cal P w K mg base "_law_by_all" s__law_by_all ["lot", "many_here", "gang"] 2 F__law_by_all 0)
    (q__law_by_costs : Cal P w K mg base "_law_by_costs" s__law_by_costs ["lot", "many_here", "gang"] 2 F__law_by_costs 0)
    (z_list : mg "list" = none)
    (z_range : mg "range" = none)
    (z_repr : mg "repr" = none) :
    Cal P w K mg base "_law_right" s__law_right ["store", "many_here"] 7 F__law_right 0 :=
  cal_def D sc__law_right fun f cdv A outer s H hr hg => by
    unfold b__law_right
    refine jss_cons ?_ ?_
    · refine js_set (i := 2) (M := []) ?_ ?_ ?_ ?_
      · refine jp_cal (st := s__law_groups) (ps := ["items"]) (n := 1) (ks := []) (perm := [0]) (j := 1) (l := 6) ?_ ?_ ?_ ?_ ?_ ?_ (len_aC len_aN) jk_nil len_aN
        · exact q__law_groups
        · omega
        · exact hr
        · exact hg
        · exact fun _ _ _ _ _ _ us ws h1 h2 => match us, ws, h1, h2 with | [_], [], _, _ => rfl
        · refine ja_cons ?_ ja_nil
          refine jp_cal (st := s__law_come) (ps := ["store", "many_here"]) (n := 2) (ks := []) (perm := [0, 1]) (j := 2) (l := 6) ?_ ?_ ?_ ?_ ?_ ?_ (len_aC (len_aC len_aN)) jk_nil len_aN
          · exact q__law_come
          · omega
          · exact hr
          · exact hg
          · exact fun _ _ _ _ _ _ us ws h1 h2 => match us, ws, h1, h2 with | [_, _], [], _, _ => rfl
          · refine ja_cons (jv 0) ?_
            exact ja_cons (jv 1) ja_nil
      · exact sc__law_right.nd
      · rfl
      · exact .inl rfl
    · refine jss_cons ?_ ?_
      · refine js_bind (M := []) ?_ ?_ gspec_tup2
        · refine jp_tup ?_
          refine ja_cons ?_ ?_
          · refine jp_idx ?_ ?_ ?_
            · refine jp_const ?_
              rfl
            · refine jp_cal (st := s__law_pick) (ps := ["store", "bound"]) (n := 2) (ks := []) (perm := [0, 1]) (j := 1) (l := 6) ?_ ?_ ?_ ?_ ?_ ?_ (len_aC (len_aC len_aN)) jk_nil len_aN
              · exact q__law_pick
              · omega
              · exact hr
              · exact hg
              · exact fun _ _ _ _ _ _ us ws h1 h2 => match us, ws, h1, h2 with | [_, _], [], _, _ => rfl
              · refine ja_cons (jv 0) ?_
                exact ja_cons jp_int ja_nil
            · exact fun _ _ => rfl
          · refine ja_cons ?_ ja_nil
            refine jp_repr (jv 2) ?_ ?_ ?_ ?_
            · exact hg
            · exact u66 hr
            · rfl
            · exact z_repr
        · refine pg_tup ?_ (pgs_cons (pg_name (i := 3) ?_ ?_ ?_) (pgs_cons (pg_name (i := 4) ?_ ?_ ?_) pgs_nil))
          · rfl
          · exact sc__law_right.nd
          · rfl
          · exact .inr rfl
          · exact sc__law_right.nd
          · rfl
          · exact .inl rfl
      · refine jss_cons ?_ ?_
        · refine js_set (i := 5) (M := []) ?_ ?_ ?_ ?_
          · refine JP.zero (k := 1) ?_
            refine jp_comp (own := [("who", 10)]) ?_ ?_ ?_ ?_ ?_ ?_ (fun _ _ _ _ _ => (jv 10)) ho_n ?_
            · rfl
            · exact sc__law_right.nd
            · refine ji_range1 (jv 1) ?_ ?_
              · rfl
              · exact z_range
            · refine blkOk_by (N := ["store", "many_here", "lot", "rare", "kept", "gang", "rest", "due", "saved", "shown", "who"]) (sc := defScope s__law_right) ?_
              decide +kernel
            · refine jg_n ?_ ?_ ?_
              · exact sc__law_right.nd
              · rfl
              · exact fun _ _ _ _ _ => .inl rfl
            · refine jts_one (fun _ _ _ _ _ => ?_)
              refine jt_cmp (oj_eq ?_) ?_ jp_int (nomark _)
              · exact u64 hr
              · refine jp_cal (st := s__law_pick) (ps := ["store", "bound"]) (n := 2) (ks := []) (perm := [0, 1]) (j := 1) (l := 6) ?_ ?_ ?_ ?_ ?_ ?_ (len_aC (len_aC len_aN)) jk_nil len_aN
                · exact q__law_pick
                · omega
                · exact hr
                · exact hg
                · exact fun _ _ _ _ _ _ us ws h1 h2 => match us, ws, h1, h2 with | [_, _], [], _, _ => rfl
                · refine ja_cons (jv 0) ?_
                  exact ja_cons (jv 3) ja_nil
            · exact fun _ => rfl
          · exact sc__law_right.nd
          · rfl
          · exact .inr rfl
        · refine jss_cons ?_ ?_
          · refine js_par (i := 6) (j := 7) (M1 := []) (M2 := []) ?_ ?_ ?_ ?_ ?_ ?_ ?_ ?_ ?_ ?_
            · refine JP.zero (k := 1) ?_
              refine jp_comp (own := [("who", 10)]) ?_ ?_ ?_ ?_ ?_ ?_ (fun _ _ _ _ _ => (jv 10)) ho_n ?_
              · rfl
              · exact sc__law_right.nd
              · refine ji_range1 (jv 1) ?_ ?_
                · rfl
                · exact z_range
              · refine blkOk_by (N := ["store", "many_here", "lot", "rare", "kept", "gang", "rest", "due", "saved", "shown", "who"]) (sc := defScope s__law_right) ?_
                decide +kernel
              · refine jg_n ?_ ?_ ?_
                · exact sc__law_right.nd
                · rfl
                · exact fun _ _ _ _ _ => .inl rfl
              · refine jts_one (fun _ _ _ _ _ => ?_)
                refine jt_cmp (oj_notIn ?_) (jv 10) (jv 5) ?_
                · exact u65 hr
                · rfl
              · exact fun _ => rfl
            · refine jp_cal (st := s__law_by_costs) (ps := ["lot", "many_here", "gang"]) (n := 3) (ks := []) (perm := [0, 1, 2]) (j := 2) (l := 6) ?_ ?_ ?_ ?_ ?_ ?_ (len_aC (len_aC (len_aC len_aN))) jk_nil len_aN
              · exact q__law_by_costs
              · omega
              · exact hr
              · exact hg
              · exact fun _ _ _ _ _ _ us ws h1 h2 => match us, ws, h1, h2 with | [_, _, _], [], _, _ => rfl
              · refine ja_cons (jv 2) ?_
                refine ja_cons (jv 1) ?_
                exact ja_cons (jv 5) ja_nil
            · rfl
            · exact sc__law_right.nd
            · rfl
            · rfl
            · decide
            · rfl
            · rfl
            · rfl
          · refine jss_cons ?_ ?_
            · refine js_set (i := 8) (M := []) ?_ ?_ ?_ ?_
              · refine jp_repr (jv 5) ?_ ?_ ?_ ?_
                · exact hg
                · exact u66 hr
                · rfl
                · exact z_repr
              · exact sc__law_right.nd
              · rfl
              · exact .inl rfl
            · refine jss_cons ?_ ?_
              · refine js_if (M := []) ?_ ?_ jss_nil
                · refine jt_pw ?_
                  refine jw_and ?_ ?_
                  · refine jt_cmp (oj_lt ?_) (jv 1) jp_int (nomark _)
                    exact u64 hr
                  · refine jw_and1 ?_
                    refine jt_cmp (oj_ne ?_) (jv 7) ?_ (nomark _)
                    · exact u64 hr
                    · refine jp_cal (st := s__law_by_all) (ps := ["lot", "many_here", "gang"]) (n := 3) (ks := []) (perm := [0, 1, 2]) (j := 2) (l := 6) ?_ ?_ ?_ ?_ ?_ ?_ (len_aC (len_aC (len_aC len_aN))) jk_nil len_aN
                      · exact q__law_by_all
                      · omega
                      · exact hr
                      · exact hg
                      · exact fun _ _ _ _ _ _ us ws h1 h2 => match us, ws, h1, h2 with | [_, _, _], [], _, _ => rfl
                      · refine ja_cons (jv 2) ?_
                        refine ja_cons (jv 1) ?_
                        exact ja_cons (jv 5) ja_nil
                · refine jss_cons ?_ jss_nil
                  exact js_ret (M := []) jp_bl
              · refine jss_cons ?_ ?_
                · refine js_set (i := 9) (M := []) ?_ ?_ ?_ ?_
                  · refine JP.zero (k := 1) ?_
                    refine jp_lst ?_
                    refine ja_cons ?_ ?_
                    · refine jp_cal0 (st := s_changes_of) (ps := ["parting", "some"]) (ks := ["parting", "some"]) (perm := [0, 1]) (j := 6) (l := 6) ?_ ?_ ?_ ?_ ?_ ?_ (len_aC (len_aC len_aN))
                      · exact q_changes_of
                      · omega
                      · exact hr
                      · exact hg
                      · exact fun _ _ _ _ _ _ us ws h1 h2 => match us, ws, h1, h2 with | [], [_, _], _, _ => rfl
                      · refine jk_cons (jv 2) ?_
                        exact jk_cons (jv 5) jk_nil
                    · refine ja_cons ?_ ?_
                      · refine jp_cal (st := s_changes_of) (ps := ["parting", "some"]) (n := 2) (ks := []) (perm := [0, 1]) (j := 6) (l := 6) ?_ ?_ ?_ ?_ ?_ ?_ (len_aC (len_aC len_aN)) jk_nil len_aN
                        · exact q_changes_of
                        · omega
                        · exact hr
                        · exact hg
                        · exact fun _ _ _ _ _ _ us ws h1 h2 => match us, ws, h1, h2 with | [_, _], [], _, _ => rfl
                        · refine ja_cons (jv 2) ?_
                          exact ja_cons (jv 6) ja_nil
                      · refine ja_cons ?_ ja_nil
                        refine jp_cal (st := s_changes_of) (ps := ["parting", "some"]) (n := 2) (ks := []) (perm := [0, 1]) (j := 6) (l := 6) ?_ ?_ ?_ ?_ ?_ ?_ (len_aC (len_aC len_aN)) jk_nil len_aN
                        · exact q_changes_of
                        · omega
                        · exact hr
                        · exact hg
                        · exact fun _ _ _ _ _ _ us ws h1 h2 => match us, ws, h1, h2 with | [_, _], [], _, _ => rfl
                        · refine ja_cons (jv 2) ?_
                          refine ja_cons ?_ ja_nil
                          refine JP.zero (k := 1) ?_
                          refine jp_callTy cj_list ?_ ?_ ?_ ?_
                          · rfl
                          · exact z_list
                          · decide +kernel
                          · exact ja_cons (jv 5) ja_nil
                  · exact sc__law_right.nd
                  · rfl
                  · exact .inl rfl
                · refine jss_cons ?_ ?_
                  · refine js_if (M := []) ?_ ?_ jss_nil
                    · refine jt_pw ?_
                      refine jw_or ?_ ?_
                      · refine jt_cmp (oj_ne ?_) ?_ ?_ (nomark _)
                        · exact u64 hr
                        · refine jp_repr (jv 9) ?_ ?_ ?_ ?_
                          · exact hg
                          · exact u66 hr
                          · rfl
                          · exact z_repr
                        · refine jp_repr ?_ ?_ ?_ ?_ ?_
                          · refine JP.zero (k := 1) ?_
                            refine jp_bin oj_mul ?_ jp_int
                            refine JP.zero (k := 1) ?_
                            refine jp_lst ?_
                            exact ja_cons (jv 7) ja_nil
                          · exact hg
                          · exact u66 hr
                          · rfl
                          · exact z_repr
                      · refine jw_or ?_ ?_
                        · refine jt_cmp (oj_ne ?_) ?_ (jv 4) (nomark _)
                          · exact u64 hr
                          · refine jp_repr (jv 2) ?_ ?_ ?_ ?_
                            · exact hg
                            · exact u66 hr
                            · rfl
                            · exact z_repr
                        · refine jw_or1 ?_
                          refine jt_cmp (oj_ne ?_) ?_ (jv 8) (nomark _)
                          · exact u64 hr
                          · refine jp_repr (jv 5) ?_ ?_ ?_ ?_
                            · exact hg
                            · exact u66 hr
                            · rfl
                            · exact z_repr
                    · refine jss_cons ?_ jss_nil
                      exact js_ret (M := []) jp_bl
                  · refine jss_cons ?_ jss_nil
                    refine js_ret (M := []) ?_
                    refine jp_and ?_ ?_
                    · refine jp_cmp (oj_eq ?_) ?_ jp_int (nomark _)
                      · exact u64 hr
                      · refine jp_cal (st := s_changes_of) (ps := ["parting", "some"]) (n := 2) (ks := []) (perm := [0, 1]) (j := 6) (l := 6) ?_ ?_ ?_ ?_ ?_ ?_ (len_aC (len_aC len_aN)) jk_nil len_aN
                        · exact q_changes_of
                        · omega
                        · exact hr
                        · exact hg
                        · exact fun _ _ _ _ _ _ us ws h1 h2 => match us, ws, h1, h2 with | [_, _], [], _, _ => rfl
                        · refine ja_cons (jv 2) ?_
                          refine ja_cons ?_ ja_nil
                          refine JP.zero (k := 1) ?_
                          exact jp_lst ja_nil
                    · refine jp_one ?_
                      refine jp_cmp (oj_eq ?_) ?_ jp_int (nomark _)
                      · exact u64 hr
                      · refine jp_cal (st := s_changes_of) (ps := ["parting", "some"]) (n := 2) (ks := []) (perm := [0, 1]) (j := 6) (l := 6) ?_ ?_ ?_ ?_ ?_ ?_ (len_aC (len_aC len_aN)) jk_nil len_aN
                        · exact q_changes_of
                        · omega
                        · exact hr
                        · exact hg
                        · exact fun _ _ _ _ _ _ us ws h1 h2 => match us, ws, h1, h2 with | [_, _], [], _, _ => rfl
                        · refine ja_cons (jv 2) ?_
                          refine ja_cons ?_ ja_nil
                          refine JP.zero (k := 1) ?_
                          refine jp_listRg ?_ ?_ ?_ ?_
                          · refine jrg_1 (jv 1) ?_ ?_
                            · rfl
                            · exact z_range
                          · rfl
                          · rfl
                          · exact z_list
abbrev s_law : Stmt := topS 28
theorem sc_law : FnScope ["script", "k", "store", "top", "turn", "chain", "shown", "who"] ["script"] (defScope s_law) := ⟨rfl, rfl, rfl, by decide +kernel, rfl, by decide +kernel, by decide +kernel⟩
def l_law_1 : Sv := (sSeq (sIf [] (nT (bT (eCall F__law_right [0, 1] (aApp (aC (eVar 2) (aC (eBin dSub (eVar 3) (eCall F__law_pick [0, 1] (aApp (aC (eVar 2) (aC (eIdx (eLst (aC (eC (.int 2)) (aC (eVar 3) aN))) (eCall F__law_pick [0, 1] (aApp (aC (eVar 2) (aC (eC (.int 2)) aN)) aN))) aN)) aN))) aN)) aN))))
    (sSeq (sRet [] (eC (.bool false)))
    sNil)
    sNil)
    sNil)
def l_law_2 : Sv := (sSeq (sFor0 [] (iU rg1 (eC (.int 2))) (bN 4)
    l_law_1)
    sNil)
def l_law_3 : Sv := (sSeq (sNew 2 (eCall F__law_store [0, 1] (aApp (aC (eVar 0) (aC (eVar 1) aN)) aN)))
    (sSeq (sFor [] (iVal (eC (.tuple [(.int 20), (.int 7), (.int 20), (.int 5)]))) (bN 3)
    l_law_2)
    sNil))
def c_law_1 : Ev := (eComp (iU rg1 (eC (.int 19))) (bN 7) tY (eLRg (r1 (eBin dAdd (eVar 7) (eC (.int 2))))) [7])
def b_law : Sv := (sSeq (sFor0 [] (iU rg1 (eOp cMax (aC (eC (.int 1)) (aC (eOp cMin (aC (eC (.int 4)) (aC (eOp cLen (aC (eVar 0) aN)) aN))) aN)))) (bN 1)
    l_law_3)
    (sSeq (sSet 5 0 [] c_law_1)
    (sSeq (sSet 6 0 [] (eLst (aC (eCall F_changes_of [0, 1] (aApp (aC (eVar 5) (aC (eLst (aC (eC (.int 0)) aN)) aN)) aN)) (aC (eCall F_changes_of [0, 1] (aApp (aC (eVar 5) (aC (eLRg3 (aC (eC (.int 0)) (aC (eC (.int 20)) (aC (eC (.int 2)) aN)))) aN)) aN)) (aC (eCall F_changes_of [0, 1] (aApp (aC (eVar 5) (aC (eC (.list [(.int 0), (.int 1), (.int 2), (.int 3)])) aN)) aN)) aN)))))
    (sSeq (sRet [] (eAnd (eBin dEq (eVar 6) (eC (.list [(.int 1), (.int 10), (.int 1)]))) (eAnd (eBin dEq (eCall F_changes_of [0, 1] (aApp (aC (eLst aN) (aC (eLst (aC (eC (.int 0)) aN)) aN)) aN)) (eC (.int 0))) (eBin dEq (eCall F_changes_of [0, 1] (aApp (aC (eC (.list [(.list [(.int 0), (.int 1)]), (.list [(.int 0), (.int 1), (.int 2), (.int 3)]), (.list [(.int 2), (.int 3)])])) (aC (eC (.list [(.int 0), (.int 2)])) aN)) aN)) (eC (.int 2))))))
    sNil))))
theorem ok_law {P : Program} {w : World} {K : PySem.W.Frag} {mg : Str → Option Value} {base : Heap} {f : Addr} {fd : FuncData} (F : Fun K "law" "law" s_law f fd)
    (q_changes_of : Cal P w K mg base "changes_of" s_changes_of ["parting", "some"] 6 F_changes_of 0)
    (q__law_store : Cal P w K mg base "_law_store" s__law_store ["script", "k"] 1 F__law_store 1)
    (q__law_pick : Cal P w K mg base "_law_pick" s__law_pick ["store", "bound"] 1 F__law_pick 0)
    (q__law_right : Cal P w K mg base "_law_right" s__law_right ["store", "many_here"] 7 F__law_right 0)
    (z_len : mg "len" = none)
    (z_list : mg "list" = none)
    (z_max : mg "max" = none)
    (z_min : mg "min" = none)
    (z_range : mg "range" = none) :
    FnG P w K mg base 8 f fd ["script"] (spLaw K 8 b_law) :=
  fng_law F sc_law fun cdv A outer s H hr hg => by
    unfold b_law
    refine jss_cons ?_ ?_
    · refine js_for0 (M := []) ?_ ?_ ?_ ?_ gspec_name ?_
      · exact PassesOwn.never
      · rfl
      · refine ji0_range1 ?_ ?_ ?_
        · refine jp_callB (cj_max ?_) ?_ ?_ ?_ ?_
          · rfl
          · rfl
          · exact z_max
          · decide +kernel
          · refine ja_cons jp_int ?_
            refine ja_cons ?_ ja_nil
            refine jp_callB (cj_min ?_) ?_ ?_ ?_ ?_
            · rfl
            · rfl
            · exact z_min
            · decide +kernel
            · refine ja_cons jp_int ?_
              refine ja_cons ?_ ja_nil
              refine jp_callB cj_len ?_ ?_ ?_ ?_
              · rfl
              · exact z_len
              · decide +kernel
              · exact ja_cons (jv 0) ja_nil
        · rfl
        · exact z_range
      · refine pg_name (i := 1) ?_ ?_ ?_
        · exact sc_law.nd
        · rfl
        · exact .inl rfl
      · refine jss_cons ?_ ?_
        · refine js_new (i := 2) ?_ ?_ ?_ ?_
          · refine jp_cal (st := s__law_store) (ps := ["script", "k"]) (n := 2) (ks := []) (perm := [0, 1]) (j := 1) (l := 7) ?_ ?_ ?_ ?_ ?_ ?_ (len_aC (len_aC len_aN)) jk_nil len_aN
            · exact q__law_store
            · omega
            · exact hr
            · exact hg
            · exact fun _ _ _ _ _ _ us ws h1 h2 => match us, ws, h1, h2 with | [_, _], [], _, _ => rfl
            · refine ja_cons (jv 0) ?_
              exact ja_cons (jv 1) ja_nil
          · exact sc_law.nd
          · rfl
          · exact .inl rfl
        · refine jss_cons ?_ jss_nil
          refine js_for (M := []) ?_ ?_ ?_ ?_ gspec_name ?_
          · exact PassesOwn.never
          · rfl
          · refine ji_val ?_
            refine jp_const ?_
            rfl
          · refine pg_name (i := 3) ?_ ?_ ?_
            · exact sc_law.nd
            · rfl
            · exact .inl rfl
          · refine jss_cons ?_ jss_nil
            refine js_for0 (M := []) ?_ ?_ ?_ ?_ gspec_name ?_
            · exact PassesOwn.never
            · rfl
            · refine ji0_range1 jp_int ?_ ?_
              · rfl
              · exact z_range
            · refine pg_name (i := 4) ?_ ?_ ?_
              · exact sc_law.nd
              · rfl
              · exact .inl rfl
            · refine jss_cons ?_ jss_nil
              refine js_if (M := []) ?_ ?_ jss_nil
              · refine jt_not ?_
                refine jt_val ?_ ?_
                · refine jp_cal (st := s__law_right) (ps := ["store", "many_here"]) (n := 2) (ks := []) (perm := [0, 1]) (j := 7) (l := 7) ?_ ?_ ?_ ?_ ?_ ?_ (len_aC (len_aC len_aN)) jk_nil len_aN
                  · exact q__law_right
                  · omega
                  · exact hr
                  · exact hg
                  · exact fun _ _ _ _ _ _ us ws h1 h2 => match us, ws, h1, h2 with | [_, _], [], _, _ => rfl
                  · refine ja_cons (jv 2) ?_
                    refine ja_cons ?_ ja_nil
                    refine jp_bin oj_sub (jv 3) ?_
                    refine jp_cal (st := s__law_pick) (ps := ["store", "bound"]) (n := 2) (ks := []) (perm := [0, 1]) (j := 1) (l := 7) ?_ ?_ ?_ ?_ ?_ ?_ (len_aC (len_aC len_aN)) jk_nil len_aN
                    · exact q__law_pick
                    · omega
                    · exact hr
                    · exact hg
                    · exact fun _ _ _ _ _ _ us ws h1 h2 => match us, ws, h1, h2 with | [_, _], [], _, _ => rfl
                    · refine ja_cons (jv 2) ?_
                      refine ja_cons ?_ ja_nil
                      refine jp_idx ?_ ?_ ?_
                      · refine JP.zero (k := 1) ?_
                        refine jp_lst ?_
                        refine ja_cons jp_int ?_
                        exact ja_cons (jv 3) ja_nil
                      · refine jp_cal (st := s__law_pick) (ps := ["store", "bound"]) (n := 2) (ks := []) (perm := [0, 1]) (j := 1) (l := 7) ?_ ?_ ?_ ?_ ?_ ?_ (len_aC (len_aC len_aN)) jk_nil len_aN
                        · exact q__law_pick
                        · omega
                        · exact hr
                        · exact hg
                        · exact fun _ _ _ _ _ _ us ws h1 h2 => match us, ws, h1, h2 with | [_, _], [], _, _ => rfl
                        · refine ja_cons (jv 2) ?_
                          exact ja_cons jp_int ja_nil
                      · exact fun _ _ => rfl
                · exact fun _ => rfl
              · refine jss_cons ?_ jss_nil
                exact js_ret (M := []) jp_bl
    · refine jss_cons ?_ ?_
      · refine js_comp0 (j := 0) (own := [("who", 7)]) (i := 5) (M := []) ?_ ?_ ?_ ?_ ?_ ?_ ?_ ?_ jts_nil (fun _ _ _ _ _ => ?_) ho_n ?_
        · rfl
        · exact sc_law.nd
        · rfl
        · rfl
        · exact sw_true rfl rfl rfl (by decide +kernel)
        · refine ji_range1 jp_int ?_ ?_
          · rfl
          · exact z_range
        · refine blkOk_by (N := ["script", "k", "store", "top", "turn", "chain", "shown", "who"]) (sc := defScope s_law) ?_
          decide +kernel
        · refine jg_n ?_ ?_ ?_
          · exact sc_law.nd
          · rfl
          · exact fun _ _ _ _ _ => .inl rfl
        · refine JP.zero (k := 1) ?_
          refine jp_listRg ?_ ?_ ?_ ?_
          · refine jrg_1 ?_ ?_ ?_
            · refine JP.zero (k := 1) ?_
              exact jp_bin oj_add (jv 7) jp_int
            · rfl
            · exact z_range
          · rfl
          · rfl
          · exact z_list
        · exact fun _ => rfl
      · refine jss_cons ?_ ?_
        · refine js_set (i := 6) (M := []) ?_ ?_ ?_ ?_
          · refine JP.zero (k := 1) ?_
            refine jp_lst ?_
            refine ja_cons ?_ ?_
            · refine jp_cal (st := s_changes_of) (ps := ["parting", "some"]) (n := 2) (ks := []) (perm := [0, 1]) (j := 6) (l := 7) ?_ ?_ ?_ ?_ ?_ ?_ (len_aC (len_aC len_aN)) jk_nil len_aN
              · exact q_changes_of
              · omega
              · exact hr
              · exact hg
              · exact fun _ _ _ _ _ _ us ws h1 h2 => match us, ws, h1, h2 with | [_, _], [], _, _ => rfl
              · refine ja_cons (jv 5) ?_
                refine ja_cons ?_ ja_nil
                refine JP.zero (k := 1) ?_
                refine jp_lst ?_
                exact ja_cons jp_int ja_nil
            · refine ja_cons ?_ ?_
              · refine jp_cal (st := s_changes_of) (ps := ["parting", "some"]) (n := 2) (ks := []) (perm := [0, 1]) (j := 6) (l := 7) ?_ ?_ ?_ ?_ ?_ ?_ (len_aC (len_aC len_aN)) jk_nil len_aN
                · exact q_changes_of
                · omega
                · exact hr
                · exact hg
                · exact fun _ _ _ _ _ _ us ws h1 h2 => match us, ws, h1, h2 with | [_, _], [], _, _ => rfl
                · refine ja_cons (jv 5) ?_
                  refine ja_cons ?_ ja_nil
                  refine JP.zero (k := 1) ?_
                  refine jp_listRg3 ?_ ?_ ?_ ?_ ?_ ?_
                  · refine ja_cons jp_int ?_
                    refine ja_cons jp_int ?_
                    exact ja_cons jp_int ja_nil
                  · rfl
                  · rfl
                  · exact z_range
                  · rfl
                  · exact z_list
              · refine ja_cons ?_ ja_nil
                refine jp_cal (st := s_changes_of) (ps := ["parting", "some"]) (n := 2) (ks := []) (perm := [0, 1]) (j := 6) (l := 7) ?_ ?_ ?_ ?_ ?_ ?_ (len_aC (len_aC len_aN)) jk_nil len_aN
                · exact q_changes_of
                · omega
                · exact hr
                · exact hg
                · exact fun _ _ _ _ _ _ us ws h1 h2 => match us, ws, h1, h2 with | [_, _], [], _, _ => rfl
                · refine ja_cons (jv 5) ?_
                  refine ja_cons ?_ ja_nil
                  refine jp_const ?_
                  rfl
          · exact sc_law.nd
          · rfl
          · exact .inl rfl
        · refine jss_cons ?_ jss_nil
          refine js_ret (M := []) ?_
          refine jp_and ?_ ?_
          · refine jp_cmp (oj_eq ?_) (jv 6) ?_ (nomark _)
            · exact u64 hr
            · refine jp_const ?_
              rfl
          · refine jp_and ?_ ?_
            · refine jp_cmp (oj_eq ?_) ?_ jp_int (nomark _)
              · exact u64 hr
              · refine jp_cal (st := s_changes_of) (ps := ["parting", "some"]) (n := 2) (ks := []) (perm := [0, 1]) (j := 6) (l := 7) ?_ ?_ ?_ ?_ ?_ ?_ (len_aC (len_aC len_aN)) jk_nil len_aN
                · exact q_changes_of
                · omega
                · exact hr
                · exact hg
                · exact fun _ _ _ _ _ _ us ws h1 h2 => match us, ws, h1, h2 with | [_, _], [], _, _ => rfl
                · refine ja_cons ?_ ?_
                  · refine JP.zero (k := 1) ?_
                    exact jp_lst ja_nil
                  · refine ja_cons ?_ ja_nil
                    refine JP.zero (k := 1) ?_
                    refine jp_lst ?_
                    exact ja_cons jp_int ja_nil
            · refine jp_one ?_
              refine jp_cmp (oj_eq ?_) ?_ jp_int (nomark _)
              · exact u64 hr
              · refine jp_cal (st := s_changes_of) (ps := ["parting", "some"]) (n := 2) (ks := []) (perm := [0, 1]) (j := 6) (l := 7) ?_ ?_ ?_ ?_ ?_ ?_ (len_aC (len_aC len_aN)) jk_nil len_aN
                · exact q_changes_of
                · omega
                · exact hr
                · exact hg
                · exact fun _ _ _ _ _ _ us ws h1 h2 => match us, ws, h1, h2 with | [_, _], [], _, _ => rfl
                · refine ja_cons ?_ ?_
                  · refine jp_const ?_
                    rfl
                  · refine ja_cons ?_ ja_nil
                    refine jp_const ?_
                    rfl
end K33
namespace K33
open PySem PySem.Spec PyProof.Rows L2 J
theorem all_mk {P : Program} {w : World} {K : PySem.W.Frag} {h : Heap} {mg : Str → Option Value} {fa : Addr} (X : K.In h) (G : h.Ns mainGlobals mg) (hfa : mg "law" = some (.ref fa))
    {f0 : Addr} {oc0 kV0 dc0 pm0 cd0 ct0 : Value} {od0 an0 : Option Addr} {sl0 : Array (Option Value)}
    {f1 : Addr} {oc1 kV1 dc1 pm1 cd1 ct1 : Value} {od1 an1 : Option Addr} {sl1 : Array (Option Value)}
    {f2 : Addr} {oc2 kV2 dc2 pm2 cd2 ct2 : Value} {od2 an2 : Option Addr} {sl2 : Array (Option Value)}
    {f3 : Addr} {oc3 kV3 dc3 pm3 cd3 ct3 : Value} {od3 an3 : Option Addr} {sl3 : Array (Option Value)}
    {f4 : Addr} {oc4 kV4 dc4 pm4 cd4 ct4 : Value} {od4 an4 : Option Addr} {sl4 : Array (Option Value)}
    {f5 : Addr} {oc5 kV5 dc5 pm5 cd5 ct5 : Value} {od5 an5 : Option Addr} {sl5 : Array (Option Value)}
    {f6 : Addr} {oc6 kV6 dc6 pm6 cd6 ct6 : Value} {od6 an6 : Option Addr} {sl6 : Array (Option Value)}
    {f7 : Addr} {oc7 kV7 dc7 pm7 cd7 ct7 : Value} {od7 an7 : Option Addr} {sl7 : Array (Option Value)}
    {f8 : Addr} {oc8 kV8 dc8 pm8 cd8 ct8 : Value} {od8 an8 : Option Addr} {sl8 : Array (Option Value)}
    {f9 : Addr} {oc9 kV9 dc9 pm9 cd9 ct9 : Value} {od9 an9 : Option Addr} {sl9 : Array (Option Value)}
    {f10 : Addr} {oc10 kV10 dc10 pm10 cd10 ct10 : Value} {od10 an10 : Option Addr} {sl10 : Array (Option Value)}
    {f11 : Addr} {oc11 kV11 dc11 pm11 cd11 ct11 : Value} {od11 an11 : Option Addr} {sl11 : Array (Option Value)}
    {f12 : Addr} {oc12 kV12 dc12 pm12 cd12 ct12 : Value} {od12 an12 : Option Addr} {sl12 : Array (Option Value)}
    {f13 : Addr} {oc13 kV13 dc13 pm13 cd13 ct13 : Value} {od13 an13 : Option Addr} {sl13 : Array (Option Value)}
    {f14 : Addr} {oc14 kV14 dc14 pm14 cd14 ct14 : Value} {od14 an14 : Option Addr} {sl14 : Array (Option Value)}
    {f15 : Addr} {oc15 kV15 dc15 pm15 cd15 ct15 : Value} {od15 an15 : Option Addr} {sl15 : Array (Option Value)}
    {f16 : Addr} {oc16 kV16 dc16 pm16 cd16 ct16 : Value} {od16 an16 : Option Addr} {sl16 : Array (Option Value)}
    {f17 : Addr} {oc17 kV17 dc17 pm17 cd17 ct17 : Value} {od17 an17 : Option Addr} {sl17 : Array (Option Value)}
    {f18 : Addr} {oc18 kV18 dc18 pm18 cd18 ct18 : Value} {od18 an18 : Option Addr} {sl18 : Array (Option Value)}
    {f19 : Addr} {oc19 kV19 dc19 pm19 cd19 ct19 : Value} {od19 an19 : Option Addr} {sl19 : Array (Option Value)}
    {f20 : Addr} {oc20 kV20 dc20 pm20 cd20 ct20 : Value} {od20 an20 : Option Addr} {sl20 : Array (Option Value)}
    {t_MOST_PERSONS : Tok}
    (a0 : PySem.W.nsIn K mainGlobals "is_integer" = some (some (.ref f0))) (l0 : K.lookup f0 = some ⟨oc0, od0, .func (PySem.W.fnOf "is_integer" "is_integer" (defArgs s_is_integer) (defBody s_is_integer) (defScope s_is_integer) .none kV0 dc0 pm0 an0 cd0 ct0), sl0⟩) (c0 : PySem.W.codeIn K cd0 "is_integer" = true) (k0 : PySem.W.keepIn K (.ref f0) = true)
    (a1 : PySem.W.nsIn K mainGlobals "is_row" = some (some (.ref f1))) (l1 : K.lookup f1 = some ⟨oc1, od1, .func (PySem.W.fnOf "is_row" "is_row" (defArgs s_is_row) (defBody s_is_row) (defScope s_is_row) .none kV1 dc1 pm1 an1 cd1 ct1), sl1⟩) (c1 : PySem.W.codeIn K cd1 "is_row" = true) (k1 : PySem.W.keepIn K (.ref f1) = true)
    (a2 : PySem.W.nsIn K mainGlobals "is_group" = some (some (.ref f2))) (l2 : K.lookup f2 = some ⟨oc2, od2, .func (PySem.W.fnOf "is_group" "is_group" (defArgs s_is_group) (defBody s_is_group) (defScope s_is_group) .none kV2 dc2 pm2 an2 cd2 ct2), sl2⟩) (c2 : PySem.W.codeIn K cd2 "is_group" = true) (k2 : PySem.W.keepIn K (.ref f2) = true)
    (a3 : PySem.W.nsIn K mainGlobals "lies_in" = some (some (.ref f3))) (l3 : K.lookup f3 = some ⟨oc3, od3, .func (PySem.W.fnOf "lies_in" "lies_in" (defArgs s_lies_in) (defBody s_lies_in) (defScope s_lies_in) .none kV3 dc3 pm3 an3 cd3 ct3), sl3⟩) (c3 : PySem.W.codeIn K cd3 "lies_in" = true) (k3 : PySem.W.keepIn K (.ref f3) = true)
    (a4 : PySem.W.nsIn K mainGlobals "parts_in" = some (some (.ref f4))) (l4 : K.lookup f4 = some ⟨oc4, od4, .func (PySem.W.fnOf "parts_in" "parts_in" (defArgs s_parts_in) (defBody s_parts_in) (defScope s_parts_in) .none kV4 dc4 pm4 an4 cd4 ct4), sl4⟩) (c4 : PySem.W.codeIn K cd4 "parts_in" = true) (k4 : PySem.W.keepIn K (.ref f4) = true)
    (a5 : PySem.W.nsIn K mainGlobals "has_parts" = some (some (.ref f5))) (l5 : K.lookup f5 = some ⟨oc5, od5, .func (PySem.W.fnOf "has_parts" "has_parts" (defArgs s_has_parts) (defBody s_has_parts) (defScope s_has_parts) .none kV5 dc5 pm5 an5 cd5 ct5), sl5⟩) (c5 : PySem.W.codeIn K cd5 "has_parts" = true) (k5 : PySem.W.keepIn K (.ref f5) = true)
    (a6 : PySem.W.nsIn K mainGlobals "is_parting" = some (some (.ref f6))) (l6 : K.lookup f6 = some ⟨oc6, od6, .func (PySem.W.fnOf "is_parting" "is_parting" (defArgs s_is_parting) (defBody s_is_parting) (defScope s_is_parting) .none kV6 dc6 pm6 an6 cd6 ct6), sl6⟩) (c6 : PySem.W.codeIn K cd6 "is_parting" = true) (k6 : PySem.W.keepIn K (.ref f6) = true)
    (a7 : PySem.W.nsIn K mainGlobals "need_parting" = some (some (.ref f7))) (l7 : K.lookup f7 = some ⟨oc7, od7, .func (PySem.W.fnOf "need_parting" "need_parting" (defArgs s_need_parting) (defBody s_need_parting) (defScope s_need_parting) .none kV7 dc7 pm7 an7 cd7 ct7), sl7⟩) (c7 : PySem.W.codeIn K cd7 "need_parting" = true) (k7 : PySem.W.keepIn K (.ref f7) = true)
    (a8 : PySem.W.nsIn K mainGlobals "many_in" = some (some (.ref f8))) (l8 : K.lookup f8 = some ⟨oc8, od8, .func (PySem.W.fnOf "many_in" "many_in" (defArgs s_many_in) (defBody s_many_in) (defScope s_many_in) .none kV8 dc8 pm8 an8 cd8 ct8), sl8⟩) (c8 : PySem.W.codeIn K cd8 "many_in" = true) (k8 : PySem.W.keepIn K (.ref f8) = true)
    (a9 : PySem.W.nsIn K mainGlobals "need_marked" = some (some (.ref f9))) (l9 : K.lookup f9 = some ⟨oc9, od9, .func (PySem.W.fnOf "need_marked" "need_marked" (defArgs s_need_marked) (defBody s_need_marked) (defScope s_need_marked) .none kV9 dc9 pm9 an9 cd9 ct9), sl9⟩) (c9 : PySem.W.codeIn K cd9 "need_marked" = true) (k9 : PySem.W.keepIn K (.ref f9) = true)
    (a10 : PySem.W.nsIn K mainGlobals "changes_of" = some (some (.ref f10))) (l10 : K.lookup f10 = some ⟨oc10, od10, .func (PySem.W.fnOf "changes_of" "changes_of" (defArgs s_changes_of) (defBody s_changes_of) (defScope s_changes_of) .none kV10 dc10 pm10 an10 cd10 ct10), sl10⟩) (c10 : PySem.W.codeIn K cd10 "changes_of" = true) (k10 : PySem.W.keepIn K (.ref f10) = true)
    (a11 : PySem.W.nsIn K mainGlobals "_law_store" = some (some (.ref f11))) (l11 : K.lookup f11 = some ⟨oc11, od11, .func (PySem.W.fnOf "_law_store" "_law_store" (defArgs s__law_store) (defBody s__law_store) (defScope s__law_store) .none kV11 dc11 pm11 an11 cd11 ct11), sl11⟩) (c11 : PySem.W.codeIn K cd11 "_law_store" = true) (k11 : PySem.W.keepIn K (.ref f11) = true)
    (a12 : PySem.W.nsIn K mainGlobals "_law_pick" = some (some (.ref f12))) (l12 : K.lookup f12 = some ⟨oc12, od12, .func (PySem.W.fnOf "_law_pick" "_law_pick" (defArgs s__law_pick) (defBody s__law_pick) (defScope s__law_pick) .none kV12 dc12 pm12 an12 cd12 ct12), sl12⟩) (c12 : PySem.W.codeIn K cd12 "_law_pick" = true) (k12 : PySem.W.keepIn K (.ref f12) = true)
    (a13 : PySem.W.nsIn K mainGlobals "_law_groups" = some (some (.ref f13))) (l13 : K.lookup f13 = some ⟨oc13, od13, .func (PySem.W.fnOf "_law_groups" "_law_groups" (defArgs s__law_groups) (defBody s__law_groups) (defScope s__law_groups) .none kV13 dc13 pm13 an13 cd13 ct13), sl13⟩) (c13 : PySem.W.codeIn K cd13 "_law_groups" = true) (k13 : PySem.W.keepIn K (.ref f13) = true)
    (a14 : PySem.W.nsIn K mainGlobals "_law_come" = some (some (.ref f14))) (l14 : K.lookup f14 = some ⟨oc14, od14, .func (PySem.W.fnOf "_law_come" "_law_come" (defArgs s__law_come) (defBody s__law_come) (defScope s__law_come) .none kV14 dc14 pm14 an14 cd14 ct14), sl14⟩) (c14 : PySem.W.codeIn K cd14 "_law_come" = true) (k14 : PySem.W.keepIn K (.ref f14) = true)
    (a15 : PySem.W.nsIn K mainGlobals "_law_least_above" = some (some (.ref f15))) (l15 : K.lookup f15 = some ⟨oc15, od15, .func (PySem.W.fnOf "_law_least_above" "_law_least_above" (defArgs s__law_least_above) (defBody s__law_least_above) (defScope s__law_least_above) .none kV15 dc15 pm15 an15 cd15 ct15), sl15⟩) (c15 : PySem.W.codeIn K cd15 "_law_least_above" = true) (k15 : PySem.W.keepIn K (.ref f15) = true)
    (a16 : PySem.W.nsIn K mainGlobals "_law_by_all" = some (some (.ref f16))) (l16 : K.lookup f16 = some ⟨oc16, od16, .func (PySem.W.fnOf "_law_by_all" "_law_by_all" (defArgs s__law_by_all) (defBody s__law_by_all) (defScope s__law_by_all) .none kV16 dc16 pm16 an16 cd16 ct16), sl16⟩) (c16 : PySem.W.codeIn K cd16 "_law_by_all" = true) (k16 : PySem.W.keepIn K (.ref f16) = true)
    (a17 : PySem.W.nsIn K mainGlobals "_law_halves" = some (some (.ref f17))) (l17 : K.lookup f17 = some ⟨oc17, od17, .func (PySem.W.fnOf "_law_halves" "_law_halves" (defArgs s__law_halves) (defBody s__law_halves) (defScope s__law_halves) .none kV17 dc17 pm17 an17 cd17 ct17), sl17⟩) (c17 : PySem.W.codeIn K cd17 "_law_halves" = true) (k17 : PySem.W.keepIn K (.ref f17) = true)
    (a18 : PySem.W.nsIn K mainGlobals "_law_by_costs" = some (some (.ref f18))) (l18 : K.lookup f18 = some ⟨oc18, od18, .func (PySem.W.fnOf "_law_by_costs" "_law_by_costs" (defArgs s__law_by_costs) (defBody s__law_by_costs) (defScope s__law_by_costs) .none kV18 dc18 pm18 an18 cd18 ct18), sl18⟩) (c18 : PySem.W.codeIn K cd18 "_law_by_costs" = true) (k18 : PySem.W.keepIn K (.ref f18) = true)
    (a19 : PySem.W.nsIn K mainGlobals "_law_right" = some (some (.ref f19))) (l19 : K.lookup f19 = some ⟨oc19, od19, .func (PySem.W.fnOf "_law_right" "_law_right" (defArgs s__law_right) (defBody s__law_right) (defScope s__law_right) .none kV19 dc19 pm19 an19 cd19 ct19), sl19⟩) (c19 : PySem.W.codeIn K cd19 "_law_right" = true) (k19 : PySem.W.keepIn K (.ref f19) = true)
    (a20 : PySem.W.nsIn K mainGlobals "law" = some (some (.ref f20))) (l20 : K.lookup f20 = some ⟨oc20, od20, .func (PySem.W.fnOf "law" "law" (defArgs s_law) (defBody s_law) (defScope s_law) .none kV20 dc20 pm20 an20 cd20 ct20), sl20⟩) (c20 : PySem.W.codeIn K cd20 "law" = true) (k20 : PySem.W.keepIn K (.ref f20) = true)
    (y_abs : PySem.W.nsIn K mainGlobals "abs" = some none)
    (y_all : PySem.W.nsIn K mainGlobals "all" = some none)
    (y_bool : PySem.W.nsIn K mainGlobals "bool" = some none)
    (y_enumerate : PySem.W.nsIn K mainGlobals "enumerate" = some none)
    (y_int : PySem.W.nsIn K mainGlobals "int" = some none)
    (y_isinstance : PySem.W.nsIn K mainGlobals "isinstance" = some none)
    (y_len : PySem.W.nsIn K mainGlobals "len" = some none)
    (y_list : PySem.W.nsIn K mainGlobals "list" = some none)
    (y_max : PySem.W.nsIn K mainGlobals "max" = some none)
    (y_min : PySem.W.nsIn K mainGlobals "min" = some none)
    (y_range : PySem.W.nsIn K mainGlobals "range" = some none)
    (y_repr : PySem.W.nsIn K mainGlobals "repr" = some none)
    (y_sorted : PySem.W.nsIn K mainGlobals "sorted" = some none)
    (y_sum : PySem.W.nsIn K mainGlobals "sum" = some none)
    (y_tuple : PySem.W.nsIn K mainGlobals "tuple" = some none)
    (y_zip : PySem.W.nsIn K mainGlobals "zip" = some none)
    (x_MOST_PERSONS : PySem.W.nsIn K mainGlobals "MOST_PERSONS" = some (some (.int 20 t_MOST_PERSONS))) :
    ∃ fd : FuncData, (∀ (s : Shared) (v : Value), BindsTo s fd ⟨[v], []⟩ [("script", v)]) ∧ ∀ base : Heap, K.In base → base.Ns mainGlobals mg → FnG P w K mg base 8 fa fd ["script"] (spLaw K 8 b_law) := by
  have e := hfa.symm.trans (PySem.W.mg_of X G a20)
  cases e
  have z_abs : mg "abs" = none := PySem.W.mg_none_of X G y_abs
  have z_all : mg "all" = none := PySem.W.mg_none_of X G y_all
  have z_bool : mg "bool" = none := PySem.W.mg_none_of X G y_bool
  have z_enumerate : mg "enumerate" = none := PySem.W.mg_none_of X G y_enumerate
  have z_int : mg "int" = none := PySem.W.mg_none_of X G y_int
  have z_isinstance : mg "isinstance" = none := PySem.W.mg_none_of X G y_isinstance
  have z_len : mg "len" = none := PySem.W.mg_none_of X G y_len
  have z_list : mg "list" = none := PySem.W.mg_none_of X G y_list
  have z_max : mg "max" = none := PySem.W.mg_none_of X G y_max
  have z_min : mg "min" = none := PySem.W.mg_none_of X G y_min
  have z_range : mg "range" = none := PySem.W.mg_none_of X G y_range
  have z_repr : mg "repr" = none := PySem.W.mg_none_of X G y_repr
  have z_sorted : mg "sorted" = none := PySem.W.mg_none_of X G y_sorted
  have z_sum : mg "sum" = none := PySem.W.mg_none_of X G y_sum
  have z_tuple : mg "tuple" = none := PySem.W.mg_none_of X G y_tuple
  have z_zip : mg "zip" = none := PySem.W.mg_none_of X G y_zip
  have c_MOST_PERSONS := PySem.W.mg_of X G x_MOST_PERSONS
  refine ⟨PySem.W.fnOf "law" "law" (defArgs s_law) (defBody s_law) (defScope s_law) .none kV20 dc20 pm20 an20 cd20 ct20, fun s v => .of_eq rfl, fun base _ _ => ?_⟩
  have q_is_integer := ok_is_integer (P := P) (w := w) (base := base) (dfn_of X G a0 l0 c0 k0) z_bool z_int z_isinstance
  have q_is_row := ok_is_row (P := P) (w := w) (base := base) (dfn_of X G a1 l1 c1 k1) q_is_integer z_all z_isinstance z_list z_zip
  have q_is_group := ok_is_group (P := P) (w := w) (base := base) (dfn_of X G a2 l2 c2 k2) q_is_row z_len
  have q_lies_in := ok_lies_in (P := P) (w := w) (base := base) (dfn_of X G a3 l3 c3 k3) z_all
  have q_parts_in := ok_parts_in (P := P) (w := w) (base := base) (dfn_of X G a4 l4 c4 k4) z_len z_list
  have q_has_parts := ok_has_parts (P := P) (w := w) (base := base) (dfn_of X G a5 l5 c5 k5) q_lies_in q_parts_in z_len
  have q_is_parting := ok_is_parting (P := P) (w := w) (base := base) (dfn_of X G a6 l6 c6 k6) q_is_group q_has_parts z_all z_isinstance z_len z_list z_range z_zip c_MOST_PERSONS
  have q_need_parting := ok_need_parting (P := P) (w := w) (base := base) (dfn_of X G a7 l7 c7 k7) q_is_parting
  have q_many_in := ok_many_in (P := P) (w := w) (base := base) (dfn_of X G a8 l8 c8 k8) z_len
  have q_need_marked := ok_need_marked (P := P) (w := w) (base := base) (dfn_of X G a9 l9 c9 k9) q_is_integer z_all z_isinstance z_list z_zip
  have q_changes_of := ok_changes_of (P := P) (w := w) (base := base) (dfn_of X G a10 l10 c10 k10) q_parts_in q_need_parting q_many_in q_need_marked z_int z_len z_range z_sorted z_tuple
  have q__law_store := ok__law_store (P := P) (w := w) (base := base) (dfn_of X G a11 l11 c11 k11) z_abs z_int z_len z_max
  have q__law_pick := ok__law_pick (P := P) (w := w) (base := base) (dfn_of X G a12 l12 c12 k12) z_int
  have q__law_groups := ok__law_groups (P := P) (w := w) (base := base) (dfn_of X G a13 l13 c13 k13) z_enumerate z_len z_list z_sorted
  have q__law_come := ok__law_come (P := P) (w := w) (base := base) (dfn_of X G a14 l14 c14 k14) q__law_pick z_range
  have q__law_least_above := ok__law_least_above (P := P) (w := w) (base := base) (dfn_of X G a15 l15 c15 k15) z_len z_min
  have q__law_by_all := ok__law_by_all (P := P) (w := w) (base := base) (dfn_of X G a16 l16 c16 k16) q__law_least_above z_min z_range z_zip
  have q__law_halves := ok__law_halves (P := P) (w := w) (base := base) (dfn_of X G a17 l17 c17 k17) z_len
  have q__law_by_costs := ok__law_by_costs (P := P) (w := w) (base := base) (dfn_of X G a18 l18 c18 k18) q__law_halves z_len z_list z_min z_range z_repr z_sorted z_sum
  have q__law_right := ok__law_right (P := P) (w := w) (base := base) (dfn_of X G a19 l19 c19 k19) q_changes_of q__law_pick q__law_groups q__law_come q__law_by_all q__law_by_costs z_list z_range z_repr
  exact ok_law (fun_mk l20 c20 k20) q_changes_of q__law_store q__law_pick q__law_right z_len z_list z_max z_min z_range
end K33
/-! orders of lists, pure -/
namespace J
def ltI : List Int → List Int → Bool
  | [], [] => false
  | [], _ :: _ => true
  | _ :: _, [] => false
  | x :: r, y :: t => decide (x < y) || (!decide (y < x) && ltI r t)
def leI (a b : List Int) : Bool := !ltI b a
theorem ltI_irrefl : ∀ a : List Int, ltI a a = false
  | [] => rfl
  | x :: r => by simp [ltI, ltI_irrefl r]
theorem ltI_total : ∀ a b : List Int, ltI a b = false → ltI b a = false → a = b
  | [], [], _, _ => rfl
  | [], _ :: _, h, _ => nomatch h
  | _ :: _, [], _, h => nomatch h
  | x :: r, y :: t, h1, h2 => by
    simp only [ltI, Bool.or_eq_false_iff, decide_eq_false_iff_not, Bool.and_eq_false_iff, Bool.not_eq_false', decide_eq_true_eq] at h1 h2
    have e : x = y := by omega
    subst e
    rw [ltI_total r t (by rcases h1.2 with h | h; · omega
                          · exact h) (by rcases h2.2 with h | h; · omega
                                         · exact h)]
theorem ltI_trans : ∀ a b c : List Int, ltI a b = true → ltI b c = true → ltI a c = true
  | [], [], _, h, _ => nomatch h
  | [], _ :: _, [], _, h => nomatch h
  | [], _ :: _, _ :: _, _, _ => rfl
  | _ :: _, [], _, h, _ => nomatch h
  | _ :: _, _ :: _, [], _, h => nomatch h
  | x :: r, y :: t, z :: u, h1, h2 => by
    simp only [ltI, Bool.or_eq_true, decide_eq_true_eq, Bool.and_eq_true, Bool.not_eq_true', decide_eq_false_iff_not] at h1 h2 ⊢
    rcases h1 with h1 | ⟨h1, h3⟩
    · rcases h2 with h2 | ⟨h2, _⟩
      · exact .inl (by omega)
      · exact .inl (by omega)
    · rcases h2 with h2 | ⟨h2, h4⟩
      · exact .inl (by omega)
      · by_cases e : x < z
        · exact .inl e
        · exact .inr ⟨by omega, ltI_trans r t u h3 h4⟩
theorem leI_trans (a b c : List Int) (h1 : leI a b = true) (h2 : leI b c = true) : leI a c = true := by
  unfold leI at *
  rw [Bool.not_eq_true'] at *
  cases q : ltI c a with
  | false => rfl
  | true =>
    cases q2 : ltI b c with
    | true => rw [ltI_trans b c a q2 q] at h1; cases h1
    | false => rw [ltI_total b c q2 h2] at h1; rw [h1] at q; cases q
theorem leI_total (a b : List Int) : (leI a b || leI b a) = true := by
  unfold leI
  cases q : ltI b a with
  | false => rfl
  | true =>
    cases q2 : ltI a b with
    | false => rfl
    | true => exact absurd (ltI_trans b a b q q2) (by rw [ltI_irrefl]; decide)
theorem leI_anti (a b : List Int) (h1 : leI a b = true) (h2 : leI b a = true) : a = b := by
  unfold leI at *
  rw [Bool.not_eq_true'] at *
  exact ltI_total a b h2 h1

/-! ### sorted lists -/
theorem perm_sorted {α : Type} {le : α → α → Bool} (anti : ∀ a b, le a b = true → le b a = true → a = b) : ∀ {l m : List α}, l.Perm m → l.Pairwise (fun a b => le a b = true) → m.Pairwise (fun a b => le a b = true) → l = m
  | [], m, h, _, _ => (List.perm_nil.mp h.symm).symm
  | a :: r, [], h, _, _ => absurd h.length_eq (by simp)
  | a :: r, b :: t, h, h1, h2 => by
    have e : a = b := by
      by_cases e : a = b
      · exact e
      · have ha : a ∈ b :: t := h.mem_iff.mp List.mem_cons_self
        have hb : b ∈ a :: r := h.mem_iff.mpr List.mem_cons_self
        have ha' : a ∈ t := by
          rcases List.mem_cons.mp ha with q | q
          · exact absurd q e
          · exact q
        have hb' : b ∈ r := by
          rcases List.mem_cons.mp hb with q | q
          · exact absurd q.symm e
          · exact q
        exact anti a b ((List.pairwise_cons.mp h1).1 b hb') ((List.pairwise_cons.mp h2).1 a ha')
    subst e
    rw [perm_sorted anti (h.cons_inv) (List.pairwise_cons.mp h1).2 (List.pairwise_cons.mp h2).2]
abbrev leZ (a b : Int) : Bool := decide (a ≤ b)
theorem leZ_trans (a b c : Int) (h1 : leZ a b = true) (h2 : leZ b c = true) : leZ a c = true := by
  have := of_decide_eq_true h1
  have := of_decide_eq_true h2
  exact decide_eq_true (by omega)
theorem leZ_total (a b : Int) : (leZ a b || leZ b a) = true := by
  by_cases h : a ≤ b
  · simp [leZ, h]
  · simp [leZ]; omega
theorem leZ_anti (a b : Int) (h1 : leZ a b = true) (h2 : leZ b a = true) : a = b := by
  have := of_decide_eq_true h1
  have := of_decide_eq_true h2
  omega
/-- the list, ascending -/
def sZ (l : List Int) : List Int := l.mergeSort leZ
def sR (l : List (List Int)) : List (List Int) := l.mergeSort leI
theorem sZ_perm (l : List Int) : (sZ l).Perm l := List.mergeSort_perm l leZ
theorem sR_perm (l : List (List Int)) : (sR l).Perm l := List.mergeSort_perm l leI
theorem sZ_sorted (l : List Int) : (sZ l).Pairwise (fun a b => leZ a b = true) := List.pairwise_mergeSort leZ_trans leZ_total l
theorem sR_sorted (l : List (List Int)) : (sR l).Pairwise (fun a b => leI a b = true) := List.pairwise_mergeSort leI_trans leI_total l
theorem sZ_eq {l m : List Int} (h : l.Perm m) : sZ l = sZ m := perm_sorted leZ_anti ((sZ_perm l).trans (h.trans (sZ_perm m).symm)) (sZ_sorted l) (sZ_sorted m)
theorem sR_eq {l m : List (List Int)} (h : l.Perm m) : sR l = sR m := perm_sorted leI_anti ((sR_perm l).trans (h.trans (sR_perm m).symm)) (sR_sorted l) (sR_sorted m)
theorem sZ_of {l : List Int} (h : l.Pairwise (fun a b => leZ a b = true)) : sZ l = l := List.mergeSort_of_pairwise h
theorem sR_of {l : List (List Int)} (h : l.Pairwise (fun a b => leI a b = true)) : sR l = l := List.mergeSort_of_pairwise h
end J
namespace J
open PySem PySem.Spec PyProof.Rows L2

/-! ### lists of ints as data, their order -/
abbrev dI (l : List Int) : D := .list (l.map PyData.int)
abbrev dL (ls : List (List Int)) : D := .list (ls.map dI)
theorem toks_ltI : ∀ a b : List Int, PyProof.Rows.lexLt PyProof.Rows.itemOrd (PySem.W.keyToksAll (a.map PyData.int)) (PySem.W.keyToksAll (b.map PyData.int)) = ltI a b
  | [], [] => by decide
  | [], y :: t => rfl
  | x :: r, [] => rfl
  | x :: r, y :: t => by
    have ih := toks_ltI r t
    rw [List.map_cons, List.map_cons, PySem.W.toks_all_cons, PySem.W.toks_all_cons, PySem.W.keyToks, PySem.W.keyToks]
    rw [show ((Sum.inl 1 : Int ⊕ List Nat) :: ([Sum.inl x] ++ PySem.W.keyToksAll (r.map PyData.int))) = [Sum.inl 1] ++ (Sum.inl x :: PySem.W.keyToksAll (r.map PyData.int)) from rfl,
      show ((Sum.inl 1 : Int ⊕ List Nat) :: ([Sum.inl y] ++ PySem.W.keyToksAll (t.map PyData.int))) = [Sum.inl 1] ++ (Sum.inl y :: PySem.W.keyToksAll (t.map PyData.int)) from rfl, PySem.W.lex_pre]
    rw [PyProof.Rows.lex_cons, ih]
    rfl
theorem lt_dI (a b : List Int) : PySem.W.dataLt (dI a) (dI b) = ltI a b := by rw [PySem.W.dataLt_list]; exact toks_ltI a b
theorem srt_ints (ns : List Int) : srt (ns.map PyData.int) = (ns.mergeSort fun a b => decide (a ≤ b)).map PyData.int := by
  unfold srt
  symm
  refine PySem.W.sort_maps PyData.int fun a _ b _ => ?_
  show decide (a ≤ b) = !PySem.W.dataLt (.int b) (.int a)
  rw [PySem.W.dataLt_int]
  by_cases h : a ≤ b
  · rw [decide_eq_true h, decide_eq_false (by omega)]; rfl
  · rw [decide_eq_false h, decide_eq_true (by omega)]; rfl
theorem srt_rows (ls : List (List Int)) : srt (ls.map dI) = (ls.mergeSort leI).map dI := by
  unfold srt
  symm
  refine PySem.W.sort_maps dI fun a _ b _ => ?_
  show (!ltI b a) = !PySem.W.dataLt (dI b) (dI a)
  rw [lt_dI]
theorem srt_dI (l : List Int) : srt (l.map PyData.int) = (sZ l).map PyData.int := srt_ints l
theorem srt_dL (l : List (List Int)) : srt (l.map dI) = (sR l).map dI := srt_rows l

/-! ### what such data may do -/
theorem canLay_ints : ∀ l : List Int, PyData.canLayAll0 (l.map PyData.int) = true
  | [] => rfl
  | x :: r => by rw [List.map_cons, PyData.canLayAll0, canLay_ints r]; rfl
theorem canLay_rows : ∀ l : List (List Int), PyData.canLayAll0 (l.map dI) = true
  | [] => rfl
  | x :: r => by
    rw [List.map_cons, PyData.canLayAll0, canLay_rows r]
    show (PyData.canLay0 (.list (x.map PyData.int)) && true) = true
    rw [PyData.canLay0, canLay_ints]
    rfl
theorem depth_ints : ∀ l : List Int, PyData.depthAll (l.map PyData.int) ≤ 1
  | [] => by decide
  | x :: r => by
    rw [List.map_cons, PyData.depthAll]
    have := depth_ints r
    have e : (PyData.int x).depth ≤ 1 := by simp [PyData.depth]
    omega
theorem depth_dI (l : List Int) : (dI l).depth ≤ 2 := by
  have := depth_ints l
  show (PyData.list (l.map PyData.int)).depth ≤ 2
  rw [PyData.depth]
  omega
theorem depth_rows : ∀ l : List (List Int), PyData.depthAll (l.map dI) ≤ 2
  | [] => by decide
  | x :: r => by
    rw [List.map_cons, PyData.depthAll]
    have := depth_rows r
    have := depth_dI x
    omega
theorem depth_dL (l : List (List Int)) : (dL l).depth ≤ 3 := by
  have := depth_rows l
  show (PyData.list (l.map dI)).depth ≤ 3
  rw [PyData.depth]
  omega
theorem lay_dI (l : List Int) : (dI l).canLay0 = true := by
  show PyData.canLay0 (.list (l.map PyData.int)) = true
  rw [PyData.canLay0]; exact canLay_ints l
theorem lay_dL (l : List (List Int)) : (dL l).canLay0 = true := by
  show PyData.canLay0 (.list (l.map dI)) = true
  rw [PyData.canLay0]; exact canLay_rows l
theorem shaped_of {d : D} (h : d.canLay0 = true) (h2 : d.depth ≤ 64) : SeqAt.shaped d = true := by
  unfold SeqAt.shaped
  rw [h, decide_eq_true h2]
  rfl
theorem shaped_dI (l : List Int) : SeqAt.shaped (dI l) = true := shaped_of (lay_dI l) (Nat.le_trans (depth_dI l) (by decide))
theorem shaped_dL (l : List (List Int)) : SeqAt.shaped (dL l) = true := shaped_of (lay_dL l) (Nat.le_trans (depth_dL l) (by decide))
theorem shaped_int (i : Int) : SeqAt.shaped (.int i) = true := shaped_of rfl (by simp [PyData.depth])
theorem alike_ints : ∀ a b : List Int, PySem.W.alikeAll (a.map PyData.int) (b.map PyData.int) = true
  | [], b => by cases b <;> rfl
  | x :: r, [] => rfl
  | x :: r, y :: t => by
    rw [List.map_cons, List.map_cons, PySem.W.alikeAll, alike_ints r t]
    rfl
theorem alike_dI (a b : List Int) : PySem.W.alike (dI a) (dI b) = true := by
  show PySem.W.alike (.list _) (.list _) = true
  rw [PySem.W.alike]; exact alike_ints a b
theorem sortOk_dI (l : List Int) : sortOk (l.map PyData.int) = true := by
  unfold sortOk
  rw [Bool.and_eq_true, Bool.and_eq_true]
  refine ⟨⟨?_, ?_⟩, shaped_dI l⟩
  · unfold allAlike
    rw [List.all_eq_true]
    intro x hx
    rw [List.all_eq_true]
    intro y hy
    obtain ⟨i, _, rfl⟩ := List.mem_map.mp hx
    obtain ⟨j, _, rfl⟩ := List.mem_map.mp hy
    rfl
  · rw [Bool.or_eq_true]
    refine .inl ?_
    rw [List.all_eq_true]
    intro x hx
    obtain ⟨i, _, rfl⟩ := List.mem_map.mp hx
    rfl
theorem sortOk_dL (l : List (List Int)) : sortOk (l.map dI) = true := by
  unfold sortOk
  rw [Bool.and_eq_true, Bool.and_eq_true]
  refine ⟨⟨?_, ?_⟩, shaped_dL l⟩
  · unfold allAlike
    rw [List.all_eq_true]
    intro x hx
    rw [List.all_eq_true]
    intro y hy
    obtain ⟨i, _, rfl⟩ := List.mem_map.mp hx
    obtain ⟨j, _, rfl⟩ := List.mem_map.mp hy
    exact alike_dI i j
  · rw [Bool.or_eq_true]
    refine .inl ?_
    rw [List.all_eq_true]
    intro x hx
    obtain ⟨i, _, rfl⟩ := List.mem_map.mp hx
    rfl
theorem dSort_dI {l : List Int} (h : l.length ≤ 16777216) : dSort (dI l) = some (dI (sZ l)) := by
  show dSort (.list (l.map PyData.int)) = _
  unfold dSort
  simp only [List.length_map]
  rw [if_pos ⟨sortOk_dI l, h⟩, srt_dI]
theorem dSort_dL {l : List (List Int)} (h : l.length ≤ 16777216) : dSort (dL l) = some (dL (sR l)) := by
  show dSort (.list (l.map dI)) = _
  unfold dSort
  simp only [List.length_map]
  rw [if_pos ⟨sortOk_dL l, h⟩, srt_dL]
theorem dLt_dI (a b : List Int) : dLt (dI a) (dI b) = some (.bool (ltI a b)) := by
  show dLt (.list _) (.list _) = _
  simp only [dLt]
  rw [if_pos ⟨alike_dI a b, shaped_dI a, shaped_dI b, rfl⟩, lt_dI]
theorem eqv_ints : ∀ a b : List Int, PyData.eqvAll (a.map PyData.int) (b.map PyData.int) = decide (a = b)
  | [], [] => rfl
  | [], y :: t => rfl
  | x :: r, [] => rfl
  | x :: r, y :: t => by
    rw [List.map_cons, List.map_cons, PyData.eqvAll, eqv_ints r t, PyData.eqv]
    by_cases h : x = y
    · by_cases h2 : r = t
      · simp [h, h2]
      · simp [h, h2]
    · simp [h]
theorem eqv_dI (a b : List Int) : PyData.eqv (dI a) (dI b) = decide (a = b) := by
  show PyData.eqv (.list _) (.list _) = _
  rw [PyData.eqv]; exact eqv_ints a b
theorem eqv_rows : ∀ a b : List (List Int), PyData.eqvAll (a.map dI) (b.map dI) = decide (a = b)
  | [], [] => rfl
  | [], y :: t => rfl
  | x :: r, [] => rfl
  | x :: r, y :: t => by
    rw [List.map_cons, List.map_cons, PyData.eqvAll, eqv_rows r t, eqv_dI]
    by_cases h : x = y
    · by_cases h2 : r = t
      · simp [h, h2]
      · simp [h, h2]
    · simp [h]
theorem eqv_dL (a b : List (List Int)) : PyData.eqv (dL a) (dL b) = decide (a = b) := by
  show PyData.eqv (.list _) (.list _) = _
  rw [PyData.eqv]; exact eqv_rows a b
theorem dIn_int (x : Int) (l : List Int) : dIn (.int x) (dI l) = some (.bool (decide (x ∈ l))) := by
  show dIn (.int x) (.list _) = _
  simp only [dIn]
  rw [if_pos ⟨shaped_int x, shaped_dI l⟩]
  congr 2
  unfold hasD
  rw [Bool.eq_iff_iff, List.any_eq_true, decide_eq_true_iff]
  constructor
  · rintro ⟨z, hz, e⟩
    obtain ⟨i, hi, rfl⟩ := List.mem_map.mp hz
    have : i = x := by simpa [PyData.eqv] using e
    rw [← this]; exact hi
  · intro h
    exact ⟨.int x, List.mem_map.mpr ⟨x, h, rfl⟩, by simp [PyData.eqv]⟩
theorem dIn_row (x : List Int) (l : List (List Int)) : dIn (dI x) (dL l) = some (.bool (decide (x ∈ l))) := by
  show dIn (dI x) (.list _) = _
  simp only [dIn]
  rw [if_pos ⟨shaped_dI x, shaped_dL l⟩]
  congr 2
  unfold hasD
  rw [Bool.eq_iff_iff, List.any_eq_true, decide_eq_true_iff]
  constructor
  · rintro ⟨z, hz, e⟩
    obtain ⟨i, hi, rfl⟩ := List.mem_map.mp hz
    rw [eqv_dI] at e
    rw [← of_decide_eq_true e]; exact hi
  · intro h
    exact ⟨dI x, List.mem_map.mpr ⟨x, h, rfl⟩, by rw [eqv_dI]; simp⟩
theorem dNotIn_int (x : Int) (l : List Int) : dNotIn (.int x) (dI l) = some (.bool (!decide (x ∈ l))) := by
  have h := dIn_int x l
  have h : dIn (.int x) (.list (l.map PyData.int)) = _ := h
  show dNotIn (.int x) (.list _) = _
  simp only [dIn, dNotIn] at h ⊢
  rw [if_pos ⟨shaped_int x, shaped_dI l⟩] at h ⊢
  have h2 := PyData.bool.inj (Option.some.inj h)
  rw [h2]
theorem dNotIn_row (x : List Int) (l : List (List Int)) : dNotIn (dI x) (dL l) = some (.bool (!decide (x ∈ l))) := by
  have h := dIn_row x l
  have h : dIn (dI x) (.list (l.map dI)) = _ := h
  show dNotIn (dI x) (.list _) = _
  simp only [dIn, dNotIn] at h ⊢
  rw [if_pos ⟨shaped_dI x, shaped_dL l⟩] at h ⊢
  have h2 := PyData.bool.inj (Option.some.inj h)
  rw [h2]
end J
namespace J
open PySem PySem.Spec PyProof.Rows L2

theorem fin_self (s : STO) (d : D) : fin s d s = some (d, s) := by unfold fin; rw [if_pos rfl]
theorem fin_len {s s' : STO} (d : D) (h : s'.length = s.length) : fin s d s' = some (d, s') := by unfold fin; rw [if_pos h]
theorem compL_pure {α : Type} {bd : Bd} {fc : EvT} {fe : Ev} {own : List Nat} {vw : VW} {s : STO} (g : α → D) (bx : α → List (Nat × D)) (tt : α → Bool) (ee : α → D) : ∀ l : List α,
    (∀ a ∈ l, bd (g a) = some (bx a)) → (∀ a ∈ l, fc (setV (wipeV vw own) (bx a)) s = some (tt a, s)) → (∀ a ∈ l, tt a = true → fe (setV (wipeV vw own) (bx a)) s = some (ee a, s)) →
    compL bd fc fe own vw (l.map g) s = some ((l.filter tt).map ee, s)
  | [], _, _, _ => rfl
  | a :: r, h1, h2, h3 => by
    have ih := compL_pure g bx tt ee r (fun a ha => h1 a (List.mem_cons_of_mem _ ha)) (fun a ha => h2 a (List.mem_cons_of_mem _ ha)) (fun a ha => h3 a (List.mem_cons_of_mem _ ha))
    rw [List.map_cons, compL, h1 a List.mem_cons_self]
    simp only [Option.bind_some]
    rw [h2 a List.mem_cons_self]
    simp only [Option.bind_some]
    cases q : tt a with
    | true =>
      rw [if_pos rfl, h3 a List.mem_cons_self q]
      simp only [Option.bind_some]
      rw [ih, List.filter_cons_of_pos q]
      rfl
    | false =>
      rw [if_neg Bool.false_ne_true, ih, List.filter_cons_of_neg (by rw [q]; decide)]
/-- a comprehension over what is read without a change -/
theorem eComp_pure {α : Type} {fi : EvI} {bd : Bd} {fc : EvT} {fe : Ev} {own : List Nat} {vw : VW} {s : STO} (l : List α) (g : α → D) (bx : α → List (Nat × D)) (tt : α → Bool) (ee : α → D) (hi : fi vw s = some (l.map g, s)) (hl : l.length ≤ 16777216)
    (h1 : ∀ a ∈ l, bd (g a) = some (bx a)) (h2 : ∀ a ∈ l, fc (setV (wipeV vw own) (bx a)) s = some (tt a, s)) (h3 : ∀ a ∈ l, tt a = true → fe (setV (wipeV vw own) (bx a)) s = some (ee a, s)) :
    eComp fi bd fc fe own vw s = some (.list ((l.filter tt).map ee), s) := by
  unfold eComp
  rw [hi]
  simp only [Option.bind_some, List.length_map]
  rw [if_pos hl, compL_pure g bx tt ee l h1 h2 h3]
  rfl
/-- without a test -/
theorem eComp_map {α : Type} {fi : EvI} {bd : Bd} {fe : Ev} {own : List Nat} {vw : VW} {s : STO} (l : List α) (g : α → D) (bx : α → List (Nat × D)) (ee : α → D) (hi : fi vw s = some (l.map g, s)) (hl : l.length ≤ 16777216)
    (h1 : ∀ a ∈ l, bd (g a) = some (bx a)) (h3 : ∀ a ∈ l, fe (setV (wipeV vw own) (bx a)) s = some (ee a, s)) :
    eComp fi bd tY fe own vw s = some (.list (l.map ee), s) := by
  have := eComp_pure (fc := tY) (fe := fe) (own := own) l g bx (fun _ => true) ee hi hl h1 (fun a _ => rfl) (fun a ha _ => h3 a ha)
  rwa [List.filter_eq_self.mpr (fun _ _ => rfl)] at this
theorem zi_map {α : Type} (f : α → D) : ∀ (l m : List α), ziD (l.map f) (m.map f) = (l.zip m).map fun p => .tuple [f p.1, f p.2]
  | [], m => by cases m <;> rfl
  | x :: r, [] => rfl
  | x :: r, y :: t => by rw [List.map_cons, List.map_cons, ziD, zi_map f r t]; rfl
theorem cut_tail {α : Type} (l : List α) : cutL l (some 1) none = l.drop 1 := by
  unfold cutL
  rw [show HT.sIx l.length 0 (some 1) = min 1 l.length from HT.sIx_nat l.length 0 1, HT.sIx_none]
  cases l with
  | nil => rfl
  | cons x r =>
    rw [show min 1 (x :: r).length = 1 by rw [List.length_cons]; omega]
    show List.take ((x :: r).length - 1) r = r
    rw [List.length_cons, Nat.add_sub_cancel]
    exact List.take_length
theorem cut_head {α : Type} (l : List α) : cutL l none (some 1) = l.take 1 := by
  unfold cutL
  rw [show HT.sIx l.length l.length (some 1) = min 1 l.length from HT.sIx_nat l.length _ 1, HT.sIx_none]
  cases l with
  | nil => rfl
  | cons x r =>
    rw [show min 1 (x :: r).length = 1 by rw [List.length_cons]; omega]
    rfl
theorem cAll_map {α : Type} (f : α → Bool) (l : List α) : cAll [.list (l.map fun x => PyData.bool (f x))] = some (.bool (l.all f)) := by
  have h := isBls_map (l.map f)
  rw [List.map_map] at h
  have h : isBls (l.map fun x => PyData.bool (f x)) = some (l.map f) := h
  show (isBls _).map _ = _
  rw [h]
  simp
/-- a loop by its invariant, where no turn leaves it -/
theorem forL_rel {bd : Bd} {body : Sv} (I : Nat → Env → STO → Prop) : ∀ (l : List D) (n : Nat) (env : Env) (s : STO), I n env s →
    (∀ i d env s, l[i]? = some d → I (n + i) env s → ∃ l', bd d = some l' ∧ allLt env.length l' = true ∧ noTok d = true ∧ ∃ o env' s', body (setE env l') s = some (o, env', s') ∧ (o = .nx ∨ o = .ct) ∧ I (n + i + 1) env' s') →
    ∃ env' s', forL bd body l env s = some (.nx, env', s') ∧ I (n + l.length) env' s'
  | [], n, env, s, h, _ => ⟨env, s, rfl, h⟩
  | d :: r, n, env, s, h, step => by
    obtain ⟨l', h1, h2, h3, o, env1, s1, h4, h5, h6⟩ := step 0 d env s rfl h
    obtain ⟨env2, s2, h7, h8⟩ := forL_rel I r (n + 1) env1 s1 h6 fun i d' env' s' hd hI => by
      have := step (i + 1) d' env' s' (by simpa using hd) (by rw [show n + (i + 1) = n + 1 + i by omega]; exact hI)
      rw [show n + (i + 1) + 1 = n + 1 + i + 1 by omega] at this
      exact this
    refine ⟨env2, s2, ?_, by rw [List.length_cons, show n + (r.length + 1) = n + 1 + r.length by omega]; exact h8⟩
    rw [forL, h1]
    simp only [Option.bind_some]
    rw [if_pos ⟨h2, h3⟩, h4]
    simp only [Option.bind_some]
    rcases h5 with rfl | rfl
    · exact h7
    · exact h7
theorem noTok_ints : ∀ l : List Int, noTokA (l.map PyData.int) = true
  | [] => rfl
  | x :: r => by rw [List.map_cons, noTokA, noTok_ints r]; rfl
theorem noTok_dI (l : List Int) : noTok (dI l) = true := by
  show noTok (.list (l.map PyData.int)) = true
  rw [noTok]; exact noTok_ints l
theorem noTok_rows : ∀ l : List (List Int), noTokA (l.map dI) = true
  | [] => rfl
  | x :: r => by rw [List.map_cons, noTokA, noTok_rows r, noTok_dI]; rfl
theorem noTok_dL (l : List (List Int)) : noTok (dL l) = true := by
  show noTok (.list (l.map dI)) = true
  rw [noTok]; exact noTok_rows l
theorem fzS_ff (s : Slot) : fzS false s = s := by cases s <;> rfl
theorem fzS_sh (b : Bool) (d : D) : fzS b (.sh d) = .sh d := by cases b <;> rfl
theorem fzS_no (b : Bool) : fzS b .no = .no := by cases b <;> rfl
theorem fzS_ow (k : Nat) (d : D) : fzS true (.ow k d) = .sh d := rfl
theorem seeS_sh (b : Bool) (d : D) : seeS b (.sh d) = some d := rfl
theorem seeS_no (b : Bool) : seeS b .no = none := rfl
theorem seeS_tt (k : Nat) (d : D) : seeS true (.ow k d) = some d := rfl
theorem seeS_ff (k : Nat) (d : D) : seeS false (.ow k d) = none := rfl
end J
namespace J
open PySem PySem.Spec PyProof.Rows L2
/-! ### step by step -/
section
variable {g h : Sv} {env e1 : Env} {s s1 s2 s3 : STO} {R : Option (Out × Env × STO)} {d d1 d2 d3 d' : D} {M : List Nat} {t u : EvT} {f f1 f2 f3 : Ev} {vw : VW} {fs : EvA} {ds es : List D} {b c : Bool}
theorem sSeq_nx (h1 : g env s = some (.nx, e1, s1)) (h2 : h e1 s1 = R) : sSeq g h env s = R := by unfold sSeq; rw [h1]; exact h2
theorem sSeq_rt (h1 : g env s = some (.rt d, e1, s1)) : sSeq g h env s = some (.rt d, e1, s1) := by unfold sSeq; rw [h1]; rfl
theorem sIf_f (h1 : t (see M env) s = some (false, s1)) (h2 : h env s1 = R) (hm : okM M s1 = true := by rfl) : sIf M t g h env s = R := by unfold sIf; rw [h1, Option.bind_some]; unfold fzT; rw [if_pos hm]; exact h2
theorem sIf_t (h1 : t (see M env) s = some (true, s1)) (h2 : g env s1 = R) (hm : okM M s1 = true := by rfl) : sIf M t g h env s = R := by unfold sIf; rw [h1, Option.bind_some]; unfold fzT; rw [if_pos hm]; exact h2
theorem sRet_ok (h1 : f (see M env) s = some (d, s1)) : sRet M f env s = some (.rt d, env, s1) := by unfold sRet; rw [h1]; rfl
theorem sEx_ok (h1 : f (see M env) s = some (d, s1)) (hm : okM M s1 = true := by rfl) : sEx M f env s = some (.nx, env, s1) := by unfold sEx; rw [h1, Option.map_some]; unfold fzT; rw [if_pos hm]
theorem sSet_okM {i k : Nat} (h1 : f (see M env) s = some (d, s1)) (hi : decide (i < env.length) = true := by rfl) : sSet i k M f env s = some (.nx, (fzIf k d M s1 env).set i (mkS k d), s1) := by unfold sSet; rw [if_pos (of_decide_eq_true hi), h1]; rfl
theorem fzI_nil : ∀ (n : Nat) (env : Env), fzI [] n env = env
  | _, [] => rfl
  | n, x :: r => by rw [fzI, fzI_nil (n + 1) r]; cases x <;> rfl
theorem fzIf_nil {k : Nat} : fzIf k d [] s env = env := by
  unfold fzIf
  split
  · rfl
  · exact fzI_nil 0 env
theorem sSet_ok {i k : Nat} (h1 : f (see [] env) s = some (d, s1)) (hi : decide (i < env.length) = true := by rfl) : sSet i k [] f env s = some (.nx, env.set i (mkS k d), s1) := by rw [sSet_okM h1 hi, fzIf_nil]
theorem sFor_ok {fi : EvI} {bd : Bd} (h1 : fi (see M env) s = some (ds, s1)) (h2 : forL bd g ds (fz M env) s1 = R) : sFor M fi bd g env s = R := by unfold sFor; rw [h1]; exact h2
theorem sFor0_okM {fi : EvI} {bd : Bd} (hm : okM M s1 = true) (h1 : fi (see M env) s = some (ds, s1)) (h2 : forL bd g ds env s1 = R) : sFor0 M fi bd g env s = R := by unfold sFor0; rw [h1, Option.bind_some, if_pos hm]; exact h2
theorem sFor0_ok {fi : EvI} {bd : Bd} (h1 : fi (see [] env) s = some (ds, s1)) (h2 : forL bd g ds env s1 = R) : sFor0 [] fi bd g env s = R := sFor0_okM rfl h1 h2
theorem fnD_rt {N : Nat} (h1 : g (ds.map .sh ++ List.replicate (N - ds.length) .no) s = some (.rt d, e1, s1)) (h2 : fin s d s1 = some (d', s2)) : fnD N g ds s = some (d', s2) := by unfold fnD; rw [h1]; exact h2
theorem fnD_nx {N : Nat} (h1 : g (ds.map .sh ++ List.replicate (N - ds.length) .no) s = some (.nx, e1, s1)) (h2 : fin s .none s1 = some (d', s2)) : fnD N g ds s = some (d', s2) := by unfold fnD; rw [h1]; exact h2
theorem eVar_ok {i : Nat} (h1 : vw[i]? = some (some d)) : eVar i vw s = some (d, s) := by unfold eVar; rw [h1]
theorem eBin_ok {op : D → D → Option D} (h1 : f1 vw s = some (d1, s1)) (h2 : f2 vw s1 = some (d2, s2)) (h3 : op d1 d2 = some d) : eBin op f1 f2 vw s = some (d, s2) := by unfold eBin; rw [h1, Option.bind_some, h2, Option.bind_some, h3]; rfl
theorem eUn_ok {op : D → Option D} (h1 : f1 vw s = some (d1, s1)) (h3 : op d1 = some d) : eUn op f1 vw s = some (d, s1) := by unfold eUn; rw [h1, Option.bind_some, h3]; rfl
theorem eIdx_ok (h1 : f1 vw s = some (d1, s1)) (h2 : f2 vw s1 = some (d2, s2)) (h3 : dIdx s2 d1 d2 = some d) : eIdx f1 f2 vw s = some (d, s2) := by unfold eIdx; rw [h1, Option.bind_some, h2, Option.bind_some, h3]; rfl
theorem eOp_ok {op : List D → Option D} (h1 : fs vw s = some (ds, s1)) (h3 : op ds = some d) : eOp op fs vw s = some (d, s1) := by unfold eOp; rw [h1, Option.bind_some, h3]; rfl
theorem aN_ok : aN vw s = some ([], s) := rfl
theorem aC_ok (h1 : f vw s = some (d, s1)) (h2 : fs vw s1 = some (ds, s2)) : aC f fs vw s = some (d :: ds, s2) := by unfold aC; rw [h1, Option.bind_some, h2]; rfl
theorem eLst_ok (h1 : fs vw s = some (ds, s1)) (h2 : decide (ds.length ≤ 16777216) = true := by rfl) : eLst fs vw s = some (.list ds, s1) := by unfold eLst; rw [h1, Option.bind_some, if_pos (of_decide_eq_true h2)]
theorem eTup_ok (h1 : fs vw s = some (ds, s1)) (h2 : decide (ds.length ≤ 16777216) = true := by rfl) : eTup fs vw s = some (.tuple ds, s1) := by unfold eTup; rw [h1, Option.bind_some, if_pos (of_decide_eq_true h2)]
theorem eCall_ok {F : FnD} {perm : List Nat} (h1 : fs vw s = some (ds, s1)) (h2 : F (pick PyData.none perm ds) s1 = some (d, s2)) : eCall F perm fs vw s = some (d, s2) := by unfold eCall; rw [h1]; exact h2
theorem aApp_ok {gs : EvA} (h1 : fs vw s = some (ds, s1)) (h2 : gs vw s1 = some (es, s2)) : aApp fs gs vw s = some (ds ++ es, s2) := by unfold aApp; rw [h1, Option.bind_some, h2]; rfl
theorem bT_ok (h1 : f vw s = some (.bool b, s1)) : bT f vw s = some (b, s1) := by unfold bT; rw [h1]; rfl
theorem nT_ok (h1 : t vw s = some (b, s1)) : nT t vw s = some (!b, s1) := by unfold nT; rw [h1]; rfl
theorem oT_t (h1 : t vw s = some (true, s1)) : oT t u vw s = some (true, s1) := by unfold oT; rw [h1]; rfl
theorem oT_f {R : Option (Bool × STO)} (h1 : t vw s = some (false, s1)) (h2 : u vw s1 = R) : oT t u vw s = R := by unfold oT; rw [h1]; exact h2
theorem aT_t {R : Option (Bool × STO)} (h1 : t vw s = some (true, s1)) (h2 : u vw s1 = R) : aT t u vw s = R := by unfold aT; rw [h1]; exact h2
theorem aT_f (h1 : t vw s = some (false, s1)) : aT t u vw s = some (false, s1) := by unfold aT; rw [h1]; rfl
theorem eIf_t {R : Option (D × STO)} (h1 : t vw s = some (true, s1)) (h2 : f1 vw s1 = R) : eIf t f1 f2 vw s = R := by unfold eIf; rw [h1]; exact h2
theorem eIf_f {R : Option (D × STO)} (h1 : t vw s = some (false, s1)) (h2 : f2 vw s1 = R) : eIf t f1 f2 vw s = R := by unfold eIf; rw [h1]; exact h2
theorem eAnd_t {R : Option (D × STO)} (h1 : f1 vw s = some (.bool true, s1)) (h2 : f2 vw s1 = R) : eAnd f1 f2 vw s = R := by unfold eAnd; rw [h1]; exact h2
theorem eAnd_f (h1 : f1 vw s = some (.bool false, s1)) : eAnd f1 f2 vw s = some (.bool false, s1) := by unfold eAnd; rw [h1]; rfl
theorem eOr_f {R : Option (D × STO)} (h1 : f1 vw s = some (.bool false, s1)) (h2 : f2 vw s1 = R) : eOr f1 f2 vw s = R := by unfold eOr; rw [h1]; exact h2
theorem eOr_t (h1 : f1 vw s = some (.bool true, s1)) : eOr f1 f2 vw s = some (.bool true, s1) := by unfold eOr; rw [h1]; rfl
theorem eC_ok : eC d vw s = some (d, s) := rfl
theorem iVal_l (h1 : f vw s = some (.list ds, s1)) : iVal f vw s = some (ds, s1) := by unfold iVal; rw [h1]; rfl
theorem iVal_t (h1 : f vw s = some (.tuple ds, s1)) : iVal f vw s = some (ds, s1) := by unfold iVal; rw [h1]; rfl
theorem iU_ok {op : D → Option (List D)} (h1 : f vw s = some (d, s1)) (h2 : op d = some ds) : iU op f vw s = some (ds, s1) := by unfold iU; rw [h1, Option.bind_some, h2]; rfl
theorem iB_ok {op : D → D → Option (List D)} (h1 : f1 vw s = some (d1, s1)) (h2 : f2 vw s1 = some (d2, s2)) (h3 : op d1 d2 = some ds) : iB op f1 f2 vw s = some (ds, s2) := by unfold iB; rw [h1, Option.bind_some, h2, Option.bind_some, h3]; rfl
end
/-! ### small numbers -/
theorem small_of {i : Int} (h : i.natAbs < 2 ^ 250) : small i = true := by
  unfold small
  exact decide_eq_true (Nat.lt_of_lt_of_le h (Nat.pow_le_pow_right (by decide) (by decide)))
theorem dMul_ok {i j : Int} (h1 : i.natAbs < 2 ^ 250) (h2 : j.natAbs < 2 ^ 250) : dMul (.int i) (.int j) = some (.int (i * j)) := by
  show (if small i = true ∧ small j = true then _ else _) = _
  rw [if_pos ⟨small_of h1, small_of h2⟩]
theorem dPow_ok {i j : Int} (h1 : i.natAbs < 2 ^ 250) (h2 : 0 ≤ j ∧ j ≤ 300) : dPow (.int i) (.int j) = some (.int (i ^ j.toNat)) := by
  show (if 0 ≤ j ∧ j ≤ 300 ∧ small i = true then _ else _) = _
  rw [if_pos ⟨h2.1, h2.2, small_of h1⟩]
theorem dFdiv_ok {i j : Int} (h0 : 0 < j) (h1 : j.natAbs < 2 ^ 250) : dFdiv (.int i) (.int j) = some (.int (i / j)) := by
  show (if 0 < j ∧ small j = true then _ else _) = _
  rw [if_pos ⟨h0, small_of h1⟩]
theorem dMod_ok {i j : Int} (h0 : 0 < j) : dMod (.int i) (.int j) = some (.int (i % j)) := by
  show (if 0 < j then _ else _) = _
  rw [if_pos h0]
/-! ### texts of lists -/
theorem join_le (n : Nat) : ∀ ts : List Str, (∀ t ∈ ts, t.length ≤ n) → (Str.join ", " ts).length ≤ (n + 2) * ts.length
  | [], _ => by show (0 : Nat) ≤ _; omega
  | t :: r, h => by
    rw [PyProof.Rows.len_join_cons]
    have hs : ∀ l : List Str, (∀ t ∈ l, t.length ≤ n) → (l.map (·.length)).sum ≤ n * l.length := by
      intro l
      induction l with
      | nil => intro _; simp
      | cons x l ih =>
        intro hl
        have h1 := hl x List.mem_cons_self
        have h2 := ih fun t ht => hl t (List.mem_cons_of_mem _ ht)
        simp only [List.map_cons, List.sum_cons, List.length_cons]
        rw [Nat.mul_succ]
        omega
    have h1 := hs (t :: r) h
    have h2 : (", " : Str).length = 2 := by rfl
    rw [h2, Nat.add_mul]
    simp only [List.length_cons] at h1 ⊢
    omega
theorem shownAll_mem : ∀ (ds : List D) (x : Str), x ∈ PyData.shownAll ds → ∃ d ∈ ds, x = PyData.shown d
  | [], x, h => by rw [PyData.shownAll_nil] at h; exact absurd h List.not_mem_nil
  | d :: r, x, h => by
    rw [PyData.shownAll_cons] at h
    rcases List.mem_cons.mp h with h | h
    · exact ⟨d, List.mem_cons_self, h⟩
    · obtain ⟨e, h1, h2⟩ := shownAll_mem r x h
      exact ⟨e, List.mem_cons_of_mem _ h1, h2⟩
theorem shown_list_le {n : Nat} {ds : List D} (h : ∀ d ∈ ds, (PyData.shown d).length ≤ n) : (PyData.shown (.list ds)).length ≤ 2 + (n + 2) * ds.length := by
  rw [PyData.shown_list, PySem.strLen_append, PySem.strLen_append]
  have := join_le n (PyData.shownAll ds) fun t ht => by
    obtain ⟨d, h1, rfl⟩ := shownAll_mem ds t ht
    exact h d h1
  rw [PyData.shownAll_length] at this
  have h2 : ("[" : Str).length = 1 := by rfl
  have h3 : ("]" : Str).length = 1 := by rfl
  omega
end J
namespace J
/-! nests: trees of two halves -/
inductive Nest where
  | lf (i : Int)
  | nd (a b : Nest)
  deriving DecidableEq
namespace Nest
def lv : Nest → List Int
  | lf i => [i]
  | nd a b => a.lv ++ b.lv
/-- inner nodes -/
def gr : Nest → List Nest
  | lf _ => []
  | nd a b => nd a b :: (a.gr ++ b.gr)
def folk (t : Nest) : List Int := sZ t.lv
def lots (t : Nest) : List (List Int) := sR (t.gr.map folk)
def mn : Nest → Int
  | lf i => i
  | nd a b => min a.mn b.mn
def mk : Nest → List Int
  | lf _ => []
  | nd a b => max a.mn b.mn :: (a.mk ++ b.mk)
def put (x f : Int) : Nest → Nest
  | lf i => if i = x then nd (lf i) (lf f) else lf i
  | nd a b => if max a.mn b.mn = 0 - x then nd (nd a b) (lf f) else nd (put x f a) (put x f b)
def dep : Nest → Nat
  | lf _ => 0
  | nd a b => max a.dep b.dep + 1
theorem dep_lt : ∀ t : Nest, t.dep < t.lv.length
  | lf _ => by simp [dep, lv]
  | nd a b => by
    have := dep_lt a
    have := dep_lt b
    simp only [dep, lv, List.length_append]
    omega
theorem lv_ne : ∀ t : Nest, t.lv ≠ []
  | lf _ => by simp [lv]
  | nd a b => by simp [lv, lv_ne a]
theorem lv_pos (t : Nest) : 0 < t.lv.length := List.length_pos_iff.mpr t.lv_ne
theorem mn_mem : ∀ t : Nest, t.mn ∈ t.lv
  | lf _ => by simp [lv, mn]
  | nd a b => by
    simp only [lv, mn, List.mem_append]
    rcases Int.min_eq_left_iff_le_or a.mn b.mn with h | h
    · rw [h]; exact .inl (mn_mem a)
    · rw [h]; exact .inr (mn_mem b)
where
  Int.min_eq_left_iff_le_or (x y : Int) : min x y = x ∨ min x y = y := by omega
theorem mn_le : ∀ (t : Nest) (x : Int), x ∈ t.lv → t.mn ≤ x
  | lf _, x, h => by simp [lv] at h; simp [mn, h]
  | nd a b, x, h => by
    simp only [lv, mn, List.mem_append] at h ⊢
    rcases h with h | h
    · have := mn_le a x h; omega
    · have := mn_le b x h; omega
theorem mk_perm : ∀ t : Nest, (t.mn :: t.mk).Perm t.lv
  | lf _ => by simp [lv, mn, mk]
  | nd a b => by
    have h1 := mk_perm a
    have h2 := mk_perm b
    rw [List.perm_iff_count] at *
    intro x
    have h1 := h1 x
    have h2 := h2 x
    simp only [lv, mn, mk, List.count_cons, List.count_append] at h1 h2 ⊢
    rcases Int.le_total a.mn b.mn with h | h
    · rw [show min a.mn b.mn = a.mn by omega, show max a.mn b.mn = b.mn by omega]; omega
    · rw [show min a.mn b.mn = b.mn by omega, show max a.mn b.mn = a.mn by omega]; omega
theorem mk_sub (t : Nest) (x : Int) (h : x ∈ t.mk) : x ∈ t.lv := t.mk_perm.mem_iff.mp (List.mem_cons_of_mem _ h)
theorem mk_nodup (t : Nest) (h : t.lv.Nodup) : t.mk.Nodup ∧ t.mn ∉ t.mk := by
  have := (t.mk_perm.nodup_iff).mpr h
  exact ⟨(List.nodup_cons.mp this).2, (List.nodup_cons.mp this).1⟩
theorem mk_gt (t : Nest) (h : t.lv.Nodup) (x : Int) (hx : x ∈ t.mk) : t.mn < x := by
  have h1 := t.mn_le x (t.mk_sub x hx)
  have h2 := (t.mk_nodup h).2
  have : t.mn ≠ x := fun e => h2 (e ▸ hx)
  omega
theorem gr_length : ∀ t : Nest, t.gr.length + 1 = t.lv.length
  | lf _ => by simp [lv, gr]
  | nd a b => by
    have h1 := gr_length a
    have h2 := gr_length b
    simp only [lv, gr, List.length_cons, List.length_append]
    omega
theorem put_none (x f : Int) : ∀ t : Nest, x ∉ t.lv → 0 - x ∉ t.mk → put x f t = t
  | lf i, h1, h2 => by
    rw [put, if_neg]
    intro e; apply h1; simp [lv, e]
  | nd a b, h1, h2 => by
    simp only [lv, mk, List.mem_append, List.mem_cons, not_or] at h1 h2
    rw [put, if_neg (fun e => h2.1 e.symm), put_none x f a h1.1 h2.2.1, put_none x f b h1.2 h2.2.2]
theorem put_one (x f : Int) : ∀ t : Nest, t.lv.Nodup → (∀ y ∈ t.lv, 0 ≤ y) → (x ∈ t.lv ∨ 0 - x ∈ t.mk) → (put x f t).lv.Perm (f :: t.lv)
  | lf i, h0, h1, h2 => by
    simp only [lv, mk, List.mem_singleton, List.not_mem_nil, or_false] at h2
    rw [put, if_pos h2.symm]
    exact List.Perm.swap _ _ _
  | nd a b, h0, h1, h2 => by
    have hd := List.nodup_append.mp h0
    have h1a : ∀ y ∈ a.lv, 0 ≤ y := fun y hy => h1 y (List.mem_append_left _ hy)
    have h1b : ∀ y ∈ b.lv, 0 ≤ y := fun y hy => h1 y (List.mem_append_right _ hy)
    by_cases e : max a.mn b.mn = 0 - x
    · rw [put, if_pos e]
      show ((a.lv ++ b.lv) ++ [f]).Perm _
      exact List.perm_append_comm
    · rw [put, if_neg e]
      -- x sits in just one half
      have key : (x ∈ a.lv ∨ 0 - x ∈ a.mk) ∨ (x ∈ b.lv ∨ 0 - x ∈ b.mk) := by
        rcases h2 with h2 | h2
        · rcases List.mem_append.mp h2 with h | h
          · exact .inl (.inl h)
          · exact .inr (.inl h)
        · simp only [mk, List.mem_cons, List.mem_append] at h2
          rcases h2 with h | h | h
          · exact absurd h.symm e
          · exact .inl (.inr h)
          · exact .inr (.inr h)
      have excl : ∀ c d : Nest, c.lv.Nodup → d.lv.Nodup → (∀ y ∈ c.lv, 0 ≤ y) → (∀ y ∈ d.lv, 0 ≤ y) → (∀ y ∈ c.lv, ∀ z ∈ d.lv, y ≠ z) → (x ∈ c.lv ∨ 0 - x ∈ c.mk) → x ∉ d.lv ∧ 0 - x ∉ d.mk := by
        intro c d nc nd pc pd dj h
        rcases h with h | h
        · refine ⟨fun q => dj x h x q rfl, fun q => ?_⟩
          have := mk_gt d nd _ q
          have := pd _ d.mn_mem
          have := pc _ h
          omega
        · have g1 := mk_gt c nc _ h
          have g2 := pc _ c.mn_mem
          refine ⟨fun q => ?_, fun q => dj _ (c.mk_sub _ h) _ (d.mk_sub _ q) rfl⟩
          have := pd _ q
          omega
      rcases key with k | k
      · obtain ⟨n1, n2⟩ := excl a b hd.1 hd.2.1 h1a h1b hd.2.2 k
        rw [put_none x f b n1 n2]
        show ((put x f a).lv ++ b.lv).Perm _
        exact (put_one x f a hd.1 h1a k).append_right b.lv
      · obtain ⟨n1, n2⟩ := excl b a hd.2.1 hd.1 h1b h1a (fun y hy z hz e => hd.2.2 z hz y hy e.symm) k
        rw [put_none x f a n1 n2]
        show (a.lv ++ (put x f b).lv).Perm (f :: (a.lv ++ b.lv))
        exact ((put_one x f b hd.2.1 h1b k).append_left a.lv).trans List.perm_middle
end Nest
/-- all persons -/
def comp (n : Nat) : List Int := (List.range n).map fun i : Nat => (i : Int)
theorem comp_succ (n : Nat) : comp (n + 1) = comp n ++ [(n : Int)] := by
  unfold comp; rw [List.range_succ, List.map_append]; rfl
theorem comp_len (n : Nat) : (comp n).length = n := by unfold comp; simp
theorem mem_comp {n : Nat} {x : Int} : x ∈ comp n ↔ 0 ≤ x ∧ x < n := by
  unfold comp
  rw [List.mem_map]
  constructor
  · rintro ⟨i, h, rfl⟩
    have := List.mem_range.mp h
    omega
  · rintro ⟨h1, h2⟩
    exact ⟨x.toNat, List.mem_range.mpr (by omega), by omega⟩
theorem comp_asc (n : Nat) : (comp n).Pairwise (· < ·) := by
  unfold comp
  rw [List.pairwise_map]
  exact List.Pairwise.imp (fun h => by omega) (List.pairwise_lt_range (n := n))
theorem asc_nodup {l : List Int} (h : l.Pairwise (· < ·)) : l.Nodup := List.Pairwise.imp (fun h => by omega) h
theorem comp_nodup (n : Nat) : (comp n).Nodup := asc_nodup (comp_asc n)
theorem sZ_asc {l : List Int} (h : l.Pairwise (· < ·)) : sZ l = l := sZ_of (List.Pairwise.imp (fun h => decide_eq_true (by omega)) h)
theorem asc_sZ {l : List Int} (h : l.Nodup) : (sZ l).Pairwise (· < ·) := by
  have h1 := sZ_sorted l
  have h2 : (sZ l).Nodup := (sZ_perm l).nodup_iff.mpr h
  exact (h1.and h2).imp fun ⟨h, h'⟩ => by
    have := of_decide_eq_true h
    omega
theorem mem_sZ {l : List Int} {x : Int} : x ∈ sZ l ↔ x ∈ l := (sZ_perm l).mem_iff
theorem len_sZ (l : List Int) : (sZ l).length = l.length := (sZ_perm l).length_eq
theorem mem_sR {l : List (List Int)} {x : List Int} : x ∈ sR l ↔ x ∈ l := (sR_perm l).mem_iff
theorem len_sR (l : List (List Int)) : (sR l).length = l.length := (sR_perm l).length_eq
/-- a nest of the first n persons -/
def Nest.Of (t : Nest) (n : Nat) : Prop := t.lv.Perm (comp n)
theorem Nest.Of.nodup {t : Nest} {n : Nat} (h : t.Of n) : t.lv.Nodup := (List.Perm.nodup_iff h).mpr (comp_nodup n)
theorem Nest.Of.mem {t : Nest} {n : Nat} (h : t.Of n) {x : Int} : x ∈ t.lv ↔ 0 ≤ x ∧ x < n := (List.Perm.mem_iff h).trans mem_comp
theorem Nest.Of.len {t : Nest} {n : Nat} (h : t.Of n) : t.lv.length = n := (List.Perm.length_eq h).trans (comp_len n)
theorem Nest.Of.put {t : Nest} {n : Nat} (h : t.Of n) {x : Int} (h1 : 0 - (n : Int) < x) (h2 : x < n) : (t.put x n).Of (n + 1) := by
  have hm : t.mn = 0 := by
    have h3 := t.mn_mem
    have h4 := (h.mem).mp h3
    have h5 := t.mn_le 0 (h.mem.mpr (by omega))
    omega
  have h0 : x ∈ t.lv ∨ 0 - x ∈ t.mk := by
    by_cases h3 : 0 ≤ x
    · exact .inl (h.mem.mpr ⟨h3, h2⟩)
    · have h4 : 0 - x ∈ t.mn :: t.mk := t.mk_perm.mem_iff.mpr (h.mem.mpr (by omega))
      rcases List.mem_cons.mp h4 with h5 | h5
      · omega
      · exact .inr h5
  have := Nest.put_one x n t h.nodup (fun y hy => (h.mem.mp hy).1) h0
  refine this.trans ?_
  rw [comp_succ]
  exact (List.Perm.cons _ h).trans (List.perm_append_comm (l₁ := [(n : Int)]))
theorem Nest.of_zero : (Nest.lf 0).Of 1 := List.Perm.refl _
end J
namespace J
theorem perm_of_mem {α : Type} [DecidableEq α] {l m : List α} (h1 : l.Nodup) (h2 : m.Nodup) (h : ∀ x, x ∈ l ↔ x ∈ m) : l.Perm m := by
  rw [List.perm_iff_count]
  intro x
  have c1 := List.nodup_iff_count.mp h1 x
  have c2 := List.nodup_iff_count.mp h2 x
  have p1 := List.count_pos_iff (l := l) (a := x)
  have p2 := List.count_pos_iff (l := m) (a := x)
  have := h x
  by_cases hx : x ∈ l
  · have := p1.mpr hx; have := p2.mpr ((h x).mp hx); omega
  · rw [List.count_eq_zero.mpr hx, List.count_eq_zero.mpr (fun q => hx ((h x).mpr q))]
theorem asc_ext {l m : List Int} (h1 : l.Pairwise (· < ·)) (h2 : m.Pairwise (· < ·)) (h : ∀ x, x ∈ l ↔ x ∈ m) : l = m :=
  perm_sorted leZ_anti (perm_of_mem (asc_nodup h1) (asc_nodup h2) h) (h1.imp fun h => decide_eq_true (by omega)) (h2.imp fun h => decide_eq_true (by omega))
theorem asc_filter {l : List Int} {p : Int → Bool} (h : l.Pairwise (· < ·)) : (l.filter p).Pairwise (· < ·) := h.filter p
theorem sR_ext {l m : List (List Int)} (h1 : l.Nodup) (h2 : m.Nodup) (h : ∀ x, x ∈ l ↔ x ∈ m) : sR l = sR m := sR_eq (perm_of_mem h1 h2 h)
theorem head_sZ {l r : List Int} {h : Int} (e : sZ l = h :: r) : h ∈ l ∧ ∀ x ∈ l, h ≤ x := by
  refine ⟨mem_sZ.mp (e ▸ List.mem_cons_self), fun x hx => ?_⟩
  have h1 := sZ_sorted l
  rw [e] at h1
  have h2 : x ∈ h :: r := e ▸ mem_sZ.mpr hx
  rcases List.mem_cons.mp h2 with q | q
  · omega
  · exact of_decide_eq_true ((List.pairwise_cons.mp h1).1 x q)
theorem pairwise_zip {α : Type} {R : α → α → Prop} : ∀ {l : List α}, l.Pairwise R → ∀ p ∈ l.zip (l.drop 1), R p.1 p.2
  | [], _, p, hp => by simp at hp
  | [x], _, p, hp => by simp at hp
  | x :: y :: r, h, p, hp => by
    simp only [List.drop_succ_cons, List.drop_zero, List.zip_cons_cons, List.mem_cons] at hp
    rcases hp with rfl | hp
    · exact (List.pairwise_cons.mp h).1 y List.mem_cons_self
    · exact pairwise_zip (l := y :: r) (List.pairwise_cons.mp h).2 p (by simpa using hp)
theorem zip_pairwise {α : Type} {R : α → α → Prop} (tr : ∀ a b c, R a b → R b c → R a c) : ∀ {l : List α}, (∀ p ∈ l.zip (l.drop 1), R p.1 p.2) → l.Pairwise R
  | [], _ => .nil
  | [x], _ => List.pairwise_singleton _ _
  | x :: y :: r, h => by
    have ih : (y :: r).Pairwise R := zip_pairwise tr fun p hp => h p (by simp only [List.drop_succ_cons, List.drop_zero, List.zip_cons_cons, List.mem_cons] at hp ⊢; exact .inr (by simpa using hp))
    have h1 : R x y := h (x, y) (by simp)
    refine List.pairwise_cons.mpr ⟨fun z hz => ?_, ih⟩
    rcases List.mem_cons.mp hz with rfl | hz
    · exact h1
    · exact tr _ _ _ h1 ((List.pairwise_cons.mp ih).1 z hz)
/-! ### what is_row, parts_in, has_parts compute -/
def rowB (m : Int) (l : List Int) : Bool := l.all (fun x => decide (0 ≤ x) && decide (x < m)) && (l.zip (l.drop 1)).all fun p => decide (p.1 < p.2)
theorem rowB_iff {m : Int} {l : List Int} : rowB m l = true ↔ (∀ x ∈ l, 0 ≤ x ∧ x < m) ∧ l.Pairwise (· < ·) := by
  unfold rowB
  rw [Bool.and_eq_true, List.all_eq_true, List.all_eq_true]
  constructor
  · rintro ⟨h1, h2⟩
    exact ⟨fun x hx => by simpa using h1 x hx, zip_pairwise (R := fun a b : Int => a < b) (fun a b c h h' => by omega) fun p hp => of_decide_eq_true (h2 p hp)⟩
  · rintro ⟨h1, h2⟩
    exact ⟨fun x hx => by simpa using h1 x hx, fun p hp => decide_eq_true (pairwise_zip h2 p hp)⟩
/-- one turn of the search for the first part -/
def firstStep (g : List Int) (h : Int) (first other : List Int) : List Int := if first.length < other.length ∧ other.length < g.length ∧ h ∈ other then other else first
def firstOf (ls : List (List Int)) (g : List Int) (h : Int) : List Int := ls.foldl (firstStep g h) (g.take 1)
def restOf (ls : List (List Int)) (h : Int) (r : List Int) : List Int := (h :: r).filter fun x => !decide (x ∈ firstOf ls (h :: r) h)
def partsB (ls : List (List Int)) : List Int → Bool
  | [] => true
  | h :: r => (firstOf ls (h :: r) h).all (fun x => decide (x ∈ h :: r)) && (decide ((restOf ls h r).length = 1) || decide (restOf ls h r ∈ ls))
theorem fold_none {g : List Int} {h : Int} {f : List Int} : ∀ {ls : List (List Int)}, (∀ o ∈ ls, ¬ (f.length < o.length ∧ o.length < g.length ∧ h ∈ o)) → ls.foldl (firstStep g h) f = f
  | [], _ => rfl
  | o :: ls, H => by
    rw [List.foldl_cons]
    have : firstStep g h f o = f := if_neg (H o List.mem_cons_self)
    rw [this]
    exact fold_none fun o ho => H o (List.mem_cons_of_mem _ ho)
theorem fold_best {g : List Int} {h : Int} {best : List Int} (b1 : best.length < g.length) (b2 : h ∈ best) : ∀ {ls : List (List Int)} {f : List Int}, (∀ o ∈ ls, o.length < g.length → h ∈ o → o.length < best.length ∨ o = best) → (f.length < best.length ∧ best ∈ ls ∨ f = best) → ls.foldl (firstStep g h) f = best
  | [], f, _, hf => by
    rcases hf with hf | hf
    · exact absurd hf.2 List.not_mem_nil
    · exact hf
  | o :: ls, f, H, hf => by
    rw [List.foldl_cons]
    refine fold_best b1 b2 (fun o ho => H o (List.mem_cons_of_mem _ ho)) ?_
    have Ho := H o List.mem_cons_self
    unfold firstStep
    split
    · rename_i c
      rcases Ho c.2.1 c.2.2 with q | q
      · rcases hf with ⟨f1, f2⟩ | rfl
        · rcases List.mem_cons.mp f2 with rfl | f2
          · exact .inr rfl
          · exact .inl ⟨q, f2⟩
        · omega
      · exact .inr q
    · rename_i c
      rcases hf with ⟨f1, f2⟩ | rfl
      · rcases List.mem_cons.mp f2 with rfl | f2
        · exact absurd ⟨f1, b1, b2⟩ c
        · exact .inl ⟨f1, f2⟩
      · exact .inr rfl
/-- what makes a list of rows a parting -/
structure Parting (ls : List (List Int)) : Prop where
  few : ls.length < 20
  row : ∀ g ∈ ls, rowB (ls.length + 1) g = true ∧ 1 < g.length ∧ g.length ≤ 20
  asc : ∀ p ∈ ls.zip (ls.drop 1), ltI p.1 p.2 = true
  all : ls = [] ∨ comp (ls.length + 1) ∈ ls
  prt : ∀ g ∈ ls, partsB ls g = true
namespace Nest
theorem gr_sublist {X : Nest} : ∀ {t : Nest}, X ∈ t.gr → X.lv.Sublist t.lv
  | lf _, h => by simp [gr] at h
  | nd a b, h => by
    simp only [gr, List.mem_cons, List.mem_append] at h
    rcases h with rfl | h | h
    · exact List.Sublist.refl _
    · exact (gr_sublist h).trans (List.sublist_append_left _ _)
    · exact (gr_sublist h).trans (List.sublist_append_right _ _)
theorem gr_nd {X : Nest} : ∀ {t : Nest}, X ∈ t.gr → ∃ a b, X = nd a b
  | lf _, h => by simp [gr] at h
  | nd a b, h => by
    simp only [gr, List.mem_cons, List.mem_append] at h
    rcases h with rfl | h | h
    · exact ⟨a, b, rfl⟩
    · exact gr_nd h
    · exact gr_nd h
theorem gr_trans {X Y : Nest} : ∀ {t : Nest}, X ∈ t.gr → Y ∈ X.gr → Y ∈ t.gr
  | lf _, h, _ => by simp [gr] at h
  | nd a b, h, hy => by
    simp only [gr, List.mem_cons, List.mem_append] at h
    rcases h with rfl | h | h
    · exact hy
    · exact List.mem_cons_of_mem _ (List.mem_append_left _ (gr_trans h hy))
    · exact List.mem_cons_of_mem _ (List.mem_append_right _ (gr_trans h hy))
theorem gr_self (a b : Nest) : nd a b ∈ (nd a b).gr := List.mem_cons_self
theorem gr_two {X t : Nest} (h : X ∈ t.gr) : 1 < X.lv.length := by
  obtain ⟨a, b, rfl⟩ := gr_nd h
  have := a.lv_pos
  have := b.lv_pos
  simp only [lv, List.length_append]
  omega
theorem gr_len {X : Nest} : ∀ {t : Nest}, X ∈ t.gr → X = t ∨ X.lv.length < t.lv.length
  | lf _, h => by simp [gr] at h
  | nd a b, h => by
    simp only [gr, List.mem_cons, List.mem_append] at h
    have := a.lv_pos
    have := b.lv_pos
    rcases h with rfl | h | h
    · exact .inl rfl
    · have := (gr_sublist h).length_le
      right; simp only [lv, List.length_append]; omega
    · have := (gr_sublist h).length_le
      right; simp only [lv, List.length_append]; omega
theorem gr_nodup {X t : Nest} (h : X ∈ t.gr) (hn : t.lv.Nodup) : X.lv.Nodup := hn.sublist (gr_sublist h)
/-- two inner nodes: one within the other, or apart -/
theorem lam {X Y : Nest} : ∀ {t : Nest}, t.lv.Nodup → X ∈ t.gr → Y ∈ t.gr → X ∈ Y.gr ∨ Y ∈ X.gr ∨ ∀ x ∈ X.lv, x ∉ Y.lv
  | lf _, _, h, _ => by simp [gr] at h
  | nd a b, hn, hx, hy => by
    have hd := List.nodup_append.mp hn
    have hx' := hx
    have hy' := hy
    simp only [gr, List.mem_cons, List.mem_append] at hx hy
    rcases hx with rfl | hx | hx
    · exact .inr (.inl hy')
    · rcases hy with rfl | hy | hy
      · exact .inl hx'
      · exact lam hd.1 hx hy
      · exact .inr (.inr fun x h1 h2 => hd.2.2 x ((gr_sublist hx).subset h1) x ((gr_sublist hy).subset h2) rfl)
    · rcases hy with rfl | hy | hy
      · exact .inl hx'
      · exact .inr (.inr fun x h1 h2 => hd.2.2 x ((gr_sublist hy).subset h2) x ((gr_sublist hx).subset h1) rfl)
      · exact lam hd.2.1 hx hy
theorem mem_folk {t : Nest} {x : Int} : x ∈ t.folk ↔ x ∈ t.lv := mem_sZ
theorem len_folk (t : Nest) : t.folk.length = t.lv.length := len_sZ _
theorem folk_inj {t X Y : Nest} (hn : t.lv.Nodup) (hx : X ∈ t.gr) (hy : Y ∈ t.gr) (e : X.folk = Y.folk) : X = Y := by
  have hl : X.lv.length = Y.lv.length := by rw [← len_folk, ← len_folk, e]
  rcases lam hn hx hy with h | h | h
  · rcases gr_len h with h | h
    · exact h
    · omega
  · rcases gr_len h with h | h
    · exact h.symm
    · omega
  · exact absurd (mem_folk.mp (e ▸ mem_folk.mpr X.mn_mem)) (h _ X.mn_mem)
theorem folks_nodup : ∀ {t : Nest}, t.lv.Nodup → (t.gr.map folk).Nodup
  | lf _, _ => List.nodup_nil
  | nd a b, hn => by
    have hd := List.nodup_append.mp hn
    show (folk (nd a b) :: (a.gr ++ b.gr).map folk).Nodup
    rw [List.map_append]
    refine List.nodup_cons.mpr ⟨fun h => ?_, List.nodup_append.mpr ⟨folks_nodup hd.1, folks_nodup hd.2.1, fun x hx y hy e => ?_⟩⟩
    · have : ∃ X, (X ∈ a.gr ∨ X ∈ b.gr) ∧ X.folk = (nd a b).folk := by
        rcases List.mem_append.mp h with h | h
        · obtain ⟨X, h1, h2⟩ := List.mem_map.mp h
          exact ⟨X, .inl h1, h2⟩
        · obtain ⟨X, h1, h2⟩ := List.mem_map.mp h
          exact ⟨X, .inr h1, h2⟩
      obtain ⟨X, h1, h2⟩ := this
      have hl := congrArg List.length h2
      rw [len_folk, len_folk] at hl
      simp only [lv, List.length_append] at hl
      have := a.lv_pos
      have := b.lv_pos
      rcases h1 with h1 | h1
      · have := (gr_sublist h1).length_le; omega
      · have := (gr_sublist h1).length_le; omega
    · subst e
      obtain ⟨X, h1, h2⟩ := List.mem_map.mp hx
      obtain ⟨Y, h3, h4⟩ := List.mem_map.mp hy
      have := mem_folk.mp (h4 ▸ h2 ▸ mem_folk.mpr X.mn_mem : X.mn ∈ Y.folk)
      exact hd.2.2 _ ((gr_sublist h1).subset X.mn_mem) _ ((gr_sublist h3).subset this) rfl
theorem mem_lots {t : Nest} {g : List Int} : g ∈ t.lots ↔ ∃ X ∈ t.gr, X.folk = g := by
  unfold lots; rw [mem_sR, List.mem_map]
theorem len_lots (t : Nest) : t.lots.length + 1 = t.lv.length := by
  unfold lots; rw [len_sR, List.length_map]; exact t.gr_length
theorem lots_nodup {t : Nest} (hn : t.lv.Nodup) : t.lots.Nodup := (sR_perm _).nodup_iff.mpr (folks_nodup hn)
theorem lots_asc {t : Nest} (hn : t.lv.Nodup) : t.lots.Pairwise (fun a b => ltI a b = true) := by
  refine ((sR_sorted _).and (lots_nodup hn)).imp @fun a b ⟨h1, h2⟩ => ?_
  cases q : ltI a b with
  | true => rfl
  | false =>
    unfold leI at h1
    rw [Bool.not_eq_true'] at h1
    exact absurd (ltI_total a b q h1) h2
theorem folk_asc {t : Nest} (hn : t.lv.Nodup) : t.folk.Pairwise (· < ·) := asc_sZ hn
theorem first_of {t a b N : Nest} {h : Int} {r : List Int} (hn : t.lv.Nodup) (hN : N ∈ t.gr) (hs : ∀ X, X ∈ N.gr → X = N ∨ X ∈ a.gr ∨ X ∈ b.gr) (ha : ∀ X ∈ a.gr, X ∈ N.gr) (hl : a.lv.length < N.lv.length)
    (hd : ∀ x ∈ a.lv, x ∉ b.lv) (e : N.folk = h :: r) (hh : h ∈ a.lv) : firstOf t.lots (h :: r) h = a.folk := by
  have cand : ∀ o ∈ t.lots, o.length < (h :: r).length → h ∈ o → ∃ X ∈ a.gr, X.folk = o := by
    intro o ho h1 h2
    obtain ⟨X, hX, rfl⟩ := mem_lots.mp ho
    rw [← e, len_folk, len_folk] at h1
    have h2 := mem_folk.mp h2
    have hhN : h ∈ N.lv := mem_folk.mp (e ▸ List.mem_cons_self)
    rcases lam hn hX hN with q | q | q
    · rcases hs X q with rfl | q | q
      · omega
      · exact ⟨X, q, rfl⟩
      · exact absurd ((gr_sublist q).subset h2) (hd h hh)
    · have := (gr_sublist q).length_le; omega
    · exact absurd hhN (q h h2)
  unfold firstOf
  cases a with
  | lf i =>
    have : h = i := by simpa [lv] using hh
    subst this
    rw [fold_none]
    · show [h] = sZ [h]
      exact (sZ_asc (List.pairwise_singleton _ _)).symm
    · rintro o ho ⟨h1, h2, h3⟩
      obtain ⟨X, hX, _⟩ := cand o ho h2 h3
      simp [gr] at hX
  | nd c d =>
    refine fold_best ?_ (mem_folk.mpr hh) ?_ (.inl ⟨?_, ?_⟩)
    · rw [← e, len_folk, len_folk]; exact hl
    · intro o ho h2 h3
      obtain ⟨X, hX, rfl⟩ := cand o ho h2 h3
      rcases gr_len hX with rfl | q
      · exact .inr rfl
      · left; rw [len_folk, len_folk]; exact q
    · rw [len_folk]
      exact gr_two (gr_self c d)
    · exact mem_lots.mpr ⟨_, gr_trans hN (ha _ (gr_self c d)), rfl⟩
theorem rest_of {t a b N : Nest} {h : Int} {r : List Int} (hnN : N.lv.Nodup) (hb : b.lv.Nodup) (hm : ∀ x, x ∈ N.lv ↔ x ∈ a.lv ∨ x ∈ b.lv)
    (hd : ∀ x ∈ a.lv, x ∉ b.lv) (e : N.folk = h :: r) (hf : firstOf t.lots (h :: r) h = a.folk) : restOf t.lots h r = b.folk := by
  unfold restOf
  rw [hf, ← e]
  refine asc_ext (asc_filter (folk_asc hnN)) (folk_asc hb) fun x => ?_
  rw [List.mem_filter, mem_folk, hm]
  simp only [Bool.not_eq_true', decide_eq_false_iff_not, mem_folk]
  constructor
  · rintro ⟨h1 | h1, h2⟩
    · exact absurd h1 h2
    · exact h1
  · intro h1
    exact ⟨.inr h1, fun q => hd x q h1⟩
/-- both parts of a lot -/
theorem parts_of {t a b : Nest} {h : Int} {r : List Int} (hn : t.lv.Nodup) (hN : nd a b ∈ t.gr) (e : (nd a b).folk = h :: r) :
    (h ∈ a.lv ∧ firstOf t.lots (h :: r) h = a.folk ∧ restOf t.lots h r = b.folk) ∨ (h ∈ b.lv ∧ firstOf t.lots (h :: r) h = b.folk ∧ restOf t.lots h r = a.folk) := by
  have hnN := gr_nodup hN hn
  have hd := List.nodup_append.mp hnN
  have hh : h ∈ a.lv ++ b.lv := (head_sZ e).1
  have := a.lv_pos
  have := b.lv_pos
  rcases List.mem_append.mp hh with q | q
  · have d1 : ∀ x ∈ a.lv, x ∉ b.lv := fun x h1 h2 => hd.2.2 x h1 x h2 rfl
    have := first_of (a := a) (b := b) hn hN (fun X h => by simpa [gr] using h) (fun X h => by simp [gr, h]) (by simp only [lv, List.length_append]; omega) d1 e q
    exact .inl ⟨q, this, rest_of (a := a) hnN hd.2.1 (fun x => by simp [lv]) d1 e this⟩
  · have d1 : ∀ x ∈ b.lv, x ∉ a.lv := fun x h1 h2 => hd.2.2 x h2 x h1 rfl
    have := first_of (a := b) (b := a) hn hN (fun X h => by simp only [gr, List.mem_cons, List.mem_append] at h; rcases h with h | h | h <;> simp [h]) (fun X h => by simp [gr, h]) (by simp only [lv, List.length_append]; omega) d1 e q
    exact .inr ⟨q, this, rest_of (a := b) hnN hd.1 (fun x => by simp [lv, or_comm]) d1 e this⟩
theorem part_ok {t c : Nest} (hc : ∀ X ∈ c.gr, X ∈ t.gr) : c.folk.length = 1 ∨ c.folk ∈ t.lots := by
  cases c with
  | lf i => left; rw [len_folk]; rfl
  | nd a b => right; exact mem_lots.mpr ⟨_, hc _ (gr_self a b), rfl⟩
theorem partsB_of {t N : Nest} (hn : t.lv.Nodup) (hN : N ∈ t.gr) : partsB t.lots N.folk = true := by
  obtain ⟨a, b, rfl⟩ := gr_nd hN
  cases e : (nd a b).folk with
  | nil => rfl
  | cons h r =>
    have ga : ∀ X ∈ a.gr, X ∈ t.gr := fun X hX => gr_trans hN (by simp [gr, hX])
    have gb : ∀ X ∈ b.gr, X ∈ t.gr := fun X hX => gr_trans hN (by simp [gr, hX])
    unfold partsB
    rw [Bool.and_eq_true, List.all_eq_true, Bool.or_eq_true, decide_eq_true_eq, decide_eq_true_eq]
    rcases parts_of hn hN e with ⟨_, h1, h2⟩ | ⟨_, h1, h2⟩
    · rw [h1, h2]
      exact ⟨fun x hx => decide_eq_true (e ▸ mem_folk.mpr (List.mem_append_left _ (mem_folk.mp hx))), part_ok gb⟩
    · rw [h1, h2]
      exact ⟨fun x hx => decide_eq_true (e ▸ mem_folk.mpr (List.mem_append_right _ (mem_folk.mp hx))), part_ok ga⟩
theorem Of.folk {t : Nest} {n : Nat} (h : t.Of n) : t.folk = comp n := asc_ext (folk_asc h.nodup) (comp_asc n) fun x => by rw [mem_folk, h.mem, mem_comp]
/-- the lots of a nest are a parting -/
theorem Of.parting {t : Nest} {n : Nat} (h : t.Of n) (hn : n ≤ 20) : Parting t.lots := by
  have hl : t.lots.length + 1 = n := by rw [len_lots, h.len]
  refine ⟨by omega, fun g hg => ?_, pairwise_zip (lots_asc h.nodup), ?_, fun g hg => ?_⟩
  · obtain ⟨X, hX, rfl⟩ := mem_lots.mp hg
    refine ⟨rowB_iff.mpr ⟨fun x hx => ?_, folk_asc (gr_nodup hX h.nodup)⟩, by rw [len_folk]; exact gr_two hX, ?_⟩
    · have := h.mem.mp ((gr_sublist hX).subset (mem_folk.mp hx))
      omega
    · have := (gr_sublist hX).length_le
      rw [len_folk]
      have := h.len
      omega
  · cases t with
    | lf i => exact .inl (List.eq_nil_of_length_eq_zero (by rw [show (lf i).lots.length = ((lf i).gr.map Nest.folk).length from len_sR _]; rfl))
    | nd a b => rw [hl]; exact .inr (mem_lots.mpr ⟨_, gr_self a b, h.folk⟩)
  · obtain ⟨X, hX, rfl⟩ := mem_lots.mp hg
    exact partsB_of h.nodup hX
end Nest
end J
namespace J
/-! ### cut to some persons -/
def enI : Int → List Int → List (Int × Int)
  | _, [] => []
  | n, x :: r => (n, x) :: enI (n + 1) r
theorem mem_enI {x p : Int} : ∀ {k : List Int} {n : Int}, (p, x) ∈ enI n k ↔ ∃ i : Nat, k[i]? = some x ∧ p = n + i
  | [], n => by simp [enI]
  | y :: r, n => by
    rw [enI, List.mem_cons, mem_enI]
    constructor
    · rintro (h | ⟨i, h1, h2⟩)
      · injection h with h1 h2
        exact ⟨0, by simp [h2], by omega⟩
      · exact ⟨i + 1, by simpa using h1, by omega⟩
    · rintro ⟨i, h1, h2⟩
      cases i with
      | zero =>
        left
        simp at h1
        subst h1
        exact Prod.ext (by simp at h2; exact h2) rfl
      | succ i => exact .inr ⟨i, by simpa using h1, by omega⟩
theorem enI_asc : ∀ (k : List Int) (n : Int), (enI n k).Pairwise (fun a b => a.1 < b.1)
  | [], n => .nil
  | y :: r, n => by
    rw [enI]
    refine List.pairwise_cons.mpr ⟨fun q hq => ?_, enI_asc r (n + 1)⟩
    obtain ⟨i, _, h⟩ := mem_enI.mp (show (q.1, q.2) ∈ _ from hq)
    show n < q.1
    omega
theorem enI_len : ∀ (k : List Int) (n : Int), (enI n k).length = k.length
  | [], n => rfl
  | y :: r, n => by rw [enI, List.length_cons, enI_len r, List.length_cons]
/-- the places of those in g -/
def pl (k g : List Int) : List Int := ((enI 0 k).filter fun p => decide (p.2 ∈ g)).map (·.1)
theorem mem_pl {k g : List Int} {p : Int} : p ∈ pl k g ↔ ∃ (i : Nat) (x : Int), k[i]? = some x ∧ x ∈ g ∧ p = i := by
  unfold pl
  rw [List.mem_map]
  constructor
  · rintro ⟨⟨a, b⟩, h1, rfl⟩
    obtain ⟨h2, h3⟩ := List.mem_filter.mp h1
    obtain ⟨i, h4, h5⟩ := mem_enI.mp h2
    exact ⟨i, b, h4, of_decide_eq_true h3, by simp; omega⟩
  · rintro ⟨i, x, h1, h2, rfl⟩
    exact ⟨(i, x), List.mem_filter.mpr ⟨mem_enI.mpr ⟨i, h1, by omega⟩, decide_eq_true h2⟩, rfl⟩
theorem pl_asc (k g : List Int) : (pl k g).Pairwise (· < ·) := by
  unfold pl
  rw [List.pairwise_map]
  exact (enI_asc k 0).filter _
theorem pl_len (k g : List Int) : (pl k g).length ≤ k.length := by
  unfold pl
  rw [List.length_map]
  have := List.length_filter_le (fun p : Int × Int => decide (p.2 ∈ g)) (enI 0 k)
  rw [enI_len] at this
  exact this
theorem pl_congr {k g h : List Int} (e : ∀ x, x ∈ g ↔ x ∈ h) : pl k g = pl k h :=
  asc_ext (pl_asc _ _) (pl_asc _ _) fun x => by
    rw [mem_pl, mem_pl]
    constructor
    · rintro ⟨i, y, h1, h2, h3⟩; exact ⟨i, y, h1, (e y).mp h2, h3⟩
    · rintro ⟨i, y, h1, h2, h3⟩; exact ⟨i, y, h1, (e y).mpr h2, h3⟩
theorem pl_nil (k : List Int) : pl k [] = [] := asc_ext (pl_asc _ _) .nil fun x => by
  rw [mem_pl]
  simp
def cutStep (k : List Int) (found : List (List Int)) (g : List Int) : List (List Int) := if 1 < (pl k g).length ∧ pl k g ∉ found then found ++ [pl k g] else found
def cutBy (ls : List (List Int)) (k : List Int) : List (List Int) := sR (ls.foldl (cutStep k) [])
theorem cutFold (k : List Int) : ∀ (ls f : List (List Int)), f.Nodup → (ls.foldl (cutStep k) f).Nodup ∧ ∀ g, g ∈ ls.foldl (cutStep k) f ↔ g ∈ f ∨ ∃ h ∈ ls, 1 < (pl k h).length ∧ g = pl k h
  | [], f, hf => ⟨hf, fun g => by simp⟩
  | o :: ls, f, hf => by
    rw [List.foldl_cons]
    have step : (cutStep k f o).Nodup ∧ ∀ g, g ∈ cutStep k f o ↔ g ∈ f ∨ (1 < (pl k o).length ∧ g = pl k o) := by
      unfold cutStep
      split
      · rename_i c
        refine ⟨List.nodup_append.mpr ⟨hf, List.nodup_cons.mpr ⟨List.not_mem_nil, List.nodup_nil⟩, fun x hx y hy e => ?_⟩, fun g => ?_⟩
        · rw [List.mem_singleton] at hy
          subst hy; subst e
          exact c.2 hx
        · rw [List.mem_append, List.mem_singleton]
          exact ⟨fun h => h.imp id fun h => ⟨c.1, h⟩, fun h => h.imp id fun h => h.2⟩
      · rename_i c
        refine ⟨hf, fun g => ⟨.inl, fun h => ?_⟩⟩
        rcases h with h | ⟨h1, rfl⟩
        · exact h
        · by_cases q : pl k o ∈ f
          · exact q
          · exact absurd ⟨h1, q⟩ c
    obtain ⟨h1, h2⟩ := cutFold k ls (cutStep k f o) step.1
    refine ⟨h1, fun g => ?_⟩
    rw [h2 g, step.2 g]
    constructor
    · rintro ((h | ⟨h3, h4⟩) | ⟨h, h3, h4⟩)
      · exact .inl h
      · exact .inr ⟨o, List.mem_cons_self, h3, h4⟩
      · exact .inr ⟨h, List.mem_cons_of_mem _ h3, h4⟩
    · rintro (h | ⟨h, h3, h4⟩)
      · exact .inl (.inl h)
      · rcases List.mem_cons.mp h3 with rfl | h3
        · exact .inl (.inr h4)
        · exact .inr ⟨h, h3, h4⟩
theorem cutFold_len (k : List Int) : ∀ (ls f : List (List Int)), (ls.foldl (cutStep k) f).length ≤ f.length + ls.length
  | [], f => by simp
  | o :: ls, f => by
    rw [List.foldl_cons]
    have := cutFold_len k ls (cutStep k f o)
    have h2 : (cutStep k f o).length ≤ f.length + 1 := by
      unfold cutStep
      split
      · simp
      · omega
    rw [List.length_cons]
    omega
theorem idxOf_get {l : List Int} (h : l.Nodup) {i : Nat} {x : Int} (e : l[i]? = some x) : l.idxOf x = i := by
  obtain ⟨hi, rfl⟩ := List.getElem?_eq_some_iff.mp e
  exact h.idxOf_getElem i hi
theorem get_idxOf {l : List Int} {x : Int} (h : x ∈ l) : l[l.idxOf x]? = some x := by
  have := List.idxOf_lt_length_of_mem h
  rw [List.getElem?_eq_getElem this, List.getElem_idxOf]
namespace Nest
def cut (k : List Int) : Nest → Option Nest
  | lf i => if i ∈ k then some (lf (k.idxOf i)) else none
  | nd a b => match cut k a, cut k b with
    | some x, some y => some (nd x y)
    | some x, none => some x
    | none, some y => some y
    | none, none => none
def oLv : Option Nest → List Int
  | none => []
  | some t => t.lv
def oFk : Option Nest → List (List Int)
  | none => []
  | some t => t.gr.map folk
theorem cut_lv (k : List Int) : ∀ t : Nest, oLv (cut k t) = (t.lv.filter fun x => decide (x ∈ k)).map fun x => (k.idxOf x : Int)
  | lf i => by
    unfold cut
    by_cases h : i ∈ k
    · rw [if_pos h]; simp [oLv, lv, h]
    · rw [if_neg h]; simp [oLv, lv, h]
  | nd a b => by
    have h1 := cut_lv k a
    have h2 := cut_lv k b
    rw [lv, List.filter_append, List.map_append, ← h1, ← h2, cut]
    cases cut k a <;> cases cut k b <;> simp [oLv, lv]
theorem mem_cut {k : List Int} (hk : k.Nodup) {t : Nest} {p : Int} : p ∈ oLv (cut k t) ↔ p ∈ pl k t.lv := by
  rw [cut_lv, List.mem_map, mem_pl]
  constructor
  · rintro ⟨x, h1, rfl⟩
    obtain ⟨h2, h3⟩ := List.mem_filter.mp h1
    exact ⟨_, x, get_idxOf (of_decide_eq_true h3), h2, rfl⟩
  · rintro ⟨i, x, h1, h2, rfl⟩
    have : x ∈ k := List.mem_of_getElem? h1
    exact ⟨x, List.mem_filter.mpr ⟨h2, decide_eq_true this⟩, by rw [idxOf_get hk h1]⟩
theorem cut_nodup {k : List Int} {t : Nest} (ht : t.lv.Nodup) : (oLv (cut k t)).Nodup := by
  rw [cut_lv]
  refine List.pairwise_map.mpr ?_
  refine (ht.filter (fun x => decide (x ∈ k))).imp_of_mem fun {x y} hx hy h e => h ?_
  have hx := of_decide_eq_true (List.mem_filter.mp hx).2
  have hy := of_decide_eq_true (List.mem_filter.mp hy).2
  have h1 := get_idxOf hx
  have h2 := get_idxOf hy
  rw [show k.idxOf x = k.idxOf y by omega, h2] at h1
  injection h1 with h1
  exact h1.symm
theorem cut_folk {k : List Int} (hk : k.Nodup) {t u : Nest} (ht : t.lv.Nodup) (e : cut k t = some u) : u.folk = pl k t.lv := by
  have h1 := cut_nodup (k := k) ht
  rw [e] at h1
  refine asc_ext (folk_asc h1) (pl_asc _ _) fun x => ?_
  rw [mem_folk, ← mem_cut hk, e]
  rfl
theorem cut_none {k : List Int} (hk : k.Nodup) {t : Nest} (e : cut k t = none) : pl k t.lv = [] := by
  refine asc_ext (pl_asc _ _) .nil fun x => ?_
  rw [← mem_cut hk, e]
  rfl
theorem pl_left {k : List Int} (hk : k.Nodup) {a b : Nest} (e : cut k b = none) : pl k (nd a b).lv = pl k a.lv := by
  refine asc_ext (pl_asc _ _) (pl_asc _ _) fun x => ?_
  have := cut_none hk e
  have h2 : ∀ p, p ∉ pl k b.lv := fun p => by rw [this]; exact List.not_mem_nil
  rw [mem_pl, mem_pl]
  constructor
  · rintro ⟨i, y, h1, h3, h4⟩
    rcases List.mem_append.mp h3 with h3 | h3
    · exact ⟨i, y, h1, h3, h4⟩
    · exact absurd (mem_pl.mpr ⟨i, y, h1, h3, h4⟩) (h2 _)
  · rintro ⟨i, y, h1, h3, h4⟩
    exact ⟨i, y, h1, List.mem_append_left _ h3, h4⟩
theorem pl_right {k : List Int} (hk : k.Nodup) {a b : Nest} (e : cut k a = none) : pl k (nd a b).lv = pl k b.lv := by
  rw [← pl_left (a := b) (b := a) hk e]
  exact pl_congr fun x => by simp [lv, or_comm]
theorem folk_gr {t : Nest} (h : 1 < t.folk.length) : t.folk ∈ t.gr.map folk := by
  cases t with
  | lf i => rw [len_folk] at h; simp [lv] at h
  | nd a b => exact List.mem_map.mpr ⟨_, gr_self a b, rfl⟩
theorem cut_gr {k : List Int} (hk : k.Nodup) : ∀ {t : Nest}, t.lv.Nodup → ∀ g, g ∈ oFk (cut k t) ↔ ∃ X ∈ t.gr, 1 < (pl k X.lv).length ∧ g = pl k X.lv
  | lf i, ht, g => by
    unfold cut
    split
    · simp [oFk, gr]
    · simp [oFk, gr]
  | nd a b, ht, g => by
    have hd := List.nodup_append.mp ht
    have ia := cut_gr hk hd.1 g
    have ib := cut_gr hk hd.2.1 g
    have split3 : (∃ X ∈ (nd a b).gr, 1 < (pl k X.lv).length ∧ g = pl k X.lv) ↔ ((1 < (pl k (nd a b).lv).length ∧ g = pl k (nd a b).lv) ∨ g ∈ oFk (cut k a) ∨ g ∈ oFk (cut k b)) := by
      rw [ia, ib]
      constructor
      · rintro ⟨X, h1, h2⟩
        simp only [gr, List.mem_cons, List.mem_append] at h1
        rcases h1 with rfl | h1 | h1
        · exact .inl h2
        · exact .inr (.inl ⟨X, h1, h2⟩)
        · exact .inr (.inr ⟨X, h1, h2⟩)
      · rintro (h | ⟨X, h1, h2⟩ | ⟨X, h1, h2⟩)
        · exact ⟨_, gr_self a b, h⟩
        · exact ⟨X, by simp [gr, h1], h2⟩
        · exact ⟨X, by simp [gr, h1], h2⟩
    rw [split3]
    cases ea : cut k a with
    | none =>
      cases eb : cut k b with
      | none =>
        have e : cut k (nd a b) = none := by rw [cut, ea, eb]
        rw [e, pl_left hk eb, cut_none hk ea]
        simp [oFk]
      | some y =>
        have e : cut k (nd a b) = some y := by rw [cut, ea, eb]
        rw [e, pl_right hk ea, ← cut_folk hk hd.2.1 eb]
        constructor
        · exact fun h => .inr (.inr h)
        · rintro (⟨h1, rfl⟩ | h | h)
          · exact folk_gr h1
          · exact absurd h List.not_mem_nil
          · exact h
    | some x =>
      cases eb : cut k b with
      | none =>
        have e : cut k (nd a b) = some x := by rw [cut, ea, eb]
        rw [e, pl_left hk eb, ← cut_folk hk hd.1 ea]
        constructor
        · exact fun h => .inr (.inl h)
        · rintro (⟨h1, rfl⟩ | h | h)
          · exact folk_gr h1
          · exact h
          · exact absurd h List.not_mem_nil
      | some y =>
        have e : cut k (nd a b) = some (nd x y) := by rw [cut, ea, eb]
        rw [e, ← cut_folk hk ht e]
        show g ∈ (nd x y).folk :: (x.gr ++ y.gr).map folk ↔ _
        rw [List.map_append, List.mem_cons, List.mem_append]
        constructor
        · rintro (h | h | h)
          · refine .inl ⟨?_, h⟩
            rw [len_folk]; exact gr_two (gr_self x y)
          · exact .inr (.inl h)
          · exact .inr (.inr h)
        · rintro (⟨_, h⟩ | h | h)
          · exact .inl h
          · exact .inr (.inl h)
          · exact .inr (.inr h)
/-- the lots of a nest that is cut are its lots, cut -/
theorem cutBy_lots {k : List Int} (hk : k.Nodup) {t u : Nest} (ht : t.lv.Nodup) (e : cut k t = some u) : cutBy t.lots k = u.lots := by
  have h1 := cut_nodup (k := k) ht
  rw [e] at h1
  obtain ⟨f1, f2⟩ := cutFold k t.lots [] List.nodup_nil
  refine sR_ext f1 (folks_nodup h1) fun g => ?_
  have := cut_gr hk ht g
  rw [e] at this
  rw [f2 g]
  show _ ↔ g ∈ oFk (some u)
  rw [this]
  constructor
  · rintro (h | ⟨h, h2, h3⟩)
    · exact absurd h List.not_mem_nil
    · obtain ⟨X, hX, rfl⟩ := mem_lots.mp h2
      rw [pl_congr (fun x => mem_folk)] at h3
      exact ⟨X, hX, h3⟩
  · rintro ⟨X, hX, h3⟩
    rw [← pl_congr (fun x => mem_folk)] at h3
    exact .inr ⟨X.folk, mem_lots.mpr ⟨X, hX, rfl⟩, h3⟩
theorem pl_full {k g : List Int} (h : ∀ x ∈ k, x ∈ g) : pl k g = comp k.length := by
  refine asc_ext (pl_asc _ _) (comp_asc _) fun x => ?_
  rw [mem_pl, mem_comp]
  constructor
  · rintro ⟨i, y, h1, _, rfl⟩
    obtain ⟨h2, _⟩ := List.getElem?_eq_some_iff.mp h1
    omega
  · rintro ⟨h1, h2⟩
    have h3 : x.toNat < k.length := by omega
    exact ⟨x.toNat, k[x.toNat], List.getElem?_eq_getElem h3, h _ (List.getElem_mem h3), by omega⟩
theorem Of.cut {t : Nest} {n : Nat} (h : t.Of n) {k : List Int} (hk : k.Nodup) (h1 : k ≠ []) (h2 : ∀ x ∈ k, 0 ≤ x ∧ x < n) : ∃ u, t.cut k = some u ∧ u.Of k.length := by
  have hp : pl k t.lv = comp k.length := pl_full fun x hx => h.mem.mpr (h2 x hx)
  cases e : t.cut k with
  | none =>
    have := cut_none hk e
    rw [hp] at this
    have := congrArg List.length this
    rw [comp_len] at this
    exact absurd (List.eq_nil_of_length_eq_zero this) h1
  | some u =>
    refine ⟨u, rfl, ?_⟩
    have h3 := cut_folk hk h.nodup e
    rw [hp] at h3
    exact (sZ_perm u.lv).symm.trans (by show (u.folk).Perm _; rw [h3])
/-- what is called by its place among those kept -/
def sel (k m : List Int) : List Int := m.map fun s => k.getD s.toNat 0
theorem cut_sel {k m : List Int} (hk : k.Nodup) (hm : m.Nodup) (h : ∀ x ∈ m, 0 ≤ x ∧ x < k.length) {i : Int} (hi : i ∈ k) : ((k.idxOf i : Int) ∈ m ↔ i ∈ sel k m) ∧ ((k.idxOf i : Int) ∈ m → m.idxOf (k.idxOf i : Int) = (sel k m).idxOf i) ∧ (sel k m).Nodup := by
  have hs : ∀ s ∈ m, k[s.toNat]? = some (k.getD s.toNat 0) := fun s hs => by
    have := h s hs
    rw [List.getD_eq_getElem?_getD, List.getElem?_eq_getElem (show s.toNat < k.length by omega)]
    rfl
  have hnd : (sel k m).Nodup := by
    refine List.pairwise_map.mpr (hm.imp_of_mem fun {x y} hx hy hne e => hne ?_)
    have h1 := hs x hx
    have h2 := hs y hy
    rw [e] at h1
    have := idxOf_get hk h1
    have := idxOf_get hk h2
    have := h x hx
    have := h y hy
    omega
  have hmem : (k.idxOf i : Int) ∈ m ↔ i ∈ sel k m := by
    unfold sel
    rw [List.mem_map]
    constructor
    · intro q
      refine ⟨_, q, ?_⟩
      have h1 := hs _ q
      have h2 := get_idxOf hi
      rw [show ((k.idxOf i : Nat) : Int).toNat = k.idxOf i by omega] at h1 ⊢
      rw [h2] at h1
      injection h1 with h1
      exact h1.symm
    · rintro ⟨s, q, e⟩
      have h1 := hs s q
      rw [e] at h1
      have h2 := idxOf_get hk h1
      have := h s q
      rw [h2, show ((s.toNat : Nat) : Int) = s by omega]
      exact q
  refine ⟨hmem, fun q => ?_, hnd⟩
  have h1 := get_idxOf q
  symm
  refine idxOf_get hnd ?_
  unfold sel
  rw [List.getElem?_map, h1]
  show some (k.getD ((k.idxOf i : Nat) : Int).toNat 0) = some i
  rw [show ((k.idxOf i : Nat) : Int).toNat = k.idxOf i by omega, List.getD_eq_getElem?_getD, get_idxOf hi]
  rfl
theorem sel_sub {k m : List Int} (h : ∀ x ∈ m, 0 ≤ x ∧ x < k.length) : ∀ x ∈ sel k m, x ∈ k := by
  intro x hx
  unfold sel at hx
  obtain ⟨s, hs, rfl⟩ := List.mem_map.mp hx
  have := h s hs
  have h3 : s.toNat < k.length := by omega
  rw [List.getD_eq_getElem?_getD, List.getElem?_eq_getElem h3]
  exact List.getElem_mem h3
/-- cut twice is as cut once -/
theorem cut_cut {k m : List Int} (hk : k.Nodup) (hm : m.Nodup) (h : ∀ x ∈ m, 0 ≤ x ∧ x < k.length) : ∀ t : Nest, (cut k t).bind (cut m) = cut (sel k m) t
  | lf i => by
    rw [cut]
    by_cases hi : i ∈ k
    · rw [if_pos hi]
      obtain ⟨h1, h2, _⟩ := cut_sel hk hm h hi
      show cut m (lf _) = _
      rw [cut, cut]
      by_cases q : (k.idxOf i : Int) ∈ m
      · rw [if_pos q, if_pos (h1.mp q), h2 q]
      · rw [if_neg q, if_neg (fun z => q (h1.mpr z))]
    · rw [if_neg hi, cut, if_neg (fun z => hi (sel_sub h i z))]
      rfl
  | nd a b => by
    have ia := cut_cut hk hm h a
    have ib := cut_cut hk hm h b
    rw [cut, cut, ← ia, ← ib]
    cases ea : cut k a with
    | none =>
      cases eb : cut k b with
      | none => rfl
      | some y =>
        show cut m y = _
        simp only [Option.bind_none, Option.bind_some]
        cases cut m y <;> rfl
    | some x =>
      cases eb : cut k b with
      | none =>
        show cut m x = _
        simp only [Option.bind_none, Option.bind_some]
        cases cut m x <;> rfl
      | some y =>
        show cut m (nd x y) = _
        rw [cut]
        rfl
theorem idx_comp {n : Nat} {x : Int} (h : 0 ≤ x ∧ x < n) : ((comp n).idxOf x : Int) = x := by
  have : (comp n)[x.toNat]? = some x := by
    unfold comp
    rw [List.getElem?_map, List.getElem?_range (by omega)]
    show some ((x.toNat : Nat) : Int) = _
    rw [show ((x.toNat : Nat) : Int) = x by omega]
  rw [idxOf_get (comp_nodup n) this]
  omega
/-- all are kept -/
theorem cut_comp {n : Nat} : ∀ t : Nest, (∀ x ∈ t.lv, 0 ≤ x ∧ x < n) → cut (comp n) t = some t
  | lf i, h => by
    have := h i (by simp [lv])
    rw [cut, if_pos (mem_comp.mpr this), idx_comp this]
  | nd a b, h => by
    rw [cut, cut_comp a (fun x hx => h x (List.mem_append_left _ hx)), cut_comp b (fun x hx => h x (List.mem_append_right _ hx))]
theorem Of.lots_len {t : Nest} {n : Nat} (h : t.Of n) : t.lots.length + 1 = n := by rw [len_lots, h.len]
end Nest
end J
namespace J
open PySem PySem.Spec PyProof.Rows L2
theorem rgD_comp (n : Nat) : rgD 0 1 n = (comp n).map PyData.int := by
  unfold rgD comp
  rw [List.map_map]
  refine List.map_congr_left fun i _ => ?_
  simp
theorem inRg_nat {n : Nat} (hn : n ≤ 16777216) : inRg (n : Int) = true := by
  unfold inRg
  rw [Bool.and_eq_true, decide_eq_true_eq, decide_eq_true_eq]
  omega
theorem r1_eq {f : Ev} {vw : VW} {s s1 : STO} {j : Int} (h : f vw s = some (.int j, s1)) : r1 f vw s = if inRg j = true then some ((0, j), s1) else none := by
  unfold r1
  rw [h]
  rfl
theorem r1_ok {f : Ev} {vw : VW} {s s1 : STO} {n : Nat} (h : f vw s = some (.int (n : Int), s1)) (hn : n ≤ 16777216) : r1 f vw s = some ((0, (n : Int)), s1) :=
  (r1_eq h).trans (if_pos (inRg_nat hn))
theorem rg1_eq {j : Int} : rg1 (.int j) = if inRg j = true then some (rgD 0 1 j.toNat) else none := rfl
theorem rg2_eq {i j : Int} : rg2 (.int i) (.int j) = if inRg i = true ∧ inRg j = true then some (rgD i 1 (j - i).toNat) else none := rfl
theorem rg1_ok {n : Nat} (hn : n ≤ 16777216) : rg1 (.int (n : Int)) = some ((comp n).map PyData.int) := by
  refine (rg1_eq.trans (if_pos (inRg_nat hn))).trans ?_
  have h2 : (n : Int).toNat = n := by omega
  rw [h2, rgD_comp]
theorem eLRg_comp {f : Ev} {vw : VW} {s s1 : STO} {n : Nat} (h : f vw s = some (.int (n : Int), s1)) (hn : n ≤ 16777216) : eLRg (r1 f) vw s = some (dI (comp n), s1) := by
  unfold eLRg
  rw [r1_ok h hn]
  simp only [Option.bind_some]
  have h2 : ((n : Int) - 0).toNat = n := by omega
  rw [h2, rgD_comp]
  exact if_pos ⟨by omega, by omega, by omega, by omega, hn⟩
end J
namespace J
open PySem PySem.Spec PyProof.Rows L2
theorem enD_eq : ∀ (k : List Int) (n : Nat), enD (k.map PyData.int) n = (enI n k).map fun p => .tuple [.int p.1, .int p.2]
  | [], n => rfl
  | x :: r, n => by
    rw [List.map_cons, enD, enD_eq r (n + 1), enI, List.map_cons]
    rfl
end J
namespace K33
open PySem PySem.Spec PyProof.Rows L2 J
theorem is_integer_eq (i : Int) (s : STO) : F_is_integer [.int i] s = some (.bool true, s) := by
  simp [F_is_integer, b_is_integer, okM_nil, fzT, fnD, sSeq, sRet, sIf, sSet, sNil, sNever, sEx, sRetN, see, seeI, seeS_sh, seeS_no, seeS_tt, seeS_ff, fz, fzI, fzS_ff, fzS_sh, fzS_no, fzS_ow, fzIf, mkS, eIf, bT, aT, oT, nT, eUn, eVar, eLst, eTup, aC, aN, eCall, aApp, eBin, eIdx, eC, eOp, pick, dIdx, eAnd, eOr, dNot, eChain, dIsi, isMk, isiB, typD, fin_self, dI, dL, eSl, oN, oS, dSl, iVal, iB, iU, isLst, bN, bT2, wipeV, setV, isScal, full]
theorem asc_iter {l : List D} {vw : VW} {s : STO} {i : Nat} (h : vw[i]? = some (some (.list l))) : (iB (fun x y => (isLst x).bind fun ds => (isLst y).map fun es => ziD ds es) (eVar i) (eSl (eVar i) (oS (eC (.int 1))) oN)) vw s = some (ziD l (l.drop 1), s) := by
  simp [iB, eVar, h, eSl, oS, oN, eC, dSl, isLst, cut_tail]
theorem c_row1 (m : Int) (l : List Int) (s : STO) (hl : l.length ≤ 16777216) (vw : VW) (h0 : vw[0]? = some (some (.int m))) (h1 : vw[1]? = some (some (dI l))) (h5 : vw.length = 5) : c_is_row_1 vw s = some (.list (l.map fun x => PyData.bool (decide (0 ≤ x) && decide (x < m))), s) := by
  unfold c_is_row_1
  refine eComp_map l PyData.int (fun x => [(4, .int x)]) _ ?_ hl (fun _ _ => rfl) fun x _ => ?_
  · simp [iVal, eVar, h1]
  · have e0 : (setV (wipeV vw [4]) [(4, .int x)])[0]? = some (some (.int m)) := by simp [setV, wipeV, h0]
    have e4 : (setV (wipeV vw [4]) [(4, .int x)])[4]? = some (some (.int x)) := by simp [setV, wipeV, h5]
    generalize setV (wipeV vw [4]) [(4, .int x)] = vw2 at e0 e4
    simp [eAnd, eCall, aApp, aC, aN, eVar, e4, pick, is_integer_eq, eChain, eC, dLe, dLt, e0]
    by_cases h : 0 ≤ x <;> simp [h]
theorem c_row2 (l : List Int) (s : STO) (hl : l.length ≤ 16777216) (vw : VW) (h1 : vw[1]? = some (some (dI l))) (h5 : vw.length = 5) : c_is_row_2 vw s = some (.list ((l.zip (l.drop 1)).map fun p => PyData.bool (decide (p.1 < p.2))), s) := by
  unfold c_is_row_2
  refine eComp_map (l.zip (l.drop 1)) (fun p => .tuple [.int p.1, .int p.2]) (fun p => [(2, .int p.1), (3, .int p.2)]) _ ?_ ?_ (fun _ _ => rfl) fun x _ => ?_
  · rw [asc_iter h1, ← List.map_drop, zi_map]
  · rw [List.length_zip]; omega
  · have e0 : (setV (wipeV vw [2, 3]) [(2, .int x.1), (3, .int x.2)])[2]? = some (some (.int x.1)) := by simp [setV, wipeV, h5]
    have e4 : (setV (wipeV vw [2, 3]) [(2, .int x.1), (3, .int x.2)])[3]? = some (some (.int x.2)) := by simp [setV, wipeV, h5]
    generalize setV (wipeV vw [2, 3]) [(2, .int x.1), (3, .int x.2)] = vw2 at e0 e4
    simp [eBin, eVar, e4, e0, dLt]
theorem is_row_eq (m : Int) (l : List Int) (s : STO) (hl : l.length ≤ 16777216) : F_is_row [.int m, dI l] s = some (.bool (rowB m l), s) := by
  have h1 := c_row1 m l s hl [some (.int m), some (dI l), none, none, none] rfl rfl rfl
  have h2 := c_row2 l s hl [some (.int m), some (dI l), none, none, none] rfl rfl
  have a1 := cAll_map (fun x : Int => decide (0 ≤ x) && decide (x < m)) l
  have a2 := cAll_map (fun p : Int × Int => decide (p.1 < p.2)) (l.zip (l.drop 1))
  simp only [dI] at h1 h2
  unfold rowB
  cases hb : l.all fun x => decide (0 ≤ x) && decide (x < m) with
  | true =>
    rw [hb] at a1
    simp [F_is_row, b_is_row, okM_nil, fzT, fnD, sSeq, sRet, sIf, sSet, sNil, sNever, sEx, sRetN, see, seeI, seeS_sh, seeS_no, seeS_tt, seeS_ff, fz, fzI, fzS_ff, fzS_sh, fzS_no, fzS_ow, fzIf, mkS, eIf, bT, aT, oT, nT, eUn, eVar, eLst, eTup, aC, aN, eCall, aApp, eBin, eIdx, eC, eOp, pick, dIdx, eAnd, eOr, dNot, eChain, dIsi, isMk, isiB, typD, fin_self, dI, dL, eSl, oN, oS, dSl, iVal, iB, iU, isLst, bN, bT2, wipeV, setV, isScal, full, h1, a1]
    simp only [List.drop_one] at h2 a2
    simp [h2, a2, okM_nil, fzT, fnD, sSeq, sRet, sIf, sSet, sNil, sNever, sEx, sRetN, see, seeI, seeS_sh, seeS_no, seeS_tt, seeS_ff, fz, fzI, fzS_ff, fzS_sh, fzS_no, fzS_ow, fzIf, mkS, eIf, bT, aT, oT, nT, eUn, eVar, eLst, eTup, aC, aN, eCall, aApp, eBin, eIdx, eC, eOp, pick, dIdx, eAnd, eOr, dNot, eChain, dIsi, isMk, isiB, typD, fin_self, dI, dL, eSl, oN, oS, dSl, iVal, iB, iU, isLst, bN, bT2, wipeV, setV, isScal, full]
  | false =>
    rw [hb] at a1
    simp [F_is_row, b_is_row, okM_nil, fzT, fnD, sSeq, sRet, sIf, sSet, sNil, sNever, sEx, sRetN, see, seeI, seeS_sh, seeS_no, seeS_tt, seeS_ff, fz, fzI, fzS_ff, fzS_sh, fzS_no, fzS_ow, fzIf, mkS, eIf, bT, aT, oT, nT, eUn, eVar, eLst, eTup, aC, aN, eCall, aApp, eBin, eIdx, eC, eOp, pick, dIdx, eAnd, eOr, dNot, eChain, dIsi, isMk, isiB, typD, fin_self, dI, dL, eSl, oN, oS, dSl, iVal, iB, iU, isLst, bN, bT2, wipeV, setV, isScal, full, h1, a1]
theorem is_group_eq (m : Int) (l : List Int) (s : STO) (hl : l.length ≤ 16777216) : F_is_group [.int m, dI l] s = some (.bool (rowB m l && decide (1 < l.length)), s) := by
  have h1 := is_row_eq m l s hl
  simp only [dI] at h1
  cases hb : rowB m l with
  | true =>
    rw [hb] at h1
    simp [F_is_group, b_is_group, okM_nil, fzT, fnD, sSeq, sRet, sIf, sSet, sNil, sNever, sEx, sRetN, see, seeI, seeS_sh, seeS_no, seeS_tt, seeS_ff, fz, fzI, fzS_ff, fzS_sh, fzS_no, fzS_ow, fzIf, mkS, eIf, bT, aT, oT, nT, eUn, eVar, eLst, eTup, aC, aN, eCall, aApp, eBin, eIdx, eC, eOp, pick, dIdx, eAnd, eOr, dNot, eChain, dIsi, isMk, isiB, typD, fin_self, dI, dL, eSl, oN, oS, dSl, iVal, iB, iU, isLst, bN, bT2, wipeV, setV, isScal, full, h1, cLen, dGt]
    omega
  | false =>
    rw [hb] at h1
    simp [F_is_group, b_is_group, okM_nil, fzT, fnD, sSeq, sRet, sIf, sSet, sNil, sNever, sEx, sRetN, see, seeI, seeS_sh, seeS_no, seeS_tt, seeS_ff, fz, fzI, fzS_ff, fzS_sh, fzS_no, fzS_ow, fzIf, mkS, eIf, bT, aT, oT, nT, eUn, eVar, eLst, eTup, aC, aN, eCall, aApp, eBin, eIdx, eC, eOp, pick, dIdx, eAnd, eOr, dNot, eChain, dIsi, isMk, isiB, typD, fin_self, dI, dL, eSl, oN, oS, dSl, iVal, iB, iU, isLst, bN, bT2, wipeV, setV, isScal, full, h1]
theorem lies_in_eq (a b : List Int) (s : STO) (hl : a.length ≤ 16777216) : F_lies_in [dI a, dI b] s = some (.bool (a.all fun x => decide (x ∈ b)), s) := by
  have h1 : c_lies_in_1 [some (dI a), some (dI b), none] s = some (.list (a.map fun x => PyData.bool (decide (x ∈ b))), s) := by
    unfold c_lies_in_1
    refine eComp_map a PyData.int (fun x => [(2, .int x)]) _ ?_ hl (fun _ _ => rfl) fun x _ => ?_
    · simp [iVal, eVar]
    · have := dIn_int x b
      simp only [dI] at this
      simp [setV, wipeV, eBin, eVar, this]
  have a1 := cAll_map (fun x : Int => decide (x ∈ b)) a
  simp only [dI] at h1
  simp [F_lies_in, b_lies_in, okM_nil, fzT, fnD, sSeq, sRet, sIf, sSet, sNil, sNever, sEx, sRetN, see, seeI, seeS_sh, seeS_no, seeS_tt, seeS_ff, fz, fzI, fzS_ff, fzS_sh, fzS_no, fzS_ow, fzIf, mkS, eIf, bT, aT, oT, nT, eUn, eVar, eLst, eTup, aC, aN, eCall, aApp, eBin, eIdx, eC, eOp, pick, dIdx, eAnd, eOr, dNot, eChain, dIsi, isMk, isiB, typD, fin_self, dI, dL, eSl, oN, oS, dSl, iVal, iB, iU, isLst, bN, bT2, wipeV, setV, isScal, full, h1, a1]
theorem parts_step (ls : List (List Int)) (h : Int) (r first other : List Int) (s : STO) (x : Slot) :
    l_parts_in_1 [.sh (dL ls), .sh (dI (h :: r)), .sh (dI first), .sh (dI other), x] s = some (.nx, [.sh (dL ls), .sh (dI (h :: r)), .sh (dI (firstStep (h :: r) h first other)), .sh (dI other), x], s) := by
  have hin := dIn_int h other
  simp only [dI] at hin
  unfold firstStep
  by_cases h1 : first.length < other.length
  · by_cases h2 : other.length < (h :: r).length
    · by_cases h3 : h ∈ other
      · rw [if_pos ⟨h1, h2, h3⟩]
        have h2' : (other.length : Int) < r.length + 1 := by simp at h2; omega
        simp [l_parts_in_1, okM_nil, fzT, fnD, sSeq, sRet, sIf, sSet, sNil, sNever, sEx, sRetN, see, seeI, seeS_sh, seeS_no, seeS_tt, seeS_ff, fz, fzI, fzS_ff, fzS_sh, fzS_no, fzS_ow, fzIf, mkS, eIf, bT, aT, oT, nT, eUn, eVar, eLst, eTup, aC, aN, eCall, aApp, eBin, eIdx, eC, eOp, pick, dIdx, eAnd, eOr, dNot, eChain, dIsi, isMk, isiB, typD, fin_self, dI, dL, eSl, oN, oS, dSl, iVal, iB, iU, isLst, bN, bT2, wipeV, setV, isScal, full, cLen, dLt, h1, h2', atI, ixN, hin, h3, cList]
      · rw [if_neg (fun z => h3 z.2.2)]
        have h2' : (other.length : Int) < r.length + 1 := by simp at h2; omega
        simp [l_parts_in_1, okM_nil, fzT, fnD, sSeq, sRet, sIf, sSet, sNil, sNever, sEx, sRetN, see, seeI, seeS_sh, seeS_no, seeS_tt, seeS_ff, fz, fzI, fzS_ff, fzS_sh, fzS_no, fzS_ow, fzIf, mkS, eIf, bT, aT, oT, nT, eUn, eVar, eLst, eTup, aC, aN, eCall, aApp, eBin, eIdx, eC, eOp, pick, dIdx, eAnd, eOr, dNot, eChain, dIsi, isMk, isiB, typD, fin_self, dI, dL, eSl, oN, oS, dSl, iVal, iB, iU, isLst, bN, bT2, wipeV, setV, isScal, full, cLen, dLt, h1, h2', atI, ixN, hin, h3, cList]
    · rw [if_neg (fun z => h2 z.2.1)]
      have h2' : ¬ (other.length : Int) < r.length + 1 := by simp at h2; omega
      simp [l_parts_in_1, okM_nil, fzT, fnD, sSeq, sRet, sIf, sSet, sNil, sNever, sEx, sRetN, see, seeI, seeS_sh, seeS_no, seeS_tt, seeS_ff, fz, fzI, fzS_ff, fzS_sh, fzS_no, fzS_ow, fzIf, mkS, eIf, bT, aT, oT, nT, eUn, eVar, eLst, eTup, aC, aN, eCall, aApp, eBin, eIdx, eC, eOp, pick, dIdx, eAnd, eOr, dNot, eChain, dIsi, isMk, isiB, typD, fin_self, dI, dL, eSl, oN, oS, dSl, iVal, iB, iU, isLst, bN, bT2, wipeV, setV, isScal, full, cLen, dLt, h1, h2', atI, ixN, hin, cList]
  · rw [if_neg (fun z => h1 z.1)]
    simp [l_parts_in_1, okM_nil, fzT, fnD, sSeq, sRet, sIf, sSet, sNil, sNever, sEx, sRetN, see, seeI, seeS_sh, seeS_no, seeS_tt, seeS_ff, fz, fzI, fzS_ff, fzS_sh, fzS_no, fzS_ow, fzIf, mkS, eIf, bT, aT, oT, nT, eUn, eVar, eLst, eTup, aC, aN, eCall, aApp, eBin, eIdx, eC, eOp, pick, dIdx, eAnd, eOr, dNot, eChain, dIsi, isMk, isiB, typD, fin_self, dI, dL, eSl, oN, oS, dSl, iVal, iB, iU, isLst, bN, bT2, wipeV, setV, isScal, full, cLen, dLt, h1, atI, ixN, hin, cList]
theorem parts_loop (h : Int) (r : List Int) (ls0 : List (List Int)) (s : STO) (x : Slot) : ∀ (ls : List (List Int)) (first : List Int) (y : Slot),
    ∃ y', forL (bN 3) l_parts_in_1 (ls.map dI) [.sh (dL ls0), .sh (dI (h :: r)), .sh (dI first), y, x] s = some (.nx, [.sh (dL ls0), .sh (dI (h :: r)), .sh (dI (ls.foldl (firstStep (h :: r) h) first)), y', x], s)
  | [], first, y => ⟨y, rfl⟩
  | o :: ls, first, y => by
    obtain ⟨y', ih⟩ := parts_loop h r ls0 s x ls (firstStep (h :: r) h first o) (.sh (dI o))
    refine ⟨y', ?_⟩
    rw [List.map_cons, forL]
    simp only [bN, Option.bind_some]
    rw [if_pos ⟨by rfl, noTok_dI o⟩]
    show ((l_parts_in_1 [.sh (dL ls0), .sh (dI (h :: r)), .sh (dI first), .sh (dI o), x] s).bind _) = _
    rw [parts_step]
    simp only [Option.bind_some]
    exact ih
theorem parts_in_eq (ls : List (List Int)) (h : Int) (r : List Int) (s : STO) (hl : (h :: r).length ≤ 16777216) :
    F_parts_in [dL ls, dI (h :: r)] s = some (.list [dI (firstOf ls (h :: r) h), dI ((h :: r).filter fun x => !decide (x ∈ firstOf ls (h :: r) h))], s) := by
  obtain ⟨y', hloop⟩ := parts_loop h r ls s .no ls [h] .no
  have hc : ∀ f : List Int, c_parts_in_1 [some (dL ls), some (dI (h :: r)), some (dI f), (seeS false y'), none] s = some (.list (((h :: r).filter fun x => !decide (x ∈ f)).map PyData.int), s) := by
    intro f
    unfold c_parts_in_1
    refine eComp_pure (h :: r) PyData.int (fun x => [(4, .int x)]) (fun x => !decide (x ∈ f)) _ ?_ hl (fun _ _ => rfl) (fun x _ => ?_) fun x _ _ => ?_
    · simp [iVal, eVar]
    · have := dNotIn_int x f
      simp only [dI] at this
      simp [setV, wipeV, bT, eBin, eVar, this]
    · simp [setV, wipeV, eVar]
  have hc := hc (firstOf ls (h :: r) h)
  simp only [dI, dL] at hloop hc
  unfold firstOf at hc ⊢
  have e1 : (h :: r).take 1 = [h] := rfl
  rw [e1] at hc ⊢
  simp only [List.map_cons, List.map_nil] at hloop hc
  simp [F_parts_in, b_parts_in, okM_nil, fzT, fnD, sSeq, sRet, sIf, sSet, sNil, sNever, sEx, sRetN, see, seeI, seeS_sh, seeS_no, seeS_tt, seeS_ff, fz, fzI, fzS_ff, fzS_sh, fzS_no, fzS_ow, fzIf, mkS, eIf, bT, aT, oT, nT, eUn, eVar, eLst, eTup, aC, aN, eCall, aApp, eBin, eIdx, eC, eOp, pick, dIdx, eAnd, eOr, dNot, eChain, dIsi, isMk, isiB, typD, fin_self, dI, dL, eSl, oN, oS, dSl, iVal, iB, iU, isLst, bN, bT2, wipeV, setV, isScal, full, sFor, cut_head, hloop, hc]
theorem has_parts_eq (ls : List (List Int)) (h : Int) (r : List Int) (s : STO) (hl : (h :: r).length ≤ 16777216) (hf : (firstOf ls (h :: r) h).length ≤ 16777216) :
    F_has_parts [dL ls, dI (h :: r)] s = some (.bool (partsB ls (h :: r)), s) := by
  have h1 := parts_in_eq ls h r s hl
  have h2 := lies_in_eq (firstOf ls (h :: r) h) (h :: r) s hf
  have h3 := dIn_row (restOf ls h r) ls
  have hb : partsB ls (h :: r) = ((firstOf ls (h :: r) h).all (fun x => decide (x ∈ h :: r)) && (decide ((restOf ls h r).length = 1) || decide (restOf ls h r ∈ ls))) := rfl
  rw [hb]
  clear hb
  unfold restOf at *
  generalize firstOf ls (h :: r) h = f at *
  generalize (h :: r).filter (fun x => !decide (x ∈ f)) = q at *
  simp only [dI, dL] at h1 h2 h3
  generalize h :: r = g at *
  cases e1 : f.all fun x => decide (x ∈ g) with
  | false =>
    rw [e1] at h2
    simp [F_has_parts, b_has_parts, okM_nil, fzT, fnD, sSeq, sRet, sIf, sSet, sNil, sNever, sEx, sRetN, see, seeI, seeS_sh, seeS_no, seeS_tt, seeS_ff, fz, fzI, fzS_ff, fzS_sh, fzS_no, fzS_ow, fzIf, mkS, eIf, bT, aT, oT, nT, eUn, eVar, eLst, eTup, aC, aN, eCall, aApp, eBin, eIdx, eC, eOp, pick, dIdx, eAnd, eOr, dNot, eChain, dIsi, isMk, isiB, typD, fin_self, dI, dL, eSl, oN, oS, dSl, iVal, iB, iU, isLst, bN, bT2, wipeV, setV, isScal, full, h1, h2, sBind, bL2, allLt, setE]
  | true =>
    rw [e1] at h2
    by_cases e2 : q.length = 1
    · simp [F_has_parts, b_has_parts, okM_nil, fzT, fnD, sSeq, sRet, sIf, sSet, sNil, sNever, sEx, sRetN, see, seeI, seeS_sh, seeS_no, seeS_tt, seeS_ff, fz, fzI, fzS_ff, fzS_sh, fzS_no, fzS_ow, fzIf, mkS, eIf, bT, aT, oT, nT, eUn, eVar, eLst, eTup, aC, aN, eCall, aApp, eBin, eIdx, eC, eOp, pick, dIdx, eAnd, eOr, dNot, eChain, dIsi, isMk, isiB, typD, fin_self, dI, dL, eSl, oN, oS, dSl, iVal, iB, iU, isLst, bN, bT2, wipeV, setV, isScal, full, h1, h2, sBind, bL2, allLt, setE, cLen, dEq, e2, shaped_int, PyData.eqv]
    · have e3 : ((q.length : Int) == 1) = false := by simp; omega
      simp [F_has_parts, b_has_parts, okM_nil, fzT, fnD, sSeq, sRet, sIf, sSet, sNil, sNever, sEx, sRetN, see, seeI, seeS_sh, seeS_no, seeS_tt, seeS_ff, fz, fzI, fzS_ff, fzS_sh, fzS_no, fzS_ow, fzIf, mkS, eIf, bT, aT, oT, nT, eUn, eVar, eLst, eTup, aC, aN, eCall, aApp, eBin, eIdx, eC, eOp, pick, dIdx, eAnd, eOr, dNot, eChain, dIsi, isMk, isiB, typD, fin_self, dI, dL, eSl, oN, oS, dSl, iVal, iB, iU, isLst, bN, bT2, wipeV, setV, isScal, full, h1, h2, h3, sBind, bL2, allLt, setE, cLen, dEq, e2, e3, shaped_int, PyData.eqv]
theorem c_part1 (ls : List (List Int)) (s : STO) (hl : ls.length ≤ 1000) (hg : ∀ g ∈ ls, g.length ≤ 1000) : c_is_parting_1 [some (dL ls), none, none, none] s = some (.list (ls.map fun g => PyData.bool (rowB (ls.length + 1) g && decide (1 < g.length))), s) := by
  unfold c_is_parting_1
  refine eComp_map ls dI (fun g => [(1, dI g)]) _ ?_ (by omega) (fun _ _ => rfl) fun g hgm => ?_
  · simp [iVal, eVar]
  · have h1 := is_group_eq (ls.length + 1) g s (by have := hg g hgm; omega)
    simp only [dI] at h1
    simp [setV, wipeV, okM_nil, fzT, fnD, sSeq, sRet, sIf, sSet, sNil, sNever, sEx, sRetN, see, seeI, seeS_sh, seeS_no, seeS_tt, seeS_ff, fz, fzI, fzS_ff, fzS_sh, fzS_no, fzS_ow, fzIf, mkS, eIf, bT, aT, oT, nT, eUn, eVar, eLst, eTup, aC, aN, eCall, aApp, eBin, eIdx, eC, eOp, pick, dIdx, eAnd, eOr, dNot, eChain, dIsi, isMk, isiB, typD, fin_self, dI, dL, eSl, oN, oS, dSl, iVal, iB, iU, isLst, bN, bT2, wipeV, setV, isScal, full, cLen, dAdd, h1]
theorem c_part2 (ls : List (List Int)) (s : STO) (hl : ls.length ≤ 1000) : c_is_parting_2 [some (dL ls), none, none, none] s = some (.list ((ls.zip (ls.drop 1)).map fun p => PyData.bool (ltI p.1 p.2)), s) := by
  unfold c_is_parting_2
  refine eComp_map (ls.zip (ls.drop 1)) (fun p => .tuple [dI p.1, dI p.2]) (fun p => [(2, dI p.1), (3, dI p.2)]) _ ?_ ?_ (fun _ _ => rfl) fun x _ => ?_
  · rw [asc_iter (l := ls.map dI) rfl, ← List.map_drop, zi_map]
  · rw [List.length_zip]; omega
  · have h1 := dLt_dI x.1 x.2
    simp only [dI] at h1
    simp [setV, wipeV, okM_nil, fzT, fnD, sSeq, sRet, sIf, sSet, sNil, sNever, sEx, sRetN, see, seeI, seeS_sh, seeS_no, seeS_tt, seeS_ff, fz, fzI, fzS_ff, fzS_sh, fzS_no, fzS_ow, fzIf, mkS, eIf, bT, aT, oT, nT, eUn, eVar, eLst, eTup, aC, aN, eCall, aApp, eBin, eIdx, eC, eOp, pick, dIdx, eAnd, eOr, dNot, eChain, dIsi, isMk, isiB, typD, fin_self, dI, dL, eSl, oN, oS, dSl, iVal, iB, iU, isLst, bN, bT2, wipeV, setV, isScal, full, h1]
theorem c_part3 (ls : List (List Int)) (s : STO) (hl : ls.length ≤ 1000) (hg : ∀ g ∈ ls, g.length ≤ 1000 ∧ g ≠ []) : c_is_parting_3 [some (dL ls), none, none, none] s = some (.list (ls.map fun g => PyData.bool (partsB ls g)), s) := by
  have hf : ∀ (l : List (List Int)) (g : List Int) (h : Int) (f : List Int), f.length ≤ 1000 → (∀ x ∈ l, x.length ≤ 1000) → (l.foldl (firstStep g h) f).length ≤ 1000 := by
    intro l
    induction l with
    | nil => intro g h f hf _; exact hf
    | cons a r ih =>
      intro g h f hf hx
      refine ih g h _ ?_ fun x hx' => hx x (List.mem_cons_of_mem _ hx')
      unfold firstStep
      split
      · exact hx a List.mem_cons_self
      · exact hf
  unfold c_is_parting_3
  refine eComp_map ls dI (fun g => [(1, dI g)]) _ ?_ (by omega) (fun _ _ => rfl) fun g hgm => ?_
  · simp [iVal, eVar]
  · obtain ⟨h2, h3⟩ := hg g hgm
    cases g with
    | nil => exact absurd rfl h3
    | cons h r =>
      have h1 := has_parts_eq ls h r s (by omega) (by
        have := hf ls (h :: r) h ((h :: r).take 1) (by simp) fun x hx => (hg x hx).1
        unfold firstOf
        omega)
      simp only [dI, dL] at h1
      simp [setV, wipeV, okM_nil, fzT, fnD, sSeq, sRet, sIf, sSet, sNil, sNever, sEx, sRetN, see, seeI, seeS_sh, seeS_no, seeS_tt, seeS_ff, fz, fzI, fzS_ff, fzS_sh, fzS_no, fzS_ow, fzIf, mkS, eIf, bT, aT, oT, nT, eUn, eVar, eLst, eTup, aC, aN, eCall, aApp, eBin, eIdx, eC, eOp, pick, dIdx, eAnd, eOr, dNot, eChain, dIsi, isMk, isiB, typD, fin_self, dI, dL, eSl, oN, oS, dSl, iVal, iB, iU, isLst, bN, bT2, wipeV, setV, isScal, full]
      simp at h1
      simp [h1]
theorem is_parting_true {ls : List (List Int)} (h : Parting ls) (s : STO) : F_is_parting [dL ls] s = some (.bool true, s) := by
  have h1 := c_part1 ls s (by have := h.few; omega) fun g hg => by have := (h.row g hg).2.2; omega
  have h2 := c_part2 ls s (by have := h.few; omega)
  have h3 := c_part3 ls s (by have := h.few; omega) fun g hg => ⟨by have := (h.row g hg).2.2; omega, fun e => by have := (h.row g hg).2.1; rw [e] at this; simp at this⟩
  have a1 := cAll_map (fun g => rowB (ls.length + 1) g && decide (1 < g.length)) ls
  have a2 := cAll_map (fun p : List Int × List Int => ltI p.1 p.2) (ls.zip (ls.drop 1))
  have a3 := cAll_map (partsB ls) ls
  rw [List.all_eq_true.mpr fun g hg => by rw [(h.row g hg).1, decide_eq_true (h.row g hg).2.1]; rfl] at a1
  rw [List.all_eq_true.mpr fun p hp => h.asc p hp] at a2
  rw [List.all_eq_true.mpr fun g hg => h.prt g hg] at a3
  have hfew := h.few
  have h4 : dGe (.int (ls.map dI).length) (.int 20) = some (.bool false) := by
    show some (PyData.bool (decide (20 ≤ _))) = _
    rw [decide_eq_false (by rw [List.length_map]; omega)]
  have h5 := dNotIn_row (comp (ls.length + 1)) ls
  have h6 : dNe (dL ls) (.list []) = some (.bool (!decide (ls = []))) := by
    have := eqv_dL ls []
    have h7 := shaped_dL ls
    have h8 := shaped_dL []
    simp only [dL, List.map_nil] at this h7 h8 ⊢
    simp [dNe, h7, h8, this]
  refine fnD_rt (e1 := [.sh (dL ls), .no, .no, .no]) (s1 := s) ?_ (fin_self _ _)
  unfold b_is_parting
  refine sSeq_nx (sIf_f (oT_f (nT_ok (b := true) (bT_ok (eUn_ok (eVar_ok rfl) rfl))) (bT_ok (eBin_ok (eOp_ok (aC_ok (eVar_ok rfl) aN_ok) rfl) eC_ok h4))) rfl) ?_
  refine sSeq_nx (sIf_f (nT_ok (b := true) (bT_ok (eOp_ok (aC_ok h1 aN_ok) a1))) rfl) ?_
  refine sSeq_nx (sIf_f (nT_ok (b := true) (bT_ok (eOp_ok (aC_ok h2 aN_ok) a2))) rfl) ?_
  refine sSeq_nx (e1 := [.sh (dL ls), .no, .no, .no]) (s1 := s) ?_ (sSeq_rt (sRet_ok (eOp_ok (aC_ok h3 aN_ok) a3)))
  by_cases hn : ls = []
  · rw [decide_eq_true hn] at h6
    exact sIf_f (aT_f (bT_ok (eBin_ok (eVar_ok rfl) (eLst_ok aN_ok) h6))) rfl
  · have hc : comp (ls.length + 1) ∈ ls := h.all.resolve_left hn
    rw [decide_eq_false hn] at h6
    rw [decide_eq_true hc] at h5
    refine sIf_f (aT_t (bT_ok (eBin_ok (eVar_ok rfl) (eLst_ok aN_ok) h6)) (bT_ok (eBin_ok (d1 := dI (comp (ls.length + 1))) (s1 := s) ?_ (eVar_ok rfl) h5))) rfl
    rw [eLRg_comp (n := ls.length + 1) ?_ (by omega)]
    exact eBin_ok (eOp_ok (aC_ok (eVar_ok rfl) aN_ok) rfl) eC_ok (by show some (PyData.int (((ls.map dI).length : Nat) + 1)) = _; rw [List.length_map]; rfl)
end K33
namespace J
open PySem PySem.Spec PyProof.Rows L2
/-! ### a pouch of three numbers, in a cell -/
abbrev pchC (a b c : Int) : Cell := .lst [.int a, .int b, .int c]
/-- a pouch that has been asked at most n times, behind the cells p and ahead of the cells q -/
def Good (n : Nat) (p q s : STO) : Prop := ∃ a b c : Int, s = p ++ pchC a b c :: q ∧ 0 ≤ a ∧ 0 ≤ b ∧ b < 2 ^ 200 ∧ 0 ≤ c ∧ c ≤ n
theorem Good.mono {n m : Nat} {p q s : STO} (h : Good n p q s) (hl : n ≤ m) : Good m p q s := by
  obtain ⟨a, b, c, e, h1, h2, h3, h4, h5⟩ := h
  exact ⟨a, b, c, e, h1, h2, h3, h4, by omega⟩
theorem Good.len {n : Nat} {p q s : STO} (h : Good n p q s) : s.length = p.length + 1 + q.length := by
  obtain ⟨a, b, c, rfl, _⟩ := h
  rw [List.length_append, List.length_cons]; omega
theorem Good.fin {n m : Nat} {p q s s' : STO} (h : Good n p q s) (h' : Good m p q s') (d : D) : fin s d s' = some (d, s') := fin_len d (by rw [h.len, h'.len])
theorem mid_get {p q : STO} {c : Cell} : (p ++ c :: q)[p.length]? = some c := by rw [List.getElem?_append_right (Nat.le_refl _), Nat.sub_self]; rfl
theorem mid_set {p q : STO} {c e : Cell} : (p ++ c :: q).set p.length e = p ++ e :: q := by rw [List.set_append_right _ _ (Nat.le_refl _), Nat.sub_self]; rfl
theorem mid_cell {p q : STO} {ds : List D} : cellL (p ++ .lst ds :: q) p.length = some ds := by unfold cellL; rw [mid_get]
theorem natAbs_lt {i : Int} {n : Nat} (h0 : 0 ≤ i) (h1 : i < (n : Int)) : i.natAbs < n := by omega
theorem dGt_t {i j : Int} (h : j < i) : dGt (.int i) (.int j) = some (.bool true) := by show some (PyData.bool (decide (j < i))) = _; rw [decide_eq_true h]
theorem dGt_f {i j : Int} (h : ¬ j < i) : dGt (.int i) (.int j) = some (.bool false) := by show some (PyData.bool (decide (j < i))) = _; rw [decide_eq_false h]
theorem dLt_t {i j : Int} (h : i < j) : dLt (.int i) (.int j) = some (.bool true) := by show some (PyData.bool (decide (i < j))) = _; rw [decide_eq_true h]
theorem dLt_f {i j : Int} (h : ¬ i < j) : dLt (.int i) (.int j) = some (.bool false) := by show some (PyData.bool (decide (i < j))) = _; rw [decide_eq_false h]
theorem dGe_t {i j : Int} (h : j ≤ i) : dGe (.int i) (.int j) = some (.bool true) := by show some (PyData.bool (decide (j ≤ i))) = _; rw [decide_eq_true h]
theorem dGe_f {i j : Int} (h : ¬ j ≤ i) : dGe (.int i) (.int j) = some (.bool false) := by show some (PyData.bool (decide (j ≤ i))) = _; rw [decide_eq_false h]
theorem dEq_int (i j : Int) : dEq (.int i) (.int j) = some (.bool (decide (i = j))) := by
  show (if SeqAt.shaped (.int i) = true ∧ SeqAt.shaped (.int j) = true then some (PyData.bool (PyData.eqv (.int i) (.int j))) else none) = _
  rw [if_pos ⟨shaped_int i, shaped_int j⟩]
  congr 2
theorem dEq_t {i j : Int} (h : i = j) : dEq (.int i) (.int j) = some (.bool true) := by rw [dEq_int, decide_eq_true h]
theorem dEq_f {i j : Int} (h : i ≠ j) : dEq (.int i) (.int j) = some (.bool false) := by rw [dEq_int, decide_eq_false h]
theorem atI_nat {α : Type} {l : List α} {i : Int} {n : Nat} {x : α} (hi : i = n) (h : l[n]? = some x) : atI l i = some x := by
  subst hi
  have hl := (List.getElem?_eq_some_iff.mp h).1
  unfold atI ixN
  rw [if_pos (by omega), if_pos (by omega), Option.bind_some, show ((n : Int)).toNat = n by omega]
  exact h
theorem ixN_nat {m : Nat} {i : Int} {n : Nat} (hi : i = n) (h : n < m) : ixN m i = some n := by
  subst hi
  unfold ixN
  rw [if_pos (by omega), if_pos (by omega), show ((n : Int)).toNat = n by omega]
section
variable {g h : Sv} {env e1 : Env} {s s1 s2 s3 : STO} {d d1 d2 d3 d' : D} {M : List Nat} {f f1 f2 f3 : Ev} {ds : List D} {vw : VW}
theorem sSto_ok {n : Int} {m j : Nat} (h1 : f3 (see [] env) s = some (d, s1)) (h2 : f1 (see [] env) s1 = some (tokD j, s2)) (h3 : f2 (see [] env) s2 = some (.int n, s3)) (hc : cellL s3 j = some ds) (h4 : ixN ds.length n = some m) : sSto [] f1 f2 f3 env s = some (.nx, env, s3.set j (.lst (ds.set m d))) := by
  unfold sSto
  rw [h1, Option.bind_some, h2, Option.bind_some, isTok_tok, Option.bind_some, h3, Option.bind_some]
  show (cellL s3 j).bind _ = _
  rw [hc, Option.bind_some, h4, Option.map_some, fzIf_nil]
end
end J
namespace J
open PySem PySem.Spec PyProof.Rows L2
/-! ### data of a known depth whose text is of a known length -/
structure Ok (d : D) (n c : Nat) : Prop where
  lay : d.canLay0 = true
  dep : d.depth ≤ n
  sho : d.showable = true
  len : d.shown.length ≤ c
theorem Ok.mono {d : D} {n c m e : Nat} (h : Ok d n c) (h1 : n ≤ m) (h2 : c ≤ e) : Ok d m e := ⟨h.lay, Nat.le_trans h.dep h1, h.sho, Nat.le_trans h.len h2⟩
theorem lay_all {ds : List D} (h : ∀ d ∈ ds, d.canLay0 = true) : PyData.canLayAll0 ds = true := by
  induction ds with
  | nil => rfl
  | cons x r ih => simp only [PyData.canLayAll0, h x List.mem_cons_self, ih fun d hd => h d (List.mem_cons_of_mem _ hd), Bool.and_self]
theorem dep_all {n : Nat} {ds : List D} (h : ∀ d ∈ ds, d.depth ≤ n) : PyData.depthAll ds ≤ n := by
  induction ds with
  | nil => simp [PyData.depthAll]
  | cons x r ih =>
    have h1 := h x List.mem_cons_self
    have h2 := ih fun d hd => h d (List.mem_cons_of_mem _ hd)
    simp only [PyData.depthAll]
    omega
theorem Ok.list {ds : List D} {n c : Nat} (h : ∀ d ∈ ds, Ok d n c) : Ok (.list ds) (n + 1) (2 + (c + 2) * ds.length) := by
  refine ⟨?_, ?_, ?_, shown_list_le fun d hd => (h d hd).len⟩
  · simp only [PyData.canLay0]; exact lay_all fun d hd => (h d hd).lay
  · have := dep_all fun d hd => (h d hd).dep
    simp only [PyData.depth]; omega
  · simp only [PyData.showable]; exact PySem.Spec.showableAll_of fun d hd => (h d hd).sho
theorem Ok.int {x : Int} {k : Nat} (hk : 0 < k) (hk2 : k ≤ 100) (h0 : 0 ≤ x) (h : x < 10 ^ k) : Ok (.int x) 1 k := by
  refine ⟨rfl, by simp [PyData.depth], ?_, ?_⟩
  · simp only [PyData.showable]
    refine decide_eq_true ?_
    by_cases e : x.natAbs = 0
    · rw [e]; decide
    · rw [Nat.log2_lt e]
      have h1 : x.natAbs < 10 ^ k := by
        have : (x.natAbs : Int) < ((10 ^ k : Nat) : Int) := by
          rw [Int.natCast_pow]
          have : (x.natAbs : Int) = x := by omega
          rw [this]
          exact h
        omega
      refine Nat.lt_of_lt_of_le h1 ?_
      refine Nat.le_trans (Nat.pow_le_pow_right (by decide) hk2) ?_
      decide +kernel
  · rw [PyData.shown_int]
    exact toString_length_le h0 hk h
theorem Ok.shaped {d : D} {n c : Nat} (h : Ok d n c) (hn : n ≤ 64 := by decide) : SeqAt.shaped d = true := shaped_of h.lay (Nat.le_trans h.dep hn)
theorem Ok.showOk {d : D} {n c : Nat} (h : Ok d n c) (hn : n ≤ 64) (hc : c ≤ 16777216) : showOk d = true := by
  unfold J.showOk
  rw [h.sho, h.shaped hn, decide_eq_true (Nat.le_trans h.len hc)]
  rfl
theorem Ok.repr {ds : List D} {n c : Nat} (h : Ok (.list ds) n c) (hn : n ≤ 64) (hc : c ≤ 16777216) : dRepr (.list ds) = some (.str (PyData.shown (.list ds))) := by
  show (if J.showOk (.list ds) = true then _ else _) = _
  rw [if_pos (h.showOk hn hc)]
/-- rows of small numbers -/
theorem Ok.row {l : List Int} (h : ∀ x ∈ l, 0 ≤ x ∧ x < 1000) (hl : l.length ≤ 20) : Ok (dI l) 2 102 := by
  refine (Ok.list (n := 1) (c := 3) fun d hd => ?_).mono (Nat.le_refl _) (by rw [List.length_map]; omega)
  obtain ⟨x, hx, rfl⟩ := List.mem_map.mp hd
  exact Ok.int (by decide) (by decide) (h x hx).1 (h x hx).2
theorem Ok.rows {l : List (List Int)} (h : ∀ g ∈ l, (∀ x ∈ g, 0 ≤ x ∧ x < 1000) ∧ g.length ≤ 20) (hl : l.length ≤ 20) : Ok (dL l) 3 2100 := by
  refine (Ok.list (n := 2) (c := 102) fun d hd => ?_).mono (Nat.le_refl _) (by rw [List.length_map]; omega)
  obtain ⟨x, hx, rfl⟩ := List.mem_map.mp hd
  exact Ok.row (h x hx).1 (h x hx).2
theorem Ok.lots {t : Nest} {n : Nat} (h : t.Of n) (hn : n ≤ 20) : Ok (dL t.lots) 3 2100 := by
  have := h.lots_len
  refine Ok.rows (fun g hg => ?_) (by omega)
  obtain ⟨X, hX, rfl⟩ := Nest.mem_lots.mp hg
  refine ⟨fun x hx => ?_, ?_⟩
  · have := h.mem.mp ((Nest.gr_sublist hX).subset (Nest.mem_folk.mp hx)); omega
  · have := (Nest.gr_sublist hX).length_le
    rw [Nest.len_folk]
    have := h.len
    omega
/-! ### more steps -/
section
variable {g h : Sv} {env e1 : J.Env} {s s1 s2 s3 : STO} {d d1 d2 d3 d' : D} {M : List Nat} {f f1 f2 f3 : Ev} {ds es : List D} {vw : VW}
theorem sBind_ok {bd : Bd} {l : List (Nat × D)} (h1 : f (see M env) s = some (d, s1)) (h2 : bd d = some l) (h3 : allLt env.length l = true) : sBind M bd f env s = some (.nx, setE (fz M env) l, s1) := by
  unfold sBind
  rw [h1, Option.bind_some, h2, Option.bind_some, if_pos h3]
theorem sApp1_ok {i k : Nat} {n : Int} {m : Nat} (h0 : f1 (see [] env) s = some (.int n, s1)) (h1 : g' (see [] env) s1 = some (d, s2)) (h2 : env[i]? = some (.ow (k + 2) (.list ds))) (h3 : ixN ds.length n = some m) (h4 : ds[m]? = some (.list es)) (h5 : es.length < 16777216) :
    sApp1 i [] k f1 g' env s = some (.nx, env.set i (.ow (k + 2) (.list (ds.set m (.list (es ++ [d]))))), s2) := by
  unfold sApp1
  rw [h0, Option.bind_some]
  show (g' (see [] env) s1).bind _ = _
  rw [h1, Option.bind_some, fzIf_nil, h2]
  show (if k = k then _ else _) = _
  rw [if_pos rfl, h3, Option.bind_some, h4]
  show (if es.length < 16777216 then _ else _) = _
  rw [if_pos h5]
theorem sAppAll1_ok {i l j : Nat} {n : Int} {m : Nat} (hil : i ≠ l) (hl : decide (l < env.length) = true) (h0 : f1 (see [] env) s = some (.int n, s1)) (h2 : env[i]? = some (.ow (j + 3) (.list es))) (h3 : ixN es.length n = some m) (h4 : es[m]? = some (.list ds)) (h5 : ds.all lstLt = true) :
    sAppAll1 i l f1 env s = some (.nx, (env.set i .no).set l .no, s1) := by
  unfold sAppAll1
  rw [if_pos ⟨hil, of_decide_eq_true hl⟩, h0, Option.bind_some, h2]
  show (ixN es.length n).bind _ = _
  rw [h3, Option.bind_some, h4]
  show (if ds.all lstLt = true then _ else _) = _
  rw [if_pos h5]
theorem sAppAll_ok {i l j : Nat} (hil : i ≠ l) (hl : decide (l < env.length) = true) (h2 : env[i]? = some (.ow (j + 2) (.list ds))) (h5 : ds.all lstLt = true) :
    sAppAll i l env s = some (.nx, (env.set i .no).set l .no, s) := by
  unfold sAppAll
  rw [if_pos ⟨hil, of_decide_eq_true hl⟩, h2]
  show (if ds.all lstLt = true then _ else _) = _
  rw [if_pos h5]
theorem sAppAllT_ok {i l j : Nat} (hil : i ≠ l) (hl : decide (l < env.length) = true) (h2 : env[i]? = some (.ow (j + 2) (.list ds))) (h5 : ds.all lstLt = true) :
    sAppAllT i l d env s = some (.nx, (env.set i (.ow (j + 2) (.list (ds.map (snocD d))))).set l .no, s) := by
  unfold sAppAllT
  rw [if_pos ⟨hil, of_decide_eq_true hl⟩, h2]
  show (if ds.all lstLt = true then _ else _) = _
  rw [if_pos h5]
end
theorem lstLt_rows {l : List (List Int)} (h : ∀ g ∈ l, g.length ≤ 20) : (l.map dI).all lstLt = true := by
  rw [List.all_eq_true]
  intro d hd
  obtain ⟨g, hg, rfl⟩ := List.mem_map.mp hd
  have := h g hg
  exact decide_eq_true (by rw [List.length_map]; omega)
theorem dNe_dL (a b : List (List Int)) : dNe (dL a) (dL b) = some (.bool (!decide (a = b))) := by
  have := eqv_dL a b
  have h7 := shaped_dL a
  have h8 := shaped_dL b
  simp only [dL] at this h7 h8 ⊢
  simp [dNe, h7, h8, this]
theorem dEq_dL (a b : List (List Int)) : dEq (dL a) (dL b) = some (.bool (decide (a = b))) := by
  have := eqv_dL a b
  have h7 := shaped_dL a
  have h8 := shaped_dL b
  simp only [dL] at this h7 h8 ⊢
  simp [dEq, h7, h8, this]
theorem dNe_int (i j : Int) : dNe (.int i) (.int j) = some (.bool (!decide (i = j))) := by
  show (if SeqAt.shaped (.int i) = true ∧ SeqAt.shaped (.int j) = true then some (PyData.bool (!PyData.eqv (.int i) (.int j))) else none) = _
  rw [if_pos ⟨shaped_int i, shaped_int j⟩]
  rfl
theorem dNe_str (x : Str) : dNe (.str x) (.str x) = some (.bool false) := by
  show some (PyData.bool (!(x == x))) = _
  rw [beq_self_eq_true]
  rfl
end J
namespace J
/-! families of lots that no two cross, of one lot less than persons: those of nests -/
theorem nodup_len {α : Type} [DecidableEq α] : ∀ {l m : List α}, l.Nodup → (∀ x ∈ l, x ∈ m) → l.length ≤ m.length
  | [], _, _, _ => Nat.zero_le _
  | x :: r, m, h, hs => by
    obtain ⟨h1, h2⟩ := List.nodup_cons.mp h
    have hx : x ∈ m := hs x List.mem_cons_self
    have ih := nodup_len (l := r) (m := m.erase x) h2 fun y hy => (List.mem_erase_of_ne (fun e : y = x => h1 (e ▸ hy))).mpr (hs y (List.mem_cons_of_mem _ hy))
    rw [List.length_erase_of_mem hx] at ih
    have : 0 < m.length := List.length_pos_of_mem hx
    simp only [List.length_cons]; omega
theorem nodup_full {α : Type} [DecidableEq α] {l m : List α} (h : l.Nodup) (hs : ∀ x ∈ l, x ∈ m) (hl : m.length ≤ l.length) : ∀ x ∈ m, x ∈ l := fun x hx => by
  by_cases e : x ∈ l
  · exact e
  · have := nodup_len (l := x :: l) (m := m) (List.nodup_cons.mpr ⟨e, h⟩) fun y hy => by
      rcases List.mem_cons.mp hy with rfl | hy
      · exact hx
      · exact hs y hy
    simp only [List.length_cons] at this
    omega
theorem filter_two {α : Type} (p : α → Bool) : ∀ l : List α, (l.filter p).length + (l.filter fun x => !p x).length = l.length
  | [] => rfl
  | x :: r => by
    have := filter_two p r
    cases q : p x with
    | true => simp [List.filter_cons, q]; omega
    | false => simp [List.filter_cons, q]; omega
theorem asc_len_eq {l m : List Int} (h1 : l.Pairwise (· < ·)) (h2 : m.Pairwise (· < ·)) (hs : ∀ x ∈ l, x ∈ m) (hl : m.length ≤ l.length) : l = m :=
  asc_ext h1 h2 fun x => ⟨hs x, nodup_full (asc_nodup h1) hs hl x⟩
namespace Nest
/-- u in the place of the leaf a -/
def sub (a : Int) (u : Nest) : Nest → Nest
  | lf i => if i = a then u else lf i
  | nd x y => nd (sub a u x) (sub a u y)
theorem mem_sub {a : Int} {u : Nest} : ∀ {t : Nest} {x : Int}, x ∈ (sub a u t).lv ↔ (x ∈ t.lv ∧ x ≠ a) ∨ (a ∈ t.lv ∧ x ∈ u.lv)
  | lf i, x => by
    unfold sub
    by_cases h : i = a
    · rw [if_pos h]
      subst h
      simp [lv]
    · rw [if_neg h]
      simp only [lv, List.mem_singleton]
      constructor
      · rintro rfl
        exact .inl ⟨rfl, h⟩
      · rintro (⟨h1, _⟩ | ⟨h1, _⟩)
        · exact h1
        · exact absurd h1.symm h
  | nd s t, x => by
    simp only [sub, lv, List.mem_append]
    rw [mem_sub (t := s), mem_sub (t := t)]
    constructor
    · rintro ((⟨h1, h2⟩ | ⟨h1, h2⟩) | (⟨h1, h2⟩ | ⟨h1, h2⟩))
      · exact .inl ⟨.inl h1, h2⟩
      · exact .inr ⟨.inl h1, h2⟩
      · exact .inl ⟨.inr h1, h2⟩
      · exact .inr ⟨.inr h1, h2⟩
    · rintro (⟨h1 | h1, h2⟩ | ⟨h1 | h1, h2⟩)
      · exact .inl (.inl ⟨h1, h2⟩)
      · exact .inr (.inl ⟨h1, h2⟩)
      · exact .inl (.inr ⟨h1, h2⟩)
      · exact .inr (.inr ⟨h1, h2⟩)
theorem sub_nodup {a : Int} {u : Nest} (hu : u.lv.Nodup) : ∀ {t : Nest}, t.lv.Nodup → (∀ x ∈ u.lv, x ∈ t.lv → x = a) → (sub a u t).lv.Nodup
  | lf i, h, _ => by
    unfold sub
    split
    · exact hu
    · exact h
  | nd s t, h, hd => by
    obtain ⟨h1, h2, h3⟩ := List.nodup_append.mp h
    refine List.nodup_append.mpr ⟨sub_nodup hu h1 fun x hx hs => hd x hx (List.mem_append_left _ hs), sub_nodup hu h2 fun x hx hs => hd x hx (List.mem_append_right _ hs), fun x hx y hy e => ?_⟩
    subst e
    rcases mem_sub.mp hx with ⟨g1, g2⟩ | ⟨g1, g2⟩
    · rcases mem_sub.mp hy with ⟨k1, k2⟩ | ⟨k1, k2⟩
      · exact h3 x g1 x k1 rfl
      · exact g2 (hd x k2 (List.mem_append_left _ g1))
    · rcases mem_sub.mp hy with ⟨k1, k2⟩ | ⟨k1, k2⟩
      · exact k2 (hd x g2 (List.mem_append_right _ k1))
      · exact h3 a g1 a k1 rfl
theorem gr_sub {a : Int} {u : Nest} : ∀ {t Y : Nest}, Y ∈ (sub a u t).gr ↔ (∃ X ∈ t.gr, Y = sub a u X) ∨ (a ∈ t.lv ∧ Y ∈ u.gr)
  | lf i, Y => by
    unfold sub
    by_cases h : i = a
    · rw [if_pos h]
      subst h
      simp [gr, lv]
    · rw [if_neg h]
      simp only [gr, lv, List.not_mem_nil, false_and, exists_const, List.mem_singleton, false_or, exists_false]
      constructor
      · exact fun z => z.elim
      · rintro ⟨h1, _⟩
        exact h h1.symm
  | nd s t, Y => by
    simp only [sub, gr, lv, List.mem_cons, List.mem_append]
    rw [gr_sub (t := s), gr_sub (t := t)]
    constructor
    · rintro (rfl | (⟨X, h1, h2⟩ | ⟨h1, h2⟩) | (⟨X, h1, h2⟩ | ⟨h1, h2⟩))
      · exact .inl ⟨nd s t, .inl rfl, rfl⟩
      · exact .inl ⟨X, .inr (.inl h1), h2⟩
      · exact .inr ⟨.inl h1, h2⟩
      · exact .inl ⟨X, .inr (.inr h1), h2⟩
      · exact .inr ⟨.inr h1, h2⟩
    · rintro (⟨X, rfl | h1 | h1, h2⟩ | ⟨h1 | h1, h2⟩)
      · exact .inl h2
      · exact .inr (.inl (.inl ⟨X, h1, h2⟩))
      · exact .inr (.inr (.inl ⟨X, h1, h2⟩))
      · exact .inr (.inl (.inr ⟨h1, h2⟩))
      · exact .inr (.inr (.inr ⟨h1, h2⟩))
/-- the family F on S is a nest's -/
def Full (S : List Int) (F : List (List Int)) : Prop := ∃ t : Nest, t.lv.Nodup ∧ (∀ x, x ∈ t.lv ↔ x ∈ S) ∧ ∀ g, g ∈ F ↔ g ∈ t.gr.map folk
structure Lam (S : List Int) (F : List (List Int)) : Prop where
  asc : S.Pairwise (· < ·)
  nd : F.Nodup
  row : ∀ g ∈ F, g.Pairwise (· < ·) ∧ 2 ≤ g.length ∧ ∀ x ∈ g, x ∈ S
  lam : ∀ g ∈ F, ∀ h ∈ F, (∀ x ∈ g, x ∈ h) ∨ (∀ x ∈ h, x ∈ g) ∨ ∀ x ∈ g, x ∉ h
theorem lam_full : ∀ (N : Nat) (S : List Int) (F : List (List Int)), S.length ≤ N → S ≠ [] → Lam S F → F.length + 1 ≤ S.length ∧ (F.length + 1 = S.length → Full S F)
  | 0, S, F, hN, hS, _ => absurd (List.length_pos_iff.mpr hS) (by omega)
  | N + 1, S, F, hN, hS, L => by
    by_cases hA : ∃ A ∈ F, A ≠ S
    · obtain ⟨A, hAF, hne⟩ := hA
      obtain ⟨ascA, twoA, subA⟩ := L.row A hAF
      have hlt : A.length < S.length := by
        rcases Nat.lt_or_ge A.length S.length with h | h
        · exact h
        · exact absurd (asc_len_eq ascA L.asc subA h) hne
      cases eA : A with
      | nil => rw [eA] at twoA; simp at twoA
      | cons a0 rA =>
      have ha0 : a0 ∈ A := by rw [eA]; exact List.mem_cons_self
      let inA : List Int → Bool := fun g => g.all fun x => decide (x ∈ A)
      let κ : List Int → List Int := fun g => g.filter fun x => !decide (x ∈ A) || decide (x = a0)
      have inA_iff : ∀ g, inA g = true ↔ ∀ x ∈ g, x ∈ A := fun g => by simp [inA]
      have mem_κ : ∀ g x, x ∈ κ g ↔ x ∈ g ∧ (x ∉ A ∨ x = a0) := fun g x => by simp [κ, List.mem_filter]
      -- a lot that isn't within A: around it or apart
      have out : ∀ g ∈ F, inA g = false → (∀ x ∈ A, x ∈ g) ∨ ∀ x ∈ A, x ∉ g := fun g hg hn => by
        rcases L.lam g hg A hAF with h | h | h
        · rw [(inA_iff g).mpr h] at hn; cases hn
        · exact .inl h
        · exact .inr fun x h1 h2 => h x h2 h1
      have key : ∀ g ∈ F, inA g = false → ∀ x, x ∈ g ↔ (x ∈ κ g ∧ x ≠ a0) ∨ (a0 ∈ κ g ∧ x ∈ A) := fun g hg hn x => by
        rw [mem_κ, mem_κ]
        rcases out g hg hn with h | h
        · constructor
          · intro hx
            by_cases hxA : x ∈ A
            · exact .inr ⟨⟨h a0 ha0, .inr rfl⟩, hxA⟩
            · exact .inl ⟨⟨hx, .inl hxA⟩, fun e => hxA (e ▸ ha0)⟩
          · rintro (⟨⟨h1, _⟩, _⟩ | ⟨_, h2⟩)
            · exact h1
            · exact h x h2
        · constructor
          · intro hx
            have hxA : x ∉ A := fun q => h x q hx
            exact .inl ⟨⟨hx, .inl hxA⟩, fun e => hxA (e ▸ ha0)⟩
          · rintro (⟨⟨h1, _⟩, _⟩ | ⟨⟨h1, _⟩, _⟩)
            · exact h1
            · exact absurd h1 (h a0 ha0)
      have LA : Lam A (F.filter inA) := ⟨ascA, L.nd.filter _, fun g hg => by
          obtain ⟨h1, h2⟩ := List.mem_filter.mp hg
          exact ⟨(L.row g h1).1, (L.row g h1).2.1, (inA_iff g).mp h2⟩, fun g hg h hh => L.lam g (List.mem_filter.mp hg).1 h (List.mem_filter.mp hh).1⟩
      have mR : ∀ g, g ∈ F.filter (fun x => !inA x) ↔ g ∈ F ∧ inA g = false := fun g => by simp [List.mem_filter]
      have LR : Lam (κ S) ((F.filter fun x => !inA x).map κ) := by
        refine ⟨L.asc.filter _, ?_, fun g hg => ?_, fun g hg h hh => ?_⟩
        · refine List.pairwise_map.mpr (List.Pairwise.imp_of_mem (R := fun a b => a ≠ b) (fun {a b} ha hb hab e => hab ?_) (L.nd.filter _))
          obtain ⟨a1, a2⟩ := (mR a).mp ha
          obtain ⟨b1, b2⟩ := (mR b).mp hb
          exact asc_ext (L.row a a1).1 (L.row b b1).1 fun x => by rw [key a a1 a2, key b b1 b2, e]
        · obtain ⟨g0, h1, rfl⟩ := List.mem_map.mp hg
          obtain ⟨g1, g2⟩ := (mR g0).mp h1
          obtain ⟨r1, r2, r3⟩ := L.row g0 g1
          refine ⟨r1.filter _, ?_, fun x hx => ?_⟩
          · rcases out g0 g1 g2 with h | h
            · have hno : ¬ ∀ x ∈ g0, x ∈ A := fun q => by rw [(inA_iff g0).mpr q] at g2; cases g2
              obtain ⟨y, hy, hyA⟩ : ∃ y ∈ g0, y ∉ A := by
                false_or_by_contra
                rename_i q
                exact hno fun x hx => by
                  false_or_by_contra
                  rename_i q2
                  exact q ⟨x, hx, q2⟩
              have := nodup_len (l := [a0, y]) (m := κ g0) (by simp; exact fun e => hyA (e ▸ ha0)) fun x hx => by
                rw [mem_κ]
                rcases List.mem_cons.mp hx with rfl | hx
                · exact ⟨h _ ha0, .inr rfl⟩
                · rw [List.mem_singleton.mp hx]; exact ⟨hy, .inl hyA⟩
              exact this
            · have : κ g0 = g0 := List.filter_eq_self.mpr fun x hx => by
                have q2 : x ∉ A := fun q => h x q hx
                simp [q2]
              rw [this]; exact r2
          · rw [mem_κ] at hx ⊢
            exact ⟨r3 x hx.1, hx.2⟩
        · obtain ⟨g0, h1, rfl⟩ := List.mem_map.mp hg
          obtain ⟨h0, h2, rfl⟩ := List.mem_map.mp hh
          have g1 := ((mR g0).mp h1).1
          have g2 := ((mR h0).mp h2).1
          rcases L.lam g0 g1 h0 g2 with q | q | q
          · exact .inl fun x hx => by rw [mem_κ] at hx ⊢; exact ⟨q x hx.1, hx.2⟩
          · exact .inr (.inl fun x hx => by rw [mem_κ] at hx ⊢; exact ⟨q x hx.1, hx.2⟩)
          · exact .inr (.inr fun x hx hx2 => by rw [mem_κ] at hx hx2; exact q x hx.1 hx2.1)
      have cS : (κ S).length + A.length = S.length + 1 := by
        have h1 := filter_two (fun x => !decide (x ∈ A)) S
        have h2 : S.filter (fun x => !!decide (x ∈ A)) = A := asc_ext (L.asc.filter _) ascA fun x => by simp [List.mem_filter]; exact fun h => subA x h
        rw [h2] at h1
        have h3 : (κ S).length = (S.filter fun x => !decide (x ∈ A)).length + 1 := by
          have h4 := filter_two (fun x => decide (x = a0)) (κ S)
          have h5 : (κ S).filter (fun x => decide (x = a0)) = [a0] := asc_ext ((L.asc.filter _).filter _) (List.pairwise_singleton _ _) fun x => by
            rw [List.mem_filter, mem_κ, List.mem_singleton, decide_eq_true_eq]
            exact ⟨fun h => h.2, fun h => ⟨⟨h ▸ subA a0 ha0, .inr h⟩, h⟩⟩
          have h6 : (κ S).filter (fun x => !decide (x = a0)) = S.filter fun x => !decide (x ∈ A) := asc_ext ((L.asc.filter _).filter _) (L.asc.filter _) fun x => by
            rw [List.mem_filter, mem_κ, List.mem_filter]
            simp only [Bool.not_eq_true', decide_eq_false_iff_not]
            constructor
            · rintro ⟨⟨h, h'⟩, h''⟩
              exact ⟨h, h'.resolve_right h''⟩
            · rintro ⟨h, h'⟩
              exact ⟨⟨h, .inl h'⟩, fun e => h' (e ▸ ha0)⟩
          rw [h5, h6] at h4
          simp only [List.length_cons, List.length_nil] at h4
          omega
        omega
      have cF := filter_two inA F
      have neA : A ≠ [] := List.ne_nil_of_mem ha0
      have neR : κ S ≠ [] := List.ne_nil_of_mem ((mem_κ S a0).mpr ⟨subA a0 ha0, .inr rfl⟩)
      obtain ⟨iA1, iA2⟩ := lam_full N A _ (by omega) neA LA
      obtain ⟨iR1, iR2⟩ := lam_full N (κ S) _ (by omega) neR LR
      rw [List.length_map] at iR1 iR2
      refine ⟨by omega, fun e => ?_⟩
      obtain ⟨tA, nA, mA, fA⟩ := iA2 (by omega)
      obtain ⟨tR, nR, mRt, fR⟩ := iR2 (by omega)
      have hdis : ∀ x ∈ tA.lv, x ∈ tR.lv → x = a0 := fun x h1 h2 => by
        have := (mem_κ S x).mp ((mRt x).mp h2)
        exact this.2.resolve_left fun q => q ((mA x).mp h1)
      have ha0R : a0 ∈ tR.lv := (mRt a0).mpr ((mem_κ S a0).mpr ⟨subA a0 ha0, .inr rfl⟩)
      have claim : ∀ g ∈ F, inA g = false → ∀ X ∈ tR.gr, X.folk = κ g → (sub a0 tA X).folk = g := fun g hg hn X hX hf => by
        have nX := gr_nodup hX nR
        have hsub := (gr_sublist hX).subset
        refine asc_ext (folk_asc (sub_nodup nA nX fun x h1 h2 => hdis x h1 (hsub h2))) (L.row g hg).1 fun x => ?_
        have hm : ∀ y, y ∈ X.lv ↔ y ∈ κ g := fun y => by rw [← hf, mem_folk]
        rw [mem_folk, mem_sub, key g hg hn, hm, hm, mA]
      refine ⟨sub a0 tA tR, sub_nodup nA nR hdis, fun x => ?_, fun g => ?_⟩
      · rw [mem_sub, mRt, mA, mem_κ]
        constructor
        · rintro (⟨⟨h, _⟩, _⟩ | ⟨_, h⟩)
          · exact h
          · exact subA x h
        · intro h
          by_cases hx : x ∈ A
          · exact .inr ⟨ha0R, hx⟩
          · exact .inl ⟨⟨h, .inl hx⟩, fun e => hx (e ▸ ha0)⟩
      · rw [List.mem_map]
        constructor
        · intro hg
          cases hn : inA g with
          | true =>
            obtain ⟨Y, h1, h2⟩ := List.mem_map.mp ((fA g).mp (List.mem_filter.mpr ⟨hg, hn⟩))
            exact ⟨Y, gr_sub.mpr (.inr ⟨ha0R, h1⟩), h2⟩
          | false =>
            obtain ⟨X, h1, h2⟩ := List.mem_map.mp ((fR (κ g)).mp (List.mem_map.mpr ⟨g, (mR g).mpr ⟨hg, hn⟩, rfl⟩))
            exact ⟨_, gr_sub.mpr (.inl ⟨X, h1, rfl⟩), claim g hg hn X h1 h2⟩
        · rintro ⟨Y, hY, rfl⟩
          rcases gr_sub.mp hY with ⟨X, h1, rfl⟩ | ⟨_, h1⟩
          · obtain ⟨g, h2, h3⟩ := List.mem_map.mp ((fR X.folk).mpr (List.mem_map.mpr ⟨X, h1, rfl⟩))
            obtain ⟨h4, h5⟩ := (mR g).mp h2
            rw [claim g h4 h5 X h1 h3.symm]
            exact h4
          · exact (List.mem_filter.mp ((fA Y.folk).mpr (List.mem_map.mpr ⟨Y, h1, rfl⟩))).1
    · have hall : ∀ A ∈ F, A = S := fun A h => by
        false_or_by_contra
        rename_i q
        exact hA ⟨A, h, q⟩
      have hpos := List.length_pos_iff.mpr hS
      cases F with
      | nil =>
        refine ⟨by simp; omega, fun e => ?_⟩
        match S, e with
        | [x], _ => exact ⟨lf x, by simp [lv], fun y => by simp [lv], fun g => by simp [gr]⟩
      | cons A r =>
        have eA := hall A List.mem_cons_self
        have er : r = [] := by
          cases r with
          | nil => rfl
          | cons B r2 =>
            have eB := hall B (List.mem_cons_of_mem _ List.mem_cons_self)
            exact absurd (List.mem_cons_self) ((List.nodup_cons.mp L.nd).1 ∘ fun h => by rw [eA, ← eB]; exact h)
        subst er
        have h2 := (L.row A List.mem_cons_self).2.1
        rw [eA] at h2
        refine ⟨by simp; omega, fun e => ?_⟩
        match S, e, eA, L.asc with
        | [x, y], _, eA, ha =>
          have hf : folk (nd (lf x) (lf y)) = [x, y] := sZ_asc ha
          refine ⟨nd (lf x) (lf y), asc_nodup ha, fun z => by simp [lv], fun g => ?_⟩
          simp only [gr, List.append_nil, List.map_cons, List.map_nil, hf, eA]
end Nest
end J
namespace J
/-- what is_parting computes of rows that are lots -/
def partB (ls : List (List Int)) : Bool := (ls.zip (ls.drop 1)).all (fun p => ltI p.1 p.2) && ((decide (ls = []) || decide (comp (ls.length + 1) ∈ ls)) && ls.all (partsB ls))
def crossB (g h : List Int) : Bool := decide (0 < (g.filter fun x => decide (x ∈ h)).length) && decide ((g.filter fun x => decide (x ∈ h)).length < min g.length h.length)
/-- what the law's own judge computes of them -/
def nestB (ls : List (List Int)) : Bool := decide (sR ls = ls) && (List.range ls.length).all fun i => (ls.take i).all fun r => !(decide (r = ls.getD i []) || crossB r (ls.getD i []))
theorem cross_no {g h : List Int} (hg : g.Pairwise (· < ·)) (hh : h.Pairwise (· < ·)) (c : crossB g h = false) : (∀ x ∈ g, x ∈ h) ∨ (∀ x ∈ h, x ∈ g) ∨ ∀ x ∈ g, x ∉ h := by
  unfold crossB at c
  rw [Bool.and_eq_false_iff, decide_eq_false_iff_not, decide_eq_false_iff_not] at c
  have hm : ∀ x, x ∈ (g.filter fun x => decide (x ∈ h)) ↔ x ∈ g ∧ x ∈ h := fun x => by simp [List.mem_filter]
  rcases c with c | c
  · right; right
    intro x h1 h2
    have := List.length_pos_of_mem ((hm x).mpr ⟨h1, h2⟩)
    exact c this
  · rcases Nat.le_total g.length h.length with q | q
    · left
      have : (g.filter fun x => decide (x ∈ h)) = g := asc_len_eq (hg.filter _) hg (fun x hx => ((hm x).mp hx).1) (by omega)
      intro x hx
      rw [← this] at hx
      exact ((hm x).mp hx).2
    · right; left
      have : (g.filter fun x => decide (x ∈ h)) = h := asc_len_eq (hg.filter _) hh (fun x hx => ((hm x).mp hx).2) (by omega)
      intro x hx
      rw [← this] at hx
      exact ((hm x).mp hx).1
theorem cross_of {g h : List Int} (hg : g.Pairwise (· < ·)) (hh : h.Pairwise (· < ·)) (c : (∀ x ∈ g, x ∈ h) ∨ (∀ x ∈ h, x ∈ g) ∨ ∀ x ∈ g, x ∉ h) : crossB g h = false := by
  unfold crossB
  rw [Bool.and_eq_false_iff, decide_eq_false_iff_not, decide_eq_false_iff_not]
  have hm : ∀ x, x ∈ (g.filter fun x => decide (x ∈ h)) ↔ x ∈ g ∧ x ∈ h := fun x => by simp [List.mem_filter]
  rcases c with c | c | c
  · right
    have : (g.filter fun x => decide (x ∈ h)) = g := List.filter_eq_self.mpr fun x hx => by simp [c x hx]
    rw [this]; omega
  · right
    have : (g.filter fun x => decide (x ∈ h)) = h := asc_ext (hg.filter _) hh fun x => (hm x).trans ⟨fun q => q.2, fun q => ⟨c x q, q⟩⟩
    rw [this]; omega
  · left
    have : (g.filter fun x => decide (x ∈ h)) = [] := List.filter_eq_nil_iff.mpr fun x hx => by simp [c x hx]
    rw [this]; simp
theorem fold_inv {g : List Int} {h : Int} : ∀ {ls : List (List Int)} {f : List Int}, ls.foldl (firstStep g h) f = f ∨ ∃ o ∈ ls, ls.foldl (firstStep g h) f = o ∧ o.length < g.length ∧ h ∈ o
  | [], f => .inl rfl
  | o :: r, f => by
    rw [List.foldl_cons]
    rcases fold_inv (g := g) (h := h) (ls := r) (f := firstStep g h f o) with e | ⟨q, h1, h2⟩
    · rw [e]
      unfold firstStep
      split
      · rename_i c
        exact .inr ⟨o, List.mem_cons_self, rfl, c.2.1, c.2.2⟩
      · exact .inl rfl
    · exact .inr ⟨q, List.mem_cons_of_mem _ h1, h2⟩
namespace Nest
theorem parts_nest {ls : List (List Int)} (row : ∀ g ∈ ls, g.Pairwise (· < ·) ∧ 2 ≤ g.length) (prt : ∀ g ∈ ls, partsB ls g = true) :
    ∀ (N : Nat) (g : List Int), g.length ≤ N → g.Pairwise (· < ·) → g.length = 1 ∨ g ∈ ls → ∃ t : Nest, t.lv.Nodup ∧ (∀ x, x ∈ t.lv ↔ x ∈ g) ∧ ∀ X ∈ t.gr, X.folk ∈ ls
  | 0, g, hN, _, h => by
    rcases h with h | h
    · omega
    · have := (row g h).2; omega
  | N + 1, g, hN, ha, h => by
    by_cases h1 : g.length = 1
    · match g, h1 with
      | [x], _ => exact ⟨lf x, by simp [lv], fun y => by simp [lv], fun X hX => by simp [gr] at hX⟩
    · have hg := h.resolve_left h1
      have h2 := (row g hg).2
      match g, prt g hg with
      | [], _ => simp at h2
      | a :: r, hp =>
        unfold partsB at hp
        rw [Bool.and_eq_true, List.all_eq_true, Bool.or_eq_true, decide_eq_true_eq, decide_eq_true_eq] at hp
        obtain ⟨p1, p2⟩ := hp
        have hf : (firstOf ls (a :: r) a).Pairwise (· < ·) ∧ (firstOf ls (a :: r) a).length < (a :: r).length ∧ a ∈ firstOf ls (a :: r) a ∧ ((firstOf ls (a :: r) a).length = 1 ∨ firstOf ls (a :: r) a ∈ ls) := by
          unfold firstOf
          rcases fold_inv (g := a :: r) (h := a) (ls := ls) (f := (a :: r).take 1) with e | ⟨o, h3, e, h4, h5⟩
          · rw [e]
            exact ⟨List.pairwise_singleton _ _, (show 1 < (a :: r).length by omega), by simp, .inl rfl⟩
          · rw [e]
            exact ⟨(row o h3).1, h4, h5, .inr h3⟩
        have p1' : ∀ x ∈ firstOf ls (a :: r) a, x ∈ a :: r := fun x hx => of_decide_eq_true (p1 x hx)
        have hm : ∀ x, x ∈ restOf ls a r ↔ x ∈ a :: r ∧ x ∉ firstOf ls (a :: r) a := fun x => by
          unfold restOf
          rw [List.mem_filter, Bool.not_eq_true', decide_eq_false_iff_not]
        have hra : (restOf ls a r).Pairwise (· < ·) := ha.filter _
        generalize firstOf ls (a :: r) a = f at hf p1' hm
        generalize restOf ls a r = q at hm hra p2
        obtain ⟨f1, f2, f3, f4⟩ := hf
        have hq : q.length < (a :: r).length := by
          rcases Nat.lt_or_ge q.length (a :: r).length with z | z
          · exact z
          · have e := asc_len_eq hra ha (fun x hx => ((hm x).mp hx).1) z
            have := (hm a).mp (e ▸ List.mem_cons_self)
            exact absurd f3 this.2
        obtain ⟨t1, n1, m1, g1⟩ := parts_nest row prt N f (by omega) f1 f4
        obtain ⟨t2, n2, m2, g2⟩ := parts_nest row prt N q (by omega) hra p2
        have nn : (nd t1 t2).lv.Nodup := List.nodup_append.mpr ⟨n1, n2, fun x hx y hy e => by
          subst e
          exact ((hm x).mp ((m2 x).mp hy)).2 ((m1 x).mp hx)⟩
        have mm : ∀ x, x ∈ (nd t1 t2).lv ↔ x ∈ a :: r := fun x => by
          show x ∈ t1.lv ++ t2.lv ↔ _
          rw [List.mem_append, m1, m2, hm]
          constructor
          · rintro (z | z)
            · exact p1' x z
            · exact z.1
          · intro z
            by_cases c : x ∈ f
            · exact .inl c
            · exact .inr ⟨z, c⟩
        refine ⟨nd t1 t2, nn, mm, fun X hX => ?_⟩
        simp only [gr, List.mem_cons, List.mem_append] at hX
        rcases hX with rfl | hX | hX
        · have : folk (nd t1 t2) = a :: r := asc_ext (folk_asc nn) ha fun x => mem_folk.trans (mm x)
          rw [this]; exact hg
        · exact g1 X hX
        · exact g2 X hX
/-- the lots of a nest pass both judges -/
theorem Of.nestB {t : Nest} {n : Nat} (h : t.Of n) : nestB t.lots = true := by
  have nd := lots_nodup h.nodup
  unfold J.nestB
  rw [Bool.and_eq_true, decide_eq_true_eq]
  refine ⟨sR_of (sR_sorted _), List.all_eq_true.mpr fun i hi => List.all_eq_true.mpr fun r hr => ?_⟩
  have hi := List.mem_range.mp hi
  have eg : t.lots.getD i [] = t.lots[i] := by rw [List.getD_eq_getElem?_getD, List.getElem?_eq_getElem hi]; rfl
  rw [eg]
  obtain ⟨j, hj, rfl⟩ := List.getElem_of_mem hr
  rw [List.length_take] at hj
  rw [List.getElem_take]
  have hne : t.lots[j] ≠ t.lots[i] := List.pairwise_iff_getElem.mp nd j i (by omega) hi (by omega)
  obtain ⟨X, hX, eX⟩ := mem_lots.mp (List.getElem_mem (l := t.lots) (n := j) (by omega))
  obtain ⟨Y, hY, eY⟩ := mem_lots.mp (List.getElem_mem (l := t.lots) (n := i) hi)
  rw [← eX, ← eY] at hne ⊢
  have c : crossB X.folk Y.folk = false := cross_of (folk_asc (gr_nodup hX h.nodup)) (folk_asc (gr_nodup hY h.nodup)) (by
    rcases lam h.nodup hX hY with q | q | q
    · exact .inl fun x hx => mem_folk.mpr ((gr_sublist q).subset (mem_folk.mp hx))
    · exact .inr (.inl fun x hx => mem_folk.mpr ((gr_sublist q).subset (mem_folk.mp hx)))
    · exact .inr (.inr fun x hx hy => q x (mem_folk.mp hx) (mem_folk.mp hy)))
  rw [c, decide_eq_false hne]
  rfl
theorem Of.partB {t : Nest} {n : Nat} (h : t.Of n) (hn : n ≤ 20) : partB t.lots = true := by
  have p := h.parting hn
  unfold J.partB
  rw [Bool.and_eq_true, Bool.and_eq_true, List.all_eq_true, List.all_eq_true, Bool.or_eq_true, decide_eq_true_eq, decide_eq_true_eq]
  exact ⟨p.asc, p.all, p.prt⟩
theorem full_lots {ls : List (List Int)} (h : Full (comp (ls.length + 1)) ls) (nd : ls.Nodup) (hs : sR ls = ls) : ∃ t : Nest, t.Of (ls.length + 1) ∧ t.lots = ls := by
  obtain ⟨t, h1, h2, h3⟩ := h
  refine ⟨t, perm_of_mem h1 (comp_nodup _) h2, ?_⟩
  rw [← hs]
  exact sR_ext (folks_nodup h1) nd fun g => (h3 g).symm
end Nest
open Nest
/-- both judges say the same of lots -/
theorem nest_part {ls : List (List Int)} (hr : ∀ g ∈ ls, rowB (ls.length + 1) g = true ∧ 1 < g.length) (hl : ls.length < 20) : nestB ls = partB ls ∧ (partB ls = true → ∃ t : Nest, t.Of (ls.length + 1) ∧ t.lots = ls) := by
  have asc : ∀ g ∈ ls, g.Pairwise (· < ·) ∧ 2 ≤ g.length := fun g hg => ⟨(rowB_iff.mp (hr g hg).1).2, (hr g hg).2⟩
  have A : nestB ls = true → ∃ t : Nest, t.Of (ls.length + 1) ∧ t.lots = ls := fun h => by
    unfold nestB at h
    rw [Bool.and_eq_true, decide_eq_true_eq, List.all_eq_true] at h
    obtain ⟨h1, h2⟩ := h
    have hp : ls.Pairwise fun r q => r ≠ q ∧ crossB r q = false := List.pairwise_iff_getElem.mpr fun i j hi hj hij => by
      have h3 := List.all_eq_true.mp (h2 j (List.mem_range.mpr hj)) ls[i] (by
        rw [List.mem_take_iff_getElem]
        exact ⟨i, by omega, rfl⟩)
      have eg : ls.getD j [] = ls[j] := by rw [List.getD_eq_getElem?_getD, List.getElem?_eq_getElem hj]; rfl
      rw [eg, Bool.not_eq_true', Bool.or_eq_false_iff, decide_eq_false_iff_not] at h3
      exact h3
    have nd : ls.Nodup := hp.imp fun h => h.1
    have L : Lam (comp (ls.length + 1)) ls := ⟨comp_asc _, nd, fun g hg => ⟨(asc g hg).1, (asc g hg).2, fun x hx => mem_comp.mpr (by have := (rowB_iff.mp (hr g hg).1).1 x hx; omega)⟩, fun g hg q hq => by
      by_cases e : g = q
      · subst e; exact .inl fun x hx => hx
      · obtain ⟨i, hi, rfl⟩ := List.getElem_of_mem hg
        obtain ⟨j, hj, rfl⟩ := List.getElem_of_mem hq
        rcases Nat.lt_trichotomy i j with c | c | c
        · exact cross_no (asc _ hg).1 (asc _ hq).1 (List.pairwise_iff_getElem.mp hp i j hi hj c).2
        · subst c; exact absurd rfl e
        · rcases cross_no (asc _ hq).1 (asc _ hg).1 (List.pairwise_iff_getElem.mp hp j i hj hi c).2 with z | z | z
          · exact .inr (.inl z)
          · exact .inl z
          · exact .inr (.inr fun x h3 h4 => z x h4 h3)⟩
    have := lam_full _ _ _ (Nat.le_refl _) (by rw [← List.length_pos_iff, comp_len]; omega) L
    exact full_lots (this.2 (by rw [comp_len])) nd h1
  have B : partB ls = true → ∃ t : Nest, t.Of (ls.length + 1) ∧ t.lots = ls := fun h => by
    unfold partB at h
    rw [Bool.and_eq_true, Bool.and_eq_true, List.all_eq_true, List.all_eq_true, Bool.or_eq_true, decide_eq_true_eq, decide_eq_true_eq] at h
    obtain ⟨h1, h2, h3⟩ := h
    have hp : ls.Pairwise fun a b => ltI a b = true := zip_pairwise (R := fun a b => ltI a b = true) ltI_trans h1
    have nd : ls.Nodup := hp.imp fun {a b} h e => by rw [e, ltI_irrefl] at h; cases h
    have hs : sR ls = ls := sR_of (hp.imp fun {a b} h => by
      unfold leI
      cases q : ltI b a with
      | false => rfl
      | true => exact absurd (ltI_trans a b a h q) (by rw [ltI_irrefl]; decide))
    refine full_lots ?_ nd hs
    by_cases e : ls = []
    · subst e
      exact ⟨lf 0, by simp [lv], fun x => by rw [mem_comp]; simp [lv]; omega, fun g => by simp [gr]⟩
    · obtain ⟨t, n1, m1, g1⟩ := parts_nest asc h3 _ (comp (ls.length + 1)) (Nat.le_refl _) (comp_asc _) (.inr (h2.resolve_left e))
      refine ⟨t, n1, m1, fun g => ⟨fun hg => ?_, fun hg => ?_⟩⟩
      · have hlen : t.lv.length = ls.length + 1 := by rw [(perm_of_mem n1 (comp_nodup _) m1).length_eq, comp_len]
        have := t.gr_length
        exact nodup_full (folks_nodup n1) (fun x hx => by obtain ⟨X, h4, rfl⟩ := List.mem_map.mp hx; exact g1 X h4) (by rw [List.length_map]; omega) g hg
      · obtain ⟨X, h4, rfl⟩ := List.mem_map.mp hg
        exact g1 X h4
  refine ⟨?_, B⟩
  cases e1 : nestB ls with
  | true =>
    obtain ⟨t, h1, h2⟩ := A e1
    rw [← h2, h1.partB (by omega)]
  | false =>
    cases e2 : partB ls with
    | false => rfl
    | true =>
      obtain ⟨t, h1, h2⟩ := B e2
      rw [← h2, h1.nestB] at e1
      cases e1
end J
namespace J
open PySem PySem.Spec PyProof.Rows L2
/-! ### any data without dicts, of short lists -/
mutual
def wid : D → Bool
  | .list ds => decide (ds.length < 64) && widA ds
  | .tuple ds => decide (ds.length < 64) && widA ds
  | .dict _ => false
  | _ => true
def widA : List D → Bool
  | [] => true
  | d :: r => wid d && widA r
end
structure Safe (d : D) : Prop where
  lay : d.canLay0 = true
  dep : d.depth ≤ 60
  wd : wid d = true
theorem Safe.of {d : D} (h : (d.canLay0 && decide (d.depth ≤ 60) && wid d) = true) : Safe d := by
  rw [Bool.and_eq_true, Bool.and_eq_true, decide_eq_true_eq] at h
  exact ⟨h.1.1, h.1.2, h.2⟩
theorem wid_mem {ds : List D} (h : widA ds = true) : ∀ d ∈ ds, wid d = true := by
  induction ds with
  | nil => intro d hd; cases hd
  | cons x r ih =>
    rw [widA, Bool.and_eq_true] at h
    intro d hd
    rcases List.mem_cons.mp hd with rfl | hd
    · exact h.1
    · exact ih h.2 d hd
theorem wid_all {ds : List D} (h : ∀ d ∈ ds, wid d = true) : widA ds = true := by
  induction ds with
  | nil => rfl
  | cons x r ih => rw [widA, h x List.mem_cons_self, ih fun d hd => h d (List.mem_cons_of_mem _ hd)]; rfl
theorem Safe.mem {ds : List D} (h : Safe (.list ds)) : ∀ d ∈ ds, Safe d := fun d hd => by
  have h1 := h.lay
  have h2 := h.dep
  have h3 := h.wd
  rw [PyData.canLay0] at h1
  rw [PyData.depth] at h2
  rw [wid, Bool.and_eq_true] at h3
  have := depth_mem hd
  exact ⟨canLay_mem hd h1, by omega, wid_mem h3.2 d hd⟩
theorem Safe.len {ds : List D} (h : Safe (.list ds)) : ds.length < 64 := by
  have h3 := h.wd
  rw [wid, Bool.and_eq_true, decide_eq_true_eq] at h3
  exact h3.1
theorem Safe.list {ds : List D} (h : ∀ d ∈ ds, Safe d) (hd : ∀ d ∈ ds, d.depth ≤ 59) (hl : ds.length < 64) : Safe (.list ds) := by
  refine ⟨?_, ?_, ?_⟩
  · rw [PyData.canLay0]; exact lay_all fun d hd => (h d hd).lay
  · rw [PyData.depth]; have := dep_all hd; omega
  · rw [wid, decide_eq_true hl, wid_all fun d hd => (h d hd).wd]; rfl
theorem Safe.shaped {d : D} (h : Safe d) : SeqAt.shaped d = true := shaped_of h.lay (Nat.le_trans h.dep (by decide))
theorem Safe.nomk {d : D} (h : Safe d) : isMk d = false := by
  have := h.wd
  cases d <;> first | rfl | (rw [wid] at this; cases this)
theorem noTok_lay : ∀ {d : D}, d.canLay0 = true → noTok d = true := fun {d} h =>
  PyData.rec (motive_1 := fun d => d.canLay0 = true → noTok d = true) (motive_2 := fun ds => PyData.canLayAll0 ds = true → noTokA ds = true) (motive_3 := fun _ => True) (motive_4 := fun _ => True)
    (fun _ => rfl) (fun _ _ => rfl) (fun _ _ => rfl) (fun _ _ => rfl) (fun xs ih h => by rw [noTok]; exact ih (by rw [PyData.canLay0] at h; exact h)) (fun xs ih h => by rw [noTok]; exact ih (by rw [PyData.canLay0] at h; exact h))
    (fun xs _ h => absurd h (by simp [PyData.canLay0])) (fun _ => rfl) (fun x xs h1 h2 h => by rw [PyData.canLayAll0, Bool.and_eq_true] at h; rw [noTokA, h1 h.1, h2 h.2]; rfl) trivial (fun _ _ _ _ => trivial) (fun _ _ _ _ => trivial) d h
theorem Safe.tok {d : D} (h : Safe d) : noTok d = true := noTok_lay h.lay
theorem Safe.sub {ds es : List D} (h : Safe (.list ds)) (hs : ∀ d ∈ es, d ∈ ds) (hl : es.length ≤ ds.length) : Safe (.list es) := by
  refine Safe.list (fun d hd => h.mem d (hs d hd)) (fun d hd => ?_) (by have := h.len; omega)
  have h2 := h.dep
  rw [PyData.depth] at h2
  have := depth_mem (hs d hd)
  omega
theorem safe_int (i : Int) : Safe (.int i) := ⟨rfl, by simp [PyData.depth], rfl⟩
theorem safe_row {l : List Int} (h : l.length < 64) : Safe (dI l) := Safe.list (fun d hd => by obtain ⟨i, _, rfl⟩ := List.mem_map.mp hd; exact safe_int i) (fun d hd => by obtain ⟨i, _, rfl⟩ := List.mem_map.mp hd; simp [PyData.depth]) (by rw [List.length_map]; exact h)
theorem safe_rows {l : List (List Int)} (h : l.length < 64) (h2 : ∀ g ∈ l, g.length < 64) : Safe (dL l) := Safe.list (fun d hd => by obtain ⟨g, hg, rfl⟩ := List.mem_map.mp hd; exact safe_row (h2 g hg)) (fun d hd => by obtain ⟨g, hg, rfl⟩ := List.mem_map.mp hd; have := depth_dI g; omega) (by rw [List.length_map]; exact h)
theorem dNe_nil {es : List D} (h : SeqAt.shaped (.list es) = true) : dNe (.list es) (.list []) = some (.bool (!es.isEmpty)) := by
  show (if SeqAt.shaped (.list es) = true ∧ SeqAt.shaped (.list []) = true then _ else _) = _
  rw [if_pos ⟨h, rfl⟩]
  cases es with
  | nil => rfl
  | cons x r => rfl
theorem dNe_nil0 {es : List D} (h : Safe (.list es)) : dNe (.list es) (.list []) = some (.bool (!es.isEmpty)) := dNe_nil h.shaped
/-! ### ints in any data -/
theorem isIntsD_map : ∀ l : List Int, isIntsD (l.map PyData.int) = some l
  | [] => rfl
  | x :: r => by rw [List.map_cons, isIntsD, isIntsD_map r]; rfl
theorem isIntsD_some : ∀ {ds : List D} {l : List Int}, isIntsD ds = some l → ds = l.map PyData.int
  | [], l, h => by cases h; rfl
  | .int i :: r, l, h => by
    unfold isIntsD at h
    obtain ⟨m, e1, e2⟩ := map_some' h
    subst e2
    rw [isIntsD_some e1]; rfl
def isI : D → Bool
  | .int _ => true
  | _ => false
theorem isIntsD_iff : ∀ ds : List D, (isIntsD ds).isSome = ds.all isI
  | [] => rfl
  | d :: r => by
    have := isIntsD_iff r
    rw [List.all_cons, ← this]
    cases d <;> first | rfl | (rw [isIntsD, Option.isSome_map]; rfl)
def inI (m : Int) : D → Bool
  | .int i => decide (0 ≤ i) && decide (i < m)
  | _ => false
/-- what is_row, is_group compute of any datum -/
def rowD (m : Int) : D → Bool
  | .list ds => match isIntsD ds with
    | some l => rowB m l
    | none => false
  | _ => false
def lenD : D → Nat
  | .list ds => ds.length
  | _ => 0
def grpD (m : Int) (d : D) : Bool := rowD m d && decide (1 < lenD d)
def toRow : D → List Int
  | .list ds => (isIntsD ds).getD []
  | _ => []
theorem rowD_dI (m : Int) (l : List Int) : rowD m (dI l) = rowB m l := by
  show (match isIntsD (l.map PyData.int) with
    | some l => rowB m l
    | none => false) = _
  rw [isIntsD_map]
theorem grpD_dI (m : Int) (l : List Int) : grpD m (dI l) = (rowB m l && decide (1 < l.length)) := by
  unfold grpD
  rw [rowD_dI, show lenD (dI l) = l.length from List.length_map _]
theorem rowD_true {m : Int} {d : D} (h : rowD m d = true) : d = dI (toRow d) ∧ rowB m (toRow d) = true := by
  cases d with
  | list ds =>
    unfold rowD at h
    simp only at h
    cases e : isIntsD ds with
    | none => rw [e] at h; cases h
    | some l =>
      rw [e] at h
      have := isIntsD_some e
      subst this
      refine ⟨?_, ?_⟩
      · show PyData.list _ = dI ((isIntsD _).getD [])
        rw [e]; rfl
      · show rowB m ((isIntsD _).getD []) = true
        rw [e]; exact h
  | _ => cases h
theorem toRow_dI (l : List Int) : toRow (dI l) = l := by
  show (isIntsD _).getD [] = l
  rw [isIntsD_map]; rfl
/-- what is_parting computes of any datum -/
def judge : D → Bool
  | .list ds => decide (ds.length < 20) && (ds.all (grpD (ds.length + 1)) && partB (ds.map toRow))
  | _ => false
theorem all_rows {m : Int} {ds : List D} (h : ds.all (grpD m) = true) : ds = (ds.map toRow).map dI ∧ ∀ g ∈ ds.map toRow, rowB m g = true ∧ 1 < g.length := by
  have h' := List.all_eq_true.mp h
  refine ⟨?_, fun g hg => ?_⟩
  · rw [List.map_map]
    conv => lhs; rw [← List.map_id ds]
    refine List.map_congr_left fun d hd => ?_
    have h2 := h' d hd
    unfold grpD at h2
    rw [Bool.and_eq_true] at h2
    exact (rowD_true h2.1).1
  · obtain ⟨d, hd, rfl⟩ := List.mem_map.mp hg
    have h2 := h' d hd
    unfold grpD at h2
    rw [Bool.and_eq_true, decide_eq_true_eq] at h2
    obtain ⟨h3, h4⟩ := rowD_true h2.1
    refine ⟨h4, ?_⟩
    have := h2.2
    rw [h3] at this
    rwa [show lenD (dI (toRow d)) = (toRow d).length from List.length_map _] at this
theorem judge_dL {ls : List (List Int)} (hl : ls.length < 20) (hr : ∀ g ∈ ls, rowB (ls.length + 1) g = true ∧ 1 < g.length) : judge (dL ls) = partB ls := by
  show (decide ((ls.map dI).length < 20) && ((ls.map dI).all (grpD ((ls.map dI).length + 1)) && partB ((ls.map dI).map toRow))) = _
  have e : (ls.map dI).map toRow = ls := by rw [List.map_map]; conv => rhs; rw [← List.map_id ls]
                                            exact List.map_congr_left fun g _ => toRow_dI g
  have a : (ls.map dI).all (grpD ((ls.map dI).length + 1)) = true := List.all_eq_true.mpr fun d hd => by
    obtain ⟨g, hg, rfl⟩ := List.mem_map.mp hd
    rw [List.length_map, grpD_dI, (hr g hg).1, decide_eq_true (hr g hg).2]; rfl
  rw [e, a, List.length_map, decide_eq_true hl]
  rfl
theorem Nest.Of.judge {t : Nest} {n : Nat} (h : t.Of n) (hn : n ≤ 20) : judge (dL t.lots) = true := by
  have p := h.parting hn
  rw [judge_dL p.few fun g hg => ⟨(p.row g hg).1, (p.row g hg).2.1⟩]
  exact h.partB hn
/-! ### ascending -/
theorem setI_asc {l : List Int} : (setI l = l) ↔ l.Pairwise (· < ·) := ⟨fun h => by rw [← h]; exact asc_setI, fun h => asc_ext asc_setI h fun x => mem_setI⟩
theorem asc_ends {m a : Int} {l : List Int} {z : Int} (h : (a :: l).Pairwise (· < ·)) (hz : (a :: l).getLast? = some z) : ((∀ x ∈ a :: l, 0 ≤ x ∧ x < m) ↔ 0 ≤ a ∧ z < m) := by
  have hzm : z ∈ a :: l := List.mem_of_getLast? hz
  have hlast : ∀ x ∈ a :: l, x ≤ z := by
    have : (a :: l).getLast (by simp) = z := by
      rw [List.getLast?_eq_some_getLast (by simp)] at hz
      exact Option.some.inj hz
    subst this
    intro x hx
    obtain ⟨i, hi, rfl⟩ := List.getElem_of_mem hx
    rw [List.getLast_eq_getElem]
    rcases Nat.lt_or_ge i ((a :: l).length - 1) with c | c
    · have := List.pairwise_iff_getElem.mp h i _ hi (by simp) c
      omega
    · have : i = (a :: l).length - 1 := by omega
      subst this
      exact Int.le_refl _
  constructor
  · intro q
    exact ⟨(q a List.mem_cons_self).1, (q z hzm).2⟩
  · rintro ⟨h1, h2⟩ x hx
    have h3 := hlast x hx
    refine ⟨?_, by omega⟩
    rcases List.mem_cons.mp hx with rfl | hx
    · exact h1
    · have := (List.pairwise_cons.mp h).1 x hx
      omega
end J
namespace J
open PySem PySem.Spec PyProof.Rows L2
theorem sum_len_le {c : Nat} : ∀ {ds : List D}, (∀ d ∈ ds, d.shown.length ≤ c) → ((PyData.shownAll ds).map (·.length)).sum ≤ c * ds.length ∧ (PyData.shownAll ds).length = ds.length
  | [], _ => ⟨by simp [PyData.shownAll], by simp [PyData.shownAll]⟩
  | d :: r, h => by
    obtain ⟨h1, h2⟩ := sum_len_le (ds := r) fun x hx => h x (List.mem_cons_of_mem _ hx)
    have h3 := h d List.mem_cons_self
    simp only [PyData.shownAll, List.map_cons, List.sum_cons, List.length_cons]
    refine ⟨?_, by omega⟩
    rw [Nat.mul_succ]
    omega
theorem Ok.tuple {ds : List D} {n c : Nat} (h : ∀ d ∈ ds, Ok d n c) : Ok (.tuple ds) (n + 1) (3 + (c + 2) * ds.length) := by
  refine ⟨?_, ?_, ?_, ?_⟩
  · simp only [PyData.canLay0]; exact lay_all fun d hd => (h d hd).lay
  · have := dep_all fun d hd => (h d hd).dep
    simp only [PyData.depth]; omega
  · simp only [PyData.showable]; exact PySem.Spec.showableAll_of fun d hd => (h d hd).sho
  · have h1 := tupleText_len_le (PyData.shownAll ds)
    obtain ⟨h2, h3⟩ := sum_len_le fun d hd => (h d hd).len
    simp only [PyData.shown]
    rw [h3] at h1
    rw [Nat.add_mul]
    omega
/-- laid out, shallow, short, of short lists -/
def Nice (n c : Nat) (d : D) : Prop := Ok d n c ∧ wid d = true
theorem Nice.mono {n c m e : Nat} {d : D} (h : Nice n c d) (h1 : n ≤ m) (h2 : c ≤ e) : Nice m e d := ⟨h.1.mono h1 h2, h.2⟩
theorem Nice.list {n c : Nat} {ds : List D} (h : ∀ d ∈ ds, Nice n c d) (hl : ds.length < 64) : Nice (n + 1) (2 + (c + 2) * ds.length) (.list ds) :=
  ⟨Ok.list fun d hd => (h d hd).1, by rw [wid, decide_eq_true hl, wid_all fun d hd => (h d hd).2]; rfl⟩
theorem Nice.tuple {n c : Nat} {ds : List D} (h : ∀ d ∈ ds, Nice n c d) (hl : ds.length < 64) : Nice (n + 1) (3 + (c + 2) * ds.length) (.tuple ds) :=
  ⟨Ok.tuple fun d hd => (h d hd).1, by rw [wid, decide_eq_true hl, wid_all fun d hd => (h d hd).2]; rfl⟩
theorem Nice.int {x : Int} (h0 : 0 ≤ x) (h : x < 1000) : Nice 1 3 (.int x) := ⟨Ok.int (by decide) (by decide) h0 h, rfl⟩
theorem Nice.row {l : List Int} (h : ∀ x ∈ l, 0 ≤ x ∧ x < 1000) (hl : l.length ≤ 25) : Nice 2 130 (dI l) :=
  (Nice.list (n := 1) (c := 3) (ds := l.map PyData.int) (fun d hd => by obtain ⟨x, hx, rfl⟩ := List.mem_map.mp hd; exact Nice.int (h x hx).1 (h x hx).2) (by rw [List.length_map]; omega)).mono (Nat.le_refl _) (by rw [List.length_map]; omega)
theorem Nice.trow {l : List Int} (h : ∀ x ∈ l, 0 ≤ x ∧ x < 1000) (hl : l.length ≤ 25) : Nice 2 130 (.tuple (l.map PyData.int)) :=
  (Nice.tuple (n := 1) (c := 3) (ds := l.map PyData.int) (fun d hd => by obtain ⟨x, hx, rfl⟩ := List.mem_map.mp hd; exact Nice.int (h x hx).1 (h x hx).2) (by rw [List.length_map]; omega)).mono (Nat.le_refl _) (by rw [List.length_map]; omega)
theorem Nice.safe {n c : Nat} {d : D} (h : Nice n c d) (hn : n ≤ 60) : Safe d := ⟨h.1.lay, Nat.le_trans h.1.dep hn, h.2⟩
theorem pln_lay : ∀ {d : D}, d.canLay0 = true → pln d = true := fun {d} h =>
  PyData.rec (motive_1 := fun d => d.canLay0 = true → pln d = true) (motive_2 := fun ds => PyData.canLayAll0 ds = true → plnA ds = true) (motive_3 := fun _ => True) (motive_4 := fun _ => True)
    (fun _ => rfl) (fun _ _ => rfl) (fun _ _ => rfl) (fun _ _ => rfl) (fun xs ih h => by rw [pln]; exact ih (by rw [PyData.canLay0] at h; exact h)) (fun xs ih h => by rw [pln]; exact ih (by rw [PyData.canLay0] at h; exact h))
    (fun xs _ h => absurd h (by simp [PyData.canLay0])) (fun _ => rfl) (fun x xs h1 h2 h => by rw [PyData.canLayAll0, Bool.and_eq_true] at h; rw [plnA, h1 h.1, h2 h.2]; rfl) trivial (fun _ _ _ _ => trivial) (fun _ _ _ _ => trivial) d h
/-- an object that a judge may be asked about -/
structure Ob (d : D) : Prop where
  saf : Safe d ∨ d = .dict []
  pl : pln d = true
  dep : d.depth ≤ 10
  sho : d.showable = true
  len : d.shown.length ≤ 10000
theorem Nice.ob {n c : Nat} {d : D} (h : Nice n c d) (hn : n ≤ 10) (hc : c ≤ 10000) : Ob d := ⟨.inl (h.safe (by omega)), pln_lay h.1.lay, Nat.le_trans h.1.dep hn, h.1.sho, Nat.le_trans h.1.len hc⟩
theorem Ob.tok {d : D} (h : Ob d) : noTok d = true := by
  rcases h.saf with h | h
  · exact h.tok
  · subst h; rfl
theorem plnA_all {ds : List D} (h : ∀ d ∈ ds, pln d = true) : plnA ds = true := by
  induction ds with
  | nil => rfl
  | cons x r ih => rw [plnA, h x List.mem_cons_self, ih fun d hd => h d (List.mem_cons_of_mem _ hd)]; rfl
theorem obs_repr {ds : List D} (h : ∀ d ∈ ds, Ob d) (hl : ds.length ≤ 1000) : dReprG (.list ds) = some (.str (PyData.shown (.list ds))) := by
  unfold dReprG
  refine if_pos ?_
  unfold showG
  have h1 := dep_all fun d hd => (h d hd).dep
  have h2 : (PyData.shown (.list ds)).length ≤ 2 + (10000 + 2) * ds.length := shown_list_le fun d hd => (h d hd).len
  rw [Bool.and_eq_true, Bool.and_eq_true, Bool.and_eq_true, decide_eq_true_eq, decide_eq_true_eq]
  refine ⟨⟨⟨?_, ?_⟩, ?_⟩, by omega⟩
  · simp only [PyData.showable]; exact PySem.Spec.showableAll_of fun d hd => (h d hd).sho
  · rw [pln]; exact plnA_all fun d hd => (h d hd).pl
  · simp only [PyData.depth]; omega
/-- what is checked of a written object -/
def obB (d : D) : Bool := match d with
  | .dict [] => true
  | d => d.canLay0 && wid d && decide (d.depth ≤ 10) && d.showable && decide (d.shown.length ≤ 10000)
theorem obB_ob {d : D} (h : obB d = true) : Ob d := by
  unfold obB at h
  split at h
  · exact ⟨.inr rfl, rfl, by simp [PyData.depth, PyData.depthKv], by simp [PyData.showable, PyData.showableKv], by decide +kernel⟩
  · rw [Bool.and_eq_true, Bool.and_eq_true, Bool.and_eq_true, Bool.and_eq_true, decide_eq_true_eq, decide_eq_true_eq] at h
    obtain ⟨⟨⟨⟨h1, h2⟩, h3⟩, h4⟩, h5⟩ := h
    exact ⟨.inl ⟨h1, by omega, h2⟩, pln_lay h1, h3, h4, h5⟩
end J
namespace J
open PySem PySem.Spec PyProof.Rows L2
/-! common to the plain laws -/
theorem ix_tok {p q : STO} {ds : List D} {i : Int} {d : D} (h : atI ds i = some d) : dIdx (p ++ .lst ds :: q) (tokD p.length) (.int i) = some d := by
  have e := isTok_tok p.length
  unfold tokD at e ⊢
  unfold dIdx
  simp only
  rw [e, Option.bind_some, mid_cell, Option.bind_some]
  exact h
theorem dAdd_dI {a b : List Int} (h : a.length + b.length ≤ 16777216) : dAdd (dI a) (dI b) = some (dI (a ++ b)) := by
  show (if (a.map PyData.int).length + (b.map PyData.int).length ≤ 16777216 then _ else _) = _
  rw [List.length_map, List.length_map, if_pos h, ← List.map_append]
theorem dAdd_dL {a b : List (List Int)} (h : a.length + b.length ≤ 16777216) : dAdd (dL a) (dL b) = some (dL (a ++ b)) := by
  show (if (a.map dI).length + (b.map dI).length ≤ 16777216 then _ else _) = _
  rw [List.length_map, List.length_map, if_pos h, ← List.map_append]
theorem cMin_dI {l : List Int} {m : Int} (h : m ∈ l) (h2 : ∀ y ∈ l, m ≤ y) : cMin [dI l] = some (.int m) := by
  show (isInts (l.map PyData.int)).bind _ = _
  rw [isInts_map, Option.bind_some, if_neg (List.ne_nil_of_mem h), minL_of h h2]
theorem cMax_dI {l : List Int} {m : Int} (h : m ∈ l) (h2 : ∀ y ∈ l, y ≤ m) : cMax [dI l] = some (.int m) := by
  show (isInts (l.map PyData.int)).bind _ = _
  rw [isInts_map, Option.bind_some, if_neg (List.ne_nil_of_mem h), maxL_of h h2]
theorem idx_mem {l : List Int} {i : Int} (h : 0 ≤ i ∧ i < l.length) (s : STO) : ∃ x, dIdx s (dI l) (.int i) = some (.int x) ∧ x ∈ l := by
  have h3 : i.toNat < l.length := by omega
  refine ⟨l[i.toNat], atI_nat (n := i.toNat) (by omega) ?_, List.getElem_mem h3⟩
  rw [List.getElem?_map, List.getElem?_eq_getElem h3]
  rfl
theorem sApp_ok {i k : Nat} {g : Ev} {env : Env} {s s1 : STO} {d : D} {ds : List D} (h1 : g (see [] env) s = some (d, s1)) (h2 : env[i]? = some (.ow (k + 1) (.list ds))) (hl : ds.length < 16777216) : sApp i [] k g env s = some (.nx, env.set i (.ow (k + 1) (.list (ds ++ [d]))), s1) := by
  unfold sApp
  rw [h1, Option.bind_some, fzIf_nil, h2]
  show (if k = k ∧ ds.length < 16777216 then _ else _) = _
  rw [if_pos ⟨rfl, hl⟩]
theorem sPar_ok {i j k1 k2 : Nat} {f g : Ev} {env : Env} {s s1 s2 : STO} {d1 d2 : D} (h1 : f (see [] env) s = some (d1, s1)) (h2 : g (see [] env) s1 = some (d2, s2)) (hi : decide (i < env.length) = true := by rfl) (hj : decide (j < env.length) = true := by rfl) : sPar i j k1 k2 [] [] f g env s = some (.nx, (env.set i (mkS k1 d1)).set j (mkS k2 d2), s2) := by
  unfold sPar
  rw [if_pos ⟨of_decide_eq_true hi, of_decide_eq_true hj⟩, h1, Option.bind_some, fzIf_nil, h2]
  show some (Out.nx, ((fzIf k2 d2 [] s2 env).set i _).set j _, s2) = _
  rw [fzIf_nil]
theorem dIsi_eq {T : String} {d : D} (h : isMk d = false) : dIsi T d = some (.bool (isiB T (typD d))) := by
  unfold dIsi
  rw [h]
  rfl
theorem chain_in (m i : Int) {f1 f2 f3 : Ev} {vw : VW} {s : STO} (h1 : f1 vw s = some (.int 0, s)) (h2 : f2 vw s = some (.int i, s)) (h3 : f3 vw s = some (.int m, s)) : eChain dLe dLt f1 f2 f3 vw s = some (.bool (decide (0 ≤ i) && decide (i < m)), s) := by
  unfold eChain
  rw [h1, Option.bind_some, h2, Option.bind_some]
  show ((some (PyData.bool (decide (0 ≤ i)))).bind _) = _
  rw [Option.bind_some]
  cases decide (0 ≤ i) with
  | true =>
    simp only
    rw [h3, Option.bind_some]
    rfl
  | false => rfl
theorem row_len {m : Nat} {g : List Int} (h : rowB m g = true) : g.length ≤ m := by
  obtain ⟨h1, h2⟩ := rowB_iff.mp h
  have := nodup_len (l := g) (m := comp m) (asc_nodup h2) fun x hx => mem_comp.mpr (h1 x hx)
  rwa [comp_len] at this
theorem dGt_len (n : Nat) (k : Int) : dGt (.int n) (.int k) = some (.bool (decide (k < (n : Int)))) := rfl
theorem cut_upto {α : Type} (l : List α) (n : Nat) (h : n ≤ l.length) : cutL l none (some (n : Int)) = l.take n := by
  unfold cutL
  rw [show HT.sIx l.length l.length (some (n : Int)) = min n l.length from HT.sIx_nat l.length _ n, HT.sIx_none]
  rw [show min n l.length = n by omega]
  rfl
theorem cut_from {α : Type} (l : List α) (n : Nat) (h : n ≤ l.length) : cutL l (some (n : Int)) none = l.drop n := by
  unfold cutL
  rw [show HT.sIx l.length 0 (some (n : Int)) = min n l.length from HT.sIx_nat l.length 0 n, HT.sIx_none]
  rw [show min n l.length = n by omega]
  rw [show l.length - n = (l.drop n).length by rw [List.length_drop], List.take_length]
theorem eSl_ok {f : Ev} {lo hi : VW → STO → Option (Option Int × STO)} {vw : VW} {s s1 s2 s3 : STO} {d1 d : D} {o1 o2 : Option Int} (h1 : f vw s = some (d1, s1)) (h2 : lo vw s1 = some (o1, s2)) (h3 : hi vw s2 = some (o2, s3)) (h4 : dSl d1 o1 o2 = some d) : eSl f lo hi vw s = some (d, s3) := by
  unfold eSl
  rw [h1, Option.bind_some, h2, Option.bind_some, h3, Option.bind_some, h4]
  rfl
theorem oS_ok {f : Ev} {vw : VW} {s s1 : STO} {i : Int} (h : f vw s = some (.int i, s1)) : oS f vw s = some (some i, s1) := by
  unfold oS
  rw [h]
  rfl
theorem oN_ok {vw : VW} {s : STO} : oN vw s = some (none, s) := rfl
theorem dSortSet_dI {l : List Int} (h : l.length < 64) : dSortSet (dI l) = some (dI (setI l)) := by
  show (isIntsD (l.map PyData.int)).bind _ = _
  rw [isIntsD_map, Option.bind_some, if_pos h]
theorem dEq_dI (a b : List Int) : dEq (dI a) (dI b) = some (.bool (decide (a = b))) := by
  show (if SeqAt.shaped (dI a) = true ∧ SeqAt.shaped (dI b) = true then some (PyData.bool (PyData.eqv (dI a) (dI b))) else none) = _
  rw [if_pos ⟨shaped_dI a, shaped_dI b⟩, eqv_dI]
theorem atI_last {l : List Int} {z : Int} (h : l.getLast? = some z) : atI (l.map PyData.int) (-1) = some (.int z) := by
  have hne : l ≠ [] := fun e => by rw [e] at h; cases h
  have hp := List.length_pos_iff.mpr hne
  unfold atI ixN
  rw [if_neg (by omega), List.length_map, if_pos (by omega), Option.bind_some, List.getElem?_map]
  have : ((-1 : Int) + (l.length : Nat)).toNat = l.length - 1 := by omega
  rw [this, ← List.getLast?_eq_getElem?, h]
  rfl
theorem compL_rel {bd : Bd} {fc : EvT} {fe : Ev} {own : List Nat} {vw : VW} (I : Nat → STO → Prop) (R : D → Prop) : ∀ (l : List D) (n : Nat) (s : STO), I n s →
    (∀ i d s, l[i]? = some d → I (n + i) s → ∃ b t s1, bd d = some b ∧ fc (setV (wipeV vw own) b) s = some (t, s1) ∧ (t = true → ∃ d' s2, fe (setV (wipeV vw own) b) s1 = some (d', s2) ∧ R d' ∧ I (n + i + 1) s2) ∧ (t = false → I (n + i + 1) s1)) →
    ∃ res s', compL bd fc fe own vw l s = some (res, s') ∧ (∀ x ∈ res, R x) ∧ res.length ≤ l.length ∧ I (n + l.length) s'
  | [], n, s, h, _ => ⟨[], s, rfl, (fun _ z => nomatch z), Nat.le_refl _, h⟩
  | d :: r, n, s, h, step => by
    obtain ⟨b, t, s1, h1, h2, h3, h4⟩ := step 0 d s rfl h
    have nx : ∀ s2, I (n + 1) s2 → ∃ res s', compL bd fc fe own vw r s2 = some (res, s') ∧ (∀ x ∈ res, R x) ∧ res.length ≤ r.length ∧ I (n + 1 + r.length) s' := fun s2 hs => compL_rel I R r (n + 1) s2 hs fun i d' s' hd hI => by
      have := step (i + 1) d' s' (by simpa using hd) (by rw [show n + (i + 1) = n + 1 + i by omega]; exact hI)
      rw [show n + (i + 1) + 1 = n + 1 + i + 1 by omega] at this
      exact this
    rw [show n + (d :: r).length = n + 1 + r.length by rw [List.length_cons]; omega]
    rw [compL, h1, Option.bind_some, h2, Option.bind_some]
    cases t with
    | true =>
      obtain ⟨d', s2, g1, g2, g3⟩ := h3 rfl
      obtain ⟨res, s', k1, k2, k3, k4⟩ := nx s2 g3
      rw [if_pos rfl, g1, Option.bind_some, k1]
      refine ⟨d' :: res, s', rfl, fun x hx => ?_, by simp; omega, k4⟩
      rcases List.mem_cons.mp hx with rfl | hx
      · exact g2
      · exact k2 x hx
    | false =>
      obtain ⟨res, s', k1, k2, k3, k4⟩ := nx s1 (h4 rfl)
      rw [if_neg Bool.false_ne_true, k1]
      exact ⟨res, s', rfl, k2, by simp; omega, k4⟩
theorem eComp_rel {fi : EvI} {bd : Bd} {fc : EvT} {fe : Ev} {own : List Nat} {vw : VW} {s s0 : STO} {l : List D} (I : Nat → STO → Prop) (R : D → Prop) (hi : fi vw s = some (l, s0)) (hl : l.length ≤ 16777216) (n : Nat) (h : I n s0)
    (step : ∀ i d s, l[i]? = some d → I (n + i) s → ∃ b t s1, bd d = some b ∧ fc (setV (wipeV vw own) b) s = some (t, s1) ∧ (t = true → ∃ d' s2, fe (setV (wipeV vw own) b) s1 = some (d', s2) ∧ R d' ∧ I (n + i + 1) s2) ∧ (t = false → I (n + i + 1) s1)) :
    ∃ res s', eComp fi bd fc fe own vw s = some (.list res, s') ∧ (∀ x ∈ res, R x) ∧ res.length ≤ l.length ∧ I (n + l.length) s' := by
  obtain ⟨res, s', h1, h2, h3, h4⟩ := compL_rel I R l n s0 h step
  refine ⟨res, s', ?_, h2, h3, h4⟩
  unfold eComp
  rw [hi, Option.bind_some]
  simp only
  rw [if_pos hl, h1]
  rfl
theorem ints_of {m : Int} : ∀ {res : List D}, (∀ x ∈ res, ∃ i : Int, x = .int i ∧ 0 ≤ i ∧ i < m) → ∃ l : List Int, PyData.list res = dI l ∧ res.length = l.length ∧ ∀ x ∈ l, 0 ≤ x ∧ x < m
  | [], _ => ⟨[], rfl, rfl, fun _ z => nomatch z⟩
  | d :: r, h => by
    obtain ⟨i, rfl, h1, h2⟩ := h d List.mem_cons_self
    obtain ⟨l, h3, h4, h5⟩ := ints_of (res := r) fun x hx => h x (List.mem_cons_of_mem _ hx)
    injection h3 with h3
    refine ⟨i :: l, by rw [h3]; rfl, by simp [h4], fun x hx => ?_⟩
    rcases List.mem_cons.mp hx with rfl | hx
    · exact ⟨h1, h2⟩
    · exact h5 x hx
theorem comp_get {n i : Nat} {d : D} (h : ((comp n).map PyData.int)[i]? = some d) : d = .int i ∧ i < n := by
  unfold comp at h
  rw [List.map_map, List.getElem?_map] at h
  cases e : (List.range n)[i]? with
  | none => rw [e] at h; cases h
  | some j =>
    rw [e] at h
    obtain ⟨h1, h2⟩ := List.getElem?_eq_some_iff.mp e
    rw [List.getElem_range] at h2
    subst h2
    rw [List.length_range] at h1
    cases h
    exact ⟨rfl, h1⟩
def plainS (p : STO) : Prop := ∀ n, p.all (cellLt n) = true
theorem plainS_app {p q : STO} (h : plainS p) (h2 : plainS q) : plainS (p ++ q) := fun n => by rw [List.all_append, h n, h2 n]; rfl
theorem plainS_pch (a b c : Int) : plainS [pchC a b c] := fun n => rfl
theorem plainS_nil : plainS [] := fun n => rfl
theorem Good.plain {n : Nat} {p q s : STO} (h : Good n p q s) (hp : plainS p) (hq : plainS q) : plainS s := by
  obtain ⟨a, b, c, rfl, _⟩ := h
  intro n
  rw [List.all_append, List.all_cons, hp n, hq n]
  rfl
theorem tokLt_ints (n : Nat) : ∀ l : List Int, tokLtA n (l.map PyData.int) = true
  | [] => rfl
  | x :: r => by rw [List.map_cons, tokLtA, tokLt_ints n r]; rfl
theorem tokLt_dI (n : Nat) (l : List Int) : tokLt n (dI l) = true := by
  show tokLt n (.list (l.map PyData.int)) = true
  rw [tokLt]; exact tokLt_ints n l
theorem Good.last {n : Nat} {p q s : STO} {c : Cell} (h : Good n p (q ++ [c]) s) : s[p.length + 1 + q.length]? = some c := by
  obtain ⟨a, b, d, rfl, _⟩ := h
  rw [List.getElem?_append_right (by omega), show p.length + 1 + q.length - p.length = q.length + 1 by omega, List.getElem?_cons_succ, List.getElem?_append_right (Nat.le_refl _), Nat.sub_self]
  rfl
theorem Good.setLast {n : Nat} {p q s : STO} {c e : Cell} (h : Good n p (q ++ [c]) s) : Good n p (q ++ [e]) (s.set (p.length + 1 + q.length) e) := by
  obtain ⟨a, b, d, rfl, h'⟩ := h
  refine ⟨a, b, d, ?_, h'⟩
  rw [List.set_append_right _ _ (by omega), show p.length + 1 + q.length - p.length = q.length + 1 by omega, List.set_cons_succ, List.set_append_right _ _ (Nat.le_refl _), Nat.sub_self]
  rfl
theorem Good.snoc {n : Nat} {p q s : STO} (h : Good n p q s) (c : Cell) : Good n p (q ++ [c]) (s ++ [c]) := by
  obtain ⟨a, b, d, rfl, h'⟩ := h
  exact ⟨a, b, d, by rw [List.append_assoc]; rfl, h'⟩
theorem Good.cut {n : Nat} {p q s : STO} {c : Cell} (h : Good n p (q ++ [c]) s) : Good n p q (s.take (p.length + 1 + q.length)) ∧ s.length = p.length + 1 + q.length + 1 := by
  obtain ⟨a, b, d, rfl, h'⟩ := h
  refine ⟨⟨a, b, d, ?_, h'⟩, by simp; omega⟩
  rw [show p ++ pchC a b d :: (q ++ [c]) = (p ++ pchC a b d :: q) ++ [c] by simp, List.take_append_of_le_length (by simp; omega), List.take_of_length_le (by simp; omega)]
theorem sNew_ok {i : Nat} {f : Ev} {env : Env} {s s1 : STO} {ds : List D} (h1 : f (see [] env) s = some (.list ds, s1)) (hi : decide (i < env.length) = true := by rfl) : sNew i f env s = some (.nx, env.set i (.sh (tokD s1.length)), s1 ++ [.lst ds]) := by
  unfold sNew
  refine sSeq_nx (sSet_ok h1 hi) ?_
  have hl : i < env.length := of_decide_eq_true hi
  unfold sCell
  rw [show (env.set i (mkS 1 (.list ds)))[i]? = some (.ow 1 (.list ds)) by rw [List.getElem?_set, if_pos rfl, if_pos hl]; rfl]
  simp only [List.set_set]
theorem pop_ok {f g : Ev} {vw : VW} {s s1 s2 : STO} {j m : Nat} {n : Int} {ds0 ds : List D} {d : D} (h1 : f vw s = some (tokD j, s1)) (h2 : cellL s1 j = some ds0) (h3 : g vw s1 = some (.int n, s2)) (h4 : cellL s2 j = some ds) (hl : ds.length ≤ 16777216) (h5 : ixN ds.length n = some m) (h6 : ds[m]? = some d) : ePopC f g vw s = some (d, s2.set j (.lst (ds.eraseIdx m))) := by
  unfold ePopC
  rw [h1, Option.bind_some, isTok_tok, Option.bind_some, h2, Option.bind_some, h3, Option.bind_some]
  simp only
  rw [h4, Option.bind_some, if_pos hl, h5, Option.bind_some, h6]
  rfl
theorem lenC_ok {f : Ev} {vw : VW} {s s1 : STO} {j : Nat} {ds : List D} (h1 : f vw s = some (tokD j, s1)) (h2 : cellL s1 j = some ds) : eLenC f vw s = some (.int ds.length, s1) := by
  unfold eLenC
  rw [h1, Option.bind_some, isTok_tok, Option.bind_some, h2]
  rfl
theorem Good.cellLast {n : Nat} {p q s : STO} {ds : List D} (h : Good n p (q ++ [.lst ds]) s) : cellL s (p.length + 1 + q.length) = some ds := by
  unfold cellL
  rw [h.last]
theorem map_erase {α β : Type} (f : α → β) : ∀ (l : List α) (k : Nat), (l.eraseIdx k).map f = (l.map f).eraseIdx k
  | [], _ => rfl
  | _ :: _, 0 => rfl
  | x :: r, k + 1 => congrArg (f x :: ·) (map_erase f r k)
theorem fz_one {i : Nat} {env : Env} {x : Slot} : (fz [i] env).set i x = env.set i x := by
  apply List.ext_getElem?
  intro j
  rw [List.getElem?_set, List.getElem?_set]
  have hl : (fz [i] env).length = env.length := fzI_len [i] 0 env
  by_cases c : i = j
  · subst c
    rw [if_pos rfl, if_pos rfl, hl]
  · rw [if_neg c, if_neg c, fz_get]
    have : [i].contains j = false := by simp; exact fun e => c e.symm
    rw [this]
    cases env[j]? with
    | none => rfl
    | some s => show some (fzS false s) = some s; rw [fzS_ff]
theorem fzIf_one {i k : Nat} {d : D} {s : STO} {env : Env} {x : Slot} : (fzIf k d [i] s env).set i x = env.set i x := by
  unfold fzIf
  split
  · rfl
  · exact fz_one
theorem sR_is {l m : List (List Int)} (h : l.Perm m) (hs : m.Pairwise (fun a b => leI a b = true)) : sR l = m := (sR_eq h).trans (sR_of hs)
theorem forL_sum {slot : Nat} {body : Sv} {s : STO} (P : Nat → Env → Prop) (f : Nat → Nat) (hlen : ∀ c env, P c env → slot < env.length) : ∀ (k j c : Nat) (env : Env), P c env →
    (∀ i c env, j ≤ i → i < j + k → P c env → ∃ env', body (env.set slot (.sh (.int i))) s = some (.nx, env', s) ∧ P (c + f i) env') →
    ∃ env', forL (bN slot) body ((List.range' j k).map fun i : Nat => PyData.int i) env s = some (.nx, env', s) ∧ P (c + ((List.range' j k).map f).sum) env'
  | 0, j, c, env, h, _ => ⟨env, rfl, by simpa using h⟩
  | k + 1, j, c, env, h, step => by
    obtain ⟨e1, h1, h2⟩ := step j c env (Nat.le_refl _) (by omega) h
    obtain ⟨e2, h3, h4⟩ := forL_sum P f hlen k (j + 1) (c + f j) e1 h2 fun i c' env' hi1 hi2 => step i c' env' (by omega) (by omega)
    refine ⟨e2, ?_, ?_⟩
    · rw [List.range'_succ, List.map_cons, forL]
      simp only [bN, Option.bind_some]
      rw [if_pos ⟨by simp [allLt, hlen c env h], by rfl⟩]
      show ((body (env.set slot (.sh (.int j))) s).bind _) = _
      rw [h1]
      exact h3
    · rw [List.range'_succ, List.map_cons, List.sum_cons, ← Nat.add_assoc]
      exact h4
theorem fz0 {a : D} {r : Env} {k : Nat} {d : D} {s : STO} : fzIf k d [0] s (.sh a :: r) = .sh a :: r := by
  unfold fzIf
  split
  · rfl
  · apply List.ext_getElem?
    intro j
    rw [fz_get]
    cases j with
    | zero => rfl
    | succ j =>
      have : [0].contains (j + 1) = false := by simp
      rw [this]
      cases (Slot.sh a :: r)[j + 1]? with
      | none => rfl
      | some x => show some (fzS false x) = some x; rw [fzS_ff]
theorem rng_comp (n : Nat) : (List.range' 0 n).map (fun i : Nat => PyData.int i) = (comp n).map PyData.int := by
  unfold comp
  rw [List.map_map, List.range_eq_range']
  rfl
theorem forL_cons {i : Nat} {body : Sv} {d : D} {r : List D} {env env1 : Env} {s s1 : STO} {R : Option (Out × Env × STO)} (hi : i < env.length) (hd : noTok d = true)
    (h : body (env.set i (.sh d)) s = some (.nx, env1, s1)) (h2 : forL (bN i) body r env1 s1 = R) : forL (bN i) body (d :: r) env s = R := by
  rw [forL]
  simp only [bN, Option.bind_some]
  rw [if_pos ⟨by simp [allLt, hi], hd⟩]
  show ((body (env.set i (.sh d)) s).bind _) = _
  rw [h]
  exact h2
theorem comp2 : (comp 2).map PyData.int = [.int 0, .int 1] := rfl
theorem two_turns {body : Sv} {a0 a1 a2 x3 a4 : Slot} {s s1 s2 : STO} (e2 : body [a0, a1, a2, .sh (.int 0), a4] s = some (.nx, [a0, a1, a2, .sh (.int 0), a4], s1))
    (e3 : body [a0, a1, a2, .sh (.int 1), a4] s1 = some (.nx, [a0, a1, a2, .sh (.int 1), a4], s2)) : forL (bN 3) body ((comp 2).map PyData.int) [a0, a1, a2, x3, a4] s = some (.nx, [a0, a1, a2, .sh (.int 1), a4], s2) := by
  rw [comp2]
  exact forL_cons (by simp) rfl e2 (forL_cons (by simp) rfl e3 rfl)
/-! dicts, step by step -/
section
variable {f g h fp fi fv : Ev} {vw : VW} {env : Env} {s s1 s2 s3 : STO} {d d1 d2 d3 kd : D} {t : Bool} {es es' : List (D × D)} {j : Nat}
theorem dEnt_tok (hc : s[j]? = some (.dct t es)) : dEnt s (tokD j) = some (t, es) := by
  unfold dEnt
  rw [isTok_tok]
  simp only
  rw [hc]
theorem dEnt_mark : dEnt s (.dict ((.none, .bool t) :: es)) = some (t, es) := by
  unfold dEnt
  have : isTok (.dict ((.none, .bool t) :: es)) = none := by unfold isTok; rfl
  rw [this]
theorem eDGet_ok (h1 : f vw s = some (d1, s1)) (h2 : g vw s1 = some (d2, s2)) (h3 : dEnt s2 d1 = some (t, es)) (h4 : getE t es d2 = some (some d)) : eDGet f g vw s = some (d, s2) := by
  unfold eDGet
  rw [h1, Option.bind_some, h2, Option.bind_some]
  simp only
  rw [h3, Option.bind_some]
  simp only
  rw [h4]
  rfl
theorem eDGet2_ok {o : Option D} (h1 : f vw s = some (d1, s1)) (h2 : g vw s1 = some (d2, s2)) (h3 : h vw s2 = some (d3, s3)) (e0 : (dEnt s1 d1).isSome = true) (e1 : dEnt s3 d1 = some (t, es)) (h4 : getE t es d2 = some o) : eDGet2 f g h vw s = some (o.getD d3, s3) := by
  unfold eDGet2
  rw [h1, Option.bind_some, h2, Option.bind_some, h3, Option.bind_some]
  simp only
  obtain ⟨x, hx⟩ := Option.isSome_iff_exists.mp e0
  rw [hx, Option.bind_some, e1, Option.bind_some]
  simp only
  rw [h4]
  rfl
theorem sDSto_ok (h1 : fv (see [] env) s = some (d, s1)) (h2 : fp (see [] env) s1 = some (tokD j, s2)) (h3 : fi (see [] env) s2 = some (kd, s3)) (hc : s3[j]? = some (.dct t es)) (hl : es.length < 16777216) (h4 : putE t es kd d = some es') : sDSto [] fp fi fv env s = some (.nx, env, s3.set j (.dct t es')) := by
  unfold sDSto
  rw [h1, Option.bind_some, h2, Option.bind_some, isTok_tok, Option.bind_some, h3, Option.bind_some]
  simp only
  rw [hc]
  simp only
  rw [if_pos ⟨hl, rfl⟩, h4, Option.map_some, fzIf_nil]
theorem sNewD_ok {i : Nat} (hi : decide (i < env.length) = true := by rfl) : sNewD t i env s = some (.nx, env.set i (.sh (tokD s.length)), s ++ [.dct t []]) := by
  unfold sNewD
  rw [if_pos (of_decide_eq_true hi)]
theorem eDKeys_ok (h1 : f vw s = some (d1, s1)) (h2 : dEnt s1 d1 = some (false, es)) : eDKeys f vw s = some (.list (es.map (·.1)), s1) := by
  unfold eDKeys
  rw [h1, Option.bind_some]
  simp only
  rw [h2, Option.bind_some]
  rfl
theorem eSortVals_ok (h1 : f vw s = some (d1, s1)) (h2 : dEnt s1 d1 = some (false, es)) (h3 : dSort (.list (es.map (·.2))) = some d) : eSortVals f vw s = some (d, s1) := by
  unfold eSortVals
  rw [h1, Option.bind_some]
  simp only
  rw [h2, Option.bind_some]
  simp only
  rw [if_pos trivial, h3]
  rfl
theorem eFrz_ok (h1 : f vw s = some (tokD j, s1)) (hc : s1[j]? = some (.dct t es)) : eFrz f vw s = some (tokD j, s1.set j (.fdc t es)) := by
  unfold eFrz
  rw [h1, Option.bind_some]
  simp only [isTok_tok]
  rw [hc]
theorem last_get {s : STO} {c : Cell} : (s ++ [c])[s.length]? = some c := by rw [List.getElem?_append_right (Nat.le_refl _), Nat.sub_self]; rfl
theorem last_set {s : STO} {c e : Cell} : (s ++ [c]).set s.length e = s ++ [e] := by rw [List.set_append_right _ _ (Nat.le_refl _), Nat.sub_self]; rfl
end
/-! a dict of rows by the numbers 1, 2, .. -/
def gE : Nat → List (List Int) → List (D × D)
  | _, [] => []
  | j, g :: r => (.int ((j + 1 : Nat) : Int), dI g) :: gE (j + 1) r
theorem gE_len : ∀ (l : List (List Int)) (j : Nat), (gE j l).length = l.length
  | [], _ => rfl
  | _ :: r, j => congrArg (· + 1) (gE_len r (j + 1))
theorem gE_keys : ∀ (l : List (List Int)) (j : Nat), (gE j l).map (·.1) = (List.range' (j + 1) l.length).map fun i : Nat => PyData.int i
  | [], _ => rfl
  | _ :: r, j => by rw [gE, List.map_cons, gE_keys r (j + 1), List.length_cons, List.range'_succ, List.map_cons]
theorem gE_vals : ∀ (l : List (List Int)) (j : Nat), (gE j l).map (·.2) = l.map dI
  | [], _ => rfl
  | _ :: r, j => by rw [gE, List.map_cons, gE_vals r (j + 1), List.map_cons]
theorem gE_app : ∀ (l m : List (List Int)) (j : Nat), gE j (l ++ m) = gE j l ++ gE (j + l.length) m
  | [], m, j => rfl
  | g :: r, m, j => by rw [List.cons_append, gE, gE, gE_app r m (j + 1), List.cons_append, List.length_cons, show j + (r.length + 1) = j + 1 + r.length by omega]
theorem getK_cons {x : Int} {d : D} {es : List (D × D)} {k : Int} : getK ((.int x, d) :: es) (.inl k) = if x = k then some d else getK es (.inl k) := by
  unfold getK
  by_cases h : x = k
  · subst h
    rw [if_pos rfl, List.find?_cons_of_pos (p := fun p : D × D => decide (isKD p.1 = some (.inl x))) (a := (PyData.int x, d)) (decide_eq_true rfl)]
    rfl
  · rw [if_neg h, List.find?_cons_of_neg (p := fun p : D × D => decide (isKD p.1 = some (.inl k))) (a := (PyData.int x, d)) (by
      intro z
      have z : (some (Sum.inl x) : Option Key) = some (.inl k) := of_decide_eq_true z
      injection z with z
      injection z with z
      exact h z)]
theorem gE_get : ∀ (l : List (List Int)) (j i : Nat), getK (gE j l) (.inl ((j + 1 + i : Nat) : Int)) = (l[i]?).map dI
  | [], j, i => by simp [gE, getK]
  | g :: r, j, 0 => by rw [gE, getK_cons, if_pos (by omega)]; rfl
  | g :: r, j, i + 1 => by
    rw [gE, getK_cons, if_neg (by omega), show j + 1 + (i + 1) = j + 1 + 1 + i by omega, gE_get r (j + 1) i]
    rfl
theorem gE_any : ∀ (l : List (List Int)) (j : Nat) (k : Int), ((gE j l).any fun p => decide (isKD p.1 = some (.inl k))) = decide ((j : Int) < k ∧ k ≤ ((j + l.length : Nat) : Int))
  | [], j, k => by
    show false = _
    symm
    rw [decide_eq_false_iff_not]
    simp only [List.length_nil]
    omega
  | g :: r, j, k => by
    rw [gE, List.any_cons, gE_any r (j + 1) k]
    have e : decide (isKD (PyData.int ((j + 1 : Nat) : Int)) = some (Sum.inl k : Key)) = decide (((j + 1 : Nat) : Int) = k) := decide_eq_decide.mpr ⟨fun z => by injection z with z; injection z, fun z => by rw [z]; rfl⟩
    rw [e, ← Bool.decide_or]
    refine decide_eq_decide.mpr ?_
    simp only [List.length_cons]
    omega
theorem gE_new {l : List (List Int)} {g : List Int} {k : Int} (hk : k = ((l.length + 1 : Nat) : Int)) : putKD (gE 0 l) (.inl k) (dI g) = gE 0 (l ++ [g]) := by
  unfold putKD
  rw [gE_any, if_neg (by rw [decide_eq_true_eq]; omega), gE_app, hk, Nat.zero_add]
  rfl
theorem gE_map {k : Int} {d : D} : ∀ (l : List (List Int)) (j : Nat), k ≤ (j : Int) → (gE j l).map (fun p => if isKD p.1 = some (.inl k) then (p.1, d) else p) = gE j l
  | [], _, _ => rfl
  | g :: r, j, h => by
    rw [gE, List.map_cons, gE_map r (j + 1) (by omega), if_neg]
    intro z
    have z : (some (Sum.inl ((j + 1 : Nat) : Int)) : Option Key) = some (.inl k) := z
    injection z with z
    injection z with z
    omega
theorem gE_map2 {k : Int} {d : D} : ∀ (l : List (List Int)) (j : Nat), ((j + l.length : Nat) : Int) < k → (gE j l).map (fun p => if isKD p.1 = some (.inl k) then (p.1, d) else p) = gE j l
  | [], _, _ => rfl
  | g :: r, j, h => by
    rw [List.length_cons] at h
    rw [gE, List.map_cons, gE_map2 r (j + 1) (by omega), if_neg]
    intro z
    have z : (some (Sum.inl ((j + 1 : Nat) : Int)) : Option Key) = some (.inl k) := z
    injection z with z
    injection z with z
    omega
theorem gE_put {a b : List (List Int)} {w g : List Int} {k : Int} (hk : k = ((a.length + 1 : Nat) : Int)) : putKD (gE 0 (a ++ w :: b)) (.inl k) (dI g) = gE 0 (a ++ g :: b) := by
  unfold putKD
  rw [gE_any, if_pos (by rw [decide_eq_true_eq, List.length_append, List.length_cons]; omega), gE_app, gE_app, List.map_append, gE_map2 a 0 (by omega), Nat.zero_add, gE, List.map_cons, gE_map b (a.length + 1) (by omega), gE]
  have : isKD (PyData.int ((a.length + 1 : Nat) : Int)) = some (.inl k) := by rw [hk]; rfl
  rw [if_pos this]

end J
namespace J
theorem nodup_map_on {α β : Type} {f : α → β} {l : List α} (h : l.Nodup) (hf : ∀ x ∈ l, ∀ y ∈ l, f x = f y → x = y) : (l.map f).Nodup :=
  List.pairwise_map.mpr (List.Pairwise.imp_of_mem (fun {a b} ha hb hne e => hne (hf a ha b hb e)) h)
namespace Nest
/-! groups that grow by one newcomer after another -/
def extG (base : List Int) (p : Int) (w : List Int) : List Int := if base.length < w.length ∧ base.headD 0 ∈ w then w ++ [p] else w
def baseG (grp : List (List Int)) (x : Int) : List Int := if 0 ≤ x then [x] else grp.getD (0 - x - 1).toNat []
def stepG (grp : List (List Int)) (x : Int) : List (List Int) := grp.map (extG (baseG grp x) ((grp.length + 1 : Nat) : Int)) ++ [baseG grp x ++ [((grp.length + 1 : Nat) : Int)]]
theorem stepG_len (grp : List (List Int)) (x : Int) : (stepG grp x).length = grp.length + 1 := by simp [stepG]
theorem lam_step {n : Nat} {grp : List (List Int)} (L : Lam (comp (n + 1)) grp) {base : List Int} (hb : (∃ x : Int, base = [x] ∧ 0 ≤ x ∧ x < (n + 1 : Nat)) ∨ base ∈ grp) :
    Lam (comp (n + 2)) (grp.map (extG base ((n + 1 : Nat) : Int)) ++ [base ++ [((n + 1 : Nat) : Int)]]) := by
  generalize hp : ((n + 1 : Nat) : Int) = p at *
  have lt : ∀ w ∈ grp, ∀ x ∈ w, x < p := fun w hw x hx => by
    have := (mem_comp.mp ((L.row w hw).2.2 x hx)).2
    omega
  have ge : ∀ w ∈ grp, ∀ x ∈ w, 0 ≤ x := fun w hw x hx => (mem_comp.mp ((L.row w hw).2.2 x hx)).1
  have hbase : base.Pairwise (· < ·) ∧ 1 ≤ base.length ∧ ∀ x ∈ base, 0 ≤ x ∧ x < p := by
    rcases hb with ⟨x, rfl, h1, h2⟩ | h
    · exact ⟨List.pairwise_singleton _ _, Nat.le_refl _, fun y hy => by rw [List.mem_singleton.mp hy]; exact ⟨h1, h2⟩⟩
    · exact ⟨(L.row _ h).1, Nat.le_trans (by decide) (L.row _ h).2.1, fun y hy => ⟨ge _ h y hy, lt _ h y hy⟩⟩
  obtain ⟨b1, b2, b3⟩ := hbase
  obtain ⟨b0, r, rfl⟩ : ∃ b0 r, base = b0 :: r := by
    cases base with
    | nil => simp at b2
    | cons b0 r => exact ⟨b0, r, rfl⟩
  have three : ∀ w ∈ grp, (∀ x ∈ b0 :: r, x ∈ w) ∨ (∀ x ∈ w, x ∈ b0 :: r) ∨ ∀ x ∈ b0 :: r, x ∉ w := fun w hw => by
    rcases hb with ⟨x, e, h1, h2⟩ | h
    · rw [e]
      by_cases hx : x ∈ w
      · exact .inl fun y hy => by rw [List.mem_singleton.mp hy]; exact hx
      · exact .inr (.inr fun y hy => by rw [List.mem_singleton.mp hy]; exact hx)
    · exact L.lam _ h w hw
  have cond : ∀ w ∈ grp, ((b0 :: r).length < w.length ∧ (b0 :: r).headD 0 ∈ w) ↔ ((∀ x ∈ b0 :: r, x ∈ w) ∧ w ≠ b0 :: r) := fun w hw => by
    have aw := (L.row w hw).1
    constructor
    · rintro ⟨h1, h2⟩
      refine ⟨?_, fun e => by rw [e] at h1; exact absurd h1 (Nat.lt_irrefl _)⟩
      rcases three w hw with h | h | h
      · exact h
      · exact absurd (nodup_len (asc_nodup aw) h) (by omega)
      · exact absurd h2 (h b0 List.mem_cons_self)
    · rintro ⟨h1, h2⟩
      refine ⟨?_, h1 b0 List.mem_cons_self⟩
      have h3 := nodup_len (asc_nodup b1) h1
      rcases Nat.lt_or_eq_of_le h3 with h | h
      · exact h
      · exact absurd (asc_len_eq b1 aw h1 (by omega)).symm h2
  have ext_t : ∀ w, ((b0 :: r).length < w.length ∧ (b0 :: r).headD 0 ∈ w) → extG (b0 :: r) p w = w ++ [p] := fun w h => if_pos h
  have ext_f : ∀ w, ¬ ((b0 :: r).length < w.length ∧ (b0 :: r).headD 0 ∈ w) → extG (b0 :: r) p w = w := fun w h => if_neg h
  have pn : ∀ w ∈ grp, p ∉ w := fun w hw h => absurd (lt w hw p h) (by omega)
  have pb : p ∉ b0 :: r := fun h => absurd (b3 p h).2 (by omega)
  have memE : ∀ w ∈ grp, ∀ x, x ∈ extG (b0 :: r) p w → x ∈ w ∨ (x = p ∧ (b0 :: r).length < w.length ∧ (b0 :: r).headD 0 ∈ w) := fun w hw x hx => by
    by_cases h : (b0 :: r).length < w.length ∧ (b0 :: r).headD 0 ∈ w
    · rw [ext_t w h] at hx
      rcases List.mem_append.mp hx with hx | hx
      · exact .inl hx
      · exact .inr ⟨List.mem_singleton.mp hx, h⟩
    · rw [ext_f w h] at hx
      exact .inl hx
  have subE : ∀ w x, x ∈ w → x ∈ extG (b0 :: r) p w := fun w x hx => by
    unfold extG
    split
    · exact List.mem_append_left _ hx
    · exact hx
  have ascP : ∀ w : List Int, w.Pairwise (· < ·) → (∀ x ∈ w, x < p) → (w ++ [p]).Pairwise (· < ·) := fun w h1 h2 => List.pairwise_append.mpr ⟨h1, List.pairwise_singleton _ _, fun x hx y hy => by rw [List.mem_singleton.mp hy]; exact h2 x hx⟩
  have inS : ∀ x : Int, 0 ≤ x → x ≤ p → x ∈ comp (n + 2) := fun x h1 h2 => mem_comp.mpr ⟨h1, by omega⟩
  have hp0 : 0 ≤ p := by omega
  refine ⟨comp_asc _, ?_, fun g hg => ?_, ?_⟩
  · refine List.nodup_append.mpr ⟨?_, List.nodup_cons.mpr ⟨List.not_mem_nil, List.nodup_nil⟩, fun g hg h hh e => ?_⟩
    · refine nodup_map_on L.nd ?_
      intro w hw w' hw' e
      by_cases h : (b0 :: r).length < w.length ∧ (b0 :: r).headD 0 ∈ w <;> by_cases h' : (b0 :: r).length < w'.length ∧ (b0 :: r).headD 0 ∈ w'
      · rw [ext_t w h, ext_t w' h'] at e
        exact List.append_cancel_right e
      · rw [ext_t w h, ext_f w' h'] at e
        exact absurd (by rw [← e]; exact List.mem_append_right _ List.mem_cons_self : p ∈ w') (pn w' hw')
      · rw [ext_f w h, ext_t w' h'] at e
        exact absurd (by rw [e]; exact List.mem_append_right _ List.mem_cons_self : p ∈ w) (pn w hw)
      · rw [ext_f w h, ext_f w' h'] at e
        exact e
    · obtain ⟨w, hw, rfl⟩ := List.mem_map.mp hg
      rw [List.mem_singleton.mp hh] at e
      have hp1 : p ∈ extG (b0 :: r) p w := by rw [e]; exact List.mem_append_right _ List.mem_cons_self
      rcases memE w hw p hp1 with h | ⟨_, h⟩
      · exact pn w hw h
      · rw [ext_t w h] at e
        exact ((cond w hw).mp h).2 (List.append_cancel_right e)
  · rcases List.mem_append.mp hg with hg | hg
    · obtain ⟨w, hw, rfl⟩ := List.mem_map.mp hg
      obtain ⟨r1, r2, r3⟩ := L.row w hw
      refine ⟨?_, ?_, fun x hx => ?_⟩
      · unfold extG
        split
        · exact ascP w r1 (lt w hw)
        · exact r1
      · unfold extG
        split
        · rw [List.length_append]; omega
        · exact r2
      · rcases memE w hw x hx with h | ⟨h, _⟩
        · exact inS x (ge w hw x h) (by have := lt w hw x h; omega)
        · rw [h]; exact inS p hp0 (Int.le_refl _)
    · rw [List.mem_singleton.mp hg]
      refine ⟨ascP _ b1 fun x hx => (b3 x hx).2, by rw [List.length_append]; simp, fun x hx => ?_⟩
      rcases List.mem_append.mp hx with h | h
      · exact inS x (b3 x h).1 (by have := (b3 x h).2; omega)
      · rw [List.mem_singleton.mp h]; exact inS p hp0 (Int.le_refl _)
  · have c1 : ∀ w ∈ grp, ∀ w' ∈ grp, (∀ x ∈ extG (b0 :: r) p w, x ∈ extG (b0 :: r) p w') ∨ (∀ x ∈ extG (b0 :: r) p w', x ∈ extG (b0 :: r) p w) ∨ ∀ x ∈ extG (b0 :: r) p w, x ∉ extG (b0 :: r) p w' := by
      have key : ∀ w ∈ grp, ∀ w' ∈ grp, (∀ x ∈ w, x ∈ w') → ∀ x ∈ extG (b0 :: r) p w, x ∈ extG (b0 :: r) p w' := fun w hw w' hw' h x hx => by
        rcases memE w hw x hx with h1 | ⟨rfl, h1⟩
        · exact subE w' x (h x h1)
        · have h2 := (cond w hw).mp h1
          have h3 : ∀ x ∈ b0 :: r, x ∈ w' := fun x hx => h x (h2.1 x hx)
          have h4 : w' ≠ b0 :: r := fun e => by
            rw [e] at h
            exact absurd (nodup_len (asc_nodup (L.row w hw).1) h) (by have := h1.1; omega)
          rw [ext_t w' ((cond w' hw').mpr ⟨h3, h4⟩)]
          exact List.mem_append_right _ List.mem_cons_self
      intro w hw w' hw'
      rcases L.lam w hw w' hw' with h | h | h
      · exact .inl (key w hw w' hw' h)
      · exact .inr (.inl (key w' hw' w hw h))
      · refine .inr (.inr fun x hx hx' => ?_)
        rcases memE w hw x hx with h1 | ⟨e1, h1⟩ <;> rcases memE w' hw' x hx' with h2 | ⟨e2, h2⟩
        · exact h x h1 h2
        · rw [e2] at h1; exact pn w hw h1
        · rw [e1] at h2; exact pn w' hw' h2
        · exact h b0 (((cond w hw).mp h1).1 b0 List.mem_cons_self) (((cond w' hw').mp h2).1 b0 List.mem_cons_self)
    have c2 : ∀ w ∈ grp, (∀ x ∈ extG (b0 :: r) p w, x ∈ (b0 :: r) ++ [p]) ∨ (∀ x ∈ (b0 :: r) ++ [p], x ∈ extG (b0 :: r) p w) ∨ ∀ x ∈ extG (b0 :: r) p w, x ∉ (b0 :: r) ++ [p] := fun w hw => by
      by_cases h : (b0 :: r).length < w.length ∧ (b0 :: r).headD 0 ∈ w
      · rw [ext_t w h]
        refine .inr (.inl fun x hx => ?_)
        rcases List.mem_append.mp hx with hx | hx
        · exact List.mem_append_left _ (((cond w hw).mp h).1 x hx)
        · exact List.mem_append_right _ hx
      · rw [ext_f w h]
        have h' := fun z => h ((cond w hw).mpr z)
        rcases three w hw with h1 | h1 | h1
        · have e : w = b0 :: r := Classical.byContradiction fun z => h' ⟨h1, z⟩
          exact .inl fun x hx => List.mem_append_left _ (by rw [← e]; exact hx)
        · exact .inl fun x hx => List.mem_append_left _ (h1 x hx)
        · refine .inr (.inr fun x hx hx' => ?_)
          rcases List.mem_append.mp hx' with h2 | h2
          · exact h1 x h2 hx
          · rw [List.mem_singleton.mp h2] at hx; exact pn w hw hx
    intro g hg h hh
    rcases List.mem_append.mp hg with hg | hg <;> rcases List.mem_append.mp hh with hh | hh
    · obtain ⟨w, hw, rfl⟩ := List.mem_map.mp hg
      obtain ⟨w', hw', rfl⟩ := List.mem_map.mp hh
      exact c1 w hw w' hw'
    · obtain ⟨w, hw, rfl⟩ := List.mem_map.mp hg
      rw [List.mem_singleton.mp hh]
      exact c2 w hw
    · obtain ⟨w, hw, rfl⟩ := List.mem_map.mp hh
      rw [List.mem_singleton.mp hg]
      rcases c2 w hw with z | z | z
      · exact .inr (.inl z)
      · exact .inl z
      · exact .inr (.inr fun x hx hx' => z x hx' hx)
    · rw [List.mem_singleton.mp hg, List.mem_singleton.mp hh]
      exact .inl fun x hx => hx
def allG (l : List Int) : List (List Int) := l.foldl stepG []
theorem allG_len (l : List Int) : (allG l).length = l.length := by
  have : ∀ (l : List Int) (g : List (List Int)), (l.foldl stepG g).length = g.length + l.length := by
    intro l
    induction l with
    | nil => intro g; rfl
    | cons x r ih => intro g; rw [List.foldl_cons, ih, stepG_len, List.length_cons]; omega
  have := this l []
  simpa [allG] using this
/-- items that may stand at their places, the first one at place i -/
def okItems (i : Nat) : List Int → Prop
  | [] => True
  | x :: r => 0 - ((i + 1 : Nat) : Int) < x ∧ x < ((i + 1 : Nat) : Int) ∧ okItems (i + 1) r
theorem lam_nil : Lam (comp 1) [] := ⟨comp_asc 1, List.nodup_nil, (fun _ h => nomatch h), fun _ h => nomatch h⟩
theorem base_ok {grp : List (List Int)} {x : Int} (h1 : 0 - ((grp.length + 1 : Nat) : Int) < x) (h2 : x < ((grp.length + 1 : Nat) : Int)) : (∃ y : Int, baseG grp x = [y] ∧ 0 ≤ y ∧ y < (grp.length + 1 : Nat)) ∨ baseG grp x ∈ grp := by
  unfold baseG
  by_cases h : 0 ≤ x
  · rw [if_pos h]; exact .inl ⟨x, rfl, h, h2⟩
  · rw [if_neg h]
    have hl : (0 - x - 1).toNat < grp.length := by omega
    rw [List.getD_eq_getElem?_getD, List.getElem?_eq_getElem hl]
    exact .inr (List.getElem_mem hl)
theorem lam_all : ∀ (l : List Int) (grp : List (List Int)), Lam (comp (grp.length + 1)) grp → okItems grp.length l → Lam (comp (grp.length + l.length + 1)) (l.foldl stepG grp)
  | [], grp, L, _ => L
  | x :: r, grp, L, ⟨h1, h2, h3⟩ => by
    have L2 := lam_step (n := grp.length) L (base_ok h1 h2)
    have e := stepG_len grp x
    have := lam_all r (stepG grp x) (by rw [e]; exact L2) (by rw [e]; exact h3)
    rw [e] at this
    rw [List.foldl_cons, List.length_cons, show grp.length + (r.length + 1) + 1 = grp.length + 1 + r.length + 1 by omega]
    exact this
theorem groups_nest {l : List Int} (h : okItems 0 l) : ∃ t : Nest, t.Of (l.length + 1) ∧ t.lots = sR (allG l) := by
  have L : Lam (comp (l.length + 1)) (allG l) := by
    have := lam_all l [] lam_nil h
    rwa [List.length_nil, Nat.zero_add] at this
  have hl := allG_len l
  have hc : comp (l.length + 1) ≠ [] := fun e => by
    have := comp_len (l.length + 1)
    rw [e] at this
    cases this
  have F := (lam_full (l.length + 1) (comp (l.length + 1)) (allG l) (by rw [comp_len]; exact Nat.le_refl _) hc L).2 (by rw [hl, comp_len])
  have hs : (sR (allG l)).length = l.length := by rw [len_sR, hl]
  have nd : (sR (allG l)).Nodup := (sR_perm _).nodup_iff.mpr L.nd
  have F2 : Full (comp ((sR (allG l)).length + 1)) (sR (allG l)) := by
    rw [hs]
    obtain ⟨t, a, b, c⟩ := F
    exact ⟨t, a, b, fun g => mem_sR.trans (c g)⟩
  obtain ⟨t, h1, h2⟩ := full_lots F2 nd (sR_ext nd L.nd fun x => mem_sR)
  rw [hs] at h1
  exact ⟨t, h1, h2⟩
end Nest
end J
namespace K33
open PySem PySem.Spec PyProof.Rows L2 J
theorem pick_pos {p q : STO} {a b c w : Int} (ha : 0 < a) (h0 : 0 < w) (hw : w < 2 ^ 200) : F__law_pick [tokD p.length, .int w] (p ++ pchC a b c :: q) = some (.int (a % w), p ++ pchC (a / w) b c :: q) := by
  refine fnD_rt (e1 := [.sh (tokD p.length), .sh (.int w), .sh (.int (a % w)), .no]) (s1 := p ++ pchC (a / w) b c :: q) ?_ (fin_len _ (by rw [List.length_append, List.length_append]; rfl))
  unfold b__law_pick
  have hwa : w.natAbs < 2 ^ 250 := by omega
  refine sSeq_rt (sIf_t (bT_ok (eBin_ok (eIdx_ok (eVar_ok rfl) eC_ok (ix_tok rfl)) eC_ok (dGt_t ha))) ?_)
  refine sSeq_nx (sSet_ok (eBin_ok (eOp_ok (aC_ok (eIdx_ok (eVar_ok rfl) eC_ok (ix_tok rfl)) aN_ok) rfl) (eVar_ok rfl) (dMod_ok h0))) ?_
  refine sSeq_nx (sSto_ok (eBin_ok (eIdx_ok (eVar_ok rfl) eC_ok (ix_tok rfl)) (eVar_ok rfl) (dFdiv_ok h0 hwa)) (eVar_ok rfl) eC_ok mid_cell rfl) ?_
  rw [mid_set]
  exact sSeq_rt (sRet_ok (eVar_ok rfl))
theorem pick_mix {p q : STO} {b c w : Int} (hb : 0 ≤ b) (hb2 : b < 2 ^ 200) (hc : 0 ≤ c) (hc2 : c < 2 ^ 60) (h0 : 0 < w) (hw : w < 2 ^ 200) : ∃ v, 0 ≤ v ∧ v < w ∧ F__law_pick [tokD p.length, .int w] (p ++ pchC 0 b c :: q) = some (.int v, p ++ pchC 0 b (c + 1) :: q) := by
  have k40 : dAdd (.int ((10 : Int) ^ (40 : Int).toNat)) (.int 121) = some (.int (10 ^ 40 + 121)) := rfl
  have k39 : dAdd (.int ((10 : Int) ^ (39 : Int).toNat)) (.int 3) = some (.int (10 ^ 39 + 3)) := rfl
  obtain ⟨m1, e1⟩ : ∃ m1, m1 = (b + 32416187567 * (c + 1)) ^ (3 : Int).toNat % (10 ^ 40 + 121) := ⟨_, rfl⟩
  have g1 : 0 ≤ m1 ∧ m1 < 10 ^ 40 + 121 := by rw [e1]; exact ⟨Int.emod_nonneg _ (by decide), Int.emod_lt_of_pos _ (by decide)⟩
  obtain ⟨m2, e2⟩ : ∃ m2, m2 = (m1 + 27644437 * (c + 1)) ^ (3 : Int).toNat % (10 ^ 39 + 3) := ⟨_, rfl⟩
  refine ⟨m2 / 16381 % w, Int.emod_nonneg _ (by omega), Int.emod_lt_of_pos _ h0, ?_⟩
  refine fnD_rt (e1 := [.sh (tokD p.length), .sh (.int w), .no, .sh (.int m2)]) (s1 := p ++ pchC 0 b (c + 1) :: q) ?_ (fin_len _ (by rw [List.length_append, List.length_append]; rfl))
  unfold b__law_pick
  refine sSeq_nx (sIf_f (bT_ok (eBin_ok (eIdx_ok (eVar_ok rfl) eC_ok (ix_tok rfl)) eC_ok (dGt_f (by decide)))) rfl) ?_
  refine sSeq_nx (sSto_ok (eBin_ok (eIdx_ok (eVar_ok rfl) eC_ok (ix_tok rfl)) eC_ok rfl) (eVar_ok rfl) eC_ok mid_cell rfl) ?_
  rw [mid_set]
  refine sSeq_nx (sSet_ok (eBin_ok (eOp_ok (aC_ok (eBin_ok (eBin_ok (eIdx_ok (eVar_ok rfl) eC_ok (ix_tok rfl)) (eBin_ok eC_ok (eIdx_ok (eVar_ok rfl) eC_ok (ix_tok rfl)) (dMul_ok (by decide) (by omega))) rfl) eC_ok (dPow_ok (by omega) (by decide))) aN_ok) rfl) (eBin_ok (eBin_ok eC_ok eC_ok (dPow_ok (by decide) (by decide))) eC_ok k40) (dMod_ok (by decide)))) ?_
  rw [← e1]
  refine sSeq_nx (sSet_ok (eBin_ok (eOp_ok (aC_ok (eBin_ok (eBin_ok (eVar_ok rfl) (eBin_ok eC_ok (eIdx_ok (eVar_ok rfl) eC_ok (ix_tok rfl)) (dMul_ok (by decide) (by omega))) rfl) eC_ok (dPow_ok (by omega) (by decide))) aN_ok) rfl) (eBin_ok (eBin_ok eC_ok eC_ok (dPow_ok (by decide) (by decide))) eC_ok k39) (dMod_ok (by decide)))) ?_
  rw [← e2]
  exact sSeq_rt (sRet_ok (eBin_ok (eOp_ok (aC_ok (eBin_ok (eVar_ok rfl) eC_ok (dFdiv_ok (by decide) (by decide))) aN_ok) rfl) (eVar_ok rfl) (dMod_ok h0)))
theorem pick_eq {n : Nat} {p q s : STO} (h : Good n p q s) (hn : n < 2 ^ 50) {w : Int} (h0 : 0 < w) (hw : w < 2 ^ 200) : ∃ v s', F__law_pick [tokD p.length, .int w] s = some (.int v, s') ∧ 0 ≤ v ∧ v < w ∧ Good (n + 1) p q s' := by
  obtain ⟨a, b, c, rfl, h1, h2, h3, h4, h5⟩ := h
  by_cases ha : 0 < a
  · exact ⟨_, _, pick_pos ha h0 hw, Int.emod_nonneg _ (by omega), Int.emod_lt_of_pos _ h0, _, _, _, rfl, Int.ediv_nonneg h1 (by omega), h2, h3, h4, by omega⟩
  · have ha : a = 0 := by omega
    subst ha
    obtain ⟨v, g1, g2, g3⟩ := pick_mix (p := p) (q := q) h2 h3 h4 (c := c) (by omega) h0 hw
    exact ⟨v, _, g3, g1, g2, _, _, _, rfl, by omega, h2, h3, by omega, by omega⟩
theorem store_eq (ns : List Int) (i : Nat) (hi : i < 100) (hl : ns.length < 1000) (s : STO) : ∃ ds, F__law_store [skD (ns.map PyData.int), .int i] s = some (.list ds, s) ∧ ds.all isScal = true ∧ ∀ p q, Good 0 p q (p ++ .lst ds :: q) := by
  obtain ⟨cell, hc, hc0⟩ : ∃ cell : Int, eIf (bT (eBin dLt (eVar 1) (eOp cLen (aC (eVar 0) aN)))) (eOp cAbs (aC (eIdx (eVar 0) (eVar 1)) aN)) (eC (.int 0)) (see [] [.sh (skD (ns.map PyData.int)), .sh (.int i), .no]) s = some (.int cell, s) ∧ 0 ≤ cell := by
    by_cases h : i < ns.length
    · refine ⟨if ns[i] < 0 then -ns[i] else ns[i], eIf_t (bT_ok (eBin_ok (eVar_ok rfl) (eOp_ok (aC_ok (eVar_ok rfl) aN_ok) rfl) (dLt_t ?_))) (eOp_ok (ds := [.int ns[i]]) (aC_ok (eIdx_ok (eVar_ok rfl) (eVar_ok rfl) (atI_nat rfl ?_)) aN_ok) rfl), by split <;> omega⟩
      · rw [List.length_map]; omega
      · rw [List.getElem?_map, List.getElem?_eq_getElem h]; rfl
    · refine ⟨0, eIf_f (bT_ok (eBin_ok (eVar_ok rfl) (eOp_ok (aC_ok (eVar_ok rfl) aN_ok) rfl) (dLt_f ?_))) rfl, Int.le_refl _⟩
      rw [List.length_map]; omega
  have k18 : dPow (.int 10) (.int 18) = some (.int (10 ^ 18)) := dPow_ok (by decide) (by decide)
  have k37 : dPow (.int 10) (.int 37) = some (.int (10 ^ 37)) := dPow_ok (by decide) (by decide)
  obtain ⟨m, e1⟩ : ∃ m, m = cell % (10 ^ 37 + 43) := ⟨_, rfl⟩
  have g1 : 0 ≤ m ∧ m < 10 ^ 37 + 43 := by rw [e1]; exact ⟨Int.emod_nonneg _ (by decide), Int.emod_lt_of_pos _ (by decide)⟩
  have hmod : dMod (.int cell) (.int (10 ^ 37 + 43)) = some (.int m) := by rw [e1]; exact dMod_ok (by decide)
  obtain ⟨a, ha, ha0⟩ : ∃ a : Int, cMax [.int 0, .int (cell - 10 ^ 18)] = some (.int a) ∧ 0 ≤ a := by
    refine ⟨_, rfl, ?_⟩
    split <;> omega
  refine ⟨[.int a, .int (m * 83 + 7 * (i : Int)), .int 0], ?_, rfl, fun p q => ⟨a, _, 0, rfl, ha0, by omega, by omega, by omega, by omega⟩⟩
  refine fnD_rt (e1 := [.sh (skD (ns.map PyData.int)), .sh (.int i), .sh (.int cell)]) (s1 := s) ?_ (fin_self _ _)
  unfold b__law_store
  refine sSeq_nx (sSet_ok hc) (sSeq_rt (sRet_ok (eLst_ok (aC_ok (eOp_ok (aC_ok eC_ok (aC_ok (eBin_ok (eVar_ok rfl) (eBin_ok eC_ok eC_ok k18) rfl) aN_ok)) ha) (aC_ok (eBin_ok (eBin_ok (eBin_ok (eOp_ok (aC_ok (eVar_ok rfl) aN_ok) rfl) (eBin_ok (eBin_ok eC_ok eC_ok k37) eC_ok rfl) hmod) eC_ok (dMul_ok (by omega) (by decide))) (eBin_ok eC_ok (eVar_ok rfl) (dMul_ok (by decide) (by omega))) rfl) (aC_ok eC_ok aN_ok))))))
end K33
namespace K33
open PySem PySem.Spec PyProof.Rows L2 J
theorem okItems_snoc : ∀ (l : List Int) (i : Nat) (v : Int), Nest.okItems i l → 0 - (i + l.length + 1 : Int) < v → v < i + l.length + 1 → Nest.okItems i (l ++ [v])
  | [], i, v, _, h1, h2 => ⟨by simp at h1 ⊢; omega, by simp at h2 ⊢; omega, trivial⟩
  | x :: r, i, v, h, h1, h2 => ⟨h.1, h.2.1, okItems_snoc r (i + 1) v h.2.2 (by simp at h1 ⊢; omega) (by simp at h2 ⊢; omega)⟩
theorem okItems_set : ∀ (l : List Int) (i m : Nat) (v : Int), Nest.okItems i l → 0 - (i + m + 1 : Int) < v → v < i + m + 1 → Nest.okItems i (l.set m v)
  | [], i, m, v, h, _, _ => h
  | x :: r, i, 0, v, h, h1, h2 => ⟨by simp at h1 ⊢; omega, by simp at h2 ⊢; omega, h.2.2⟩
  | x :: r, i, m + 1, v, h, h1, h2 => ⟨h.1, h.2.1, okItems_set r (i + 1) m v h.2.2 (by simp at h1 ⊢; omega) (by simp at h2 ⊢; omega)⟩
theorem okItems_get : ∀ {l : List Int} {i m : Nat} {x : Int}, Nest.okItems i l → l[m]? = some x → 0 - (i + m + 1 : Int) < x ∧ x < i + m + 1
  | [], _, _, _, _, h => by simp at h
  | y :: r, i, 0, x, h, e => by simp at e; subst e; have h1 := h.1; have h2 := h.2.1; simp at h1 h2 ⊢; omega
  | y :: r, i, m + 1, x, h, e => by
    have := okItems_get (l := r) (i := i + 1) (m := m) h.2.2 (by simpa using e)
    simp at this ⊢; omega
abbrev envC (p : STO) (many way : Int) (found : List Int) (x y : Slot) : J.Env := [.sh (tokD p.length), .sh (.int many), .ow 1 (dI found), .sh (.int way), x, y]
theorem snocI (found : List Int) (v : Int) : PyData.list (found.map PyData.int ++ [PyData.int v]) = dI (found ++ [v]) := congrArg PyData.list (List.map_append (f := PyData.int) (l₁ := found) (l₂ := [v])).symm
theorem come_turn {many way who : Int} {found : List Int} {y : Slot} {n : Nat} {p q s : STO} (hg : Good n p q s) (hn : n < 2 ^ 49) (hf : 1 ≤ who ∧ who ≤ 1000) (hl : found.length ≤ 1000) :
    ∃ v s', l__law_come_1 (envC p many way found (.sh (.int who)) y) s = some (.nx, envC p many way (found ++ [v]) (.sh (.int who)) (.sh (.int v)), s') ∧ 0 - who < v ∧ v < who ∧ Good (n + 4) p q s' := by
  obtain ⟨v1, s1, e1, a1, b1, g1⟩ := pick_eq hg (by omega) (w := 2 * who - 1) (by omega) (by omega)
  -- the first choice
  have h1 : ∃ s2 u, sIf [] (aT (bT (eBin dEq (eVar 3) (eC (.int 1)))) (aT (bT (eBin dGt (eVar 4) (eC (.int 1)))) (bT (eBin dGt (eCall F__law_pick [0, 1] (aApp (aC (eVar 0) (aC (eC (.int 3)) aN)) aN)) (eC (.int 0)))))) (sSeq (sSet 5 0 [] (eBin dSub (eC (.int 1)) (eVar 4))) sNil) sNil (envC p many way found (.sh (.int who)) (.sh (.int (v1 - (who - 1))))) s1 = some (.nx, envC p many way found (.sh (.int who)) (.sh (.int u)), s2) ∧ 0 - who < u ∧ u < who ∧ Good (n + 2) p q s2 := by
    by_cases c1 : way = 1
    · by_cases c2 : 1 < who
      · obtain ⟨v2, s2, e2, a2, b2, g2⟩ := pick_eq g1 (by omega) (w := 3) (by omega) (by omega)
        have ev : eBin dGt (eCall F__law_pick [0, 1] (aApp (aC (eVar 0) (aC (eC (.int 3)) aN)) aN)) (eC (.int 0)) (see [] (envC p many way found (.sh (.int who)) (.sh (.int (v1 - (who - 1)))))) s1 = some (.bool (decide ((0 : Int) < v2)), s2) :=
          eBin_ok (eCall_ok (aApp_ok (aC_ok (eVar_ok rfl) (aC_ok eC_ok aN_ok)) aN_ok) e2) eC_ok rfl
        by_cases c3 : (0 : Int) < v2
        · rw [decide_eq_true c3] at ev
          exact ⟨s2, 1 - who, sIf_t (aT_t (bT_ok (eBin_ok (eVar_ok rfl) eC_ok (dEq_t c1))) (aT_t (bT_ok (eBin_ok (eVar_ok rfl) eC_ok (dGt_t c2))) (bT_ok ev))) (sSeq_nx (sSet_ok (eBin_ok eC_ok (eVar_ok rfl) rfl)) rfl), by omega, by omega, g2⟩
        · rw [decide_eq_false c3] at ev
          exact ⟨s2, v1 - (who - 1), sIf_f (aT_t (bT_ok (eBin_ok (eVar_ok rfl) eC_ok (dEq_t c1))) (aT_t (bT_ok (eBin_ok (eVar_ok rfl) eC_ok (dGt_t c2))) (bT_ok ev))) rfl, by omega, by omega, g2⟩
      · exact ⟨s1, v1 - (who - 1), sIf_f (aT_t (bT_ok (eBin_ok (eVar_ok rfl) eC_ok (dEq_t c1))) (aT_f (bT_ok (eBin_ok (eVar_ok rfl) eC_ok (dGt_f c2))))) rfl, by omega, by omega, g1.mono (by omega)⟩
    · exact ⟨s1, v1 - (who - 1), sIf_f (aT_f (bT_ok (eBin_ok (eVar_ok rfl) eC_ok (dEq_f c1)))) rfl, by omega, by omega, g1.mono (by omega)⟩
  obtain ⟨s2, u, k1, u1, u2, g2⟩ := h1
  have h2 : ∃ s3 z, sIf [] (aT (bT (eBin dEq (eVar 3) (eC (.int 2)))) (bT (eBin dGt (eCall F__law_pick [0, 1] (aApp (aC (eVar 0) (aC (eC (.int 3)) aN)) aN)) (eC (.int 0))))) (sSeq (sSet 5 0 [] (eCall F__law_pick [0, 1] (aApp (aC (eVar 0) (aC (eVar 4) aN)) aN))) sNil) sNil (envC p many way found (.sh (.int who)) (.sh (.int u))) s2 = some (.nx, envC p many way found (.sh (.int who)) (.sh (.int z)), s3) ∧ 0 - who < z ∧ z < who ∧ Good (n + 4) p q s3 := by
    by_cases c1 : way = 2
    · obtain ⟨v2, s3, e2, a2, b2, g3⟩ := pick_eq g2 (by omega) (w := 3) (by omega) (by omega)
      have ev : eBin dGt (eCall F__law_pick [0, 1] (aApp (aC (eVar 0) (aC (eC (.int 3)) aN)) aN)) (eC (.int 0)) (see [] (envC p many way found (.sh (.int who)) (.sh (.int u)))) s2 = some (.bool (decide ((0 : Int) < v2)), s3) :=
        eBin_ok (eCall_ok (aApp_ok (aC_ok (eVar_ok rfl) (aC_ok eC_ok aN_ok)) aN_ok) e2) eC_ok rfl
      by_cases c3 : (0 : Int) < v2
      · rw [decide_eq_true c3] at ev
        obtain ⟨v3, s4, e3, a3, b3, g4⟩ := pick_eq g3 (by omega) (w := who) (by omega) (by omega)
        exact ⟨s4, v3, sIf_t (aT_t (bT_ok (eBin_ok (eVar_ok rfl) eC_ok (dEq_t c1))) (bT_ok ev)) (sSeq_nx (sSet_ok (eCall_ok (aApp_ok (aC_ok (eVar_ok rfl) (aC_ok (eVar_ok rfl) aN_ok)) aN_ok) e3)) rfl), by omega, by omega, g4⟩
      · rw [decide_eq_false c3] at ev
        exact ⟨s3, u, sIf_f (aT_t (bT_ok (eBin_ok (eVar_ok rfl) eC_ok (dEq_t c1))) (bT_ok ev)) rfl, u1, u2, g3.mono (by omega)⟩
    · exact ⟨s2, u, sIf_f (aT_f (bT_ok (eBin_ok (eVar_ok rfl) eC_ok (dEq_f c1)))) rfl, u1, u2, g2.mono (by omega)⟩
  obtain ⟨s3, z, k2, z1, z2, g3⟩ := h2
  refine ⟨z, s3, ?_, z1, z2, g3⟩
  unfold l__law_come_1
  refine sSeq_nx (sSet_ok (d := .int (v1 - (who - 1))) (s1 := s1) (eBin_ok (eCall_ok (aApp_ok (aC_ok (eVar_ok rfl) (aC_ok (eBin_ok (eBin_ok eC_ok (eVar_ok rfl) (dMul_ok (by decide) (by omega))) eC_ok rfl) aN_ok)) aN_ok) e1) (eBin_ok (eVar_ok rfl) eC_ok rfl) rfl)) ?_
  refine sSeq_nx (e1 := envC p many way found (.sh (.int who)) (.sh (.int u))) (s1 := s2) k1 ?_
  refine sSeq_nx (e1 := envC p many way found (.sh (.int who)) (.sh (.int z))) (s1 := s3) k2 ?_
  refine sSeq_nx (sApp_ok (d := .int z) (s1 := s3) (ds := found.map PyData.int) (eVar_ok rfl) rfl (by rw [List.length_map]; omega)) ?_
  exact congrArg (fun d => some (Out.nx, ([.sh (tokD p.length), .sh (.int many), .ow 1 d, .sh (.int way), .sh (.int who), .sh (.int z)] : J.Env), s3)) (snocI found z)
theorem rgD_one (k m : Nat) : rgD ((k : Int) + 1) 1 (m + 1) = .int ((k : Int) + 1) :: rgD (((k + 1 : Nat) : Int) + 1) 1 m := by
  unfold rgD
  rw [List.range_succ_eq_map, List.map_cons, List.map_map]
  refine congr (congrArg _ ?_) (List.map_congr_left fun i _ => ?_)
  · simp
  · simp only [Function.comp]
    congr 1
    omega
theorem come_loop {p q : STO} {many way : Int} : ∀ (k : Nat) (found : List Int) (x y : Slot) (n : Nat) (s : STO), Good n p q s → n + 4 * k < 2 ^ 48 → found.length + k ≤ 500 → Nest.okItems 0 found →
    ∃ l x' y' s', forL (bN 4) l__law_come_1 (rgD ((found.length : Int) + 1) 1 k) (envC p many way found x y) s = some (.nx, envC p many way (found ++ l) x' y', s') ∧ l.length = k ∧ Nest.okItems 0 (found ++ l) ∧ Good (n + 4 * k) p q s'
  | 0, found, x, y, n, s, hg, _, _, ho => ⟨[], x, y, s, by rw [List.append_nil]; rfl, rfl, by rwa [List.append_nil], hg⟩
  | k + 1, found, x, y, n, s, hg, hn, hl, ho => by
    obtain ⟨v, s1, e1, h1, h2, g1⟩ := come_turn (many := many) (way := way) (who := (found.length : Int) + 1) (found := found) (y := y) hg (by omega) (by omega) (by omega)
    have ho1 := okItems_snoc found 0 v ho (by simp; omega) (by simp; omega)
    obtain ⟨l, x2, y2, s2, e2, h3, h4, g2⟩ := come_loop k (found ++ [v]) (.sh (.int ((found.length : Int) + 1))) (.sh (.int v)) (n + 4) s1 g1 (by omega) (by simp; omega) ho1
    refine ⟨v :: l, x2, y2, s2, ?_, by simp [h3], by rw [List.append_cons]; exact h4, by rw [show n + 4 * (k + 1) = n + 4 + 4 * k by omega]; exact g2⟩
    rw [rgD_one]
    have e3 : (((found ++ [v]).length : Nat) : Int) = ((found.length + 1 : Nat) : Int) := by simp
    rw [e3, List.append_assoc] at e2
    exact forL_cons (by simp) rfl e1 e2
theorem come_eq {many : Nat} {n : Nat} {p q s : STO} (hg : Good n p q s) (hn : n < 2 ^ 47) (hm : 1 ≤ many ∧ many ≤ 20) : ∃ l s', F__law_come [tokD p.length, .int many] s = some (dI l, s') ∧ l.length + 1 = many ∧ Nest.okItems 0 l ∧ Good (n + 100) p q s' := by
  obtain ⟨v, s1, e1, a1, b1, g1⟩ := pick_eq hg (by omega) (w := 3) (by omega) (by omega)
  obtain ⟨l, x2, y2, s2, e2, h3, h4, g2⟩ := come_loop (many := many) (way := v) (many - 1) [] .no .no (n + 1) s1 g1 (by omega) (by simp; omega) trivial
  rw [List.nil_append] at e2 h4
  refine ⟨l, s2, ?_, by omega, h4, g2.mono (by omega)⟩
  refine fnD_rt (e1 := envC p many v l x2 y2) (s1 := s2) ?_ (hg.fin g2 _)
  unfold b__law_come
  refine sSeq_nx (sPar_ok (eLst_ok aN_ok) (eCall_ok (aApp_ok (aC_ok (eVar_ok rfl) (aC_ok eC_ok aN_ok)) aN_ok) e1)) (sSeq_nx (e1 := envC p many v l x2 y2) (s1 := s2) (sFor0_ok (ds := rgD ((([] : List Int).length : Int) + 1) 1 (many - 1)) (s1 := s1) (iB_ok eC_ok (eVar_ok rfl) ?_) e2) (sSeq_rt (sRet_ok (eVar_ok rfl))))
  rw [rg2_eq, if_pos ⟨inRg_nat (n := 1) (by omega), inRg_nat (by omega)⟩]
  rw [show (((many : Int) - 1)).toNat = many - 1 by omega]
  rfl
end K33
namespace K33
open PySem PySem.Spec PyProof.Rows L2 J
/-- cells of whole numbers and texts -/
def clean (s : STO) : Prop := plainS s ∧ s.all scalCell = true
theorem clean_nil : clean [] := ⟨plainS_nil, rfl⟩
theorem good_clean {n : Nat} {p q s : STO} (h : Good n p q s) (hp : clean p) (hq : clean q) : clean s := by
  refine ⟨h.plain hp.1 hq.1, ?_⟩
  obtain ⟨a, b, c, rfl, _⟩ := h
  rw [List.all_append, List.all_cons, hp.2, hq.2]
  rfl
theorem fzIf_scal {d : D} {M : List Nat} {s : STO} {env : J.Env} (h : isScal d = true) (hs : s.all scalCell = true) : fzIf 0 d M s env = env := by
  unfold fzIf
  rw [if_pos]
  rw [Bool.and_eq_true, full_zero]
  exact ⟨h, by unfold okM; rw [hs, Bool.or_true]⟩
theorem sStoS_ok {i m : Nat} {n : Int} {f fv : Ev} {env : J.Env} {s s1 s2 : STO} {d : D} {ds : List D} (h1 : fv (see [] env) s = some (d, s1)) (h2 : f (see [] env) s1 = some (.int n, s2)) (h3 : env[i]? = some (.ow 1 (.list ds))) (h4 : ixN ds.length n = some m) : sStoS i [] f fv env s = some (.nx, env.set i (.ow 1 (.list (ds.set m d))), s2) := by
  unfold sStoS
  rw [h1, Option.bind_some, h2, Option.bind_some]
  simp only
  rw [fzIf_nil, h3]
  simp only
  rw [h4]
  rfl
theorem dNe_nilI (l : List Int) : dNe (dI l) (.list []) = some (.bool (decide (l ≠ []))) := by
  have := dNe_nil (es := l.map PyData.int) (shaped_dI l)
  rw [show (dI l) = .list (l.map PyData.int) from rfl, this]
  cases l <;> rfl
end K33
namespace K33
open PySem PySem.Spec PyProof.Rows L2 J
theorem cLen_dI (l : List Int) : cLen [dI l] = some (.int (l.length : Nat)) := by show some (PyData.int ((l.map PyData.int).length : Nat)) = _; rw [List.length_map]
theorem cLen_dL (l : List (List Int)) : cLen [dL l] = some (.int (l.length : Nat)) := by show some (PyData.int ((l.map dI).length : Nat)) = _; rw [List.length_map]
abbrev envG (j : Nat) (its : D) (pl : Int) (it : Slot) (base : List Int) (mk wd : Slot) : J.Env := [.sh its, .sh (tokD j), .sh (.int pl), it, .sh (dI base), mk, wd]
theorem group_turn {s : STO} {its : D} {pl : Int} {it wd : Slot} {b0 : Int} {r w : List Int} {done todo : List (List Int)} {p : Int} (hp : p = pl + 1) (hl : done.length + todo.length ≤ 1000) (hw : w.length ≤ 1000) :
    l__law_groups_1 (envG s.length its pl it (b0 :: r) (.sh (.int ((done.length + 1 : Nat) : Int))) wd) (s ++ [.dct false (gE 0 (done ++ w :: todo))]) =
      some (.nx, envG s.length its pl it (b0 :: r) (.sh (.int ((done.length + 1 : Nat) : Int))) (.sh (dI w)), s ++ [.dct false (gE 0 (done ++ Nest.extG (b0 :: r) p w :: todo))]) := by
  subst hp
  have hget : getE false (gE 0 (done ++ w :: todo)) (.int ((done.length + 1 : Nat) : Int)) = some (some (dI w)) := by
    show some (getK _ (.inl _)) = _
    have := gE_get (done ++ w :: todo) 0 done.length
    rw [show 0 + 1 + done.length = done.length + 1 by omega] at this
    rw [this, List.getElem?_append_right (Nat.le_refl _), Nat.sub_self]
    rfl
  have hgt : dGt (.int (w.length : Nat)) (.int ((b0 :: r).length : Nat)) = some (.bool (decide ((b0 :: r).length < w.length))) := by
    show some (PyData.bool (decide (((b0 :: r).length : Int) < (w.length : Int)))) = _
    rw [decide_eq_decide.mpr (Int.ofNat_lt (n := (b0 :: r).length) (m := w.length))]
  unfold l__law_groups_1
  refine sSeq_nx (sSet_ok (eDGet_ok (eVar_ok rfl) (eVar_ok rfl) (dEnt_tok last_get) hget)) ?_
  refine sSeq_nx (e1 := envG s.length its pl it (b0 :: r) (.sh (.int ((done.length + 1 : Nat) : Int))) (.sh (dI w))) (s1 := s ++ [.dct false (gE 0 (done ++ Nest.extG (b0 :: r) (pl + 1) w :: todo))]) ?_ rfl
  have t1 : ∀ S : STO, bT (eBin dGt (eOp cLen (aC (eVar 6) aN)) (eOp cLen (aC (eVar 4) aN))) (see [] (envG s.length its pl it (b0 :: r) (.sh (.int ((done.length + 1 : Nat) : Int))) (.sh (dI w)))) S = some (decide ((b0 :: r).length < w.length), S) := fun S =>
    bT_ok (eBin_ok (eOp_ok (aC_ok (eVar_ok rfl) aN_ok) (cLen_dI w)) (eOp_ok (aC_ok (eVar_ok rfl) aN_ok) (cLen_dI (b0 :: r))) hgt)
  have t2 : ∀ S : STO, bT (eBin dIn (eIdx (eVar 4) (eC (.int 0))) (eVar 6)) (see [] (envG s.length its pl it (b0 :: r) (.sh (.int ((done.length + 1 : Nat) : Int))) (.sh (dI w)))) S = some (decide (b0 ∈ w), S) := fun S =>
    bT_ok (eBin_ok (eIdx_ok (eVar_ok rfl) eC_ok (show dIdx _ (dI (b0 :: r)) (.int 0) = some (.int b0) from atI_nat (n := 0) (by omega) rfl)) (eVar_ok rfl) (dIn_int b0 w))
  by_cases c1 : (b0 :: r).length < w.length
  · have t1 := t1 (s ++ [.dct false (gE 0 (done ++ w :: todo))])
    rw [decide_eq_true c1] at t1
    by_cases c2 : b0 ∈ w
    · have t2 := t2 (s ++ [.dct false (gE 0 (done ++ w :: todo))])
      rw [decide_eq_true c2] at t2
      have he : Nest.extG (b0 :: r) (pl + 1) w = w ++ [pl + 1] := if_pos ⟨c1, c2⟩
      rw [he]
      refine sIf_t (aT_t t1 t2) ?_
      refine sSeq_nx (e1 := envG s.length its pl it (b0 :: r) (.sh (.int ((done.length + 1 : Nat) : Int))) (.sh (dI w))) (s1 := s ++ [.dct false (gE 0 (done ++ (w ++ [pl + 1]) :: todo))]) ?_ rfl
      have q : sDSto [] (eVar 1) (eVar 5) (eBin dAdd (eVar 6) (eLst (aC (eBin dAdd (eVar 2) (eC (.int 1))) aN))) (envG s.length its pl it (b0 :: r) (.sh (.int ((done.length + 1 : Nat) : Int))) (.sh (dI w))) (s ++ [.dct false (gE 0 (done ++ w :: todo))]) = some (.nx, envG s.length its pl it (b0 :: r) (.sh (.int ((done.length + 1 : Nat) : Int))) (.sh (dI w)), ((s ++ [.dct false (gE 0 (done ++ w :: todo))] : STO)).set s.length (.dct false (gE 0 (done ++ (w ++ [pl + 1]) :: todo)))) :=
        sDSto_ok (d := dI (w ++ [pl + 1])) (kd := .int ((done.length + 1 : Nat) : Int)) (es := gE 0 (done ++ w :: todo)) (s3 := s ++ [.dct false (gE 0 (done ++ w :: todo))]) (eBin_ok (eVar_ok rfl) (eLst_ok (aC_ok (eBin_ok (eVar_ok rfl) eC_ok rfl) aN_ok)) (dAdd_dI (b := [pl + 1]) (by simp; omega))) (eVar_ok rfl) (eVar_ok rfl) last_get (by rw [gE_len]; simp; omega) (by
          show some (putKD _ (.inl _) _) = _
          rw [gE_put rfl])
      rw [last_set] at q
      exact q
    · have t2 := t2 (s ++ [.dct false (gE 0 (done ++ w :: todo))])
      rw [decide_eq_false c2] at t2
      have he : Nest.extG (b0 :: r) (pl + 1) w = w := if_neg fun h => c2 h.2
      rw [he]
      exact sIf_f (aT_t t1 t2) rfl
  · have t1 := t1 (s ++ [.dct false (gE 0 (done ++ w :: todo))])
    rw [decide_eq_false c1] at t1
    have he : Nest.extG (b0 :: r) (pl + 1) w = w := if_neg fun h => c1 h.1
    rw [he]
    exact sIf_f (aT_f t1) rfl
theorem group_loop {s : STO} {its : D} {pl : Int} {it : Slot} {b0 : Int} {r : List Int} {p : Int} (hp : p = pl + 1) : ∀ (todo done : List (List Int)) (mk wd : Slot), done.length + todo.length ≤ 1000 → (∀ w ∈ todo, w.length ≤ 1000) →
    ∃ mk' wd', forL (bN 5) l__law_groups_1 ((List.range' (done.length + 1) todo.length).map fun i : Nat => PyData.int i) (envG s.length its pl it (b0 :: r) mk wd) (s ++ [.dct false (gE 0 (done ++ todo))]) =
      some (.nx, envG s.length its pl it (b0 :: r) mk' wd', s ++ [.dct false (gE 0 (done ++ todo.map (Nest.extG (b0 :: r) p)))])
  | [], done, mk, wd, _, _ => ⟨mk, wd, rfl⟩
  | w :: todo, done, mk, wd, hl, hw => by
    rw [List.length_cons] at hl
    have e1 := group_turn (s := s) (its := its) (it := it) (wd := wd) (b0 := b0) (r := r) (w := w) (done := done) (todo := todo) hp (by omega) (hw w List.mem_cons_self)
    obtain ⟨mk', wd', e2⟩ := group_loop (s := s) (its := its) (it := it) (b0 := b0) (r := r) hp todo (done ++ [Nest.extG (b0 :: r) p w]) (.sh (.int ((done.length + 1 : Nat) : Int))) (.sh (dI w)) (by simp; omega) fun x hx => hw x (List.mem_cons_of_mem _ hx)
    refine ⟨mk', wd', ?_⟩
    rw [List.append_assoc, List.append_assoc, show (done ++ [Nest.extG (b0 :: r) p w]).length = done.length + 1 by simp] at e2
    rw [List.length_cons, List.range'_succ, List.map_cons, List.map_cons]
    exact forL_cons (by simp) rfl e1 e2
theorem gE_base {grp : List (List Int)} {x : Int} (h1 : 0 - ((grp.length + 1 : Nat) : Int) < x) (hx : ¬ 0 ≤ x) : getE false (gE 0 grp) (.int (0 - x)) = some (some (dI (Nest.baseG grp x))) := by
  show some (getK _ (.inl _)) = _
  have := gE_get grp 0 (0 - x - 1).toNat
  rw [show ((0 + 1 + (0 - x - 1).toNat : Nat) : Int) = 0 - x by omega] at this
  unfold Nest.baseG
  rw [this, if_neg hx, List.getElem?_eq_getElem (by omega), List.getD_eq_getElem?_getD, List.getElem?_eq_getElem (by omega)]
  rfl
theorem groups_turn {s : STO} {its : D} {x : Int} {bs mk wd : Slot} {grp : List (List Int)} (L : Nest.Lam (comp (grp.length + 1)) grp) (hl : grp.length ≤ 20) (h1 : 0 - ((grp.length + 1 : Nat) : Int) < x) (h2 : x < ((grp.length + 1 : Nat) : Int)) :
    ∃ bs' mk' wd', l__law_groups_2 [.sh its, .sh (tokD s.length), .sh (.int (grp.length : Nat)), .sh (.int x), bs, mk, wd] (s ++ [.dct false (gE 0 grp)]) = some (.nx, [.sh its, .sh (tokD s.length), .sh (.int (grp.length : Nat)), .sh (.int x), bs', mk', wd'], s ++ [.dct false (gE 0 (Nest.stepG grp x))]) := by
  have hb := Nest.base_ok h1 h2
  obtain ⟨b0, r, hbr⟩ : ∃ b0 r, Nest.baseG grp x = b0 :: r := by
    cases e : Nest.baseG grp x with
    | nil =>
      rw [e] at hb
      rcases hb with ⟨y, z, _⟩ | hb
      · cases z
      · have := (L.row _ hb).2.1
        simp at this
    | cons b0 r => exact ⟨b0, r, rfl⟩
  have hlen : ∀ w ∈ grp, w.length ≤ 1000 := fun w hw => by
    have := nodup_len (asc_nodup (L.row w hw).1) (L.row w hw).2.2
    rw [comp_len] at this
    omega
  have hbl : (b0 :: r).length ≤ 1000 := by
    rw [hbr] at hb
    rcases hb with ⟨y, e, _⟩ | hb
    · rw [e]; simp
    · exact hlen _ hb
  obtain ⟨mk', wd', e2⟩ := group_loop (s := s) (its := its) (pl := (grp.length : Nat)) (it := .sh (.int x)) (b0 := b0) (r := r) (p := ((grp.length + 1 : Nat) : Int)) (by omega) grp [] mk wd (by simp; omega) hlen
  rw [List.nil_append, List.nil_append] at e2
  have hadd : dAdd (.int (grp.length : Nat)) (.int 1) = some (.int ((grp.length + 1 : Nat) : Int)) := by
    show some (PyData.int ((grp.length : Int) + 1)) = _
    rw [← Int.natCast_succ]
  refine ⟨.sh (dI (b0 :: r)), mk', wd', ?_⟩
  unfold l__law_groups_2
  refine sSeq_nx (e1 := envG s.length its (grp.length : Nat) (.sh (.int x)) (b0 :: r) mk wd) (s1 := s ++ [.dct false (gE 0 grp)]) ?_ ?_
  · refine (sSet_ok (d := dI (b0 :: r)) ?_).trans rfl
    rw [← hbr]
    by_cases hx : 0 ≤ x
    · refine eIf_t (bT_ok (eBin_ok (eVar_ok rfl) eC_ok (dGe_t hx))) ?_
      unfold Nest.baseG
      rw [if_pos hx]
      exact eLst_ok (aC_ok (eVar_ok rfl) aN_ok)
    · exact eIf_f (bT_ok (eBin_ok (eVar_ok rfl) eC_ok (dGe_f hx))) (eDGet_ok (eVar_ok rfl) (eBin_ok eC_ok (eVar_ok rfl) rfl) (dEnt_tok last_get) (gE_base h1 hx))
  · refine sSeq_nx (e1 := envG s.length its (grp.length : Nat) (.sh (.int x)) (b0 :: r) mk' wd') (s1 := s ++ [.dct false (gE 0 (grp.map (Nest.extG (b0 :: r) ((grp.length + 1 : Nat) : Int))))]) ?_ ?_
    · refine sFor_ok (ds := (List.range' 1 grp.length).map fun i : Nat => PyData.int i) (s1 := s ++ [.dct false (gE 0 grp)]) (iVal_l ?_) (by rw [fz, fzI_nil]; exact e2)
      have := eDKeys_ok (f := eVar 1) (vw := see [] (envG s.length its (grp.length : Nat) (.sh (.int x)) (b0 :: r) mk wd)) (s := s ++ [.dct false (gE 0 grp)]) (eVar_ok rfl) (dEnt_tok last_get)
      rw [gE_keys] at this
      exact this
    · refine sSeq_nx (e1 := envG s.length its (grp.length : Nat) (.sh (.int x)) (b0 :: r) mk' wd') (s1 := s ++ [.dct false (gE 0 (Nest.stepG grp x))]) ?_ rfl
      have q : sDSto [] (eVar 1) (eBin dAdd (eVar 2) (eC (.int 1))) (eBin dAdd (eVar 4) (eLst (aC (eBin dAdd (eVar 2) (eC (.int 1))) aN))) (envG s.length its (grp.length : Nat) (.sh (.int x)) (b0 :: r) mk' wd') (s ++ [.dct false (gE 0 (grp.map (Nest.extG (b0 :: r) ((grp.length + 1 : Nat) : Int))))]) = some (.nx, envG s.length its (grp.length : Nat) (.sh (.int x)) (b0 :: r) mk' wd', ((s ++ [.dct false (gE 0 (grp.map (Nest.extG (b0 :: r) ((grp.length + 1 : Nat) : Int))))] : STO)).set s.length (.dct false (gE 0 (Nest.stepG grp x)))) :=
        sDSto_ok (d := dI ((b0 :: r) ++ [((grp.length + 1 : Nat) : Int)])) (kd := .int ((grp.length + 1 : Nat) : Int)) (es := gE 0 (grp.map (Nest.extG (b0 :: r) ((grp.length + 1 : Nat) : Int)))) (s3 := s ++ [.dct false (gE 0 (grp.map (Nest.extG (b0 :: r) ((grp.length + 1 : Nat) : Int))))])
          (eBin_ok (eVar_ok rfl) (eLst_ok (aC_ok (eBin_ok (eVar_ok rfl) eC_ok hadd) aN_ok)) (dAdd_dI (b := [((grp.length + 1 : Nat) : Int)]) (by simp at hbl ⊢; omega))) (eVar_ok rfl) (eBin_ok (eVar_ok rfl) eC_ok hadd) last_get (by rw [gE_len]; simp; omega) (by
            show some (putKD _ (.inl _) _) = _
            rw [gE_new (by simp)]
            unfold Nest.stepG
            rw [hbr])
      rw [last_set] at q
      exact q
theorem groups_loop {s : STO} {its : D} : ∀ (l : List Int) (grp : List (List Int)) (a b bs mk wd : Slot), Nest.Lam (comp (grp.length + 1)) grp → grp.length + l.length ≤ 20 → Nest.okItems grp.length l →
    ∃ a' b' bs' mk' wd', forL (bT2 2 3) l__law_groups_2 (enD (l.map PyData.int) grp.length) [.sh its, .sh (tokD s.length), a, b, bs, mk, wd] (s ++ [.dct false (gE 0 grp)]) = some (.nx, [.sh its, .sh (tokD s.length), a', b', bs', mk', wd'], s ++ [.dct false (gE 0 (l.foldl Nest.stepG grp))])
  | [], grp, a, b, bs, mk, wd, _, _, _ => ⟨a, b, bs, mk, wd, rfl⟩
  | x :: r, grp, a, b, bs, mk, wd, L, hl, ⟨h1, h2, h3⟩ => by
    rw [List.length_cons] at hl
    obtain ⟨bs1, mk1, wd1, e1⟩ := groups_turn (s := s) (its := its) (bs := bs) (mk := mk) (wd := wd) L (by omega) h1 h2
    have L2 := Nest.lam_step (n := grp.length) L (Nest.base_ok h1 h2)
    have e := Nest.stepG_len grp x
    obtain ⟨a', b', bs', mk', wd', e2⟩ := groups_loop (s := s) (its := its) r (Nest.stepG grp x) (.sh (.int (grp.length : Nat))) (.sh (.int x)) bs1 mk1 wd1 (by rw [e]; exact L2) (by rw [e]; omega) (by rw [e]; exact h3)
    refine ⟨a', b', bs', mk', wd', ?_⟩
    rw [e] at e2
    show forL (bT2 2 3) l__law_groups_2 (.tuple [.int (grp.length : Nat), .int x] :: enD (r.map PyData.int) (grp.length + 1)) _ _ = _
    rw [forL]
    simp only [bT2, Option.bind_some]
    rw [if_pos ⟨by rfl, by rfl⟩]
    show ((l__law_groups_2 [.sh its, .sh (tokD s.length), .sh (.int (grp.length : Nat)), .sh (.int x), bs, mk, wd] (s ++ [.dct false (gE 0 grp)])).bind _) = _
    rw [e1]
    exact e2
theorem fin_drop {s : STO} {c : Cell} {d : D} (h : clean s) (ht : isTok d = none) (hd : tokLt s.length d = true) : fin s d (s ++ [c]) = some (d, s) := by
  have ht2 : thaw s.length d (s ++ [c]) = d := by unfold thaw; rw [ht]
  unfold fin
  rw [if_neg (by simp), ht2, List.take_append_of_le_length (Nat.le_refl _), List.take_of_length_le (Nat.le_refl _), if_pos ⟨hd, h.1 _⟩]
theorem tokLt_dL (n : Nat) (l : List (List Int)) : tokLt n (dL l) = true := by
  show tokLt n (.list (l.map dI)) = true
  rw [tokLt]
  induction l with
  | nil => rfl
  | cons g r ih => rw [List.map_cons, tokLtA, tokLt_dI, ih]; rfl
theorem groups_eq {l : List Int} (hl : l.length < 20) (ho : Nest.okItems 0 l) {s : STO} (hs : clean s) : ∃ t : Nest, t.Of (l.length + 1) ∧ F__law_groups [dI l] s = some (dL t.lots, s) := by
  obtain ⟨t, h1, h2⟩ := Nest.groups_nest ho
  refine ⟨t, h1, ?_⟩
  obtain ⟨a, b, bs, mk, wd, e1⟩ := groups_loop (s := s) (its := dI l) l [] .no .no .no .no .no Nest.lam_nil (by simp; omega) ho
  have hlen := Nest.allG_len l
  refine fnD_rt (d := dL t.lots) (e1 := [.sh (dI l), .sh (tokD s.length), a, b, bs, mk, wd]) (s1 := s ++ [.dct false (gE 0 (Nest.allG l))]) ?_ (fin_drop hs rfl (tokLt_dL _ _))
  unfold b__law_groups
  refine sSeq_nx (e1 := [.sh (dI l), .sh (tokD s.length), .no, .no, .no, .no, .no]) (s1 := s ++ [.dct false []]) sNewD_ok ?_
  refine sSeq_nx (e1 := [.sh (dI l), .sh (tokD s.length), a, b, bs, mk, wd]) (s1 := s ++ [.dct false (gE 0 (Nest.allG l))]) (sFor_ok (ds := enD (l.map PyData.int) 0) (s1 := s ++ [.dct false []]) (iU_ok (eVar_ok rfl) rfl) (by rw [fz, fzI_nil]; exact e1)) ?_
  refine sSeq_rt (sRet_ok (eSortVals_ok (eVar_ok rfl) (dEnt_tok last_get) ?_))
  rw [gE_vals, h2]
  exact dSort_dL (by rw [hlen]; omega)
end K33
namespace J
/-! exchanges of a nest -/
namespace Nest
/-- X and s are both halves of P -/
def Kid (P X s : Nest) : Prop := P = nd X s ∨ P = nd s X
theorem Kid.sym {P X s : Nest} (k : Kid P X s) : Kid P s X := k.symm
theorem Kid.mem {P X s : Nest} (k : Kid P X s) {x : Int} : x ∈ P.lv ↔ x ∈ X.lv ∨ x ∈ s.lv := by
  rcases k with rfl | rfl <;> simp [lv, or_comm]
theorem Kid.len {P X s : Nest} (k : Kid P X s) : P.lv.length = X.lv.length + s.lv.length := by
  rcases k with rfl | rfl <;> simp [lv] <;> omega
theorem Kid.gr {P X s : Nest} (k : Kid P X s) {Y : Nest} : Y ∈ P.gr ↔ Y = P ∨ Y ∈ X.gr ∨ Y ∈ s.gr := by
  rcases k with rfl | rfl <;> simp [Nest.gr, or_comm]
theorem Kid.perm {P X s : Nest} (k : Kid P X s) : P.lv.Perm (X.lv ++ s.lv) := by
  rcases k with rfl | rfl
  · exact .refl _
  · exact List.perm_append_comm
theorem Kid.nd {P X s : Nest} (k : Kid P X s) (h : P.lv.Nodup) : X.lv.Nodup ∧ s.lv.Nodup ∧ ∀ x ∈ X.lv, x ∉ s.lv := by
  have := List.nodup_append.mp ((k.perm.nodup_iff).mp h)
  exact ⟨this.1, this.2.1, fun x h1 h2 => this.2.2 x h1 x h2 rfl⟩
theorem kids {X t : Nest} (h : X ∈ t.gr) : ∃ c d, Kid X c d := by
  obtain ⟨a, b, rfl⟩ := gr_nd h
  exact ⟨a, b, .inl rfl⟩
theorem parent {X : Nest} : ∀ {t : Nest}, X ∈ t.gr → X ≠ t → ∃ P s, P ∈ t.gr ∧ Kid P X s
  | lf _, h, _ => by simp [Nest.gr] at h
  | .nd a b, h, hne => by
    simp only [Nest.gr, List.mem_cons, List.mem_append] at h
    rcases h with h | h | h
    · exact absurd h hne
    · by_cases e : X = a
      · subst e; exact ⟨_, b, gr_self _ _, .inl rfl⟩
      · obtain ⟨P, s, h1, h2⟩ := parent h e
        exact ⟨P, s, by simp [Nest.gr, h1], h2⟩
    · by_cases e : X = b
      · subst e; exact ⟨_, a, gr_self _ _, .inr rfl⟩
      · obtain ⟨P, s, h1, h2⟩ := parent h e
        exact ⟨P, s, by simp [Nest.gr, h1], h2⟩
theorem Kid.gr1 {P X s t : Nest} (k : Kid P X s) (h : P ∈ t.gr) {Y : Nest} (hY : Y ∈ X.gr) : Y ∈ t.gr := gr_trans h (k.gr.mpr (.inr (.inl hY)))
theorem folk_ext {X Y : Nest} (hx : X.lv.Nodup) (hy : Y.lv.Nodup) (h : ∀ x, x ∈ X.lv ↔ x ∈ Y.lv) : X.folk = Y.folk := asc_ext (folk_asc hx) (folk_asc hy) fun x => by rw [mem_folk, mem_folk, h]
/-- one inner node replaced by another of the same folk -/
theorem replace {P Q : Nest} (hq : Q.lv.Perm P.lv) (hQ : Q ∈ Q.gr) : ∀ {t : Nest}, t.lv.Nodup → P ∈ t.gr → ∃ t' : Nest, t'.lv.Perm t.lv ∧ Q ∈ t'.gr ∧ ∀ g, g ∈ t'.gr.map folk ↔ (∃ Y ∈ t.gr, Y ∉ P.gr ∧ Y.folk = g) ∨ g ∈ Q.gr.map folk
  | lf _, _, h => by simp [Nest.gr] at h
  | .nd a b, hn, h => by
    have hd := List.nodup_append.mp hn
    have h' := h
    simp only [Nest.gr, List.mem_cons, List.mem_append] at h
    by_cases e : P = .nd a b
    · subst e
      refine ⟨Q, hq, hQ, fun g => ⟨.inr, ?_⟩⟩
      rintro (⟨Y, h1, h2, _⟩ | h1)
      · exact absurd h1 h2
      · exact h1
    have hout : Nest.nd a b ∉ P.gr := fun q => by
      rcases gr_len h' with r | r
      · exact e r
      · have := (gr_sublist q).length_le; omega
    rcases h with h | h | h
    · exact absurd h e
    · obtain ⟨u, h1, h2, h3⟩ := replace hq hQ hd.1 h
      have hp : (Nest.nd u b).lv.Perm (Nest.nd a b).lv := List.Perm.append_right _ h1
      refine ⟨.nd u b, hp, by simp [Nest.gr, h2], fun g => ?_⟩
      have hf : (Nest.nd u b).folk = (Nest.nd a b).folk := folk_ext ((List.Perm.nodup_iff hp).mpr hn) hn fun x => hp.mem_iff
      have hb : ∀ Y ∈ b.gr, Y ∉ P.gr := fun Y hY q => hd.2.2 _ ((gr_sublist h).subset ((gr_sublist q).subset Y.mn_mem)) _ ((gr_sublist hY).subset Y.mn_mem) rfl
      simp only [Nest.gr, List.map_cons, List.mem_cons, List.map_append, List.mem_append, h3]
      constructor
      · rintro (r | (⟨Y, r1, r2, r3⟩ | r) | r)
        · exact .inl ⟨_, .inl rfl, hout, by rw [r, hf]⟩
        · exact .inl ⟨Y, .inr (.inl r1), r2, r3⟩
        · exact .inr r
        · obtain ⟨Y, r1, r2⟩ := List.mem_map.mp r
          exact .inl ⟨Y, .inr (.inr r1), hb Y r1, r2⟩
      · rintro (⟨Y, rfl | r1 | r1, r2, r3⟩ | r)
        · exact .inl (by rw [← r3, hf])
        · exact .inr (.inl (.inl ⟨Y, r1, r2, r3⟩))
        · exact .inr (.inr (List.mem_map.mpr ⟨Y, r1, r3⟩))
        · exact .inr (.inl (.inr r))
    · obtain ⟨u, h1, h2, h3⟩ := replace hq hQ hd.2.1 h
      have hp : (Nest.nd a u).lv.Perm (Nest.nd a b).lv := List.Perm.append_left _ h1
      refine ⟨.nd a u, hp, by simp [Nest.gr, h2], fun g => ?_⟩
      have hf : (Nest.nd a u).folk = (Nest.nd a b).folk := folk_ext ((List.Perm.nodup_iff hp).mpr hn) hn fun x => hp.mem_iff
      have hb : ∀ Y ∈ a.gr, Y ∉ P.gr := fun Y hY q => hd.2.2 _ ((gr_sublist hY).subset Y.mn_mem) _ ((gr_sublist h).subset ((gr_sublist q).subset Y.mn_mem)) rfl
      simp only [Nest.gr, List.map_cons, List.mem_cons, List.map_append, List.mem_append, h3]
      constructor
      · rintro (r | r | (⟨Y, r1, r2, r3⟩ | r))
        · exact .inl ⟨_, .inl rfl, hout, by rw [r, hf]⟩
        · obtain ⟨Y, r1, r2⟩ := List.mem_map.mp r
          exact .inl ⟨Y, .inr (.inl r1), hb Y r1, r2⟩
        · exact .inl ⟨Y, .inr (.inr r1), r2, r3⟩
        · exact .inr r
      · rintro (⟨Y, rfl | r1 | r1, r2, r3⟩ | r)
        · exact .inl (by rw [← r3, hf])
        · exact .inr (.inl (List.mem_map.mpr ⟨Y, r1, r3⟩))
        · exact .inr (.inr (.inl ⟨Y, r1, r2, r3⟩))
        · exact .inr (.inr (.inr r))
/-- the lots of an exchange: the row R goes, the row f comes -/
def swapL (L : List (List Int)) (R f : List Int) : List (List Int) := sR ((L.filter fun g => decide (g ≠ R)) ++ [f])
theorem mem_swapL {L : List (List Int)} {R f g : List Int} : g ∈ swapL L R f ↔ (g ∈ L ∧ g ≠ R) ∨ g = f := by
  unfold swapL; rw [mem_sR]; simp
theorem exch {t P X s c d : Nest} {n : Nat} (h : t.Of n) (hP : P ∈ t.gr) (k1 : Kid P X s) (k2 : Kid X c d) :
    (nd c s).folk ∉ t.lots ∧ (nd c s).folk ≠ X.folk ∧ ∃ t' : Nest, t'.Of n ∧ nd (nd c s) d ∈ t'.gr ∧ t'.lots = swapL t.lots X.folk (nd c s).folk := by
  have hn := h.nodup
  have hPn := gr_nodup hP hn
  obtain ⟨nX, ns, d1⟩ := k1.nd hPn
  obtain ⟨nc, nd', d2⟩ := k2.nd nX
  have hX : X ∈ t.gr := k1.gr1 hP (by rcases k2 with rfl | rfl <;> exact gr_self _ _)
  have hq : (nd (nd c s) d).lv.Perm P.lv := by
    refine List.Perm.trans ?_ (k1.perm.trans (k2.perm.append_right _)).symm
    simp only [lv, List.append_assoc]
    exact List.perm_append_comm.append_left _
  obtain ⟨t', h1, h2, h3⟩ := replace hq (gr_self _ _) hn hP
  have hf : (nd (nd c s) d).folk = P.folk := folk_ext ((List.Perm.nodup_iff hq).mpr hPn) hPn fun x => hq.mem_iff
  have ncs : (nd c s).lv.Nodup := List.nodup_append.mpr ⟨nc, ns, fun x hx y hy e => d1 x (k2.mem.mpr (.inl hx)) (e ▸ hy)⟩
  have hPX : P ≠ X := fun e => by
    have := k1.len
    have := s.lv_pos
    have e := congrArg (fun Y : Nest => Y.lv.length) e
    omega
  have hfX : (nd c s).folk ≠ X.folk := fun e => by
    have : s.mn ∈ X.folk := e ▸ mem_folk.mpr (List.mem_append_right _ s.mn_mem)
    exact d1 _ (mem_folk.mp this) s.mn_mem
  have small : ∀ Y, Y ∈ c.gr ∨ Y ∈ d.gr → Y.folk ≠ X.folk := fun Y hY e => by
    have e := congrArg List.length e
    rw [len_folk, len_folk, k2.len] at e
    have := c.lv_pos
    have := d.lv_pos
    rcases hY with hY | hY
    · have := (gr_sublist hY).length_le; omega
    · have := (gr_sublist hY).length_le; omega
  have smalls : ∀ Y ∈ s.gr, Y.folk ≠ X.folk := fun Y hY e => by
    have : Y.mn ∈ X.folk := e ▸ mem_folk.mpr Y.mn_mem
    exact d1 _ (mem_folk.mp this) ((gr_sublist hY).subset Y.mn_mem)
  have key : ∀ g, g ∈ t'.gr.map folk ↔ (g ∈ t.lots ∧ g ≠ X.folk) ∨ g = (nd c s).folk := fun g => by
    rw [h3]
    constructor
    · rintro (⟨Y, q1, q2, rfl⟩ | q)
      · refine .inl ⟨mem_lots.mpr ⟨Y, q1, rfl⟩, fun e => q2 ?_⟩
        rw [folk_inj hn q1 hX e]
        exact k1.gr.mpr (.inr (.inl (by rcases k2 with rfl | rfl <;> exact gr_self _ _)))
      · obtain ⟨Y, q1, rfl⟩ := List.mem_map.mp q
        simp only [Nest.gr, List.mem_cons, List.mem_append] at q1
        rcases q1 with rfl | (rfl | q1 | q1) | q1
        · exact .inl ⟨mem_lots.mpr ⟨P, hP, hf.symm⟩, fun e => hPX (folk_inj hn hP hX (hf ▸ e))⟩
        · exact .inr rfl
        · exact .inl ⟨mem_lots.mpr ⟨Y, k1.gr1 hP (k2.gr.mpr (.inr (.inl q1))), rfl⟩, small Y (.inl q1)⟩
        · exact .inl ⟨mem_lots.mpr ⟨Y, k1.sym.gr1 hP q1, rfl⟩, smalls Y q1⟩
        · exact .inl ⟨mem_lots.mpr ⟨Y, k1.gr1 hP (k2.gr.mpr (.inr (.inr q1))), rfl⟩, small Y (.inr q1)⟩
    · rintro (⟨q1, q2⟩ | q)
      · obtain ⟨Y, q3, rfl⟩ := mem_lots.mp q1
        by_cases q4 : Y ∈ P.gr
        · right
          rcases k1.gr.mp q4 with rfl | q5 | q5
          · exact List.mem_map.mpr ⟨_, gr_self _ _, hf⟩
          · rcases k2.gr.mp q5 with rfl | q6 | q6
            · exact absurd rfl q2
            · exact List.mem_map.mpr ⟨Y, by simp [Nest.gr, q6], rfl⟩
            · exact List.mem_map.mpr ⟨Y, by simp [Nest.gr, q6], rfl⟩
          · exact List.mem_map.mpr ⟨Y, by simp [Nest.gr, q5], rfl⟩
        · exact .inl ⟨Y, q3, q4, rfl⟩
      · subst q
        exact .inr (List.mem_map.mpr ⟨nd c s, by simp [Nest.gr], rfl⟩)
  have ht' : t'.Of n := h1.trans h
  have hlen : t'.lots.length = t.lots.length := by
    have a := len_lots t'
    have b := len_lots t
    have := h1.length_eq
    omega
  have hXl : X.folk ∈ t.lots := mem_lots.mpr ⟨X, hX, rfl⟩
  have hnew : (nd c s).folk ∉ t.lots := fun q => by
    have sub : ∀ g ∈ t'.lots, g ∈ t.lots.filter fun g => decide (g ≠ X.folk) := fun g hg => by
      have := (key g).mp (mem_sR.mp hg)
      rw [List.mem_filter, decide_eq_true_eq]
      rcases this with r | rfl
      · exact r
      · exact ⟨q, hfX⟩
    have l1 := nodup_len (lots_nodup ht'.nodup) sub
    have l2 : (t.lots.filter fun g => decide (g ≠ X.folk)).length < t.lots.length := List.length_filter_lt_length_iff_exists.mpr ⟨X.folk, hXl, by simp⟩
    omega
  refine ⟨hnew, hfX, t', ht', h2, ?_⟩
  unfold lots swapL
  refine sR_ext (folks_nodup ht'.nodup) (List.nodup_append.mpr ⟨(lots_nodup hn).filter _, List.pairwise_singleton _ _, fun x hx y hy e => ?_⟩) fun g => ?_
  · rw [List.mem_singleton] at hy
    subst hy e
    exact hnew (List.mem_filter.mp hx).1
  · rw [key]
    show _ ↔ g ∈ (t.lots.filter _) ++ _
    simp
end Nest
end J
namespace J
theorem filter_one {α : Type} [DecidableEq α] {l : List α} {p : α → Bool} {a : α} (hn : l.Nodup) (ha : a ∈ l) (h : ∀ x ∈ l, p x = true ↔ x = a) : l.filter p = [a] := by
  induction l with
  | nil => cases ha
  | cons x r ih =>
    have hx := List.nodup_cons.mp hn
    by_cases e : x = a
    · subst e
      rw [List.filter_cons_of_pos ((h x List.mem_cons_self).mpr rfl), List.filter_eq_nil_iff.mpr]
      intro y hy q
      exact hx.1 (((h y (List.mem_cons_of_mem _ hy)).mp q) ▸ hy)
    · rw [List.filter_cons_of_neg (fun q => e ((h x List.mem_cons_self).mp q))]
      refine ih hx.2 ?_ fun y hy => h y (List.mem_cons_of_mem _ hy)
      rcases List.mem_cons.mp ha with q | q
      · exact absurd q.symm e
      · exact q
namespace Nest
theorem Kid.self {X c d : Nest} (k : Kid X c d) : X ∈ X.gr := by rcases k with rfl | rfl <;> exact gr_self _ _
/-- the rows above X: the least is the parent's -/
theorem above_of {t P X s : Nest} {h : Int} (hn : t.lv.Nodup) (hP : P ∈ t.gr) (k : Kid P X s) (hh : h ∈ X.lv) :
    (P.folk ∈ t.lots ∧ X.folk.length < P.folk.length ∧ h ∈ P.folk) ∧ ∀ o ∈ t.lots, X.folk.length < o.length → h ∈ o → o = P.folk ∨ P.folk.length < o.length := by
  have hPn := gr_nodup hP hn
  have hl := k.len
  have hs := s.lv_pos
  refine ⟨⟨mem_lots.mpr ⟨P, hP, rfl⟩, by rw [len_folk, len_folk]; omega, mem_folk.mpr (k.mem.mpr (.inl hh))⟩, fun o ho h1 h2 => ?_⟩
  obtain ⟨Y, hY, rfl⟩ := mem_lots.mp ho
  rw [len_folk, len_folk] at h1
  have h2 := mem_folk.mp h2
  rcases lam hn hP hY with q | q | q
  · rcases gr_len q with rfl | q
    · exact .inl rfl
    · exact .inr (by rw [len_folk, len_folk]; exact q)
  · rcases k.gr.mp q with rfl | q | q
    · exact .inl rfl
    · have := (gr_sublist q).length_le; omega
    · exact absurd ((gr_sublist q).subset h2) ((k.nd hPn).2.2 h hh)
  · exact absurd h2 (q h (k.mem.mpr (.inl hh)))
theorem sister_of {t P X s : Nest} (hn : t.lv.Nodup) (hP : P ∈ t.gr) (k : Kid P X s) : (P.folk.filter fun x => !decide (x ∈ X.folk)) = s.folk := by
  have hPn := gr_nodup hP hn
  obtain ⟨h1, h2, h3⟩ := k.nd hPn
  refine asc_ext (asc_filter (folk_asc hPn)) (folk_asc h2) fun x => ?_
  rw [List.mem_filter, Bool.not_eq_true', decide_eq_false_iff_not, mem_folk, mem_folk, mem_folk, k.mem]
  constructor
  · rintro ⟨q | q, r⟩
    · exact absurd q r
    · exact q
  · exact fun q => ⟨.inr q, fun r => h3 x r q⟩
theorem join_folk {c s : Nest} : sZ (c.folk ++ s.folk) = (nd c s).folk := by
  unfold folk
  exact sZ_eq ((sZ_perm _).append (sZ_perm _))
/-- both halves of a lot, in the order in which they are told -/
theorem halves_of {t X : Nest} {h : Int} {r : List Int} (hn : t.lv.Nodup) (hX : X ∈ t.gr) (e : X.folk = h :: r) : ∃ c d, Kid X c d ∧ h ∈ c.lv ∧ firstOf t.lots (h :: r) h = c.folk ∧ restOf t.lots h r = d.folk := by
  obtain ⟨a, b, rfl⟩ := gr_nd hX
  rcases parts_of hn hX e with ⟨h1, h2, h3⟩ | ⟨h1, h2, h3⟩
  · exact ⟨a, b, .inl rfl, h1, h2, h3⟩
  · exact ⟨b, a, .inr rfl, h1, h2, h3⟩
theorem folk_cons (X : Nest) : ∃ h r, X.folk = h :: r ∧ h ∈ X.lv := by
  cases e : X.folk with
  | nil =>
    have h1 := congrArg List.length e
    rw [len_folk] at h1
    exact absurd (List.eq_nil_of_length_eq_zero h1) X.lv_ne
  | cons h r => exact ⟨h, r, rfl, (head_sZ e).1⟩
theorem lots_sR (t : Nest) : sR t.lots = t.lots := sR_of (by unfold lots; exact sR_sorted _)
/-- exchanged back -/
theorem swap_back {t : Nest} (hn : t.lv.Nodup) {R f : List Int} (hR : R ∈ t.lots) (hf : f ∉ t.lots) (hne : f ≠ R) : swapL (swapL t.lots R f) f R = t.lots := by
  refine Eq.trans ?_ (lots_sR t)
  show sR ((swapL t.lots R f).filter (fun g => decide (g ≠ f)) ++ [R]) = sR t.lots
  have hnd := lots_nodup hn
  have n1 : (swapL t.lots R f).Nodup := by
    unfold swapL
    refine (sR_perm _).nodup_iff.mpr (List.nodup_append.mpr ⟨hnd.filter _, List.pairwise_singleton _ _, fun x hx y hy e => ?_⟩)
    rw [List.mem_singleton] at hy
    subst hy e
    exact hf (List.mem_filter.mp hx).1
  refine sR_ext (List.nodup_append.mpr ⟨n1.filter _, List.pairwise_singleton _ _, fun x hx y hy e => ?_⟩) hnd fun g => ?_
  · rw [List.mem_singleton] at hy
    subst hy e
    rcases mem_swapL.mp (List.mem_filter.mp hx).1 with ⟨_, q⟩ | q
    · exact q rfl
    · exact hne q.symm
  · rw [List.mem_append, List.mem_singleton, List.mem_filter, decide_eq_true_eq, mem_swapL]
    constructor
    · rintro (⟨⟨q, _⟩ | q, r⟩ | q)
      · exact q
      · exact absurd q r
      · exact q ▸ hR
    · intro q
      by_cases e : g = R
      · exact .inr e
      · exact .inl ⟨.inl ⟨q, e⟩, fun r => hf (r ▸ q)⟩
/-- the row that lies next around R -/
def abv (L : List (List Int)) (R : List Int) : List Int := (L.filter fun o => decide (R.length < o.length) && decide (R.headD 0 ∈ o)).foldl (fun a o => if a = [] ∨ o.length < a.length then o else a) []
def sisL (L : List (List Int)) (R : List Int) : List Int := (abv L R).filter fun x => !decide (x ∈ R)
def mvL (L : List (List Int)) (R c : List Int) : List (List Int) := swapL L R (sZ (c ++ sisL L R))
def halves (L : List (List Int)) : List Int → List (List Int)
  | [] => []
  | h :: r => [firstOf L (h :: r) h, restOf L h r]
def movesL (L : List (List Int)) (n : Nat) : List (List (List Int)) := (L.filter fun g => decide (g.length < n)).flatMap fun R => (halves L R).map (mvL L R)
theorem abv_fold {p : List Int} : ∀ (l : List (List Int)) (a : List Int), (∀ o ∈ l, o = p ∨ p.length < o.length) → (a = [] ∧ p ∈ l ∨ a = p ∨ (p.length < a.length ∧ p ∈ l)) → p ≠ [] → l.foldl (fun a o => if a = [] ∨ o.length < a.length then o else a) a = p
  | [], a, _, h, hp => by
    rcases h with ⟨_, h⟩ | h | ⟨_, h⟩
    · cases h
    · exact h
    · cases h
  | o :: r, a, hl, h, hp => by
    rw [List.foldl_cons]
    refine abv_fold r _ (fun o ho => hl o (List.mem_cons_of_mem _ ho)) ?_ hp
    have ho := hl o List.mem_cons_self
    by_cases e : o = p
    · subst e
      rcases h with ⟨h, _⟩ | h | ⟨h, _⟩
      · rw [if_pos (.inl h)]; exact .inr (.inl rfl)
      · subst h; rw [if_neg (by rintro (q | q); exact hp q; omega)]; exact .inr (.inl rfl)
      · rw [if_pos (.inr h)]; exact .inr (.inl rfl)
    · have ho : p.length < o.length := ho.resolve_left e
      rcases h with ⟨h, q⟩ | h | ⟨h, q⟩
      · rw [if_pos (.inl h)]
        exact .inr (.inr ⟨ho, (List.mem_cons.mp q).resolve_left fun z => e z.symm⟩)
      · subst h; rw [if_neg (by rintro (q | q); exact hp q; omega)]; exact .inr (.inl rfl)
      · have q := (List.mem_cons.mp q).resolve_left fun z => e z.symm
        split
        · exact .inr (.inr ⟨ho, q⟩)
        · exact .inr (.inr ⟨h, q⟩)
theorem abv_of {t P X s : Nest} (hn : t.lv.Nodup) (hP : P ∈ t.gr) (k : Kid P X s) : abv t.lots X.folk = P.folk := by
  obtain ⟨h, r, e, hh⟩ := folk_cons X
  obtain ⟨⟨h1, h2, h3⟩, h4⟩ := above_of hn hP k hh
  have hd : X.folk.headD 0 = h := by rw [e]; rfl
  unfold abv
  rw [hd]
  refine abv_fold _ _ (fun o ho => ?_) (.inl ⟨rfl, ?_⟩) (fun q => by rw [q] at h2; simp at h2)
  · have := List.mem_filter.mp ho
    simp only [Bool.and_eq_true, decide_eq_true_eq] at this
    exact h4 o this.1 this.2.1 this.2.2
  · rw [List.mem_filter]
    simp only [Bool.and_eq_true, decide_eq_true_eq]
    exact ⟨h1, h2, h3⟩
theorem sisL_of {t P X s : Nest} (hn : t.lv.Nodup) (hP : P ∈ t.gr) (hX : X ∈ X.gr) (k : Kid P X s) : sisL t.lots X.folk = s.folk := by
  unfold sisL
  rw [abv_of hn hP k]
  exact sister_of hn hP k
theorem mvL_of {t P X s c d : Nest} (hn : t.lv.Nodup) (hP : P ∈ t.gr) (k1 : Kid P X s) (k2 : Kid X c d) : mvL t.lots X.folk c.folk = swapL t.lots X.folk (nd c s).folk := by
  unfold mvL
  rw [sisL_of hn hP k2.self k1, join_folk]
/-- one exchange: what it is, and what leads back -/
theorem move_of {t P X s c d : Nest} {n : Nat} (h : t.Of n) (hP : P ∈ t.gr) (k1 : Kid P X s) (k2 : Kid X c d) :
    ∃ t' : Nest, t'.Of n ∧ t'.lots = mvL t.lots X.folk c.folk ∧ nd (nd c s) d ∈ t'.gr ∧ (nd c s).folk ∉ t.lots ∧ X.folk ∉ t'.lots ∧ (nd c s).folk ∈ t'.lots ∧
      (t.lots.filter fun g => !decide (g ∈ t'.lots)) = [X.folk] ∧ (t'.lots.filter fun g => !decide (g ∈ t.lots)) = [(nd c s).folk] ∧ mvL t'.lots (nd c s).folk c.folk = t.lots := by
  obtain ⟨h1, h2, t', h3, h4, h5⟩ := exch h hP k1 k2
  have hX : X.folk ∈ t.lots := mem_lots.mpr ⟨X, k1.gr1 hP k2.self, rfl⟩
  have e1 := mvL_of h.nodup hP k1 k2
  have e2 := mvL_of h3.nodup h4 (P := nd (nd c s) d) (X := nd c s) (s := d) (c := c) (d := s) (.inl rfl) (.inl rfl)
  have e3 : (nd c d).folk = X.folk := folk_ext (by
    have := (k2.perm.nodup_iff).mp ((k1.nd (gr_nodup hP h.nodup)).1)
    exact this) (k1.nd (gr_nodup hP h.nodup)).1 fun x => by rw [k2.mem]; simp [lv]
  refine ⟨t', h3, by rw [h5, e1], h4, h1, ?_, ?_, ?_, ?_, ?_⟩
  · rw [h5, mem_swapL]
    rintro (⟨_, q⟩ | q)
    · exact q rfl
    · exact h2 q.symm
  · rw [h5, mem_swapL]; exact .inr rfl
  · refine filter_one (lots_nodup h.nodup) hX fun g hg => ?_
    rw [h5]
    simp only [Bool.not_eq_true', decide_eq_false_iff_not, mem_swapL]
    constructor
    · intro q
      by_cases e : g = X.folk
      · exact e
      · exact absurd (.inl ⟨hg, e⟩) q
    · rintro rfl (⟨_, q⟩ | q)
      · exact q rfl
      · exact h2 q.symm
  · refine filter_one (lots_nodup h3.nodup) (by rw [h5, mem_swapL]; exact .inr rfl) fun g hg => ?_
    rw [h5, mem_swapL] at hg
    simp only [Bool.not_eq_true', decide_eq_false_iff_not]
    constructor
    · intro q
      rcases hg with ⟨z, _⟩ | z
      · exact absurd z q
      · exact z
    · rintro rfl
      exact h1
  · rw [e2, e3, h5]
    exact swap_back h.nodup hX h1 h2
/-- lots below the company -/
theorem small_lot {t : Nest} {n : Nat} (h : t.Of n) {g : List Int} (hg : g ∈ t.lots) : (g.length < n ↔ g ≠ comp n) ∧ (g.length < n → ∃ P X s, P ∈ t.gr ∧ Kid P X s ∧ X ∈ X.gr ∧ X.folk = g) := by
  obtain ⟨X, hX, rfl⟩ := mem_lots.mp hg
  have hl := h.len
  constructor
  · constructor
    · intro q e
      rw [e, comp_len] at q
      omega
    · intro q
      rcases gr_len hX with rfl | r
      · exact absurd h.folk q
      · rw [len_folk]; omega
  · intro q
    rw [len_folk] at q
    obtain ⟨P, s, h1, h2⟩ := parent hX (fun e => by rw [e] at q; omega)
    obtain ⟨c, d, k⟩ := kids hX
    exact ⟨P, X, s, h1, h2, k.self, rfl⟩
theorem halves_len {t X : Nest} : (halves t.lots X.folk).length = 2 := by
  obtain ⟨h, r, e, _⟩ := folk_cons X
  rw [e]; rfl
theorem moves_len {t : Nest} {n : Nat} (h : t.Of n) : (movesL t.lots n).length = 2 * (n - 2) := by
  have e1 : (movesL t.lots n).length = 2 * (t.lots.filter fun g => decide (g.length < n)).length := by
    unfold movesL
    have : ∀ l : List (List Int), (∀ g ∈ l, g ∈ t.lots) → (l.flatMap fun R => (halves t.lots R).map (mvL t.lots R)).length = 2 * l.length := by
      intro l
      induction l with
      | nil => intro _; rfl
      | cons g r ih =>
        intro hg
        obtain ⟨X, _, e⟩ := mem_lots.mp (hg g List.mem_cons_self)
        rw [List.flatMap_cons, List.length_append, List.length_map, ih fun x hx => hg x (List.mem_cons_of_mem _ hx), ← e, halves_len, List.length_cons]
        omega
    exact this _ fun g hg => (List.mem_filter.mp hg).1
  rw [e1]
  have e2 := filter_two (fun g : List Int => decide (g.length < n)) t.lots
  have e3 := h.lots_len
  by_cases hn : n ≤ 1
  · have : t.lots.length = 0 := by omega
    rw [List.eq_nil_of_length_eq_zero this]
    simp
    omega
  · have e4 : (t.lots.filter fun x => !decide (x.length < n)) = [comp n] := by
      have hr : t.folk ∈ t.lots := by
        cases t with
        | lf i => have := h.len; simp [lv] at this; omega
        | nd a b => exact mem_lots.mpr ⟨_, gr_self a b, rfl⟩
      refine filter_one (lots_nodup h.nodup) (h.folk ▸ hr) fun x hx => ?_
      have := (small_lot h hx).1
      rw [Bool.not_eq_true', decide_eq_false_iff_not, this]
      exact Decidable.not_not
    rw [e4] at e2
    simp at e2
    omega
theorem moves_mem {t : Nest} {n : Nat} (h : t.Of n) {q : List (List Int)} (hq : q ∈ movesL t.lots n) : ∃ t' : Nest, t'.Of n ∧ t'.lots = q := by
  unfold movesL at hq
  obtain ⟨R, hR, hq⟩ := List.mem_flatMap.mp hq
  obtain ⟨hR1, hR2⟩ := List.mem_filter.mp hR
  obtain ⟨P, X, s, hP, k, hX, rfl⟩ := (small_lot h hR1).2 (of_decide_eq_true hR2)
  obtain ⟨x, r, e, hx⟩ := folk_cons X
  obtain ⟨c, d, k2, _, h1, h2⟩ := halves_of h.nodup (k.gr1 hP hX) e
  obtain ⟨z, hz, rfl⟩ := List.mem_map.mp hq
  have eh : halves t.lots (x :: r) = [c.folk, d.folk] := by rw [← h1, ← h2]; rfl
  rw [e, eh] at hz
  rcases List.mem_cons.mp hz with rfl | hz
  · obtain ⟨t', a, b, _⟩ := move_of h hP k k2
    exact ⟨t', a, b⟩
  · rw [List.mem_singleton] at hz
    subst hz
    obtain ⟨t', a, b, _⟩ := move_of h hP k k2.sym
    exact ⟨t', a, b⟩
theorem moves_nodup {t : Nest} {n : Nat} (h : t.Of n) : (movesL t.lots n).Nodup := by
  unfold movesL List.Nodup
  rw [List.pairwise_flatMap]
  constructor
  · intro R hR
    obtain ⟨hR1, hR2⟩ := List.mem_filter.mp hR
    obtain ⟨P, X, s, hP, k, hX, rfl⟩ := (small_lot h hR1).2 (of_decide_eq_true hR2)
    obtain ⟨x, r, e, hx⟩ := folk_cons X
    obtain ⟨c, d, k2, hc, h1, h2⟩ := halves_of h.nodup (k.gr1 hP hX) e
    have eh : halves t.lots X.folk = [c.folk, d.folk] := by rw [e, ← h1, ← h2]; rfl
    rw [eh]
    simp only [List.map_cons, List.map_nil, List.pairwise_cons, List.mem_singleton, List.not_mem_nil, false_implies, implies_true, and_true, List.Pairwise.nil]
    rintro _ rfl q
    rw [mvL_of h.nodup hP k k2, mvL_of h.nodup hP k k2.sym] at q
    have : (nd c s).folk ∈ swapL t.lots X.folk (nd d s).folk := q ▸ mem_swapL.mpr (.inr rfl)
    rcases mem_swapL.mp this with ⟨z, _⟩ | z
    · exact (exch h hP k k2).1 z
    · have hx : x ∈ (nd d s).folk := z ▸ mem_folk.mpr (List.mem_append_left _ hc)
      have hnd := k.nd (gr_nodup hP h.nodup)
      rcases List.mem_append.mp (mem_folk.mp hx) with w | w
      · exact (k2.nd hnd.1).2.2 x hc w
      · exact hnd.2.2 x (k2.mem.mpr (.inl hc)) w
  · refine List.Pairwise.imp_of_mem ?_ ((lots_nodup h.nodup).filter _)
    intro R1 R2 m1 m2 hne q1 h1 q2 h2 e
    subst e
    obtain ⟨hR1, hR2⟩ := List.mem_filter.mp m1
    obtain ⟨P, X, s, hP, k, hX, rfl⟩ := (small_lot h hR1).2 (of_decide_eq_true hR2)
    obtain ⟨c1, _, rfl⟩ := List.mem_map.mp h1
    obtain ⟨c2, hc2, e⟩ := List.mem_map.mp h2
    have : X.folk ∈ mvL t.lots X.folk c1 := by
      rw [← e]
      unfold mvL
      exact mem_swapL.mpr (.inl ⟨hR1, hne⟩)
    unfold mvL at this
    rcases mem_swapL.mp this with ⟨_, z⟩ | z
    · exact z rfl
    · obtain ⟨x, r, e1, hx⟩ := folk_cons X
      obtain ⟨c, d, k2, _, h3, h4⟩ := halves_of h.nodup (k.gr1 hP hX) e1
      rename_i hc1
      rw [sisL_of h.nodup hP hX k] at z
      have hs : s.mn ∈ X.folk := z ▸ mem_sZ.mpr (List.mem_append_right _ (mem_folk.mpr s.mn_mem))
      exact (k.nd (gr_nodup hP h.nodup)).2.2 _ (mem_folk.mp hs) s.mn_mem
end Nest
end J
namespace J
open PySem PySem.Spec PyProof.Rows L2
/-! ### rows with their lengths, in order -/
def pr (g : List Int) : D := .tuple [.int (g.length : Nat), dI g]
def ltP (a b : List Int) : Bool := if a.length = b.length then ltI a b else decide (a.length < b.length)
def leP (a b : List Int) : Bool := !ltP b a
theorem lt_pr (a b : List Int) : PySem.W.dataLt (pr a) (pr b) = ltP a b := by
  unfold pr ltP
  rw [PySem.W.dataLt_pair (by rfl) (alike_dI a b), eqv_dI, lt_dI, PySem.W.dataLt_int]
  by_cases h : a.length = b.length
  · rw [if_pos h, if_pos (by simp [PyData.eqv, h])]
    by_cases e : a = b
    · subst e
      rw [decide_eq_true rfl, if_pos rfl, ltI_irrefl]
    · rw [decide_eq_false e, if_neg Bool.false_ne_true]
  · rw [if_neg h, if_neg (by simp [PyData.eqv]; omega)]
    exact decide_eq_decide.mpr Int.ofNat_lt
theorem leP_trans (a b c : List Int) (h1 : leP a b = true) (h2 : leP b c = true) : leP a c = true := by
  have q := leI_trans a b c
  unfold leP ltP at *
  unfold leI at q
  by_cases e1 : b.length = a.length <;> by_cases e2 : c.length = b.length
  · rw [if_pos e1] at h1; rw [if_pos e2] at h2; rw [if_pos (e2.trans e1)]; exact q h1 h2
  · rw [if_neg e2] at h2; rw [if_neg (by omega)]; simp at h2 ⊢; omega
  · rw [if_neg e1] at h1; rw [if_neg (by omega)]; simp at h1 ⊢; omega
  · rw [if_neg e1] at h1; rw [if_neg e2] at h2; simp at h1 h2; rw [if_neg (by omega)]; simp; omega
theorem leP_total (a b : List Int) : (leP a b || leP b a) = true := by
  have q := leI_total a b
  unfold leP ltP
  unfold leI at q
  by_cases e : a.length = b.length
  · rw [if_pos e, if_pos e.symm]; exact q
  · rw [if_neg e, if_neg (Ne.symm e)]; simp; omega
theorem leP_len {a b : List Int} (h : leP a b = true) : a.length ≤ b.length := by
  unfold leP ltP at h
  split at h
  · omega
  · simp at h; omega
theorem alike_pr (a b : List Int) : PySem.W.alike (pr a) (pr b) = true := by
  show PySem.W.alikeAll [.int _, dI a] [.int _, dI b] = true
  rw [PySem.W.alikeAll, PySem.W.alikeAll, alike_dI]
  rfl
theorem lay_prs : ∀ l : List (List Int), PyData.canLayAll0 (l.map pr) = true
  | [] => rfl
  | g :: r => by
    rw [List.map_cons, PyData.canLayAll0, lay_prs r]
    show (PyData.canLayAll0 [.int _, dI g] && true) = true
    rw [PyData.canLayAll0, PyData.canLayAll0, lay_dI]
    rfl
theorem depth_prs : ∀ l : List (List Int), PyData.depthAll (l.map pr) ≤ 4
  | [] => by decide
  | g :: r => by
    rw [List.map_cons, PyData.depthAll]
    have := depth_prs r
    have h1 := depth_dI g
    have h2 : (pr g).depth ≤ 4 := by
      show PyData.depth (.tuple [.int _, dI g]) ≤ 4
      rw [PyData.depth, PyData.depthAll, PyData.depthAll, PyData.depthAll]
      have : (PyData.int (g.length : Nat)).depth ≤ 1 := by simp [PyData.depth]
      omega
    omega
theorem shaped_prs (l : List (List Int)) : SeqAt.shaped (.list (l.map pr)) = true := shaped_of (by rw [PyData.canLay0]; exact lay_prs l) (by rw [PyData.depth]; have := depth_prs l; omega)
theorem alikes_prs (l : List (List Int)) : allAlike (l.map pr) = true := by
  unfold allAlike
  rw [List.all_eq_true]
  intro x hx
  rw [List.all_eq_true]
  intro y hy
  obtain ⟨i, _, rfl⟩ := List.mem_map.mp hx
  obtain ⟨j, _, rfl⟩ := List.mem_map.mp hy
  exact alike_pr i j
theorem sortOk_prs (l : List (List Int)) : sortOk (l.map pr) = true := by
  unfold sortOk
  have : (l.map pr).all headTup = true := by
    rw [List.all_eq_true]
    intro x hx
    obtain ⟨i, _, rfl⟩ := List.mem_map.mp hx
    rfl
  rw [alikes_prs, shaped_prs, this, Bool.or_true, Bool.and_self, Bool.and_self]
theorem srt_prs (l : List (List Int)) : srt (l.map pr) = (l.mergeSort leP).map pr := by
  unfold srt
  symm
  refine PySem.W.sort_maps pr fun a _ b _ => ?_
  show leP a b = !PySem.W.dataLt (pr b) (pr a)
  rw [lt_pr, leP]
theorem dSort_prs {l : List (List Int)} (h : l.length ≤ 16777216) : dSort (.list (l.map pr)) = some (.list ((l.mergeSort leP).map pr)) := by
  unfold dSort
  simp only [List.length_map]
  rw [if_pos ⟨sortOk_prs l, h⟩, srt_prs]
theorem min_fold {p : List Int} : ∀ (l : List (List Int)) (a : List Int), (∀ o ∈ l, o = p ∨ p.length < o.length) → (a = p ∨ p.length < a.length ∧ p ∈ l) → (l.map pr).foldl (fun a y => if PySem.W.dataLt y a = true then y else a) (pr a) = pr p
  | [], a, _, h => by
    rcases h with h | ⟨_, h⟩
    · rw [h]; rfl
    · cases h
  | o :: r, a, hl, h => by
    rw [List.map_cons, List.foldl_cons, lt_pr]
    have ho := hl o List.mem_cons_self
    have step : ∀ b, (b = p ∨ p.length < b.length ∧ p ∈ r) → (r.map pr).foldl (fun a y => if PySem.W.dataLt y a = true then y else a) (pr b) = pr p := fun b hb => min_fold r b (fun o ho => hl o (List.mem_cons_of_mem _ ho)) hb
    by_cases e : o = p
    · subst e
      rcases h with rfl | ⟨h, _⟩
      · unfold ltP
        rw [if_pos rfl, ltI_irrefl, if_neg Bool.false_ne_true]
        exact step _ (.inl rfl)
      · have : ltP o a = true := by
          unfold ltP
          rw [if_neg (by omega), decide_eq_true h]
        rw [this, if_pos rfl]
        exact step _ (.inl rfl)
    · have ho := ho.resolve_left e
      rcases h with rfl | ⟨h, q⟩
      · have : ltP o a = false := by
          unfold ltP
          rw [if_neg (by omega), decide_eq_false (by omega)]
        rw [this, if_neg Bool.false_ne_true]
        exact step _ (.inl rfl)
      · have q := (List.mem_cons.mp q).resolve_left fun z => e z.symm
        split
        · exact step _ (.inr ⟨ho, q⟩)
        · exact step _ (.inr ⟨h, q⟩)
theorem dMin_prs {l : List (List Int)} {p : List Int} (hp : p ∈ l) (h : ∀ o ∈ l, o = p ∨ p.length < o.length) : dMin (.list (l.map pr)) = some (pr p) := by
  cases l with
  | nil => cases hp
  | cons a r =>
    have hok : cmpOk (pr a :: r.map pr) = true := by
      unfold cmpOk
      have h1 := alikes_prs (a :: r)
      have h2 := shaped_prs (a :: r)
      rw [List.map_cons] at h1 h2
      rw [h1, h2, Bool.true_and, Bool.and_true, List.all_eq_true]
      intro x hx
      rcases List.mem_cons.mp hx with rfl | hx
      · rfl
      · obtain ⟨i, _, rfl⟩ := List.mem_map.mp hx
        rfl
    show (if cmpOk (pr a :: r.map pr) = true then some (PySem.W.minD (pr a) (r.map pr)) else none) = _
    rw [if_pos hok]
    congr 1
    refine min_fold r a (fun o ho => h o (List.mem_cons_of_mem _ ho)) ?_
    rcases List.mem_cons.mp hp with e | hr
    · exact .inl e.symm
    · rcases h a List.mem_cons_self with e | q
      · exact .inl e
      · exact .inr ⟨q, hr⟩
namespace Nest
/-- the nests of a sorted list of lots, small ones first -/
theorem order_of (t : Nest) : ∃ Xs : List Nest, Xs.Perm t.gr ∧ (t.lots.mergeSort leP) = Xs.map folk ∧ Xs.Pairwise fun a b => a.folk.length ≤ b.folk.length := by
  let Ys := t.gr.mergeSort fun a b => leI a.folk b.folk
  have e1 : t.lots = Ys.map folk := by
    unfold lots sR
    exact (PySem.W.sort_maps folk fun a _ b _ => rfl).symm
  let Xs := Ys.mergeSort fun a b => leP a.folk b.folk
  refine ⟨Xs, (List.mergeSort_perm _ _).trans (List.mergeSort_perm _ _), ?_, ?_⟩
  · rw [e1]
    exact (PySem.W.sort_maps folk fun a _ b _ => rfl).symm
  · have := List.pairwise_mergeSort (le := fun a b : Nest => leP a.folk b.folk) (fun a b c => leP_trans _ _ _) (fun a b => leP_total _ _) Ys
    exact this.imp fun h => leP_len h
end Nest
end J
namespace J
namespace Nest
/-! ### marks: the fewest changes -/
def bI (b : Bool) : Int := if b = true then 1 else 0
def leafM (m : List Int) (i : Int) : Int := bI (decide (i ∈ m))
abbrev cap (a b : List Int) : List Int := a.filter fun x => decide (x ∈ b)
def fS (m : List Int) : Nest → List Int
  | lf i => [leafM m i]
  | nd a b => if cap (fS m a) (fS m b) = [] then [0, 1] else cap (fS m a) (fS m b)
def fD (m : List Int) : Nest → Nat
  | lf _ => 0
  | nd a b => if cap (fS m a) (fS m b) = [] then 1 else 0
def fC (m : List Int) : Nest → Nat
  | lf _ => 0
  | nd a b => fC m a + fC m b + fD m (nd a b)
theorem fC_sum (m : List Int) : ∀ t : Nest, fC m t = (t.gr.map (fD m)).sum
  | lf _ => rfl
  | nd a b => by
    rw [fC, gr, List.map_cons, List.sum_cons, List.map_append, List.sum_append, fC_sum m a, fC_sum m b]
    omega
theorem cap_or {a b : List Int} (ha : a = [0] ∨ a = [1] ∨ a = [0, 1]) (hb : b = [0] ∨ b = [1] ∨ b = [0, 1]) : (cap a b = [] ∨ cap a b = [0] ∨ cap a b = [1] ∨ cap a b = [0, 1]) ∧ cap a b = cap b a := by
  rcases ha with rfl | rfl | rfl <;> rcases hb with rfl | rfl | rfl <;> decide
theorem fS_or (m : List Int) : ∀ X : Nest, fS m X = [0] ∨ fS m X = [1] ∨ fS m X = [0, 1]
  | lf i => by
    unfold fS leafM bI
    by_cases h : i ∈ m
    · rw [decide_eq_true h]; exact .inr (.inl rfl)
    · rw [decide_eq_false h]; exact .inl rfl
  | nd a b => by
    rw [fS]
    rcases (cap_or (fS_or m a) (fS_or m b)).1 with h | h | h | h
    · rw [if_pos h]; exact .inr (.inr rfl)
    · rw [h, if_neg (by decide)]; exact .inl rfl
    · rw [h, if_neg (by decide)]; exact .inr (.inl rfl)
    · rw [h, if_neg (by decide)]; exact .inr (.inr rfl)
theorem fS_kid {m : List Int} {X c d : Nest} (k : Kid X c d) : fS m X = (if cap (fS m c) (fS m d) = [] then [0, 1] else cap (fS m c) (fS m d)) ∧ fD m X = if cap (fS m c) (fS m d) = [] then 1 else 0 := by
  rcases k with rfl | rfl
  · exact ⟨rfl, rfl⟩
  · have := (cap_or (fS_or m c) (fS_or m d)).2
    rw [this]
    exact ⟨rfl, rfl⟩
theorem fC_lt (m : List Int) : ∀ X : Nest, fC m X < X.lv.length
  | lf _ => by simp [fC, lv]
  | nd a b => by
    have h1 := fC_lt m a
    have h2 := fC_lt m b
    have h3 : fD m (nd a b) ≤ 1 := by rw [fD]; split <;> omega
    rw [fC, lv, List.length_append]
    omega
/-! costs of either mark -/
def h0 (p : Int × Int) : Int := min p.1 (p.2 + 1)
def h1 (p : Int × Int) : Int := min p.2 (p.1 + 1)
def kC (m : List Int) : Nest → Int × Int
  | lf i => if i ∈ m then (99, 0) else (0, 99)
  | nd a b => (h0 (kC m a) + h0 (kC m b), h1 (kC m a) + h1 (kC m b))
theorem kC_h (m : List Int) : ∀ X : Nest, h0 (kC m X) = (fC m X : Int) + (if (0 : Int) ∈ fS m X then 0 else 1) ∧ h1 (kC m X) = (fC m X : Int) + (if (1 : Int) ∈ fS m X then 0 else 1) ∧ min (kC m X).1 (kC m X).2 = (fC m X : Int)
  | lf i => by
    by_cases h : i ∈ m
    · have e1 : kC m (lf i) = (99, 0) := if_pos h
      have e2 : fS m (lf i) = [1] := by unfold fS leafM bI; rw [decide_eq_true h]; rfl
      rw [e1, e2, show fC m (lf i) = 0 from rfl]
      decide
    · have e1 : kC m (lf i) = (0, 99) := if_neg h
      have e2 : fS m (lf i) = [0] := by unfold fS leafM bI; rw [decide_eq_false h]; rfl
      rw [e1, e2, show fC m (lf i) = 0 from rfl]
      decide
  | nd a b => by
    obtain ⟨a0, a1, _⟩ := kC_h m a
    obtain ⟨b0, b1, _⟩ := kC_h m b
    have e1 : kC m (nd a b) = (h0 (kC m a) + h0 (kC m b), h1 (kC m a) + h1 (kC m b)) := rfl
    have e2 : (fC m (nd a b) : Int) = (fC m a : Int) + fC m b + fD m (nd a b) := by rw [fC]; push_cast; rfl
    have e3 := fS_kid (m := m) (X := nd a b) (c := a) (d := b) (.inl rfl)
    rw [e1, e2, e3.1, e3.2, a0, a1, b0, b1]
    unfold h0 h1
    generalize (fC m a : Int) = u
    generalize (fC m b : Int) = v
    rcases fS_or m a with q | q | q <;> rcases fS_or m b with r | r | r <;> rw [q, r] <;> simp [cap] <;> omega
/-! others marked in their place -/
def flip (l : List Int) : List Int := if l = [0] then [1] else if l = [1] then [0] else l
theorem fS_other {m m' : List Int} : ∀ {X : Nest}, (∀ i ∈ X.lv, i ∈ m' ↔ i ∉ m) → fS m' X = flip (fS m X) ∧ fC m' X = fC m X
  | lf i, h => by
    have h := h i (by simp [lv])
    refine ⟨?_, rfl⟩
    unfold fS leafM bI
    by_cases q : i ∈ m
    · rw [decide_eq_true q, decide_eq_false (fun z => h.mp z q)]; rfl
    · rw [decide_eq_false q, decide_eq_true (h.mpr q)]; rfl
  | nd a b, h => by
    obtain ⟨a1, a2⟩ := fS_other (m := m) (m' := m') (X := a) fun i hi => h i (by simp [lv, hi])
    obtain ⟨b1, b2⟩ := fS_other (m := m) (m' := m') (X := b) fun i hi => h i (by simp [lv, hi])
    rw [fC, fC, fD, fD, fS, fS, a1, b1, a2, b2]
    rcases fS_or m a with q | q | q <;> rcases fS_or m b with r | r | r <;> rw [q, r] <;> exact ⟨by decide, rfl⟩
theorem fS_same {m : List Int} {v : Bool} : ∀ {X : Nest}, (∀ i ∈ X.lv, decide (i ∈ m) = v) → fS m X = [bI v] ∧ fC m X = 0
  | lf i, h => by
    have h := h i (by simp [lv])
    refine ⟨?_, rfl⟩
    unfold fS leafM
    rw [h]
  | nd a b, h => by
    obtain ⟨a1, a2⟩ := fS_same (m := m) (X := a) fun i hi => h i (by simp [lv, hi])
    obtain ⟨b1, b2⟩ := fS_same (m := m) (X := b) fun i hi => h i (by simp [lv, hi])
    rw [fC, fD, fS, a1, b1, a2, b2]
    cases v <;> exact ⟨by decide, rfl⟩
/-! all ways to mark -/
def ch (μ : Nest → Bool) : Nest → Nat
  | lf _ => 0
  | nd a b => ch μ a + ch μ b + (if μ a = μ (nd a b) then 0 else 1) + (if μ b = μ (nd a b) then 0 else 1)
theorem ch_least {m : List Int} {μ : Nest → Bool} : ∀ {X : Nest}, (∀ i ∈ X.lv, μ (lf i) = decide (i ∈ m)) → fC m X + (if bI (μ X) ∈ fS m X then 0 else 1) ≤ ch μ X
  | lf i, h => by
    have h := h i (by simp [lv])
    rw [fS, leafM, ← h]
    simp [fC, ch]
  | nd a b, h => by
    have ha := ch_least (m := m) (μ := μ) (X := a) fun i hi => h i (by simp [lv, hi])
    have hb := ch_least (m := m) (μ := μ) (X := b) fun i hi => h i (by simp [lv, hi])
    have e3 := fS_kid (m := m) (X := nd a b) (c := a) (d := b) (.inl rfl)
    rw [fC, ch, e3.1, e3.2]
    generalize fC m a = u at *
    generalize fC m b = v at *
    generalize ch μ a = p at *
    generalize ch μ b = r at *
    rcases fS_or m a with q1 | q1 | q1 <;> rcases fS_or m b with q2 | q2 | q2 <;> rw [q1] at ha <;> rw [q2] at hb <;> rw [q1, q2] <;> cases e1 : μ a <;> cases e2 : μ b <;> cases e4 : μ (nd a b) <;> rw [e1] at ha <;> rw [e2] at hb <;> simp [bI, cap] at ha hb ⊢ <;> omega
theorem ch_congr {μ ν : Nest → Bool} : ∀ {X : Nest}, (∀ Z, Z ∈ X.gr ∨ (∃ i ∈ X.lv, Z = lf i) → μ Z = ν Z) → ch μ X = ch ν X
  | lf _, _ => rfl
  | nd a b, h => by
    have sub : ∀ (c : Nest), (c = a ∨ c = b) → ∀ Z, Z ∈ c.gr ∨ (∃ i ∈ c.lv, Z = lf i) → μ Z = ν Z := fun c hc Z hZ => by
      refine h Z ?_
      rcases hZ with hZ | ⟨i, hi, e⟩
      · left
        rcases hc with rfl | rfl <;> simp [gr, hZ]
      · right
        refine ⟨i, ?_, e⟩
        rcases hc with rfl | rfl <;> simp [lv, hi]
    have self : ∀ c : Nest, c ∈ c.gr ∨ ∃ i ∈ c.lv, c = lf i := fun c => by
      cases c with
      | lf i => exact .inr ⟨i, by simp [lv], rfl⟩
      | nd x y => exact .inl (gr_self x y)
    rw [ch, ch, ch_congr (sub a (.inl rfl)), ch_congr (sub b (.inr rfl)), sub a (.inl rfl) a (self a), sub b (.inr rfl) b (self b), h (nd a b) (.inl (gr_self a b))]
theorem ch_attain {m : List Int} : ∀ {X : Nest}, X.lv.Nodup → ∀ v : Bool, bI v ∈ fS m X → ∃ μ : Nest → Bool, (∀ i ∈ X.lv, μ (lf i) = decide (i ∈ m)) ∧ μ X = v ∧ ch μ X = fC m X
  | lf i, _, v, hv => by
    refine ⟨fun Z => match Z with | lf j => decide (j ∈ m) | _ => false, fun j _ => rfl, ?_, rfl⟩
    rw [fS, leafM] at hv
    show decide (i ∈ m) = v
    cases v <;> cases q : decide (i ∈ m) <;> rw [q] at hv <;> first | rfl | exact absurd hv (by decide)
  | nd a b, hn, v, hv => by
    have hd := List.nodup_append.mp hn
    have pick : ∀ c : Nest, ∃ w : Bool, bI w ∈ fS m c ∧ (bI v ∈ fS m c → w = v) := fun c => by
      by_cases h : bI v ∈ fS m c
      · exact ⟨v, h, fun _ => rfl⟩
      · refine ⟨!v, ?_, fun z => absurd z h⟩
        rcases fS_or m c with q | q | q <;> rw [q] at h ⊢ <;> cases v <;> first | decide | exact absurd (by decide) h
    obtain ⟨wa, p1, p2⟩ := pick a
    obtain ⟨wb, p3, p4⟩ := pick b
    obtain ⟨μa, a1, a2, a3⟩ := ch_attain hd.1 wa p1
    obtain ⟨μb, b1, b2, b3⟩ := ch_attain hd.2.1 wb p3
    have dj : ∀ x ∈ b.lv, x ∉ a.lv := fun x h1 h2 => hd.2.2 x h2 x h1 rfl
    have nea : ∀ Z : Nest, Z.lv.length < (nd a b).lv.length → Z ≠ nd a b := fun Z h e => by rw [e] at h; omega
    have la : a.lv.length < (nd a b).lv.length := by have := b.lv_pos; simp only [lv, List.length_append]; omega
    have lb : b.lv.length < (nd a b).lv.length := by have := a.lv_pos; simp only [lv, List.length_append]; omega
    let μ : Nest → Bool := fun Z => if Z = nd a b then v else if Z.mn ∈ a.lv then μa Z else μb Z
    have ma : ∀ Z, Z ∈ a.gr ∨ (∃ i ∈ a.lv, Z = lf i) → μ Z = μa Z := fun Z hZ => by
      have h1 : Z.lv.length ≤ a.lv.length ∧ Z.mn ∈ a.lv := by
        rcases hZ with h | ⟨i, hi, rfl⟩
        · exact ⟨(gr_sublist h).length_le, (gr_sublist h).subset Z.mn_mem⟩
        · exact ⟨a.lv_pos, hi⟩
      show (if Z = nd a b then v else if Z.mn ∈ a.lv then μa Z else μb Z) = _
      rw [if_neg (nea Z (by omega)), if_pos h1.2]
    have mb : ∀ Z, Z ∈ b.gr ∨ (∃ i ∈ b.lv, Z = lf i) → μ Z = μb Z := fun Z hZ => by
      have h1 : Z.lv.length ≤ b.lv.length ∧ Z.mn ∈ b.lv := by
        rcases hZ with h | ⟨i, hi, rfl⟩
        · exact ⟨(gr_sublist h).length_le, (gr_sublist h).subset Z.mn_mem⟩
        · exact ⟨b.lv_pos, hi⟩
      show (if Z = nd a b then v else if Z.mn ∈ a.lv then μa Z else μb Z) = _
      rw [if_neg (nea Z (by omega)), if_neg (dj _ h1.2)]
    have self : ∀ c : Nest, c ∈ c.gr ∨ ∃ i ∈ c.lv, c = lf i := fun c => by
      cases c with
      | lf i => exact .inr ⟨i, by simp [lv], rfl⟩
      | nd x y => exact .inl (gr_self x y)
    have m0 : μ (nd a b) = v := if_pos rfl
    refine ⟨μ, fun i hi => ?_, m0, ?_⟩
    · rcases List.mem_append.mp hi with h | h
      · rw [ma _ (.inr ⟨i, h, rfl⟩), a1 i h]
      · rw [mb _ (.inr ⟨i, h, rfl⟩), b1 i h]
    · rw [ch, ch_congr ma, ch_congr mb, a3, b3, m0, ma a (self a), mb b (self b), a2, b2, fC, fD]
      rw [fS] at hv
      rcases fS_or m a with q1 | q1 | q1 <;> rcases fS_or m b with q2 | q2 | q2 <;> rw [q1] at p1 p2 hv ⊢ <;> rw [q2] at p3 p4 hv ⊢ <;> cases v <;> cases wa <;> cases wb <;> simp [bI, cap] at p1 p2 p3 p4 hv ⊢
/-! the tree's nodes and edges -/
def edges : Nest → List (Nest × Nest)
  | lf _ => []
  | nd a b => (a, nd a b) :: (b, nd a b) :: (edges a ++ edges b)
def nodes : Nest → List Nest
  | lf i => [lf i]
  | nd a b => nd a b :: (nodes a ++ nodes b)
theorem edges_perm : ∀ t : Nest, (t :: (edges t).map (·.1)).Perm (nodes t)
  | lf _ => .refl _
  | nd a b => by
    have ha := edges_perm a
    have hb := edges_perm b
    rw [edges, nodes, List.map_cons, List.map_cons, List.map_append]
    refine List.Perm.cons _ ?_
    refine List.Perm.trans ?_ (ha.append hb)
    rw [List.cons_append]
    refine List.Perm.cons _ ?_
    exact List.perm_middle.symm
theorem nodes_perm : ∀ t : Nest, (nodes t).Perm (t.lv.map lf ++ t.gr)
  | lf _ => .refl _
  | nd a b => by
    rw [nodes, lv, gr, List.map_append]
    refine List.Perm.trans ?_ List.perm_middle.symm
    refine List.Perm.cons _ ?_
    refine ((nodes_perm a).append (nodes_perm b)).trans ?_
    rw [List.append_assoc, List.append_assoc]
    refine List.Perm.append_left _ ?_
    rw [← List.append_assoc, ← List.append_assoc]
    exact List.perm_append_comm.append_right _
theorem ch_edges (μ : Nest → Bool) : ∀ t : Nest, ch μ t = ((edges t).map fun e => if μ e.1 = μ e.2 then 0 else 1).sum
  | lf _ => rfl
  | nd a b => by
    rw [ch, edges, List.map_cons, List.map_cons, List.sum_cons, List.sum_cons, List.map_append, List.sum_append, ch_edges μ a, ch_edges μ b]
    simp only
    omega
theorem edges_kid : ∀ {t : Nest} {e : Nest × Nest}, e ∈ edges t → e.2 ∈ t.gr ∧ ∃ s, Kid e.2 e.1 s
  | lf _, _, h => by simp [edges] at h
  | nd a b, e, h => by
    rw [edges] at h
    rcases List.mem_cons.mp h with rfl | h
    · exact ⟨gr_self a b, b, .inl rfl⟩
    · rcases List.mem_cons.mp h with rfl | h
      · exact ⟨gr_self a b, a, .inr rfl⟩
      · rcases List.mem_append.mp h with h | h
        · obtain ⟨h1, h2⟩ := edges_kid h
          exact ⟨by simp [gr, h1], h2⟩
        · obtain ⟨h1, h2⟩ := edges_kid h
          exact ⟨by simp [gr, h1], h2⟩
end Nest
end J
namespace J
open PySem PySem.Spec PyProof.Rows L2
/-! ### the text of a row tells the row -/
def cd (i : Int) : List Nat := (Str.ofString (toString i)).cps.toList
def body : Nat → List (List Nat) → List Nat
  | _, [] => []
  | k, t :: r => (if k > 0 then [44, 32] else []) ++ t ++ body (k + 1) r
theorem textFrom_cps : ∀ (ts : List Str) (k : Nat) (acc : Str), (textFrom k acc ts).cps.toList = acc.cps.toList ++ body k (ts.map fun t => t.cps.toList)
  | [], k, acc => by rw [textFrom, List.map_nil, body, List.append_nil]
  | t :: r, k, acc => by
    rw [textFrom, textFrom_cps r, List.map_cons, body, Str.cps_append, Str.cps_append, Array.toList_append, Array.toList_append]
    by_cases h : k > 0
    · rw [if_pos h, if_pos h, List.append_assoc, List.append_assoc, List.append_assoc]; rfl
    · rw [if_neg h, if_neg h, List.append_assoc, List.append_assoc, List.append_assoc]; rfl
theorem shown_ints : ∀ g : List Int, PyData.shownAll (g.map PyData.int) = g.map fun i => Str.ofString (toString i)
  | [] => by rw [List.map_nil, PyData.shownAll]; rfl
  | x :: r => by rw [List.map_cons, PyData.shownAll, shown_ints r, PyData.shown_int]; rfl
def txt (g : List Int) : Str := PyData.shown (dI g)
theorem txt_cps (g : List Int) : (txt g).cps.toList = 91 :: (body 0 (g.map cd) ++ [93]) := by
  have e : txt g = listText (g.map fun i => Str.ofString (toString i)) := by
    show PyData.shown (.list (g.map PyData.int)) = _
    simp only [PyData.shown]
    rw [shown_ints]
  rw [e]
  unfold listText
  rw [Str.cps_append, Array.toList_append, textFrom_cps, List.map_map]
  rfl
def small20 (g : List Int) : Prop := ∀ x ∈ g, 0 ≤ x ∧ x < 20
theorem cd_facts : ∀ k < 20, (cd (k : Nat) ≠ [] ∧ (cd (k : Nat)).all fun c => decide (c ≠ 44) && decide (c ≠ 93)) ∧ ∀ j < 20, cd (j : Nat) = cd (k : Nat) → j = k := by decide +kernel
theorem cd_ok {x : Int} (h : 0 ≤ x ∧ x < 20) : cd x ≠ [] ∧ ∀ c ∈ cd x, c ≠ 44 ∧ c ≠ 93 := by
  have e : ((x.toNat : Nat) : Int) = x := by omega
  have := (cd_facts x.toNat (by omega)).1
  rw [e] at this
  refine ⟨this.1, fun c hc => ?_⟩
  have := List.all_eq_true.mp this.2 c hc
  simpa using this
theorem cd_inj {x y : Int} (hx : 0 ≤ x ∧ x < 20) (hy : 0 ≤ y ∧ y < 20) (h : cd x = cd y) : x = y := by
  have e1 : ((x.toNat : Nat) : Int) = x := by omega
  have e2 : ((y.toNat : Nat) : Int) = y := by omega
  have := (cd_facts y.toNat (by omega)).2 x.toNat (by omega)
  rw [e1, e2] at this
  have := this h
  omega
theorem sep_inj : ∀ {a b X Y : List Nat} {c d : Nat}, (∀ x ∈ a, x ≠ 44 ∧ x ≠ 93) → (∀ x ∈ b, x ≠ 44 ∧ x ≠ 93) → (c = 44 ∨ c = 93) → (d = 44 ∨ d = 93) → a ++ c :: X = b ++ d :: Y → a = b ∧ c :: X = d :: Y
  | [], [], X, Y, c, d, _, _, _, _, h => ⟨rfl, h⟩
  | [], y :: b, X, Y, c, d, _, hb, hc, _, h => by
    injection h with h1 h2
    have := hb y List.mem_cons_self
    omega
  | x :: a, [], X, Y, c, d, ha, _, _, hd, h => by
    injection h with h1 h2
    have := ha x List.mem_cons_self
    omega
  | x :: a, y :: b, X, Y, c, d, ha, hb, hc, hd, h => by
    injection h with h1 h2
    obtain ⟨e1, e2⟩ := sep_inj (fun z hz => ha z (List.mem_cons_of_mem _ hz)) (fun z hz => hb z (List.mem_cons_of_mem _ hz)) hc hd h2
    exact ⟨by rw [h1, e1], e2⟩
theorem body_tail (k : Nat) (g : List Int) : ∃ c X, (c = 44 ∨ c = 93) ∧ body (k + 1) (g.map cd) ++ [93] = c :: X := by
  cases g with
  | nil => exact ⟨93, [], .inr rfl, rfl⟩
  | cons x r =>
    rw [List.map_cons, body, if_pos (Nat.succ_pos k)]
    exact ⟨44, _, .inl rfl, rfl⟩
theorem body_inj : ∀ {a b : List Int} (k : Nat), small20 a → small20 b → body (k + 1) (a.map cd) ++ [93] = body (k + 1) (b.map cd) ++ [93] → a = b
  | [], [], _, _, _, _ => rfl
  | [], y :: t, k, _, _, h => by
    rw [List.map_cons, List.map_nil, body, body, if_pos (Nat.succ_pos k)] at h
    injection h with h1 h2
    cases h1
  | x :: r, [], k, _, _, h => by
    rw [List.map_cons, List.map_nil, body, body, if_pos (Nat.succ_pos k)] at h
    injection h with h1 h2
    cases h1
  | x :: r, y :: t, k, ha, hb, h => by
    rw [List.map_cons, List.map_cons, body, body, if_pos (Nat.succ_pos k)] at h
    have hx := ha x List.mem_cons_self
    have hy := hb y List.mem_cons_self
    obtain ⟨c, X, hc, ec⟩ := body_tail (k + 1) r
    obtain ⟨d, Y, hd, ed⟩ := body_tail (k + 1) t
    rw [List.append_assoc, List.append_assoc, List.append_assoc, List.append_assoc] at h
    have h := List.append_cancel_left h
    rw [ec, ed] at h
    obtain ⟨e1, e2⟩ := sep_inj (cd_ok hx).2 (cd_ok hy).2 hc hd h
    rw [← ec, ← ed] at e2
    rw [cd_inj hx hy e1, body_inj (k + 1) (fun z hz => ha z (List.mem_cons_of_mem _ hz)) (fun z hz => hb z (List.mem_cons_of_mem _ hz)) e2]
theorem txt_inj {a b : List Int} (ha : small20 a) (hb : small20 b) (h : txt a = txt b) : a = b := by
  have h : (txt a).cps.toList = (txt b).cps.toList := congrArg (fun s : Str => s.cps.toList) h
  rw [txt_cps, txt_cps] at h
  injection h with _ h
  have first : ∀ (y : Int) (t : List Int), 0 ≤ y ∧ y < 20 → ∃ c X, body 0 ((y :: t).map cd) ++ [93] = c :: X ∧ c ≠ 93 := fun y t hy => by
    obtain ⟨h1, h2⟩ := cd_ok hy
    rw [List.map_cons, body, if_neg (Nat.lt_irrefl 0), List.nil_append]
    cases e : cd y with
    | nil => exact absurd e h1
    | cons c X => exact ⟨c, _, rfl, (h2 c (by rw [e]; exact List.mem_cons_self)).2⟩
  cases a with
  | nil =>
    cases b with
    | nil => rfl
    | cons y t =>
      obtain ⟨c, X, e1, e2⟩ := first y t (hb y List.mem_cons_self)
      rw [e1] at h
      injection h with h1 h2
      exact absurd h1.symm e2
  | cons x r =>
    cases b with
    | nil =>
      obtain ⟨c, X, e1, e2⟩ := first x r (ha x List.mem_cons_self)
      rw [e1] at h
      injection h with h1 h2
      exact absurd h1 e2
    | cons y t =>
      have hx := ha x List.mem_cons_self
      have hy := hb y List.mem_cons_self
      obtain ⟨c, X, hc, ec⟩ := body_tail 0 r
      obtain ⟨d, Y, hd, ed⟩ := body_tail 0 t
      rw [List.map_cons, List.map_cons, body, body, if_neg (Nat.lt_irrefl 0), List.nil_append, List.nil_append, List.append_assoc, List.append_assoc, ec, ed] at h
      obtain ⟨e1, e2⟩ := sep_inj (cd_ok hx).2 (cd_ok hy).2 hc hd h
      rw [← ec, ← ed] at e2
      rw [cd_inj hx hy e1, body_inj 0 (fun z hz => ha z (List.mem_cons_of_mem _ hz)) (fun z hz => hb z (List.mem_cons_of_mem _ hz)) e2]
/-! ### dicts whose keys stand for nests -/
theorem find_map {α β : Type} {f : α → β} {p : β → Bool} {x : α} : ∀ {l : List α}, x ∈ l → p (f x) = true → (∀ y ∈ l, p (f y) = true → y = x) → (l.map f).find? p = some (f x)
  | [], h, _, _ => nomatch h
  | y :: r, h, hp, hu => by
    rw [List.map_cons]
    by_cases e : p (f y) = true
    · rw [List.find?_cons_of_pos e, hu y List.mem_cons_self e]
    · rw [List.find?_cons_of_neg e]
      refine find_map ?_ hp fun z hz => hu z (List.mem_cons_of_mem _ hz)
      rcases List.mem_cons.mp h with h | h
      · exact absurd (h ▸ hp) e
      · exact h
def rowK (g : List Int) : List Key := g.map Sum.inl
theorem isKDs_row : ∀ g : List Int, isKDs (g.map PyData.int) = some (rowK g)
  | [] => rfl
  | x :: r => by rw [List.map_cons, isKDs, isKDs_row r]; rfl
theorem rowK_inj : ∀ {a b : List Int}, rowK a = rowK b → a = b
  | [], [], _ => rfl
  | [], _ :: _, h => nomatch h
  | _ :: _, [], h => nomatch h
  | x :: r, y :: t, h => by
    unfold rowK at h
    rw [List.map_cons, List.map_cons] at h
    injection h with h1 h2
    injection h1 with h1
    rw [h1, rowK_inj h2]
theorem rowK_kD : ∀ g : List Int, (rowK g).map kD = g.map PyData.int
  | [] => rfl
  | x :: r => by
    have := rowK_kD r
    unfold rowK at this ⊢
    rw [List.map_cons, List.map_cons, List.map_cons, this]
    rfl
def kT (g : List Int) : D := .tuple (g.map PyData.int)
def kS (g : List Int) : D := .str (txt g)
def nE (kf : List Int → D) (v : Nest → List Int) (Ns : List Nest) : List (D × D) := Ns.map fun X => (kf X.folk, dI (v X))
structure KeyF (t : Bool) (kf : List Int → D) (P : List Int → Prop) : Prop where
  get : ∀ {v : Nest → List Int} {Ns : List Nest} {X : Nest}, X ∈ Ns → (∀ Y ∈ Ns, P Y.folk) → (∀ Y ∈ Ns, Y.folk = X.folk → Y = X) → getE t (nE kf v Ns) (kf X.folk) = some (some (dI (v X)))
  put : ∀ {v : Nest → List Int} {Ns : List Nest} {X : Nest}, P X.folk → (∀ Y ∈ Ns, P Y.folk ∧ Y.folk ≠ X.folk) → putE t (nE kf v Ns) (kf X.folk) (dI (v X)) = some (nE kf v (Ns ++ [X]))
theorem keyF_T : KeyF true kT fun _ => True := by
  have hk : ∀ g, isKT (kT g) = some (rowK g) := isKDs_row
  refine ⟨fun {v Ns X} h1 _ h2 => ?_, fun {v Ns X} _ h => ?_⟩
  · unfold getE
    rw [if_pos rfl, hk]
    show some (getT (nE kT v Ns) (rowK X.folk)) = _
    unfold getT nE
    rw [find_map (f := fun X : Nest => (kT X.folk, dI (v X))) h1 (decide_eq_true (hk _)) fun Y hY e => h2 Y hY (rowK_inj (Option.some.inj ((hk _).symm.trans (of_decide_eq_true e))))]
    rfl
  · unfold putE
    rw [if_pos rfl, hk, Option.map_some]
    unfold putTD
    rw [if_neg]
    · unfold nE
      rw [List.map_append, rowK_kD]
      rfl
    · intro z
      obtain ⟨p, hp, e⟩ := List.any_eq_true.mp z
      obtain ⟨Y, hY, rfl⟩ := List.mem_map.mp hp
      exact (h Y hY).2 (rowK_inj (Option.some.inj ((hk _).symm.trans (of_decide_eq_true e))))
theorem keyF_S : KeyF false kS small20 := by
  have hk : ∀ g, isKD (kS g) = some (.inr (txt g)) := fun _ => rfl
  have inj : ∀ {a b : List Int}, small20 a → small20 b → isKD (kS a) = some (.inr (txt b)) → a = b := fun ha hb e => by
    have e := Option.some.inj ((hk _).symm.trans e)
    injection e with e
    exact txt_inj ha hb e
  refine ⟨fun {v Ns X} h1 hP h2 => ?_, fun {v Ns X} hX h => ?_⟩
  · unfold getE
    rw [if_neg Bool.false_ne_true, hk]
    show some (getK (nE kS v Ns) (.inr (txt X.folk))) = _
    unfold getK nE
    rw [find_map (f := fun X : Nest => (kS X.folk, dI (v X))) h1 (decide_eq_true (hk _)) fun Y hY e => h2 Y hY (inj (hP Y hY) (hP X h1) (of_decide_eq_true e))]
    rfl
  · unfold putE
    rw [if_neg Bool.false_ne_true, hk, Option.map_some]
    unfold putKD
    rw [if_neg]
    · unfold nE
      rw [List.map_append]
      rfl
    · intro z
      obtain ⟨p, hp, e⟩ := List.any_eq_true.mp z
      obtain ⟨Y, hY, rfl⟩ := List.mem_map.mp hp
      exact (h Y hY).2 (inj (h Y hY).1 hX (of_decide_eq_true e))
end J
namespace J
open PySem PySem.Spec PyProof.Rows L2
namespace Nest
/-- the nodes of a nest as keys: leaves and inner nodes -/
def isNode (t Y : Nest) : Prop := Y ∈ t.gr ∨ ∃ i, Y = lf i
theorem folk_lf (i : Int) : (lf i).folk = [i] := sZ_asc (List.pairwise_singleton _ _)
theorem node_inj {t Y Z : Nest} (hn : t.lv.Nodup) (hY : isNode t Y) (hZ : isNode t Z) (e : Y.folk = Z.folk) : Y = Z := by
  have two : ∀ {A : Nest} {i : Int}, A ∈ t.gr → A.folk ≠ (lf i).folk := fun hA q => by
    have := gr_two hA
    rw [folk_lf] at q
    have q := congrArg List.length q
    rw [len_folk] at q
    simp at q
    omega
  rcases hY with hY | ⟨i, rfl⟩ <;> rcases hZ with hZ | ⟨j, rfl⟩
  · exact folk_inj hn hY hZ e
  · exact absurd e (two hY)
  · exact absurd e.symm (two hZ)
  · rw [folk_lf, folk_lf] at e
    injection e with e
    rw [e]
def leaves (n : Nat) : List Nest := (comp n).map lf
theorem mem_leaves {n : Nat} {i : Int} : lf i ∈ leaves n ↔ 0 ≤ i ∧ i < n := by
  unfold leaves
  rw [List.mem_map]
  constructor
  · rintro ⟨j, hj, e⟩
    injection e with e
    exact e ▸ mem_comp.mp hj
  · exact fun hj => ⟨i, mem_comp.mpr hj, rfl⟩
theorem leaf_of {n : Nat} {Y : Nest} (h : Y ∈ leaves n) : ∃ i, Y = lf i ∧ 0 ≤ i ∧ i < n := by
  unfold leaves at h
  obtain ⟨i, hi, rfl⟩ := List.mem_map.mp h
  exact ⟨i, rfl, mem_comp.mp hi⟩
/-- the halves of a node are told before it -/
theorem halves_done {t X c d : Nest} {n : Nat} {dn td : List Nest} (h : t.Of n) (hp : (dn ++ X :: td).Perm t.gr) (hs : (dn ++ X :: td).Pairwise fun a b => a.folk.length ≤ b.folk.length) (k : Kid X c d) : c ∈ leaves n ++ dn := by
  have hX : X ∈ t.gr := hp.mem_iff.mp (by simp)
  have hsub : ∀ i ∈ c.lv, i ∈ t.lv := fun i hi => (gr_sublist hX).subset (k.mem.mpr (.inl hi))
  cases c with
  | lf i => exact List.mem_append_left _ (mem_leaves.mpr (h.mem.mp (hsub i (by simp [lv]))))
  | nd a b =>
    refine List.mem_append_right _ ?_
    have hc : nd a b ∈ t.gr := gr_trans hX (k.gr.mpr (.inr (.inl (gr_self a b))))
    have hlen := k.len
    have hd := d.lv_pos
    rcases List.mem_append.mp (hp.mem_iff.mpr hc) with q | q
    · exact q
    · rcases List.mem_cons.mp q with e | q
      · exfalso
        have := congrArg (fun Z : Nest => Z.lv.length) e
        omega
      · have := (List.pairwise_cons.mp (List.pairwise_append.mp hs).2.1).1 _ q
        rw [len_folk, len_folk] at this
        omega
theorem nodes_fresh {t X : Nest} {n : Nat} {dn td : List Nest} (h : t.Of n) (hp : (dn ++ X :: td).Perm t.gr) : (∀ Y ∈ leaves n ++ dn, isNode t Y) ∧ (∀ Y ∈ leaves n ++ dn, Y.folk ≠ X.folk) ∧ ∀ Y ∈ leaves n ++ dn, ∀ i ∈ Y.folk, 0 ≤ i ∧ i < n := by
  have hX : X ∈ t.gr := hp.mem_iff.mp (by simp)
  have h1 : ∀ Y ∈ leaves n ++ dn, isNode t Y := fun Y hY => by
    rcases List.mem_append.mp hY with q | q
    · obtain ⟨i, e, _⟩ := leaf_of q
      exact .inr ⟨i, e⟩
    · exact .inl (hp.mem_iff.mp (List.mem_append_left _ q))
  refine ⟨h1, fun Y hY e => ?_, fun Y hY i hi => ?_⟩
  · have e := node_inj h.nodup (h1 Y hY) (.inl hX) e
    subst e
    have hnd : (dn ++ Y :: td).Nodup := hp.nodup_iff.mpr (by
      have := folks_nodup h.nodup
      exact List.Pairwise.of_map Nest.folk (fun a b z e => z (by rw [e])) this)
    rcases List.mem_append.mp hY with q | q
    · obtain ⟨i, e, _⟩ := leaf_of q
      rw [e] at hX
      have := gr_two hX
      simp [lv] at this
    · exact (List.nodup_append.mp hnd).2.2 Y q Y List.mem_cons_self rfl
  · rcases h1 Y hY with q | ⟨j, rfl⟩
    · exact h.mem.mp ((gr_sublist q).subset (mem_folk.mp hi))
    · rw [folk_lf, List.mem_singleton] at hi
      rcases List.mem_append.mp hY with q | q
      · rw [hi]; exact mem_leaves.mp q
      · have := gr_two (hp.mem_iff.mp (List.mem_append_left _ q))
        simp [lv] at this
end Nest
theorem sAug_ok {i : Nat} {op : Int → Int → Int} {f : Ev} {env : J.Env} {s s1 : STO} {a b : Int} (h1 : env[i]? = some (.sh (.int a))) (h2 : f (see [] env) s = some (.int b, s1)) : sAug i [] op f env s = some (.nx, env.set i (.sh (.int (op a b))), s1) := by
  unfold sAug
  rw [h1]
  simp only
  rw [h2]
  simp only [Option.bind_some]
  rw [show fzT [] s1 env = env from if_pos rfl]
end J
namespace K33
open PySem PySem.Spec PyProof.Rows L2 J
open Nest (fS fC fD cap lf nd Kid leaves isNode)
theorem need_parting_eq {t : Nest} {n : Nat} (h : t.Of n) (h20 : n ≤ 20) (s : STO) : F_need_parting [dL t.lots] s = some (.none, s) := by
  refine fnD_nx (e1 := [.sh (dL t.lots)]) (s1 := s) ?_ (fin_self _ _)
  unfold b_need_parting
  exact sSeq_nx (e1 := [.sh (dL t.lots)]) (s1 := s) (sIf_f (nT_ok (b := true) (bT_ok (eCall_ok (aApp_ok (aC_ok (eVar_ok rfl) aN_ok) aN_ok) (is_parting_true (h.parting h20) s)))) rfl) rfl
theorem many_in_eq {t : Nest} {n : Nat} (h : t.Of n) (s : STO) : F_many_in [dL t.lots] s = some (.int (n : Nat), s) := by
  refine fnD_rt (e1 := [.sh (dL t.lots)]) (s1 := s) ?_ (fin_self _ _)
  unfold b_many_in
  have := h.lots_len
  refine sSeq_rt (sRet_ok (eBin_ok (eOp_ok (aC_ok (eVar_ok rfl) aN_ok) (cLen_dL _)) eC_ok ?_))
  show some (PyData.int ((t.lots.length : Int) + 1)) = _
  rw [show ((t.lots.length : Int) + 1) = (n : Int) by omega]
theorem need_marked_eq {n : Nat} {m : List Int} (hm : ∀ x ∈ m, 0 ≤ x ∧ x < n) (ha : m.Pairwise (· < ·)) (hl : m.length ≤ 1000) (s : STO) : F_need_marked [.int (n : Nat), dI m] s = some (.none, s) := by
  have c1 : c_need_marked_1 (see [] [.sh (.int (n : Nat)), .sh (dI m), .no, .no]) s = some (.list (m.map fun _ => PyData.bool true), s) := by
    unfold c_need_marked_1
    refine eComp_map m PyData.int (fun x => [(2, .int x)]) _ (iVal_l (eVar_ok rfl)) (by omega) (fun _ _ => rfl) fun x hx => ?_
    refine eAnd_t (eCall_ok (aApp_ok (aC_ok (eVar_ok rfl) aN_ok) aN_ok) (is_integer_eq x s)) ?_
    rw [chain_in (m := (n : Int)) (i := x) eC_ok (eVar_ok rfl) (eVar_ok rfl), decide_eq_true (hm x hx).1, decide_eq_true (hm x hx).2]
    rfl
  have c2 : c_need_marked_2 (see [] [.sh (.int (n : Nat)), .sh (dI m), .no, .no]) s = some (.list ((m.zip (m.drop 1)).map fun _ => PyData.bool true), s) := by
    unfold c_need_marked_2
    refine eComp_map (m.zip (m.drop 1)) (fun p : Int × Int => .tuple [.int p.1, .int p.2]) (fun p => [(2, .int p.1), (3, .int p.2)]) _ ?_ (by rw [List.length_zip]; omega) (fun _ _ => rfl) fun p hp => ?_
    · rw [asc_iter (l := m.map PyData.int) rfl, ← List.map_drop, zi_map]
    · exact eBin_ok (eVar_ok rfl) (eVar_ok rfl) (dLt_t (pairwise_zip ha p hp))
  have a1 := cAll_map (fun _ : Int => true) m
  have a2 := cAll_map (fun _ : Int × Int => true) (m.zip (m.drop 1))
  rw [List.all_eq_true.mpr fun _ _ => rfl] at a1 a2
  refine fnD_nx (e1 := [.sh (.int (n : Nat)), .sh (dI m), .no, .no]) (s1 := s) ?_ (fin_self _ _)
  unfold b_need_marked
  refine sSeq_nx (e1 := [.sh (.int (n : Nat)), .sh (dI m), .no, .no]) (s1 := s) (sIf_f (oT_f (nT_ok (b := true) (bT_ok (eUn_ok (eVar_ok rfl) (dIsi_eq rfl)))) (nT_ok (b := true) (bT_ok (eOp_ok (aC_ok c1 aN_ok) a1)))) rfl) ?_
  exact sSeq_nx (e1 := [.sh (.int (n : Nat)), .sh (dI m), .no, .no]) (s1 := s) (sIf_f (nT_ok (b := true) (bT_ok (eOp_ok (aC_ok c2 aN_ok) a2))) rfl) rfl
/-! ### changes_of -/
abbrev envF (L m : D) (j : Nat) (c : Int) (a4 a5 a6 a7 a8 : Slot) : J.Env := [.sh L, .sh m, .sh (tokD j), .sh (.int c), a4, a5, a6, a7, a8, .no, .no, .no]
theorem cTuple_dI (g : List Int) : cTuple [dI g] = some (kT g) := rfl
theorem dNe_nil0 (l : List Int) : dNe (dI l) (.list []) = some (.bool (decide (l ≠ []))) := by
  have := dNe_nil (es := l.map PyData.int) (shaped_dI l)
  rw [show (dI l) = .list (l.map PyData.int) from rfl, this]
  cases l <;> rfl
theorem fit_turn {t X c d : Nest} {n : Nat} {m : List Int} {cnt sz : Int} {a6 a7 a8 : Slot} {Ns : List Nest} {h : Int} {r : List Int} {s : STO} (ho : t.Of n) (h20 : n ≤ 20) (hX : X ∈ t.gr) (k : Kid X c d) (e : X.folk = h :: r) (e1 : firstOf t.lots (h :: r) h = c.folk) (e2 : restOf t.lots h r = d.folk)
    (hc : c ∈ Ns) (hd : d ∈ Ns) (hN : ∀ Y ∈ Ns, isNode t Y) (hf : ∀ Y ∈ Ns, Y.folk ≠ X.folk) (hl : Ns.length ≤ 1000) :
    ∃ a6' a7' a8', l_changes_of_1 (envF (dL t.lots) (dI m) s.length cnt (.sh (dI X.folk)) (.sh (.int sz)) a6 a7 a8) (s ++ [.dct true (nE kT (fS m) Ns)]) = some (.nx, envF (dL t.lots) (dI m) s.length (cnt + (fD m X : Nat)) (.sh (dI X.folk)) (.sh (.int sz)) a6' a7' a8', s ++ [.dct true (nE kT (fS m) (Ns ++ [X]))]) := by
  have hlen : ∀ Y ∈ Ns ++ [X], Y.folk.length ≤ 1000 := fun Y hY => by
    have hY : isNode t Y := by
      rcases List.mem_append.mp hY with q | q
      · exact hN Y q
      · rw [List.mem_singleton.mp q]; exact .inl hX
    rcases hY with q | ⟨i, rfl⟩
    · have := (Nest.gr_sublist q).length_le
      have := ho.len
      rw [Nest.len_folk]; omega
    · rw [Nest.folk_lf]; simp
  have uq : ∀ Z ∈ Ns, ∀ Y ∈ Ns, Y.folk = Z.folk → Y = Z := fun Z hZ Y hY q => Nest.node_inj ho.nodup (hN Y hY) (hN Z hZ) q
  have gc := keyF_T.get (v := fS m) hc (fun _ _ => trivial) (uq c hc)
  have gd := keyF_T.get (v := fS m) hd (fun _ _ => trivial) (uq d hd)
  have pt := keyF_T.put (v := fS m) (X := X) (Ns := Ns) trivial fun Y hY => ⟨trivial, hf Y hY⟩
  have hp : F_parts_in [dL t.lots, dI X.folk] (s ++ [.dct true (nE kT (fS m) Ns)]) = some (.list [dI c.folk, dI d.folk], s ++ [.dct true (nE kT (fS m) Ns)]) := by
    have := parts_in_eq t.lots h r (s ++ [.dct true (nE kT (fS m) Ns)]) (by rw [← e]; exact Nat.le_trans (hlen X (by simp)) (by omega))
    rw [e, this, e1]
    unfold restOf at e2
    rw [e1] at e2
    rw [e2]
  let env0 := envF (dL t.lots) (dI m) s.length cnt (.sh (dI X.folk)) (.sh (.int sz)) a6 a7 a8
  have c3 : c_changes_of_3 (see [] env0) (s ++ [.dct true (nE kT (fS m) Ns)]) = some (.list [dI (fS m c), dI (fS m d)], s ++ [.dct true (nE kT (fS m) Ns)]) := by
    unfold c_changes_of_3
    refine eComp_map [c, d] (fun Y : Nest => dI Y.folk) (fun Y => [(10, dI Y.folk)]) (fun Y => dI (fS m Y)) (iVal_l (eCall_ok (aApp_ok (aC_ok (eVar_ok rfl) (aC_ok (eVar_ok rfl) aN_ok)) aN_ok) hp)) (by simp) (fun _ _ => rfl) fun Y hY => ?_
    have hg : getE true (nE kT (fS m) Ns) (kT Y.folk) = some (some (dI (fS m Y))) := by
      rcases List.mem_cons.mp hY with rfl | hY
      · exact gc
      · rw [List.mem_singleton] at hY
        subst hY
        exact gd
    exact eDGet_ok (eVar_ok rfl) (eOp_ok (aC_ok (eVar_ok rfl) aN_ok) (cTuple_dI Y.folk)) (dEnt_tok last_get) hg
  let env1 := envF (dL t.lots) (dI m) s.length cnt (.sh (dI X.folk)) (.sh (.int sz)) (.sh (dI (fS m c))) (.sh (dI (fS m d))) a8
  have c4 : c_changes_of_4 (see [] env1) (s ++ [.dct true (nE kT (fS m) Ns)]) = some (dI (cap (fS m c) (fS m d)), s ++ [.dct true (nE kT (fS m) Ns)]) := by
    unfold c_changes_of_4
    refine eComp_pure (fS m c) PyData.int (fun x => [(11, .int x)]) (fun x => decide (x ∈ fS m d)) _ (iVal_l (eVar_ok rfl)) ?_ (fun _ _ => rfl) (fun x _ => bT_ok (eBin_ok (eVar_ok rfl) (eVar_ok rfl) (dIn_int x _))) fun x _ _ => eVar_ok rfl
    rcases Nest.fS_or m c with q | q | q <;> rw [q] <;> simp
  obtain ⟨k1, k2⟩ := Nest.fS_kid (m := m) k
  refine ⟨.sh (dI (fS m c)), .sh (dI (fS m d)), .sh (dI (cap (fS m c) (fS m d))), ?_⟩
  unfold l_changes_of_1
  refine sSeq_nx (e1 := env1) (s1 := s ++ [.dct true (nE kT (fS m) Ns)]) ?_ ?_
  · have := sBind_ok (M := []) (env := env0) (bd := bL2 6 7) c3 rfl rfl
    rw [fz, fzI_nil] at this
    exact this
  refine sSeq_nx (sSet_ok (d := dI (cap (fS m c) (fS m d))) c4) ?_
  refine sSeq_nx (e1 := envF (dL t.lots) (dI m) s.length (cnt + (fD m X : Nat)) (.sh (dI X.folk)) (.sh (.int sz)) (.sh (dI (fS m c))) (.sh (dI (fS m d))) (.sh (dI (cap (fS m c) (fS m d))))) (s1 := s ++ [.dct true (nE kT (fS m) Ns)]) ?_ ?_
  · have hv : (fD m X : Int) = if cap (fS m c) (fS m d) = [] then 1 else 0 := by rw [k2]; split <;> rfl
    rw [hv]
    refine (sAug_ok (a := cnt) (b := if cap (fS m c) (fS m d) = [] then 1 else 0) rfl (eOp_ok (ds := [.bool (decide (cap (fS m c) (fS m d) = []))]) (aC_ok (eBin_ok (eVar_ok rfl) (eLst_ok aN_ok) (dEq_dI _ [])) aN_ok) ?_)).trans rfl
    by_cases q : cap (fS m c) (fS m d) = []
    · rw [if_pos q, decide_eq_true q]; rfl
    · rw [if_neg q, decide_eq_false q]; rfl
  · refine sSeq_nx (e1 := envF (dL t.lots) (dI m) s.length (cnt + (fD m X : Nat)) (.sh (dI X.folk)) (.sh (.int sz)) (.sh (dI (fS m c))) (.sh (dI (fS m d))) (.sh (dI (cap (fS m c) (fS m d))))) (s1 := s ++ [.dct true (nE kT (fS m) (Ns ++ [X]))]) ?_ rfl
    have hval : eIf (bT (eBin dNe (eVar 8) (eLst aN))) (eVar 8) (eC (.list [(.int 0), (.int 1)])) (see [] (envF (dL t.lots) (dI m) s.length (cnt + (fD m X : Nat)) (.sh (dI X.folk)) (.sh (.int sz)) (.sh (dI (fS m c))) (.sh (dI (fS m d))) (.sh (dI (cap (fS m c) (fS m d)))))) (s ++ [.dct true (nE kT (fS m) Ns)]) = some (dI (fS m X), s ++ [.dct true (nE kT (fS m) Ns)]) := by
      rw [k1]
      by_cases q : cap (fS m c) (fS m d) = []
      · rw [if_pos q]
        exact eIf_f (bT_ok (eBin_ok (eVar_ok rfl) (eLst_ok aN_ok) (by rw [dNe_nil0, decide_eq_false (by simpa using q)]))) eC_ok
      · rw [if_neg q]
        exact eIf_t (bT_ok (eBin_ok (eVar_ok rfl) (eLst_ok aN_ok) (by rw [dNe_nil0, decide_eq_true q]))) (eVar_ok rfl)
    have q := sDSto_ok (fp := eVar 2) (fi := eOp cTuple (aC (eVar 4) aN)) (kd := kT X.folk) (es := nE kT (fS m) Ns) (s3 := s ++ [.dct true (nE kT (fS m) Ns)]) (j := s.length) hval (eVar_ok rfl) (eOp_ok (aC_ok (eVar_ok rfl) aN_ok) (cTuple_dI X.folk)) last_get (by unfold nE; rw [List.length_map]; omega) pt
    rw [last_set] at q
    exact q
end K33
namespace K33
open PySem PySem.Spec PyProof.Rows L2 J
open Nest (fS fC fD cap lf nd Kid leaves isNode)
theorem forL_cons2 {i j : Nat} {body : Sv} {d1 d2 : D} {r : List D} {env env1 : J.Env} {s s1 : STO} {R : Option (Out × J.Env × STO)} (hi : allLt env.length [(i, d1), (j, d2)] = true) (hd : noTok (.tuple [d1, d2]) = true)
    (h1 : body (setE env [(i, d1), (j, d2)]) s = some (.nx, env1, s1)) (h2 : forL (bT2 i j) body r env1 s1 = R) : forL (bT2 i j) body (.tuple [d1, d2] :: r) env s = R := by
  rw [forL]
  simp only [bT2, Option.bind_some]
  rw [if_pos ⟨hi, hd⟩, h1]
  exact h2
theorem noTok_pr (g : List Int) : noTok (.tuple [.int (g.length : Nat), dI g]) = true := by
  show (true && (noTok (dI g) && true)) = true
  rw [noTok_dI]; rfl
theorem fit_loop {t : Nest} {n : Nat} {m : List Int} {s : STO} (ho : t.Of n) (h20 : n ≤ 20) : ∀ (td dn : List Nest) (cnt : Int) (a4 a5 a6 a7 a8 : Slot), (dn ++ td).Perm t.gr → (dn ++ td).Pairwise (fun a b => a.folk.length ≤ b.folk.length) →
    ∃ a4' a5' a6' a7' a8', forL (bT2 5 4) l_changes_of_1 (td.map fun X => pr X.folk) (envF (dL t.lots) (dI m) s.length cnt a4 a5 a6 a7 a8) (s ++ [.dct true (nE kT (fS m) (leaves n ++ dn))]) =
      some (.nx, envF (dL t.lots) (dI m) s.length (cnt + ((td.map (fD m)).sum : Nat)) a4' a5' a6' a7' a8', s ++ [.dct true (nE kT (fS m) (leaves n ++ (dn ++ td)))])
  | [], dn, cnt, a4, a5, a6, a7, a8, _, _ => ⟨a4, a5, a6, a7, a8, by rw [List.append_nil, show cnt + ((([] : List Nest).map (fD m)).sum : Nat) = cnt by simp]; rfl⟩
  | X :: td, dn, cnt, a4, a5, a6, a7, a8, hp, hs => by
    have hX : X ∈ t.gr := hp.mem_iff.mp (by simp)
    obtain ⟨h, r, e, hh⟩ := Nest.folk_cons X
    obtain ⟨c, d, k, _, e1, e2⟩ := Nest.halves_of ho.nodup hX e
    obtain ⟨f1, f2, f3⟩ := Nest.nodes_fresh ho hp
    have hgl : (leaves n ++ dn).length ≤ 1000 := by
      have h1 := hp.length_eq
      have h2 := t.gr_length
      have h3 := ho.len
      have h4 : (leaves n).length = n := by unfold leaves; rw [List.length_map, comp_len]
      rw [List.length_append] at h1 ⊢
      omega
    obtain ⟨b6, b7, b8, q1⟩ := fit_turn (m := m) (cnt := cnt) (sz := (X.folk.length : Nat)) (a6 := a6) (a7 := a7) (a8 := a8) (s := s) ho h20 hX k e e1 e2 (Nest.halves_done ho hp hs k) (Nest.halves_done ho hp hs k.sym) f1 f2 hgl
    have hp2 : ((dn ++ [X]) ++ td).Perm t.gr := by rw [List.append_assoc]; exact hp
    have hs2 : ((dn ++ [X]) ++ td).Pairwise (fun a b => a.folk.length ≤ b.folk.length) := by rw [List.append_assoc]; exact hs
    obtain ⟨a4', a5', a6', a7', a8', q2⟩ := fit_loop (m := m) (s := s) ho h20 td (dn ++ [X]) (cnt + (fD m X : Nat)) (.sh (dI X.folk)) (.sh (.int (X.folk.length : Nat))) b6 b7 b8 hp2 hs2
    rw [List.append_assoc] at q1
    rw [List.append_assoc] at q2
    refine ⟨a4', a5', a6', a7', a8', ?_⟩
    rw [List.map_cons, List.map_cons, List.sum_cons]
    refine forL_cons2 (by rfl) (noTok_pr X.folk) q1 ?_
    rw [q2, show cnt + (fD m X : Nat) + ((td.map (fD m)).sum : Nat) = cnt + ((fD m X + (td.map (fD m)).sum : Nat) : Int) by push_cast; omega]
    rfl
theorem leaf_loop {L : D} {m : List Int} {S : STO} : ∀ (l dn : List Int), (dn ++ l).Nodup →
    compD true (bN 9) k_changes_of_1 v_changes_of_1 [9] (see [] [.sh L, .sh (dI m), .no, .no, .no, .no, .no, .no, .no, .no, .no, .no]) (nE kT (fS m) (dn.map lf)) (l.map PyData.int) S = some (nE kT (fS m) ((dn ++ l).map lf), S)
  | [], dn, _ => by rw [List.append_nil]; rfl
  | i :: l, dn, hn => by
    have hk : k_changes_of_1 (setV (wipeV (see [] [.sh L, .sh (dI m), .no, .no, .no, .no, .no, .no, .no, .no, .no, .no]) [9]) [(9, .int i)]) S = some (kT (lf i).folk, S) := by
      rw [Nest.folk_lf]
      exact eTup_ok (aC_ok (eVar_ok rfl) aN_ok)
    have hv : v_changes_of_1 (setV (wipeV (see [] [.sh L, .sh (dI m), .no, .no, .no, .no, .no, .no, .no, .no, .no, .no]) [9]) [(9, .int i)]) S = some (dI (fS m (lf i)), S) := by
      refine eLst_ok (ds := [.int (Nest.leafM m i)]) (aC_ok (eOp_ok (ds := [.bool (decide (i ∈ m))]) (aC_ok (eBin_ok (eVar_ok rfl) (eVar_ok rfl) (dIn_int i m)) aN_ok) ?_) aN_ok)
      unfold Nest.leafM Nest.bI
      cases decide (i ∈ m) <;> rfl
    have hput := keyF_T.put (v := fS m) (X := lf i) (Ns := dn.map lf) trivial fun Y hY => ⟨trivial, fun q => by
      obtain ⟨j, hj, rfl⟩ := List.mem_map.mp hY
      rw [Nest.folk_lf, Nest.folk_lf] at q
      injection q with q
      subst q
      exact (List.nodup_append.mp hn).2.2 j hj j List.mem_cons_self rfl⟩
    have ih := leaf_loop (L := L) (m := m) (S := S) l (dn ++ [i]) (by rw [List.append_assoc]; exact hn)
    rw [List.append_assoc] at ih
    rw [List.map_cons, compD]
    simp only [bN, Option.bind_some]
    rw [hk, Option.bind_some]
    simp only
    rw [hv, Option.bind_some]
    simp only
    rw [hput, Option.bind_some, show dn.map lf ++ [lf i] = (dn ++ [i]).map lf by rw [List.map_append]; rfl]
    exact ih
theorem sNewDC_ok {t : Bool} {i : Nat} {fi : EvI} {bd : Bd} {fk fv : Ev} {own : List Nat} {env : J.Env} {s s1 s2 : STO} {ds : List D} {es : List (D × D)} (hi : decide (i < env.length) = true) (h1 : fi (see [] env) s = some (ds, s1)) (hl : ds.length ≤ 16777216) (h2 : compD t bd fk fv own (see [] env) [] ds s1 = some (es, s2)) :
    sNewDC t i fi bd fk fv own env s = some (.nx, env.set i (.sh (tokD s2.length)), s2 ++ [.dct t es]) := by
  unfold sNewDC
  rw [if_pos (of_decide_eq_true hi), h1, Option.bind_some]
  simp only
  rw [if_pos hl, h2]
  rfl
/-- the fewest changes of a nest's lots -/
theorem changes_eq {t : Nest} {n : Nat} {m : List Int} (ho : t.Of n) (h20 : n ≤ 20) (hm : ∀ x ∈ m, 0 ≤ x ∧ x < n) (ha : m.Pairwise (· < ·)) (hl : m.length ≤ 1000) {s : STO} (hs : clean s) : F_changes_of [dL t.lots, dI m] s = some (.int (fC m t : Nat), s) := by
  obtain ⟨Xs, x1, x2, x3⟩ := Nest.order_of t
  have hlots := ho.lots_len
  obtain ⟨a4, a5, a6, a7, a8, q⟩ := fit_loop (m := m) (s := s) ho h20 Xs [] 0 .no .no .no .no .no (by simpa using x1) (by simpa using x3)
  rw [List.append_nil, List.nil_append] at q
  have hsum : ((Xs.map (fD m)).sum : Nat) = fC m t := by
    rw [Nest.fC_sum]
    exact List.Perm.sum_nat (x1.map _)
  rw [hsum, Int.zero_add] at q
  refine fnD_rt (d := .int (fC m t : Nat)) (e1 := envF (dL t.lots) (dI m) s.length (fC m t : Nat) a4 a5 a6 a7 a8) (s1 := s ++ [.dct true (nE kT (fS m) (leaves n ++ Xs))]) ?_ (fin_drop hs rfl rfl)
  unfold b_changes_of
  refine sSeq_nx (e1 := [.sh (dL t.lots), .sh (dI m), .no, .no, .no, .no, .no, .no, .no, .no, .no, .no]) (s1 := s) (sEx_ok (eCall_ok (aApp_ok (aC_ok (eVar_ok rfl) aN_ok) aN_ok) (need_parting_eq ho h20 s))) ?_
  refine sSeq_nx (e1 := [.sh (dL t.lots), .sh (dI m), .no, .no, .no, .no, .no, .no, .no, .no, .no, .no]) (s1 := s) (sEx_ok (eCall_ok (aApp_ok (aC_ok (eCall_ok (aApp_ok (aC_ok (eVar_ok rfl) aN_ok) aN_ok) (many_in_eq ho s)) (aC_ok (eVar_ok rfl) aN_ok)) aN_ok) (need_marked_eq hm ha hl s))) ?_
  refine sSeq_nx (e1 := [.sh (dL t.lots), .sh (dI m), .sh (tokD s.length), .no, .no, .no, .no, .no, .no, .no, .no, .no]) (s1 := s ++ [.dct true (nE kT (fS m) (leaves n))]) ?_ ?_
  · refine sNewDC_ok rfl (iU_ok (eCall_ok (aApp_ok (aC_ok (eVar_ok rfl) aN_ok) aN_ok) (many_in_eq ho s)) (rg1_ok (by omega))) (by rw [List.length_map, comp_len]; omega) ?_
    exact leaf_loop (comp n) [] (comp_nodup n)
  refine sSeq_nx (e1 := envF (dL t.lots) (dI m) s.length 0 .no .no .no .no .no) (s1 := s ++ [.dct true (nE kT (fS m) (leaves n))]) (sSet_ok (d := .int 0) eC_ok) ?_
  refine sSeq_nx (e1 := envF (dL t.lots) (dI m) s.length (fC m t : Nat) a4 a5 a6 a7 a8) (s1 := s ++ [.dct true (nE kT (fS m) (leaves n ++ Xs))]) ?_ (sSeq_rt (sRet_ok (eVar_ok rfl)))
  refine sFor_ok (ds := Xs.map fun X => pr X.folk) (s1 := s ++ [.dct true (nE kT (fS m) (leaves n))]) (iVal_l (eUn_ok (d1 := .list (t.lots.map pr)) ?_ ?_)) (by rw [fz, fzI_nil]; exact q)
  · unfold c_changes_of_2
    exact eComp_map t.lots dI (fun g => [(4, dI g)]) pr (iVal_l (eVar_ok rfl)) (by omega) (fun _ _ => rfl) fun g _ => eTup_ok (aC_ok (eOp_ok (aC_ok (eVar_ok rfl) aN_ok) (cLen_dI g)) (aC_ok (eVar_ok rfl) aN_ok))
  · rw [dSort_prs (by omega), x2, List.map_map]
    rfl
end K33
namespace K33
open PySem PySem.Spec PyProof.Rows L2 J
theorem halves_step (ls : List (List Int)) (h : Int) (r first other : List Int) (s : STO) (x : Slot) :
    l__law_halves_1 [.sh (dL ls), .sh (dI (h :: r)), .sh (dI first), .sh (dI other), x] s = some (.nx, [.sh (dL ls), .sh (dI (h :: r)), .sh (dI (firstStep (h :: r) h first other)), .sh (dI other), x], s) := by
  have hin := dIn_int h other
  simp only [dI] at hin
  unfold firstStep
  by_cases h1 : first.length < other.length
  · by_cases h2 : other.length < (h :: r).length
    · by_cases h3 : h ∈ other
      · rw [if_pos ⟨h1, h2, h3⟩]
        have h2' : (other.length : Int) < r.length + 1 := by simp at h2; omega
        simp [l__law_halves_1, okM_nil, fzT, fnD, sSeq, sRet, sIf, sSet, sNil, sNever, sEx, sRetN, see, seeI, seeS_sh, seeS_no, seeS_tt, seeS_ff, fz, fzI, fzS_ff, fzS_sh, fzS_no, fzS_ow, fzIf, mkS, eIf, bT, aT, oT, nT, eUn, eVar, eLst, eTup, aC, aN, eCall, aApp, eBin, eIdx, eC, eOp, pick, dIdx, eAnd, eOr, dNot, eChain, dIsi, isMk, isiB, typD, fin_self, dI, dL, eSl, oN, oS, dSl, iVal, iB, iU, isLst, bN, bT2, wipeV, setV, isScal, full, cLen, dLt, h1, h2', atI, ixN, hin, h3, cList]
      · rw [if_neg (fun z => h3 z.2.2)]
        have h2' : (other.length : Int) < r.length + 1 := by simp at h2; omega
        simp [l__law_halves_1, okM_nil, fzT, fnD, sSeq, sRet, sIf, sSet, sNil, sNever, sEx, sRetN, see, seeI, seeS_sh, seeS_no, seeS_tt, seeS_ff, fz, fzI, fzS_ff, fzS_sh, fzS_no, fzS_ow, fzIf, mkS, eIf, bT, aT, oT, nT, eUn, eVar, eLst, eTup, aC, aN, eCall, aApp, eBin, eIdx, eC, eOp, pick, dIdx, eAnd, eOr, dNot, eChain, dIsi, isMk, isiB, typD, fin_self, dI, dL, eSl, oN, oS, dSl, iVal, iB, iU, isLst, bN, bT2, wipeV, setV, isScal, full, cLen, dLt, h1, h2', atI, ixN, hin, h3, cList]
    · rw [if_neg (fun z => h2 z.2.1)]
      have h2' : ¬ (other.length : Int) < r.length + 1 := by simp at h2; omega
      simp [l__law_halves_1, okM_nil, fzT, fnD, sSeq, sRet, sIf, sSet, sNil, sNever, sEx, sRetN, see, seeI, seeS_sh, seeS_no, seeS_tt, seeS_ff, fz, fzI, fzS_ff, fzS_sh, fzS_no, fzS_ow, fzIf, mkS, eIf, bT, aT, oT, nT, eUn, eVar, eLst, eTup, aC, aN, eCall, aApp, eBin, eIdx, eC, eOp, pick, dIdx, eAnd, eOr, dNot, eChain, dIsi, isMk, isiB, typD, fin_self, dI, dL, eSl, oN, oS, dSl, iVal, iB, iU, isLst, bN, bT2, wipeV, setV, isScal, full, cLen, dLt, h1, h2', atI, ixN, hin, cList]
  · rw [if_neg (fun z => h1 z.1)]
    simp [l__law_halves_1, okM_nil, fzT, fnD, sSeq, sRet, sIf, sSet, sNil, sNever, sEx, sRetN, see, seeI, seeS_sh, seeS_no, seeS_tt, seeS_ff, fz, fzI, fzS_ff, fzS_sh, fzS_no, fzS_ow, fzIf, mkS, eIf, bT, aT, oT, nT, eUn, eVar, eLst, eTup, aC, aN, eCall, aApp, eBin, eIdx, eC, eOp, pick, dIdx, eAnd, eOr, dNot, eChain, dIsi, isMk, isiB, typD, fin_self, dI, dL, eSl, oN, oS, dSl, iVal, iB, iU, isLst, bN, bT2, wipeV, setV, isScal, full, cLen, dLt, h1, atI, ixN, hin, cList]
theorem halves_loop (h : Int) (r : List Int) (ls0 : List (List Int)) (s : STO) (x : Slot) : ∀ (ls : List (List Int)) (first : List Int) (y : Slot),
    ∃ y', forL (bN 3) l__law_halves_1 (ls.map dI) [.sh (dL ls0), .sh (dI (h :: r)), .sh (dI first), y, x] s = some (.nx, [.sh (dL ls0), .sh (dI (h :: r)), .sh (dI (ls.foldl (firstStep (h :: r) h) first)), y', x], s)
  | [], first, y => ⟨y, rfl⟩
  | o :: ls, first, y => by
    obtain ⟨y', ih⟩ := halves_loop h r ls0 s x ls (firstStep (h :: r) h first o) (.sh (dI o))
    refine ⟨y', ?_⟩
    rw [List.map_cons, forL]
    simp only [bN, Option.bind_some]
    rw [if_pos ⟨by rfl, noTok_dI o⟩]
    show ((l__law_halves_1 [.sh (dL ls0), .sh (dI (h :: r)), .sh (dI first), .sh (dI o), x] s).bind _) = _
    rw [halves_step]
    simp only [Option.bind_some]
    exact ih
theorem halves_eq (ls : List (List Int)) (h : Int) (r : List Int) (s : STO) (hl : (h :: r).length ≤ 16777216) :
    F__law_halves [dL ls, dI (h :: r)] s = some (.list [dI (firstOf ls (h :: r) h), dI ((h :: r).filter fun x => !decide (x ∈ firstOf ls (h :: r) h))], s) := by
  obtain ⟨y', hloop⟩ := halves_loop h r ls s .no ls [h] .no
  have hc : ∀ f : List Int, c__law_halves_1 [some (dL ls), some (dI (h :: r)), some (dI f), (seeS false y'), none] s = some (.list (((h :: r).filter fun x => !decide (x ∈ f)).map PyData.int), s) := by
    intro f
    unfold c__law_halves_1
    refine eComp_pure (h :: r) PyData.int (fun x => [(4, .int x)]) (fun x => !decide (x ∈ f)) _ ?_ hl (fun _ _ => rfl) (fun x _ => ?_) fun x _ _ => ?_
    · simp [iVal, eVar]
    · have := dNotIn_int x f
      simp only [dI] at this
      simp [setV, wipeV, bT, eBin, eVar, this]
    · simp [setV, wipeV, eVar]
  have hc := hc (firstOf ls (h :: r) h)
  simp only [dI, dL] at hloop hc
  unfold firstOf at hc ⊢
  have e1 : (h :: r).take 1 = [h] := rfl
  rw [e1] at hc ⊢
  simp only [List.map_cons, List.map_nil] at hloop hc
  simp [F__law_halves, b__law_halves, okM_nil, fzT, fnD, sSeq, sRet, sIf, sSet, sNil, sNever, sEx, sRetN, see, seeI, seeS_sh, seeS_no, seeS_tt, seeS_ff, fz, fzI, fzS_ff, fzS_sh, fzS_no, fzS_ow, fzIf, mkS, eIf, bT, aT, oT, nT, eUn, eVar, eLst, eTup, aC, aN, eCall, aApp, eBin, eIdx, eC, eOp, pick, dIdx, eAnd, eOr, dNot, eChain, dIsi, isMk, isiB, typD, fin_self, dI, dL, eSl, oN, oS, dSl, iVal, iB, iU, isLst, bN, bT2, wipeV, setV, isScal, full, sFor, cut_head, hloop, hc]
end K33
namespace K33
open PySem PySem.Spec PyProof.Rows L2 J
open Nest (fS fC fD cap lf nd Kid leaves isNode h0 h1 kC)
def vC (m : List Int) (X : Nest) : List Int := [(kC m X).1, (kC m X).2]
theorem repr_row {g : List Int} (h : small20 g) (hl : g.length ≤ 20) : dRepr (dI g) = some (kS g) :=
  (Ok.row (fun x hx => ⟨(h x hx).1, by have := (h x hx).2; omega⟩) hl).repr (by decide) (by decide)
abbrev envK (L m : D) (n : Nat) (j : Nat) (a4 a5 a6 a7 a8 a9 : Slot) : J.Env := [.sh L, .sh (.int (n : Nat)), .sh m, .sh (tokD j), a4, a5, a6, a7, a8, a9, .no, .no]
theorem leaf_turn {L : D} {m : List Int} {n i : Nat} {s : STO} {Ns : List Nest} (hi : i < 20) (hN : ∀ Y ∈ Ns, small20 Y.folk ∧ Y.folk ≠ [(i : Int)]) (hl : Ns.length ≤ 1000) :
    l__law_by_costs_1 (envK L (dI m) n s.length (.sh (.int (i : Nat))) .no .no .no .no .no) (s ++ [.dct false (nE kS (vC m) Ns)]) = some (.nx, envK L (dI m) n s.length (.sh (.int (i : Nat))) .no .no .no .no .no, s ++ [.dct false (nE kS (vC m) (Ns ++ [lf (i : Nat)]))]) := by
  have hf : (lf (i : Int)).folk = [(i : Int)] := Nest.folk_lf _
  have hsm : small20 [(i : Int)] := fun x hx => by rw [List.mem_singleton.mp hx]; omega
  have put := keyF_S.put (v := vC m) (X := lf (i : Int)) (Ns := Ns) (by rw [hf]; exact hsm) fun Y hY => by rw [hf]; exact hN Y hY
  rw [hf] at put
  unfold l__law_by_costs_1
  refine sSeq_nx (e1 := envK L (dI m) n s.length (.sh (.int (i : Nat))) .no .no .no .no .no) (s1 := s ++ [.dct false (nE kS (vC m) (Ns ++ [lf (i : Nat)]))]) ?_ rfl
  have hval : eIf (bT (eBin dIn (eVar 4) (eVar 2))) (eC (.list [(.int 99), (.int 0)])) (eC (.list [(.int 0), (.int 99)])) (see [] (envK L (dI m) n s.length (.sh (.int (i : Nat))) .no .no .no .no .no)) (s ++ [.dct false (nE kS (vC m) Ns)]) = some (dI (vC m (lf (i : Nat))), s ++ [.dct false (nE kS (vC m) Ns)]) := by
    by_cases q : (i : Int) ∈ m
    · have e : vC m (lf (i : Int)) = [99, 0] := by unfold vC kC; rw [if_pos q]
      rw [e]
      exact eIf_t (bT_ok (eBin_ok (eVar_ok rfl) (eVar_ok rfl) (by rw [dIn_int, decide_eq_true q]))) eC_ok
    · have e : vC m (lf (i : Int)) = [0, 99] := by unfold vC kC; rw [if_neg q]
      rw [e]
      exact eIf_f (bT_ok (eBin_ok (eVar_ok rfl) (eVar_ok rfl) (by rw [dIn_int, decide_eq_false q]))) eC_ok
  have q := sDSto_ok (fp := eVar 3) (fi := eUn dRepr (eLst (aC (eVar 4) aN))) (kd := kS [(i : Int)]) (es := nE kS (vC m) Ns) (s3 := s ++ [.dct false (nE kS (vC m) Ns)]) (j := s.length) hval (eVar_ok rfl) (eUn_ok (eLst_ok (aC_ok (eVar_ok rfl) aN_ok)) (repr_row hsm (by simp))) last_get (by unfold nE; rw [List.length_map]; omega) put
  rw [last_set] at q
  exact q
theorem leaves_loop {L : D} {m : List Int} {n : Nat} {s : STO} : ∀ (k j : Nat) (a4 : Slot), j + k ≤ 20 → (a4 = .no ∨ ∃ i : Int, a4 = .sh (.int i)) →
    ∃ a4', forL (bN 4) l__law_by_costs_1 ((List.range' j k).map fun i : Nat => PyData.int i) (envK L (dI m) n s.length a4 .no .no .no .no .no) (s ++ [.dct false (nE kS (vC m) (leaves j))]) = some (.nx, envK L (dI m) n s.length a4' .no .no .no .no .no, s ++ [.dct false (nE kS (vC m) (leaves (j + k)))])
  | 0, j, a4, _, _ => ⟨a4, rfl⟩
  | k + 1, j, a4, h, _ => by
    have hl : (leaves j).length = j := by unfold leaves; rw [List.length_map, comp_len]
    have e1 := leaf_turn (L := L) (m := m) (n := n) (i := j) (s := s) (Ns := leaves j) (by omega) (fun Y hY => by
      obtain ⟨i, rfl, h1, h2⟩ := Nest.leaf_of hY
      rw [Nest.folk_lf]
      refine ⟨fun x hx => by rw [List.mem_singleton.mp hx]; omega, fun q => ?_⟩
      injection q with q
      omega) (by omega)
    obtain ⟨a4', e2⟩ := leaves_loop (L := L) (m := m) (n := n) (s := s) k (j + 1) (.sh (.int (j : Nat))) (by omega) (.inr ⟨_, rfl⟩)
    refine ⟨a4', ?_⟩
    have e3 : leaves j ++ [lf (j : Nat)] = leaves (j + 1) := by unfold leaves; rw [comp_succ, List.map_append]; rfl
    rw [e3] at e1
    rw [List.range'_succ, List.map_cons, show j + (k + 1) = j + 1 + k by omega]
    exact forL_cons (by simp) rfl e1 e2
theorem sum_two (a b : Int) : cSum [.list [.int a, .int b]] = some (.int (a + b)) := by
  show (isInts ([a, b].map PyData.int)).map (fun ns => PyData.int ns.sum) = _
  rw [isInts_map]
  simp
theorem min_two (a b : Int) : cMin [.int a, .int b] = some (.int (min a b)) := by
  show some (PyData.int (if b < a then b else a)) = _
  rw [show (if b < a then b else a) = min a b by split <;> omega]
def hB (m : List Int) (b : Bool) (Y : Nest) : Int := if b = true then h1 (kC m Y) else h0 (kC m Y)
theorem mark_turn {t X c d : Nest} {n : Nat} {m : List Int} {sz : Int} {a4 a9 : Slot} {cs : List Int} {Ns : List Nest} {s : STO} (b : Bool) (h20 : n ≤ 20)
    (hh : F__law_halves [dL t.lots, dI X.folk] (s ++ [.dct false (nE kS (vC m) Ns)]) = some (.list [dI c.folk, dI d.folk], s ++ [.dct false (nE kS (vC m) Ns)])) (hc : c ∈ Ns) (hd : d ∈ Ns) (hN : ∀ Y ∈ Ns, small20 Y.folk ∧ Y.folk.length ≤ 20) (uq : ∀ Z ∈ Ns, ∀ Y ∈ Ns, Y.folk = Z.folk → Y = Z) (hcs : cs.length ≤ 10) :
    ∃ a9', l__law_by_costs_2 [.sh (dL t.lots), .sh (.int (n : Nat)), .sh (dI m), .sh (tokD s.length), a4, .sh (dI X.folk), .sh (.int sz), .ow 1 (dI cs), .sh (.int (Nest.bI b)), a9, .no, .no] (s ++ [.dct false (nE kS (vC m) Ns)]) =
      some (.nx, [.sh (dL t.lots), .sh (.int (n : Nat)), .sh (dI m), .sh (tokD s.length), a4, .sh (dI X.folk), .sh (.int sz), .ow 1 (dI (cs ++ [hB m b c + hB m b d])), .sh (.int (Nest.bI b)), a9', .no, .no], s ++ [.dct false (nE kS (vC m) Ns)]) := by
  let env0 : J.Env := [.sh (dL t.lots), .sh (.int (n : Nat)), .sh (dI m), .sh (tokD s.length), a4, .sh (dI X.folk), .sh (.int sz), .ow 1 (dI cs), .sh (.int (Nest.bI b)), a9, .no, .no]
  have c2 : c__law_by_costs_2 (see [] env0) (s ++ [.dct false (nE kS (vC m) Ns)]) = some (.list [dI (vC m c), dI (vC m d)], s ++ [.dct false (nE kS (vC m) Ns)]) := by
    unfold c__law_by_costs_2
    refine eComp_map [c, d] (fun Y : Nest => dI Y.folk) (fun Y => [(10, dI Y.folk)]) (fun Y => dI (vC m Y)) (iVal_l (eCall_ok (aApp_ok (aC_ok (eVar_ok rfl) (aC_ok (eVar_ok rfl) aN_ok)) aN_ok) hh)) (by simp) (fun _ _ => rfl) fun Y hY => ?_
    have hYN : Y ∈ Ns := by
      rcases List.mem_cons.mp hY with rfl | hY
      · exact hc
      · rw [List.mem_singleton.mp hY]; exact hd
    exact eDGet_ok (eVar_ok rfl) (eUn_ok (eVar_ok rfl) (repr_row (hN Y hYN).1 (hN Y hYN).2)) (dEnt_tok last_get) (keyF_S.get (v := vC m) hYN (fun Z hZ => (hN Z hZ).1) (uq Y hYN))
  let env1 : J.Env := [.sh (dL t.lots), .sh (.int (n : Nat)), .sh (dI m), .sh (tokD s.length), a4, .sh (dI X.folk), .sh (.int sz), .ow 1 (dI cs), .sh (.int (Nest.bI b)), .sh (.list [dI (vC m c), dI (vC m d)]), .no, .no]
  have c3 : c__law_by_costs_3 (see [] env1) (s ++ [.dct false (nE kS (vC m) Ns)]) = some (.list [.int (hB m b c), .int (hB m b d)], s ++ [.dct false (nE kS (vC m) Ns)]) := by
    unfold c__law_by_costs_3
    refine eComp_map [c, d] (fun Y : Nest => dI (vC m Y)) (fun Y => [(11, dI (vC m Y))]) (fun Y => .int (hB m b Y)) (iVal_l (eVar_ok rfl)) (by simp) (fun _ _ => rfl) fun Y hY => ?_
    cases b with
    | false => exact eOp_ok (aC_ok (eIdx_ok (eVar_ok rfl) (eVar_ok rfl) (show dIdx _ (dI (vC m Y)) (.int 0) = some (.int (kC m Y).1) from atI_nat (n := 0) (by omega) rfl)) (aC_ok (eBin_ok (eIdx_ok (eVar_ok rfl) (eBin_ok eC_ok (eVar_ok rfl) rfl) (show dIdx _ (dI (vC m Y)) (.int 1) = some (.int (kC m Y).2) from atI_nat (n := 1) (by omega) rfl)) eC_ok rfl) aN_ok)) (min_two _ _)
    | true => exact eOp_ok (aC_ok (eIdx_ok (eVar_ok rfl) (eVar_ok rfl) (show dIdx _ (dI (vC m Y)) (.int 1) = some (.int (kC m Y).2) from atI_nat (n := 1) (by omega) rfl)) (aC_ok (eBin_ok (eIdx_ok (eVar_ok rfl) (eBin_ok eC_ok (eVar_ok rfl) rfl) (show dIdx _ (dI (vC m Y)) (.int 0) = some (.int (kC m Y).1) from atI_nat (n := 0) (by omega) rfl)) eC_ok rfl) aN_ok)) (min_two _ _)
  refine ⟨.sh (.list [dI (vC m c), dI (vC m d)]), ?_⟩
  unfold l__law_by_costs_2
  refine sSeq_nx (e1 := env1) (s1 := s ++ [.dct false (nE kS (vC m) Ns)]) (sSet_ok (i := 9) (k := 0) c2) ?_
  refine sSeq_nx (sApp_ok (d := .int (hB m b c + hB m b d)) (s1 := s ++ [.dct false (nE kS (vC m) Ns)]) (ds := cs.map PyData.int) (eOp_ok (aC_ok c3 aN_ok) (sum_two _ _)) rfl (by rw [List.length_map]; omega)) ?_
  rw [snocI]
  rfl
theorem sDSto_okM {M : List Nat} {fp fi fv : Ev} {env : J.Env} {s s1 s2 s3 : STO} {d kd : D} {j : Nat} {t : Bool} {es es' : List (D × D)} (h1 : fv (see M env) s = some (d, s1)) (h2 : fp (see M env) s1 = some (tokD j, s2)) (h3 : fi (see M env) s2 = some (kd, s3)) (hc : s3[j]? = some (.dct t es)) (hl : es.length < 16777216) (hM : (M.isEmpty || isScal kd) = true) (h4 : putE t es kd d = some es') :
    sDSto M fp fi fv env s = some (.nx, fzIf 0 d M s3 env, s3.set j (.dct t es')) := by
  unfold sDSto
  rw [h1, Option.bind_some]
  simp only
  rw [h2, Option.bind_some]
  simp only
  rw [isTok_tok, Option.bind_some, h3, Option.bind_some]
  simp only
  rw [hc]
  simp only
  rw [if_pos ⟨hl, hM⟩, h4]
  rfl
theorem cost_turn {t X c d : Nest} {n : Nat} {m : List Int} {sz : Int} {a4 a7 a8 a9 : Slot} {Ns : List Nest} {h : Int} {r : List Int} {s : STO} (ho : t.Of n) (h20 : n ≤ 20) (hX : X ∈ t.gr) (k : Kid X c d) (e : X.folk = h :: r) (e1 : firstOf t.lots (h :: r) h = c.folk) (e2 : restOf t.lots h r = d.folk)
    (hc : c ∈ Ns) (hd : d ∈ Ns) (hN : ∀ Y ∈ Ns, isNode t Y ∧ small20 Y.folk) (hf : ∀ Y ∈ Ns, Y.folk ≠ X.folk) (hl : Ns.length ≤ 1000) :
    ∃ a7' a8' a9', l__law_by_costs_3 (envK (dL t.lots) (dI m) n s.length a4 (.sh (dI X.folk)) (.sh (.int sz)) a7 a8 a9) (s ++ [.dct false (nE kS (vC m) Ns)]) = some (.nx, envK (dL t.lots) (dI m) n s.length a4 (.sh (dI X.folk)) (.sh (.int sz)) a7' a8' a9', s ++ [.dct false (nE kS (vC m) (Ns ++ [X]))]) := by
  have hXs : small20 X.folk ∧ X.folk.length ≤ 20 := by
    constructor
    · intro x hx
      have := ho.mem.mp ((Nest.gr_sublist hX).subset (Nest.mem_folk.mp hx))
      omega
    · have := (Nest.gr_sublist hX).length_le
      have := ho.len
      rw [Nest.len_folk]; omega
  have hN2 : ∀ Y ∈ Ns, small20 Y.folk ∧ Y.folk.length ≤ 20 := fun Y hY => by
    refine ⟨(hN Y hY).2, ?_⟩
    rcases (hN Y hY).1 with q | ⟨i, rfl⟩
    · have := (Nest.gr_sublist q).length_le
      have := ho.len
      rw [Nest.len_folk]; omega
    · rw [Nest.folk_lf]; simp
  have uq : ∀ Z ∈ Ns, ∀ Y ∈ Ns, Y.folk = Z.folk → Y = Z := fun Z hZ Y hY q => Nest.node_inj ho.nodup (hN Y hY).1 (hN Z hZ).1 q
  have put := keyF_S.put (v := vC m) (X := X) (Ns := Ns) hXs.1 fun Y hY => ⟨(hN Y hY).2, hf Y hY⟩
  have hh : F__law_halves [dL t.lots, dI X.folk] (s ++ [.dct false (nE kS (vC m) Ns)]) = some (.list [dI c.folk, dI d.folk], s ++ [.dct false (nE kS (vC m) Ns)]) := by
    have := halves_eq t.lots h r (s ++ [.dct false (nE kS (vC m) Ns)]) (by rw [← e]; have := hXs.2; omega)
    rw [e, this, e1]
    unfold restOf at e2
    rw [e1] at e2
    rw [e2]
  obtain ⟨b9, t1⟩ := mark_turn (n := n) (m := m) (sz := sz) (a4 := a4) (a9 := a9) (cs := []) false h20 hh hc hd hN2 uq (by simp)
  obtain ⟨b9', t2⟩ := mark_turn (n := n) (m := m) (sz := sz) (a4 := a4) (a9 := b9) (cs := [hB m false c + hB m false d]) true h20 hh hc hd hN2 uq (by simp)
  have hv : [hB m false c + hB m false d] ++ [hB m true c + hB m true d] = vC m X := by
    unfold vC
    rcases k with rfl | rfl
    · rfl
    · show [h0 (kC m c) + h0 (kC m d), h1 (kC m c) + h1 (kC m d)] = [h0 (kC m d) + h0 (kC m c), h1 (kC m d) + h1 (kC m c)]
      rw [Int.add_comm (h0 (kC m c)), Int.add_comm (h1 (kC m c))]
  rw [hv] at t2
  refine ⟨.sh (dI (vC m X)), .sh (.int 1), b9', ?_⟩
  unfold l__law_by_costs_3
  refine sSeq_nx (e1 := [.sh (dL t.lots), .sh (.int (n : Nat)), .sh (dI m), .sh (tokD s.length), a4, .sh (dI X.folk), .sh (.int sz), .ow 1 (dI []), a8, a9, .no, .no]) (s1 := s ++ [.dct false (nE kS (vC m) Ns)]) (sSet_ok (i := 7) (k := 1) (d := dI []) (eLst_ok aN_ok)) ?_
  refine sSeq_nx (e1 := [.sh (dL t.lots), .sh (.int (n : Nat)), .sh (dI m), .sh (tokD s.length), a4, .sh (dI X.folk), .sh (.int sz), .ow 1 (dI (vC m X)), .sh (.int 1), b9', .no, .no]) (s1 := s ++ [.dct false (nE kS (vC m) Ns)]) ?_ ?_
  · refine sFor_ok (ds := [.int 0, .int 1]) (s1 := s ++ [.dct false (nE kS (vC m) Ns)]) (iVal_t eC_ok) ?_
    rw [fz, fzI_nil]
    exact forL_cons (by simp) rfl t1 (forL_cons (by simp) rfl t2 rfl)
  · refine sSeq_nx (e1 := envK (dL t.lots) (dI m) n s.length a4 (.sh (dI X.folk)) (.sh (.int sz)) (.sh (dI (vC m X))) (.sh (.int 1)) b9') (s1 := s ++ [.dct false (nE kS (vC m) (Ns ++ [X]))]) ?_ rfl
    have q := sDSto_okM (M := [7]) (env := [.sh (dL t.lots), .sh (.int (n : Nat)), .sh (dI m), .sh (tokD s.length), a4, .sh (dI X.folk), .sh (.int sz), .ow 1 (dI (vC m X)), .sh (.int 1), b9', .no, .no]) (fp := eVar 3) (fi := eUn dRepr (eVar 5)) (fv := eVar 7) (d := dI (vC m X)) (kd := kS X.folk) (es := nE kS (vC m) Ns) (s := s ++ [.dct false (nE kS (vC m) Ns)]) (s3 := s ++ [.dct false (nE kS (vC m) Ns)]) (j := s.length) (eVar_ok rfl) (eVar_ok rfl) (eUn_ok (eVar_ok rfl) (repr_row hXs.1 hXs.2)) last_get (by unfold nE; rw [List.length_map]; omega) rfl put
    rw [last_set] at q
    rw [q]
    have hz : ∀ (S : STO) (E : J.Env), fzIf 0 (dI (vC m X)) [7] S E = fz [7] E := fun S E => by
      unfold fzIf
      rw [if_neg]
      rw [full_zero]
      exact fun z => nomatch z
    rw [hz]
    cases a4 <;> cases b9' <;> rfl
end K33
namespace K33
open PySem PySem.Spec PyProof.Rows L2 J
open Nest (fS fC fD cap lf nd Kid leaves isNode h0 h1 kC)
theorem cost_loop {t : Nest} {n : Nat} {m : List Int} {s : STO} {a4 : Slot} (ho : t.Of n) (h20 : n ≤ 20) : ∀ (td dn : List Nest) (a5 a6 a7 a8 a9 : Slot), (dn ++ td).Perm t.gr → (dn ++ td).Pairwise (fun a b => a.folk.length ≤ b.folk.length) →
    ∃ a5' a6' a7' a8' a9', forL (bT2 6 5) l__law_by_costs_3 (td.map fun X => pr X.folk) (envK (dL t.lots) (dI m) n s.length a4 a5 a6 a7 a8 a9) (s ++ [.dct false (nE kS (vC m) (leaves n ++ dn))]) =
      some (.nx, envK (dL t.lots) (dI m) n s.length a4 a5' a6' a7' a8' a9', s ++ [.dct false (nE kS (vC m) (leaves n ++ (dn ++ td)))])
  | [], dn, a5, a6, a7, a8, a9, _, _ => ⟨a5, a6, a7, a8, a9, by rw [List.append_nil]; rfl⟩
  | X :: td, dn, a5, a6, a7, a8, a9, hp, hs => by
    have hX : X ∈ t.gr := hp.mem_iff.mp (by simp)
    obtain ⟨h, r, e, hh⟩ := Nest.folk_cons X
    obtain ⟨c, d, k, _, e1, e2⟩ := Nest.halves_of ho.nodup hX e
    obtain ⟨f1, f2, f3⟩ := Nest.nodes_fresh ho hp
    have hgl : (leaves n ++ dn).length ≤ 1000 := by
      have h1 := hp.length_eq
      have h2 := t.gr_length
      have h3 := ho.len
      have h4 : (leaves n).length = n := by unfold leaves; rw [List.length_map, comp_len]
      rw [List.length_append] at h1 ⊢
      omega
    obtain ⟨b7, b8, b9, q1⟩ := cost_turn (m := m) (sz := (X.folk.length : Nat)) (a4 := a4) (a7 := a7) (a8 := a8) (a9 := a9) (s := s) ho h20 hX k e e1 e2 (Nest.halves_done ho hp hs k) (Nest.halves_done ho hp hs k.sym) (fun Y hY => ⟨f1 Y hY, fun x hx => by have := f3 Y hY x hx; omega⟩) f2 hgl
    have hp2 : ((dn ++ [X]) ++ td).Perm t.gr := by rw [List.append_assoc]; exact hp
    have hs2 : ((dn ++ [X]) ++ td).Pairwise (fun a b => a.folk.length ≤ b.folk.length) := by rw [List.append_assoc]; exact hs
    obtain ⟨a5', a6', a7', a8', a9', q2⟩ := cost_loop (m := m) (s := s) (a4 := a4) ho h20 td (dn ++ [X]) (.sh (dI X.folk)) (.sh (.int (X.folk.length : Nat))) b7 b8 b9 hp2 hs2
    rw [List.append_assoc] at q1
    rw [List.append_assoc] at q2
    refine ⟨a5', a6', a7', a8', a9', ?_⟩
    rw [List.map_cons]
    exact forL_cons2 (by rfl) (noTok_pr X.folk) q1 q2
theorem dMin_two (a b : Int) : dMin (dI [a, b]) = some (.int (min a b)) := by
  have hok : cmpOk [.int a, .int b] = true := by
    unfold cmpOk
    have h1 : SeqAt.shaped (.list [.int a, .int b]) = true := shaped_dI [a, b]
    rw [h1]
    rfl
  show (if cmpOk [.int a, .int b] = true then some (PySem.W.minD (.int a) [.int b]) else none) = _
  rw [if_pos hok]
  have := PySem.W.minD_ints a [b]
  exact congrArg some this
theorem top_node {t : Nest} {n : Nat} (ho : t.Of n) {Xs : List Nest} (hx : Xs.Perm t.gr) : t ∈ leaves n ++ Xs := by
  cases t with
  | lf i => exact List.mem_append_left _ (Nest.mem_leaves.mpr (ho.mem.mp (by simp [Nest.lv])))
  | nd a b => exact List.mem_append_right _ (hx.mem_iff.mpr (Nest.gr_self a b))
theorem costs_eq {t : Nest} {n : Nat} {m : List Int} (ho : t.Of n) (h20 : n ≤ 20) {s : STO} (hs : clean s) : F__law_by_costs [dL t.lots, .int (n : Nat), dI m] s = some (.int (fC m t : Nat), s) := by
  obtain ⟨Xs, x1, x2, x3⟩ := Nest.order_of t
  have hlots := ho.lots_len
  obtain ⟨a4, q0⟩ := leaves_loop (L := dL t.lots) (m := m) (n := n) (s := s) n 0 .no (by omega) (.inl rfl)
  rw [Nat.zero_add] at q0
  obtain ⟨a5, a6, a7, a8, a9, q⟩ := cost_loop (m := m) (s := s) (a4 := a4) ho h20 Xs [] .no .no .no .no .no (by simpa using x1) (by simpa using x3)
  rw [List.append_nil, List.nil_append] at q
  have hlf : (leaves n).length = n := by unfold leaves; rw [List.length_map, comp_len]
  have nodes : ∀ Y ∈ leaves n ++ Xs, isNode t Y ∧ small20 Y.folk := fun Y hY => by
    rcases List.mem_append.mp hY with z | z
    · obtain ⟨i, rfl, h1, h2⟩ := Nest.leaf_of z
      refine ⟨.inr ⟨i, rfl⟩, fun x hx => ?_⟩
      rw [Nest.folk_lf, List.mem_singleton] at hx
      omega
    · have z := x1.mem_iff.mp z
      refine ⟨.inl z, fun x hx => ?_⟩
      have := ho.mem.mp ((Nest.gr_sublist z).subset (Nest.mem_folk.mp hx))
      omega
  have htop := top_node ho x1
  have get := keyF_S.get (v := vC m) htop (fun Y hY => (nodes Y hY).2) fun Y hY e => Nest.node_inj ho.nodup (nodes Y hY).1 (nodes t htop).1 e
  have hmin : min (kC m t).1 (kC m t).2 = (fC m t : Int) := (Nest.kC_h m t).2.2
  have hkey : dRepr (dI (comp n)) = some (kS t.folk) := by
    rw [ho.folk]
    exact repr_row (fun x hx => by have := mem_comp.mp hx; omega) (by rw [comp_len]; omega)
  refine fnD_rt (d := .int (fC m t : Nat)) (e1 := envK (dL t.lots) (dI m) n s.length a4 a5 a6 a7 a8 a9) (s1 := s ++ [.dct false (nE kS (vC m) (leaves n ++ Xs))]) ?_ (fin_drop hs rfl rfl)
  unfold b__law_by_costs
  refine sSeq_nx (e1 := envK (dL t.lots) (dI m) n s.length .no .no .no .no .no .no) (s1 := s ++ [.dct false (nE kS (vC m) (leaves 0))]) sNewD_ok ?_
  refine sSeq_nx (e1 := envK (dL t.lots) (dI m) n s.length a4 .no .no .no .no .no) (s1 := s ++ [.dct false (nE kS (vC m) (leaves n))]) (sFor0_ok (iU_ok (eVar_ok rfl) (rg1_ok (by omega))) (by rw [← rng_comp]; exact q0)) ?_
  refine sSeq_nx (e1 := envK (dL t.lots) (dI m) n s.length a4 a5 a6 a7 a8 a9) (s1 := s ++ [.dct false (nE kS (vC m) (leaves n ++ Xs))]) ?_ ?_
  · refine sFor_ok (ds := Xs.map fun X => pr X.folk) (s1 := s ++ [.dct false (nE kS (vC m) (leaves n))]) (iVal_l (eUn_ok (d1 := .list (t.lots.map pr)) ?_ ?_)) (by rw [fz, fzI_nil]; exact q)
    · unfold c__law_by_costs_1
      exact eComp_map t.lots dI (fun g => [(5, dI g)]) pr (iVal_l (eVar_ok rfl)) (by omega) (fun _ _ => rfl) fun g _ => eTup_ok (aC_ok (eOp_ok (aC_ok (eVar_ok rfl) aN_ok) (cLen_dI g)) (aC_ok (eVar_ok rfl) aN_ok))
    · rw [dSort_prs (by omega), x2, List.map_map]
      rfl
  · refine sSeq_rt (sRet_ok (eUn_ok (d1 := dI (vC m t)) (eDGet_ok (eVar_ok rfl) (eUn_ok (eLRg_comp (eVar_ok rfl) (by omega)) hkey) (dEnt_tok last_get) get) ?_))
    unfold vC
    rw [dMin_two, hmin]
end K33
namespace J
def sgnF (acc : List (List (List Int))) (L : List (List Int)) : List (List (List Int)) := L.foldl (fun acc row => acc ++ acc.map fun l => l ++ [row]) acc
theorem sgn_len : ∀ (L : List (List Int)) (acc : List (List (List Int))), (sgnF acc L).length = acc.length * 2 ^ L.length
  | [], acc => by simp [sgnF]
  | g :: r, acc => by
    have := sgn_len r (acc ++ acc.map fun l => l ++ [g])
    unfold sgnF at this ⊢
    rw [List.foldl_cons, this, List.length_append, List.length_map, List.length_cons, Nat.pow_succ, ← Nat.two_mul, Nat.mul_comm 2, Nat.mul_assoc, Nat.mul_comm 2]
theorem sgn_all {P : List Int → Prop} : ∀ (L : List (List Int)) (acc : List (List (List Int))), (∀ x ∈ acc, ∀ g ∈ x, P g) → (∀ g ∈ L, P g) → ∀ x ∈ sgnF acc L, ∀ g ∈ x, P g
  | [], acc, h, _, x, hx => h x hx
  | g :: r, acc, h, hL, x, hx => by
    refine sgn_all r (acc ++ acc.map fun l => l ++ [g]) (fun y hy z hz => ?_) (fun y hy => hL y (List.mem_cons_of_mem _ hy)) x hx
    rcases List.mem_append.mp hy with q | q
    · exact h y q z hz
    · obtain ⟨l, hl, rfl⟩ := List.mem_map.mp q
      rcases List.mem_append.mp hz with w | w
      · exact h l hl z w
      · rw [List.mem_singleton.mp w]; exact hL g List.mem_cons_self
theorem sgn_mem {p : List Int → Bool} : ∀ (L : List (List Int)) (acc : List (List (List Int))) (x : List (List Int)), x ∈ acc → x ++ L.filter p ∈ sgnF acc L
  | [], acc, x, h => by simpa [sgnF] using h
  | g :: r, acc, x, h => by
    have e : sgnF acc (g :: r) = sgnF (acc ++ acc.map fun l => l ++ [g]) r := rfl
    rw [e]
    cases q : p g with
    | true =>
      rw [List.filter_cons_of_pos q, List.append_cons]
      exact sgn_mem r _ _ (List.mem_append_right _ (List.mem_map.mpr ⟨x, h, rfl⟩))
    | false =>
      rw [List.filter_cons_of_neg (by rw [q]; exact Bool.false_ne_true)]
      exact sgn_mem r _ _ (List.mem_append_left _ h)
theorem sgn_size {N : Nat} : ∀ (L : List (List Int)) (acc : List (List (List Int))) (k : Nat), (∀ x ∈ acc, x.length ≤ k) → ∀ x ∈ sgnF acc L, x.length ≤ k + L.length
  | [], acc, k, h, x, hx => h x hx
  | g :: r, acc, k, h, x, hx => by
    have := sgn_size (N := N) r (acc ++ acc.map fun l => l ++ [g]) (k + 1) (fun y hy => by
      rcases List.mem_append.mp hy with q | q
      · have := h y q; omega
      · obtain ⟨l, hl, rfl⟩ := List.mem_map.mp q
        have := h l hl
        simp; omega) x hx
    rw [List.length_cons]
    omega
theorem min_is {f : Int} : ∀ (l : List Int) (n : Int), (∀ x ∈ l, f ≤ x) → f ≤ n → (f ∈ l ∨ f = n) → l.foldl (fun a x => min a x) n = f
  | [], n, _, _, h => by
    rcases h with h | h
    · cases h
    · exact h.symm
  | x :: r, n, h1, h2, h3 => by
    rw [List.foldl_cons]
    have hx := h1 x List.mem_cons_self
    refine min_is r _ (fun y hy => h1 y (List.mem_cons_of_mem _ hy)) (by omega) ?_
    rcases h3 with h3 | h3
    · rcases List.mem_cons.mp h3 with h3 | h3
      · right; omega
      · exact .inl h3
    · right; omega
namespace Nest
def par (t Z : Nest) : Option (List Int) := if Z = t then none else some (abv t.lots Z.folk)
def eN (t : Nest) (M : List (List Int)) (Z : Nest) : Nat := match par t Z with
  | none => 0
  | some g => if decide (Z.folk ∈ M) = decide (g ∈ M) then 0 else 1
theorem total_ch {t : Nest} {n : Nat} (ho : t.Of n) {M : List (List Int)} {Ns : List Nest} (hp : Ns.Perm (t.lv.map lf ++ t.gr)) : (Ns.map (eN t M)).sum = ch (fun Z => decide (Z.folk ∈ M)) t := by
  have h1 : Ns.Perm (t :: (edges t).map (·.1)) := hp.trans ((nodes_perm t).symm.trans (edges_perm t).symm)
  have e1 : (Ns.map (eN t M)).sum = ((t :: (edges t).map (·.1)).map (eN t M)).sum := List.Perm.sum_nat (h1.map _)
  rw [e1, ch_edges, List.map_cons, List.sum_cons, List.map_map]
  have e2 : eN t M t = 0 := by unfold eN par; rw [if_pos rfl]
  rw [e2, Nat.zero_add]
  congr 1
  refine List.map_congr_left fun e he => ?_
  obtain ⟨hP, s, k⟩ := edges_kid he
  have hne : e.1 ≠ t := fun q => by
    have h2 := k.len
    have h3 := s.lv_pos
    have h4 := (gr_sublist hP).length_le
    rw [q] at h2
    omega
  show eN t M e.1 = _
  unfold eN par
  rw [if_neg hne, abv_of ho.nodup hP k]
def mks (A : List (List Int)) (m : List Int) : List (List Int) := A ++ m.map fun i => [i]
theorem mks_leaf {t : Nest} {A : List (List Int)} {m : List Int} (hA : ∀ g ∈ A, g ∈ t.lots) (i : Int) : decide ((lf i).folk ∈ mks A m) = decide (i ∈ m) := by
  have e : (lf i).folk = [i] := sZ_asc (List.pairwise_singleton _ _)
  rw [e]
  refine decide_eq_decide.mpr ?_
  unfold mks
  rw [List.mem_append, List.mem_map]
  constructor
  · rintro (q | ⟨j, hj, q⟩)
    · obtain ⟨X, hX, q⟩ := mem_lots.mp (hA _ q)
      have := gr_two hX
      rw [← len_folk, q] at this
      simp at this
    · injection q with q
      exact q ▸ hj
  · exact fun q => .inr ⟨i, q, rfl⟩
theorem total_least {t : Nest} {A : List (List Int)} {m : List Int} (hA : ∀ g ∈ A, g ∈ t.lots) : fC m t ≤ ch (fun Z => decide (Z.folk ∈ mks A m)) t := by
  have := ch_least (m := m) (μ := fun Z => decide (Z.folk ∈ mks A m)) (X := t) fun i _ => mks_leaf hA i
  omega
theorem total_best {t : Nest} {n : Nat} (ho : t.Of n) (m : List Int) : ∃ A ∈ sgnF [[]] t.lots, ch (fun Z => decide (Z.folk ∈ mks A m)) t = fC m t := by
  obtain ⟨v, hv⟩ : ∃ v : Bool, bI v ∈ fS m t := by
    rcases fS_or m t with q | q | q <;> rw [q]
    · exact ⟨false, by decide⟩
    · exact ⟨true, by decide⟩
    · exact ⟨true, by decide⟩
  obtain ⟨μ, h1, _, h3⟩ := ch_attain ho.nodup v hv
  refine ⟨t.lots.filter fun g => decide (g ∈ (t.gr.filter μ).map folk), by
    have := sgn_mem (p := fun g => decide (g ∈ (t.gr.filter μ).map folk)) t.lots [[]] [] (List.mem_singleton.mpr rfl)
    rwa [List.nil_append] at this, ?_⟩
  rw [← h3]
  refine ch_congr fun Z hZ => ?_
  rcases hZ with hZ | ⟨i, hi, rfl⟩
  · show decide (Z.folk ∈ mks _ m) = μ Z
    have hin : Z.folk ∈ mks (t.lots.filter fun g => decide (g ∈ (t.gr.filter μ).map folk)) m ↔ μ Z = true := by
      unfold mks
      rw [List.mem_append, List.mem_filter, decide_eq_true_eq]
      constructor
      · rintro (⟨_, q⟩ | q)
        · obtain ⟨Y, hY, e⟩ := List.mem_map.mp q
          obtain ⟨hY1, hY2⟩ := List.mem_filter.mp hY
          rwa [folk_inj ho.nodup hY1 hZ e] at hY2
        · obtain ⟨i, _, e⟩ := List.mem_map.mp q
          have := gr_two hZ
          rw [← len_folk, ← e] at this
          simp at this
      · intro q
        exact .inl ⟨mem_lots.mpr ⟨Z, hZ, rfl⟩, List.mem_map.mpr ⟨Z, List.mem_filter.mpr ⟨hZ, q⟩, rfl⟩⟩
    cases q : μ Z with
    | true => exact decide_eq_true (hin.mpr q)
    | false => exact decide_eq_false fun z => by rw [hin.mp z] at q; cases q
  · rw [h1 i hi]
    exact mks_leaf (t := t) (fun g hg => (List.mem_filter.mp hg).1) i
end Nest
end J
namespace K33
open PySem PySem.Spec PyProof.Rows L2 J
open Nest (fS fC fD cap lf nd Kid leaves isNode par eN mks ch)
def abD (t Z : Nest) : D := match par t Z with
  | none => .none
  | some g => dI g
theorem dGt_len2 (a b : List Int) : dGt (.int (a.length : Nat)) (.int (b.length : Nat)) = some (.bool (decide (b.length < a.length))) := by
  show some (PyData.bool (decide ((b.length : Int) < (a.length : Int)))) = _
  rw [decide_eq_decide.mpr (Int.ofNat_lt (n := b.length) (m := a.length))]
theorem above_some {t Z : Nest} {n : Nat} (ho : t.Of n) (hZ : Z ∈ leaves n ++ t.gr) (hne : Z ≠ t) : ∃ P s, P ∈ t.gr ∧ Kid P Z s := by
  have h1 : Z ∈ Nest.nodes t := (Nest.nodes_perm t).mem_iff.mpr (by
    rcases List.mem_append.mp hZ with q | q
    · obtain ⟨i, rfl, h1, h2⟩ := Nest.leaf_of q
      exact List.mem_append_left _ (List.mem_map.mpr ⟨i, ho.mem.mpr ⟨h1, h2⟩, rfl⟩)
    · exact List.mem_append_right _ q)
  rcases List.mem_cons.mp ((Nest.edges_perm t).mem_iff.mpr h1) with q | q
  · exact absurd q hne
  · obtain ⟨e, he, rfl⟩ := List.mem_map.mp q
    obtain ⟨h2, s, k⟩ := Nest.edges_kid he
    exact ⟨e.2, s, h2, k⟩
theorem least_above_eq {t Z : Nest} {n : Nat} (ho : t.Of n) (h20 : n ≤ 20) (hZ : Z ∈ leaves n ++ t.gr) (s : STO) : F__law_least_above [dL t.lots, dI Z.folk] s = some (abD t Z, s) := by
  obtain ⟨h, r, e, hh⟩ := Nest.folk_cons Z
  have hlots := ho.lots_len
  have h0 : ∀ S : STO, dIdx S (dI Z.folk) (.int 0) = some (.int h) := fun S => by rw [e]; exact atI_nat (n := 0) (by omega) rfl
  have c1 : c__law_least_above_1 (see [] [.sh (dL t.lots), .sh (dI Z.folk), .no, .no]) s = some (.list ((t.lots.filter fun g => decide (Z.folk.length < g.length) && decide (h ∈ g)).map pr), s) := by
    unfold c__law_least_above_1
    refine eComp_pure t.lots dI (fun g => [(3, dI g)]) (fun g => decide (Z.folk.length < g.length) && decide (h ∈ g)) pr (iVal_l (eVar_ok rfl)) (by omega) (fun _ _ => rfl) (fun g _ => ?_) fun g _ _ => eTup_ok (aC_ok (eOp_ok (aC_ok (eVar_ok rfl) aN_ok) (cLen_dI g)) (aC_ok (eVar_ok rfl) aN_ok))
    have t1 : bT (eBin dGt (eOp cLen (aC (eVar 3) aN)) (eOp cLen (aC (eVar 1) aN))) (setV (wipeV (see [] [.sh (dL t.lots), .sh (dI Z.folk), .no, .no]) [3]) [(3, dI g)]) s = some (decide (Z.folk.length < g.length), s) :=
      bT_ok (eBin_ok (eOp_ok (aC_ok (eVar_ok rfl) aN_ok) (cLen_dI g)) (eOp_ok (aC_ok (eVar_ok rfl) aN_ok) (cLen_dI Z.folk)) (dGt_len2 g Z.folk))
    cases q : decide (Z.folk.length < g.length) with
    | false =>
      rw [q] at t1
      exact aT_f t1
    | true =>
      rw [q] at t1
      exact aT_t t1 (bT_ok (eBin_ok (eIdx_ok (eVar_ok rfl) eC_ok (h0 _)) (eVar_ok rfl) (dIn_int h g)))
  generalize hC : (t.lots.filter fun g => decide (Z.folk.length < g.length) && decide (h ∈ g)) = C at c1
  have hne : ∀ S : STO, bT (eBin dNe (eVar 2) (eLst aN)) (see [] [.sh (dL t.lots), .sh (dI Z.folk), .sh (.list (C.map pr)), .no]) S = some (decide (C ≠ []), S) := fun S => by
    have := dNe_nil (es := C.map pr) (shaped_prs C)
    refine bT_ok (eBin_ok (eVar_ok rfl) (eLst_ok aN_ok) (this.trans ?_))
    cases C <;> rfl
  refine fnD_rt (e1 := [.sh (dL t.lots), .sh (dI Z.folk), .sh (.list (C.map pr)), .no]) (s1 := s) ?_ (fin_self _ _)
  unfold b__law_least_above
  refine sSeq_nx (sSet_ok c1) (sSeq_rt (sRet_ok ?_))
  by_cases hz : Z = t
  · have hnil : C = [] := by
      rw [← hC, List.filter_eq_nil_iff]
      intro g hg q
      obtain ⟨X, hX, rfl⟩ := Nest.mem_lots.mp hg
      have := (Nest.gr_sublist hX).length_le
      rw [Bool.and_eq_true, decide_eq_true_eq, Nest.len_folk, Nest.len_folk, hz] at q
      omega
    have hd : abD t Z = .none := by unfold abD par; rw [if_pos hz]
    rw [hd]
    have := hne s
    rw [decide_eq_false (by rw [hnil]; simp)] at this
    exact eIf_f this eC_ok
  · obtain ⟨P, s0, hP, k⟩ := above_some ho hZ hz
    obtain ⟨⟨p1, p2, p3⟩, p4⟩ := Nest.above_of ho.nodup hP k hh
    have hd : abD t Z = dI P.folk := by unfold abD par; rw [if_neg hz, Nest.abv_of ho.nodup hP k]
    have hmem : P.folk ∈ C := by
      rw [← hC, List.mem_filter, Bool.and_eq_true, decide_eq_true_eq, decide_eq_true_eq]
      exact ⟨p1, p2, p3⟩
    have hmin := dMin_prs hmem fun o ho => by
      rw [← hC, List.mem_filter, Bool.and_eq_true, decide_eq_true_eq, decide_eq_true_eq] at ho
      exact p4 o ho.1 ho.2.1 ho.2.2
    rw [hd]
    have := hne s
    rw [decide_eq_true (List.ne_nil_of_mem hmem)] at this
    exact eIf_t this (eIdx_ok (eUn_ok (eVar_ok rfl) hmin) eC_ok rfl)
/-! ### all marks -/
abbrev dQ (qs : List (List (List Int))) : D := .list (qs.map dL)
theorem dAdd_dQ {a b : List (List (List Int))} (h : a.length + b.length ≤ 16777216) : dAdd (dQ a) (dQ b) = some (dQ (a ++ b)) := by
  show dAdd (.list (a.map dL)) (.list (b.map dL)) = _
  simp only [dAdd, List.length_map]
  rw [if_pos h, ← List.map_append]
theorem dNe_bool (a b : Bool) : dNe (.bool a) (.bool b) = some (.bool (!decide (a = b))) := by
  cases a <;> cases b <;> rfl
theorem noTok_abD (t Z : Nest) : noTok (.tuple [dI Z.folk, abD t Z]) = true := by
  show (noTok (dI Z.folk) && (noTok (abD t Z) && true)) = true
  rw [noTok_dI]
  unfold abD
  cases par t Z with
  | none => rfl
  | some g => simp only; rw [noTok_dI]; rfl
theorem lane_loop {t : Nest} {M : List (List Int)} {e0 e1 e2 e3 e4 e5 e6 e8 e9 : Slot} {s : STO} : ∀ (Ns : List Nest) (tot : Int) (a7 a12 : Slot),
    ∃ a7' a12', forL (bT2 7 12) l__law_by_all_2 (Ns.map fun Z => .tuple [dI Z.folk, abD t Z]) [e0, e1, e2, e3, e4, e5, e6, a7, e8, e9, .sh (dL M), .sh (.int tot), a12, .no, .no] s = some (.nx, [e0, e1, e2, e3, e4, e5, e6, a7', e8, e9, .sh (dL M), .sh (.int (tot + ((Ns.map (eN t M)).sum : Nat))), a12', .no, .no], s)
  | [], tot, a7, a12 => ⟨a7, a12, by rw [show tot + ((([] : List Nest).map (eN t M)).sum : Nat) = tot by simp]; rfl⟩
  | Z :: r, tot, a7, a12 => by
    have step : l__law_by_all_2 [e0, e1, e2, e3, e4, e5, e6, .sh (dI Z.folk), e8, e9, .sh (dL M), .sh (.int tot), .sh (abD t Z), .no, .no] s = some (.nx, [e0, e1, e2, e3, e4, e5, e6, .sh (dI Z.folk), e8, e9, .sh (dL M), .sh (.int (tot + (eN t M Z : Nat))), .sh (abD t Z), .no, .no], s) := by
      unfold l__law_by_all_2 abD eN
      cases par t Z with
      | none =>
        simp only
        rw [show tot + ((0 : Nat) : Int) = tot by omega]
        exact sSeq_nx (e1 := [e0, e1, e2, e3, e4, e5, e6, .sh (dI Z.folk), e8, e9, .sh (dL M), .sh (.int tot), .sh .none, .no, .no]) (s1 := s) (sIf_f (aT_f (bT_ok (eBin_ok (eVar_ok rfl) eC_ok rfl))) rfl) rfl
      | some g =>
        simp only
        have t2 : bT (eBin dNe (eBin dIn (eVar 7) (eVar 10)) (eBin dIn (eVar 12) (eVar 10))) (see [] [e0, e1, e2, e3, e4, e5, e6, .sh (dI Z.folk), e8, e9, .sh (dL M), .sh (.int tot), .sh (dI g), .no, .no]) s = some (!decide (decide (Z.folk ∈ M) = decide (g ∈ M)), s) :=
          bT_ok (eBin_ok (eBin_ok (eVar_ok rfl) (eVar_ok rfl) (dIn_row _ _)) (eBin_ok (eVar_ok rfl) (eVar_ok rfl) (dIn_row _ _)) (dNe_bool _ _))
        have t1 : bT (eBin dIsNot (eVar 12) (eC .none)) (see [] [e0, e1, e2, e3, e4, e5, e6, .sh (dI Z.folk), e8, e9, .sh (dL M), .sh (.int tot), .sh (dI g), .no, .no]) s = some (true, s) := bT_ok (eBin_ok (eVar_ok rfl) eC_ok rfl)
        by_cases q : decide (Z.folk ∈ M) = decide (g ∈ M)
        · rw [if_pos q, show tot + ((0 : Nat) : Int) = tot by omega]
          rw [decide_eq_true q] at t2
          exact sSeq_nx (e1 := [e0, e1, e2, e3, e4, e5, e6, .sh (dI Z.folk), e8, e9, .sh (dL M), .sh (.int tot), .sh (dI g), .no, .no]) (s1 := s) (sIf_f (aT_t t1 t2) rfl) rfl
        · rw [if_neg q]
          rw [decide_eq_false q] at t2
          exact sSeq_nx (e1 := [e0, e1, e2, e3, e4, e5, e6, .sh (dI Z.folk), e8, e9, .sh (dL M), .sh (.int (tot + 1)), .sh (dI g), .no, .no]) (s1 := s) (sIf_t (aT_t t1 t2) (sSeq_nx (sSet_ok (d := .int (tot + 1)) (s1 := s) (eBin_ok (eVar_ok rfl) eC_ok rfl)) rfl)) rfl
    obtain ⟨a7', a12', q⟩ := lane_loop (t := t) (M := M) (e0 := e0) (e1 := e1) (e2 := e2) (e3 := e3) (e4 := e4) (e5 := e5) (e6 := e6) (e8 := e8) (e9 := e9) (s := s) r (tot + (eN t M Z : Nat)) (.sh (dI Z.folk)) (.sh (abD t Z))
    refine ⟨a7', a12', ?_⟩
    rw [List.map_cons, List.map_cons, List.sum_cons]
    refine forL_cons2 (by rfl) (noTok_abD t Z) step ?_
    rw [q, show tot + (eN t M Z : Nat) + ((r.map (eN t M)).sum : Nat) = tot + ((eN t M Z + (r.map (eN t M)).sum : Nat) : Int) by push_cast; omega]
end K33
namespace K33
open PySem PySem.Spec PyProof.Rows L2 J
open Nest (fS fC fD cap lf nd Kid leaves isNode par eN mks ch)
theorem zi_both {α : Type} (f g : α → D) : ∀ l : List α, ziD (l.map f) (l.map g) = l.map fun x => .tuple [f x, g x]
  | [] => rfl
  | x :: r => by
    have := zi_both f g r
    rw [List.map_cons, List.map_cons, List.map_cons, ← this]
    rfl
theorem sign_turn {t : Nest} {m : List Int} {n : Nat} {Ns : List Nest} {least : Int} {signs : List (List (List Int))} {A : List (List Int)} {a6 a7 a10 a11 a12 : Slot} {s : STO} (hA : A.length ≤ 1000) (hm : m.length ≤ 1000) :
    ∃ a7' a10' a11' a12', l__law_by_all_3 [.sh (dL t.lots), .sh (.int (n : Nat)), .sh (dI m), .sh (dL (Ns.map Nest.folk)), .sh (.int least), .sh (dQ signs), a6, a7, .sh (.list (Ns.map (abD t))), .sh (dL A), a10, a11, a12, .no, .no] s =
      some (.nx, [.sh (dL t.lots), .sh (.int (n : Nat)), .sh (dI m), .sh (dL (Ns.map Nest.folk)), .sh (.int (min least ((Ns.map (eN t (mks A m))).sum : Nat))), .sh (dQ signs), a6, a7', .sh (.list (Ns.map (abD t))), .sh (dL A), a10', a11', a12', .no, .no], s) := by
  obtain ⟨b7, b12, q⟩ := lane_loop (t := t) (M := mks A m) (e0 := .sh (dL t.lots)) (e1 := .sh (.int (n : Nat))) (e2 := .sh (dI m)) (e3 := .sh (dL (Ns.map Nest.folk))) (e4 := .sh (.int least)) (e5 := .sh (dQ signs)) (e6 := a6) (e8 := .sh (.list (Ns.map (abD t)))) (e9 := .sh (dL A)) (s := s) Ns 0 a7 a12
  rw [Int.zero_add] at q
  refine ⟨b7, .sh (dL (mks A m)), .sh (.int ((Ns.map (eN t (mks A m))).sum : Nat)), b12, ?_⟩
  have c4 : c__law_by_all_4 (see [] [.sh (dL t.lots), .sh (.int (n : Nat)), .sh (dI m), .sh (dL (Ns.map Nest.folk)), .sh (.int least), .sh (dQ signs), a6, a7, .sh (.list (Ns.map (abD t))), .sh (dL A), a10, a11, a12, .no, .no]) s = some (dL (m.map fun i => [i]), s) := by
    unfold c__law_by_all_4
    have := eComp_map (fi := iVal (eVar 2)) (bd := bN 13) (fe := eLst (aC (eVar 13) aN)) (own := [13]) (vw := see [] [.sh (dL t.lots), .sh (.int (n : Nat)), .sh (dI m), .sh (dL (Ns.map Nest.folk)), .sh (.int least), .sh (dQ signs), a6, a7, .sh (.list (Ns.map (abD t))), .sh (dL A), a10, a11, a12, .no, .no]) (s := s) m PyData.int (fun x => [(13, .int x)]) (fun i => dI [i]) (iVal_l (eVar_ok rfl)) (by omega) (fun _ _ => rfl) fun x _ => eLst_ok (aC_ok (eVar_ok rfl) aN_ok)
    rw [this]
    show _ = some (PyData.list ((m.map fun i => [i]).map dI), s)
    rw [List.map_map]
    rfl
  unfold l__law_by_all_3
  refine sSeq_nx (sSet_ok (i := 10) (k := 0) (d := dL (mks A m)) (s1 := s) (eBin_ok (eVar_ok rfl) c4 (dAdd_dL (by rw [List.length_map]; omega)))) ?_
  refine sSeq_nx (sSet_ok (i := 11) (k := 0) (d := .int 0) (s1 := s) eC_ok) ?_
  refine sSeq_nx (e1 := [.sh (dL t.lots), .sh (.int (n : Nat)), .sh (dI m), .sh (dL (Ns.map Nest.folk)), .sh (.int least), .sh (dQ signs), a6, b7, .sh (.list (Ns.map (abD t))), .sh (dL A), .sh (dL (mks A m)), .sh (.int ((Ns.map (eN t (mks A m))).sum : Nat)), b12, .no, .no]) (s1 := s) ?_ ?_
  · refine sFor_ok (ds := Ns.map fun Z => .tuple [dI Z.folk, abD t Z]) (s1 := s) (iB_ok (d1 := dL (Ns.map Nest.folk)) (d2 := .list (Ns.map (abD t))) (eVar_ok rfl) (eVar_ok rfl) ?_) (by rw [fz, fzI_nil]; exact q)
    show some (ziD ((Ns.map Nest.folk).map dI) (Ns.map (abD t))) = _
    rw [List.map_map, zi_both]
    rfl
  · exact sSeq_nx (sSet_ok (i := 4) (k := 0) (s1 := s) (eOp_ok (aC_ok (eVar_ok rfl) (aC_ok (eVar_ok rfl) aN_ok)) (min_two _ _))) rfl
theorem signs_loop {t : Nest} {m : List Int} {n : Nat} {Ns : List Nest} {signs : List (List (List Int))} {a6 : Slot} {s : STO} (hm : m.length ≤ 1000) : ∀ (qs : List (List (List Int))) (least : Int) (a7 a9 a10 a11 a12 : Slot), (∀ A ∈ qs, A.length ≤ 1000) →
    ∃ a7' a9' a10' a11' a12', forL (bN 9) l__law_by_all_3 (qs.map dL) [.sh (dL t.lots), .sh (.int (n : Nat)), .sh (dI m), .sh (dL (Ns.map Nest.folk)), .sh (.int least), .sh (dQ signs), a6, a7, .sh (.list (Ns.map (abD t))), a9, a10, a11, a12, .no, .no] s =
      some (.nx, [.sh (dL t.lots), .sh (.int (n : Nat)), .sh (dI m), .sh (dL (Ns.map Nest.folk)), .sh (.int ((qs.map fun A => ((Ns.map (eN t (mks A m))).sum : Nat) : List Nat) |>.map (fun x : Nat => (x : Int)) |>.foldl (fun a x => min a x) least)), .sh (dQ signs), a6, a7', .sh (.list (Ns.map (abD t))), a9', a10', a11', a12', .no, .no], s)
  | [], least, a7, a9, a10, a11, a12, _ => ⟨a7, a9, a10, a11, a12, rfl⟩
  | A :: r, least, a7, a9, a10, a11, a12, h => by
    obtain ⟨b7, b10, b11, b12, q1⟩ := sign_turn (t := t) (m := m) (n := n) (Ns := Ns) (least := least) (signs := signs) (a6 := a6) (a7 := a7) (a10 := a10) (a11 := a11) (a12 := a12) (s := s) (h A List.mem_cons_self) hm
    obtain ⟨c7, c9, c10, c11, c12, q2⟩ := signs_loop (t := t) (n := n) (Ns := Ns) (signs := signs) (a6 := a6) (s := s) hm r (min least ((Ns.map (eN t (mks A m))).sum : Nat)) b7 (.sh (dL A)) b10 b11 b12 fun B hB => h B (List.mem_cons_of_mem _ hB)
    exact ⟨c7, c9, c10, c11, c12, forL_cons (by simp) (noTok_dL A) q1 q2⟩
theorem rows_loop {m : List Int} {n : Nat} {L lanes : D} {least : Int} {s : STO} : ∀ (rows : List (List Int)) (acc : List (List (List Int))) (a6 : Slot), (sgnF acc rows).length ≤ 1000000 → (∀ x ∈ acc, x.length + rows.length ≤ 1000) →
    ∃ a6', forL (bN 6) l__law_by_all_1 (rows.map dI) [.sh L, .sh (.int (n : Nat)), .sh (dI m), .sh lanes, .sh (.int least), .sh (dQ acc), a6, .no, .no, .no, .no, .no, .no, .no, .no] s = some (.nx, [.sh L, .sh (.int (n : Nat)), .sh (dI m), .sh lanes, .sh (.int least), .sh (dQ (sgnF acc rows)), a6', .no, .no, .no, .no, .no, .no, .no, .no], s)
  | [], acc, a6, _, _ => ⟨a6, rfl⟩
  | g :: r, acc, a6, h, hx => by
    have hlen : acc.length + acc.length ≤ 1000000 := by
      have e := sgn_len (g :: r) acc
      rw [List.length_cons, Nat.pow_succ] at e
      have hp : 1 ≤ 2 ^ r.length := Nat.pos_of_ne_zero (by simp)
      have : acc.length * 1 ≤ acc.length * 2 ^ r.length := Nat.mul_le_mul_left _ hp
      have e2 : acc.length * (2 ^ r.length * 2) = (acc.length * 2 ^ r.length) * 2 := by rw [Nat.mul_assoc]
      omega
    have c2 : c__law_by_all_2 (see [] [.sh L, .sh (.int (n : Nat)), .sh (dI m), .sh lanes, .sh (.int least), .sh (dQ acc), .sh (dI g), .no, .no, .no, .no, .no, .no, .no, .no]) s = some (dQ (acc.map fun l => l ++ [g]), s) := by
      unfold c__law_by_all_2
      have := eComp_map (fi := iVal (eVar 5)) (bd := bN 14) (fe := eBin dAdd (eVar 14) (eLst (aC (eVar 6) aN))) (own := [14]) (vw := see [] [.sh L, .sh (.int (n : Nat)), .sh (dI m), .sh lanes, .sh (.int least), .sh (dQ acc), .sh (dI g), .no, .no, .no, .no, .no, .no, .no, .no]) (s := s) acc dL (fun x => [(14, dL x)]) (fun l => dL (l ++ [g])) (iVal_l (eVar_ok rfl)) (by omega) (fun _ _ => rfl) fun x hx' => eBin_ok (d1 := dL x) (d2 := dL [g]) (eVar_ok rfl) (eLst_ok (aC_ok (eVar_ok rfl) aN_ok)) (dAdd_dL (by have := hx x hx'; simp at this ⊢; omega))
      rw [this]
      show _ = some (PyData.list ((acc.map fun l => l ++ [g]).map dL), s)
      rw [List.map_map]
      rfl
    have e1 : l__law_by_all_1 [.sh L, .sh (.int (n : Nat)), .sh (dI m), .sh lanes, .sh (.int least), .sh (dQ acc), .sh (dI g), .no, .no, .no, .no, .no, .no, .no, .no] s = some (.nx, [.sh L, .sh (.int (n : Nat)), .sh (dI m), .sh lanes, .sh (.int least), .sh (dQ (acc ++ acc.map fun l => l ++ [g])), .sh (dI g), .no, .no, .no, .no, .no, .no, .no, .no], s) := by
      unfold l__law_by_all_1
      exact sSeq_nx (sSet_ok (i := 5) (k := 0) (d := dQ (acc ++ acc.map fun l => l ++ [g])) (s1 := s) (eBin_ok (eVar_ok rfl) c2 (dAdd_dQ (by rw [List.length_map]; omega)))) rfl
    obtain ⟨a6', e2⟩ := rows_loop (m := m) (n := n) (L := L) (lanes := lanes) (least := least) (s := s) r (acc ++ acc.map fun l => l ++ [g]) (.sh (dI g)) h fun x hx' => by
      rcases List.mem_append.mp hx' with q | q
      · have := hx x q; simp at this; omega
      · obtain ⟨l, hl, rfl⟩ := List.mem_map.mp q
        have := hx l hl
        simp at this ⊢; omega
    exact ⟨a6', forL_cons (by simp) (noTok_dI g) e1 e2⟩
theorem by_all_eq {t : Nest} {n : Nat} {m : List Int} (ho : t.Of n) (h7 : n ≤ 7) (hm : m.length ≤ 1000) (s : STO) : F__law_by_all [dL t.lots, .int (n : Nat), dI m] s = some (.int (fC m t : Nat), s) := by
  obtain ⟨Xs, x1, x2, x3⟩ := Nest.order_of t
  have hlots := ho.lots_len
  obtain ⟨Ys, y1, y2⟩ : ∃ Ys : List Nest, Ys.Perm t.gr ∧ t.lots = Ys.map Nest.folk :=
    ⟨t.gr.mergeSort fun a b => leI a.folk b.folk, List.mergeSort_perm _ _, by
      unfold Nest.lots sR
      exact (PySem.W.sort_maps Nest.folk fun a _ b _ => rfl).symm⟩
  have hNs : (leaves n ++ Ys).Perm (t.lv.map lf ++ t.gr) := by
    refine List.Perm.append ?_ y1
    unfold leaves
    exact (List.Perm.map lf ho).symm
  have hlanes : (comp n).map (fun i => [i]) ++ t.lots = (leaves n ++ Ys).map Nest.folk := by
    rw [List.map_append, y2]
    congr 1
    unfold leaves
    rw [List.map_map]
    exact List.map_congr_left fun i _ => (Nest.folk_lf i).symm
  have hsl : (sgnF [[]] t.lots).length ≤ 1000000 := by
    rw [sgn_len]
    have : 2 ^ t.lots.length ≤ 2 ^ 6 := Nat.pow_le_pow_right (by decide) (by omega)
    simp
    omega
  have hnl : (leaves n ++ Ys).length ≤ 100 := by
    have h1 := y1.length_eq
    have h2 := t.gr_length
    have h3 := ho.len
    have h4 : (leaves n).length = n := by unfold leaves; rw [List.length_map, comp_len]
    rw [List.length_append]
    omega
  obtain ⟨a6, q1⟩ := rows_loop (m := m) (n := n) (L := dL t.lots) (lanes := dL ((leaves n ++ Ys).map Nest.folk)) (least := (n : Nat)) (s := s) t.lots [[]] .no hsl (fun x hx => by rw [List.mem_singleton.mp hx]; simp; omega)
  obtain ⟨a7, a9, a10, a11, a12, q2⟩ := signs_loop (t := t) (m := m) (n := n) (Ns := leaves n ++ Ys) (signs := sgnF [[]] t.lots) (a6 := a6) (s := s) hm (sgnF [[]] t.lots) (n : Nat) .no .no .no .no .no fun A hA => by
    have := sgn_size (N := 0) t.lots [[]] 0 (fun x hx => by rw [List.mem_singleton.mp hx]; simp) A hA
    omega
  have hres : (((sgnF [[]] t.lots).map fun A => (((leaves n ++ Ys).map (eN t (mks A m))).sum : Nat) : List Nat).map (fun x : Nat => (x : Int))).foldl (fun a x => min a x) (n : Int) = (fC m t : Nat) := by
    have hin : ∀ A ∈ sgnF [[]] t.lots, ∀ g ∈ A, g ∈ t.lots := sgn_all (P := fun g => g ∈ t.lots) t.lots [[]] (fun x hx g hg => by rw [List.mem_singleton.mp hx] at hg; cases hg) fun g hg => hg
    refine min_is _ _ (fun x hx => ?_) ?_ (.inl ?_)
    · obtain ⟨y, hy, rfl⟩ := List.mem_map.mp hx
      obtain ⟨A, hA, rfl⟩ := List.mem_map.mp hy
      rw [Nest.total_ch ho hNs]
      have := Nest.total_least (m := m) (hin A hA)
      omega
    · have := Nest.fC_lt m t
      have := ho.len
      omega
    · obtain ⟨A, hA, e⟩ := Nest.total_best ho m
      refine List.mem_map.mpr ⟨fC m t, List.mem_map.mpr ⟨A, hA, ?_⟩, rfl⟩
      rw [Nest.total_ch ho hNs, e]
  rw [hres] at q2
  refine fnD_rt (d := .int (fC m t : Nat)) (e1 := [.sh (dL t.lots), .sh (.int (n : Nat)), .sh (dI m), .sh (dL ((leaves n ++ Ys).map Nest.folk)), .sh (.int (fC m t : Nat)), .sh (dQ (sgnF [[]] t.lots)), a6, a7, .sh (.list ((leaves n ++ Ys).map (abD t))), a9, a10, a11, a12, .no, .no]) (s1 := s) ?_ (fin_self _ _)
  unfold b__law_by_all
  have c1 : c__law_by_all_1 (see [] [.sh (dL t.lots), .sh (.int (n : Nat)), .sh (dI m), .no, .no, .no, .no, .no, .no, .no, .no, .no, .no, .no, .no]) s = some (dL ((comp n).map fun i => [i]), s) := by
    unfold c__law_by_all_1
    have := eComp_map (fi := iU rg1 (eVar 1)) (bd := bN 13) (fe := eLst (aC (eVar 13) aN)) (own := [13]) (vw := see [] [.sh (dL t.lots), .sh (.int (n : Nat)), .sh (dI m), .no, .no, .no, .no, .no, .no, .no, .no, .no, .no, .no, .no]) (s := s) (comp n) PyData.int (fun x => [(13, .int x)]) (fun i => dI [i]) (iU_ok (eVar_ok rfl) (rg1_ok (by omega))) (by rw [comp_len]; omega) (fun _ _ => rfl) fun x _ => eLst_ok (aC_ok (eVar_ok rfl) aN_ok)
    rw [this]
    show _ = some (PyData.list (((comp n).map fun i => [i]).map dI), s)
    rw [List.map_map]
    rfl
  refine sSeq_nx (sSet_ok (i := 3) (k := 0) (d := dL ((leaves n ++ Ys).map Nest.folk)) (s1 := s) (eBin_ok c1 (eVar_ok rfl) ?_)) ?_
  · rw [← hlanes]
    exact dAdd_dL (by rw [List.length_map, comp_len]; omega)
  refine sSeq_nx (sPar_ok (d1 := .int (n : Nat)) (d2 := dQ [[]]) (s1 := s) (s2 := s) (eVar_ok rfl) eC_ok) ?_
  refine sSeq_nx (e1 := [.sh (dL t.lots), .sh (.int (n : Nat)), .sh (dI m), .sh (dL ((leaves n ++ Ys).map Nest.folk)), .sh (.int (n : Nat)), .sh (dQ (sgnF [[]] t.lots)), a6, .no, .no, .no, .no, .no, .no, .no, .no]) (s1 := s) (sFor_ok (ds := t.lots.map dI) (s1 := s) (iVal_l (eVar_ok rfl)) (by rw [fz, fzI_nil]; exact q1)) ?_
  refine sSeq_nx (e1 := [.sh (dL t.lots), .sh (.int (n : Nat)), .sh (dI m), .sh (dL ((leaves n ++ Ys).map Nest.folk)), .sh (.int (n : Nat)), .sh (dQ (sgnF [[]] t.lots)), a6, .no, .sh (.list ((leaves n ++ Ys).map (abD t))), .no, .no, .no, .no, .no, .no]) (s1 := s) (sSet_ok (i := 8) (k := 0) (d := .list ((leaves n ++ Ys).map (abD t))) (s1 := s) ?_) ?_
  · unfold c__law_by_all_3
    refine eComp_map (leaves n ++ Ys) (fun Z => dI Z.folk) (fun Z => [(7, dI Z.folk)]) (abD t) (iVal_l ?_) (by omega) (fun _ _ => rfl) fun Z hZ => eCall_ok (aApp_ok (aC_ok (eVar_ok rfl) (aC_ok (eVar_ok rfl) aN_ok)) aN_ok) (least_above_eq ho (by omega) ?_ s)
    · refine (eVar_ok (d := dL ((leaves n ++ Ys).map Nest.folk)) rfl).trans ?_
      show some (PyData.list (((leaves n ++ Ys).map Nest.folk).map dI), s) = _
      rw [List.map_map]
      rfl
    · rcases List.mem_append.mp hZ with z | z
      · exact List.mem_append_left _ z
      · exact List.mem_append_right _ (y1.mem_iff.mp z)
  refine sSeq_nx (e1 := [.sh (dL t.lots), .sh (.int (n : Nat)), .sh (dI m), .sh (dL ((leaves n ++ Ys).map Nest.folk)), .sh (.int (fC m t : Nat)), .sh (dQ (sgnF [[]] t.lots)), a6, a7, .sh (.list ((leaves n ++ Ys).map (abD t))), a9, a10, a11, a12, .no, .no]) (s1 := s) (sFor_ok (ds := (sgnF [[]] t.lots).map dL) (s1 := s) (iVal_l (eVar_ok rfl)) (by rw [fz, fzI_nil]; exact q2)) ?_
  exact sSeq_rt (sRet_ok (eVar_ok rfl))
end K33
namespace K33
open PySem PySem.Spec PyProof.Rows L2 J
open Nest (fS fC fD cap lf nd Kid leaves isNode par eN mks ch)
theorem compL_sub {bd : Bd} {fc : EvT} {fe : Ev} {own : List Nat} {vw : VW} {N : Nat} (I : Nat → STO → Prop) : ∀ (l : List Int) (n : Nat) (s : STO), n + l.length ≤ N → I n s →
    (∀ x m s, m < N → I m s → ∃ b t s1, bd (.int x) = some b ∧ fc (setV (wipeV vw own) b) s = some (t, s1) ∧ (t = true → fe (setV (wipeV vw own) b) s1 = some (.int x, s1)) ∧ I (m + 1) s1) →
    ∃ (res : List Int) (s' : STO), compL bd fc fe own vw (l.map PyData.int) s = some (res.map PyData.int, s') ∧ res.Sublist l ∧ I (n + l.length) s'
  | [], n, s, _, h, _ => ⟨[], s, rfl, List.Sublist.refl _, h⟩
  | x :: r, n, s, hN, h, step => by
    rw [List.length_cons] at hN
    obtain ⟨b, t, s1, h1, h2, h3, h4⟩ := step x n s (by omega) h
    obtain ⟨res, s', k1, k2, k3⟩ := compL_sub I r (n + 1) s1 (by omega) h4 step
    rw [List.length_cons, show n + (r.length + 1) = n + 1 + r.length by omega]
    rw [List.map_cons, compL, h1, Option.bind_some, h2, Option.bind_some]
    cases t with
    | true =>
      rw [if_pos rfl, h3 rfl, Option.bind_some, k1]
      exact ⟨x :: res, s', rfl, k2.cons₂ x, k3⟩
    | false =>
      rw [if_neg Bool.false_ne_true, k1]
      exact ⟨res, s', rfl, k2.cons x, k3⟩
theorem gang_eq {n many : Nat} {p q s : STO} {rare : Int} (hg : Good n p q s) (hn : n < 2 ^ 40) (hm : many ≤ 20) (hr : 1 ≤ rare ∧ rare ≤ 5) {a2 a4 : Slot} :
    ∃ l s', c__law_right_1 (see [] [.sh (tokD p.length), .sh (.int (many : Nat)), a2, .sh (.int rare), a4, .no, .no, .no, .no, .no, .no]) s = some (dI l, s') ∧ l.Sublist (comp many) ∧ Good (n + 20) p q s' := by
  obtain ⟨res, s', e, sb, g⟩ := compL_sub (bd := bN 10) (fc := bT (eBin dEq (eCall F__law_pick [0, 1] (aApp (aC (eVar 0) (aC (eVar 3) aN)) aN)) (eC (.int 0)))) (fe := eVar 10) (own := [10]) (vw := see [] [.sh (tokD p.length), .sh (.int (many : Nat)), a2, .sh (.int rare), a4, .no, .no, .no, .no, .no, .no]) (N := n + 20) (fun m s => Good m p q s) (comp many) n s (by rw [comp_len]; omega) hg fun x m s hm hI => by
    obtain ⟨v, s1, e1, _, _, g1⟩ := pick_eq hI (by omega) (w := rare) (by omega) (by omega)
    exact ⟨[(10, .int x)], decide (v = 0), s1, rfl, bT_ok (eBin_ok (eCall_ok (aApp_ok (aC_ok (eVar_ok rfl) (aC_ok (eVar_ok rfl) aN_ok)) aN_ok) e1) eC_ok (dEq_int v 0)), fun _ => eVar_ok rfl, g1⟩
  rw [comp_len] at g
  refine ⟨res, s', ?_, sb, g.mono (by omega)⟩
  unfold c__law_right_1 eComp
  rw [iU_ok (eVar_ok rfl) (rg1_ok (n := many) (by omega)), Option.bind_some]
  simp only
  rw [if_pos (by rw [List.length_map, comp_len]; omega), e]
  rfl
theorem repr_small {g : List Int} (h : ∀ x ∈ g, 0 ≤ x ∧ x < 1000) (hl : g.length ≤ 20) : dRepr (dI g) = some (.str (PyData.shown (dI g))) := (Ok.row h hl).repr (by decide) (by decide)
theorem right_eq {n many : Nat} {p s : STO} (hg : Good n p [] s) (hn : n < 2 ^ 35) (hp : clean p) (hm : 1 ≤ many ∧ many ≤ 20) : ∃ s', F__law_right [tokD p.length, .int (many : Nat)] s = some (.bool true, s') ∧ Good (n + 4000) p [] s' := by
  obtain ⟨items, s1, e1, l1, o1, g1⟩ := come_eq hg (by omega) hm
  have c1 := good_clean g1 hp clean_nil
  obtain ⟨t, ho, e2⟩ := groups_eq (l := items) (by omega) o1 c1
  have ho : t.Of many := by rw [← l1]; exact ho
  obtain ⟨v, s2, e3, a3, b3, g2⟩ := pick_eq g1 (by omega) (w := 4) (by decide) (by decide)
  obtain ⟨rare, q0, m0⟩ := idx_mem (l := [2, 2, 5, 1]) (i := v) ⟨a3, by simpa using b3⟩ s2
  have hrare : 1 ≤ rare ∧ rare ≤ 5 := by
    simp only [List.mem_cons, List.not_mem_nil, or_false] at m0
    omega
  have hrep : dRepr (dL t.lots) = some (.str (PyData.shown (dL t.lots))) := (Ok.lots ho hm.2).repr (by decide) (by decide)
  obtain ⟨gang, s3, e4, sb, g3⟩ := gang_eq (many := many) (a2 := .sh (dL t.lots)) (a4 := .sh (.str (PyData.shown (dL t.lots)))) g2 (by omega) hm.2 hrare
  have c3 := good_clean g3 hp clean_nil
  have hgm : ∀ x ∈ gang, 0 ≤ x ∧ x < many := fun x hx => mem_comp.mp (sb.subset hx)
  have hga : gang.Pairwise (· < ·) := (comp_asc many).sublist sb
  have hgl : gang.length ≤ 20 := by have := sb.length_le; rw [comp_len] at this; omega
  obtain ⟨rest, hrest⟩ : ∃ rest, rest = (comp many).filter fun x => !decide (x ∈ gang) := ⟨_, rfl⟩
  have hrm : ∀ x ∈ rest, 0 ≤ x ∧ x < many := fun x hx => by rw [hrest] at hx; exact mem_comp.mp (List.mem_filter.mp hx).1
  have hra : rest.Pairwise (· < ·) := by rw [hrest]; exact asc_filter (comp_asc many)
  have hrl : rest.length ≤ 20 := by rw [hrest]; have := List.length_filter_le (fun x => !decide (x ∈ gang)) (comp many); rw [comp_len] at this; omega
  have hcr : fC rest t = fC gang t := (Nest.fS_other (m := gang) (m' := rest) (X := t) fun i hi => by
    rw [hrest, List.mem_filter, Bool.not_eq_true', decide_eq_false_iff_not]
    exact ⟨fun h => h.2, fun h => ⟨mem_comp.mpr (ho.mem.mp hi), h⟩⟩).2
  have k1 := changes_eq ho hm.2 hgm hga (by omega) c3
  have k2 := changes_eq ho hm.2 hrm hra (by omega) c3
  rw [hcr] at k2
  have k3 := changes_eq (m := []) ho hm.2 (fun _ h => nomatch h) .nil (by simp) c3
  have k4 := changes_eq (m := comp many) ho hm.2 (fun x hx => mem_comp.mp hx) (comp_asc many) (by rw [comp_len]; omega) c3
  have z3 : fC [] t = 0 := (Nest.fS_same (m := []) (v := false) fun i _ => rfl).2
  have z4 : fC (comp many) t = 0 := (Nest.fS_same (m := comp many) (v := true) fun i hi => decide_eq_true (mem_comp.mpr (ho.mem.mp hi))).2
  rw [z3] at k3
  rw [z4] at k4
  have kc := costs_eq (m := gang) ho hm.2 c3
  have hlt := Nest.fC_lt gang t
  have hlen := ho.len
  have hsav := repr_small (g := gang) (fun x hx => by have := hgm x hx; omega) hgl
  have hshow : dRepr (.list [.int (fC gang t : Nat), .int (fC gang t : Nat), .int (fC gang t : Nat)]) = some (.str (PyData.shown (dI [(fC gang t : Int), (fC gang t : Int), (fC gang t : Int)]))) :=
    repr_small (g := [(fC gang t : Int), (fC gang t : Int), (fC gang t : Int)]) (fun x hx => by
      simp only [List.mem_cons, List.not_mem_nil, or_false] at hx
      omega) (by simp)
  let R : Slot → Slot → Slot → Slot → Slot → Slot → Slot → J.Env := fun a3 a4 a5 a6 a7 a8 a9 => [.sh (tokD p.length), .sh (.int (many : Nat)), .sh (dL t.lots), a3, a4, a5, a6, a7, a8, a9, .no]
  let E5 := R (.sh (.int rare)) (.sh (.str (PyData.shown (dL t.lots)))) (.sh (dI gang)) (.sh (dI rest)) (.sh (.int (fC gang t : Nat))) (.sh (.str (PyData.shown (dI gang)))) .no
  let E6 := R (.sh (.int rare)) (.sh (.str (PyData.shown (dL t.lots)))) (.sh (dI gang)) (.sh (dI rest)) (.sh (.int (fC gang t : Nat))) (.sh (.str (PyData.shown (dI gang)))) (.sh (.list [.int (fC gang t : Nat), .int (fC gang t : Nat), .int (fC gang t : Nat)]))
  have hlist : cList [dI gang] = some (dI gang) := rfl
  refine ⟨s3, ?_, g3.mono (by omega)⟩
  refine fnD_rt (d := .bool true) (e1 := E6) (s1 := s3) ?_ (hg.fin g3 _)
  unfold b__law_right
  refine sSeq_nx (e1 := R .no .no .no .no .no .no .no) (s1 := s1) (sSet_ok (i := 2) (k := 0) (d := dL t.lots) (eCall_ok (aApp_ok (aC_ok (eCall_ok (aApp_ok (aC_ok (eVar_ok rfl) (aC_ok (eVar_ok rfl) aN_ok)) aN_ok) e1) aN_ok) aN_ok) e2)) ?_
  refine sSeq_nx (e1 := R (.sh (.int rare)) (.sh (.str (PyData.shown (dL t.lots)))) .no .no .no .no .no) (s1 := s2) ?_ ?_
  · have := sBind_ok (M := []) (env := R .no .no .no .no .no .no .no) (bd := bT2 3 4) (s1 := s2) (d := .tuple [.int rare, .str (PyData.shown (dL t.lots))]) (f := eTup (aC (eIdx (eC (.list [(.int 2), (.int 2), (.int 5), (.int 1)])) (eCall F__law_pick [0, 1] (aApp (aC (eVar 0) (aC (eC (.int 4)) aN)) aN))) (aC (eUn dRepr (eVar 2)) aN))) (eTup_ok (aC_ok (eIdx_ok eC_ok (eCall_ok (aApp_ok (aC_ok (eVar_ok rfl) (aC_ok eC_ok aN_ok)) aN_ok) e3) q0) (aC_ok (eUn_ok (eVar_ok rfl) hrep) aN_ok))) rfl rfl
    rw [fz, fzI_nil] at this
    exact this
  refine sSeq_nx (e1 := R (.sh (.int rare)) (.sh (.str (PyData.shown (dL t.lots)))) (.sh (dI gang)) .no .no .no .no) (s1 := s3) (sSet_ok (i := 5) (k := 0) (d := dI gang) e4) ?_
  refine sSeq_nx (e1 := R (.sh (.int rare)) (.sh (.str (PyData.shown (dL t.lots)))) (.sh (dI gang)) (.sh (dI rest)) (.sh (.int (fC gang t : Nat))) .no .no) (s1 := s3) (sPar_ok (d1 := dI rest) (d2 := .int (fC gang t : Nat)) (s1 := s3) ?_ (eCall_ok (aApp_ok (aC_ok (eVar_ok rfl) (aC_ok (eVar_ok rfl) (aC_ok (eVar_ok rfl) aN_ok))) aN_ok) kc)) ?_
  · unfold c__law_right_2
    rw [hrest]
    exact eComp_pure (comp many) PyData.int (fun x => [(10, .int x)]) (fun x => !decide (x ∈ gang)) PyData.int (iU_ok (eVar_ok rfl) (rg1_ok (by omega))) (by rw [comp_len]; omega) (fun _ _ => rfl) (fun x _ => bT_ok (eBin_ok (eVar_ok rfl) (eVar_ok rfl) (dNotIn_int x gang))) fun x _ _ => eVar_ok rfl
  refine sSeq_nx (e1 := E5) (s1 := s3) (sSet_ok (i := 8) (k := 0) (s1 := s3) (eUn_ok (eVar_ok rfl) hsav)) ?_
  refine sSeq_nx (e1 := E5) (s1 := s3) ?_ ?_
  · have t1 : bT (eBin dLt (eVar 1) (eC (.int 8))) (see [] E5) s3 = some (decide ((many : Int) < 8), s3) := bT_ok (eBin_ok (eVar_ok rfl) eC_ok rfl)
    by_cases h8 : many < 8
    · rw [decide_eq_true (by omega)] at t1
      refine sIf_f (aT_t t1 (bT_ok (eBin_ok (eVar_ok rfl) (eCall_ok (aApp_ok (aC_ok (eVar_ok rfl) (aC_ok (eVar_ok rfl) (aC_ok (eVar_ok rfl) aN_ok))) aN_ok) (by_all_eq ho (by omega) (by omega) s3)) ?_))) rfl
      rw [dNe_int, decide_eq_true rfl]
      rfl
    · rw [decide_eq_false (by omega)] at t1
      exact sIf_f (aT_f t1) rfl
  refine sSeq_nx (e1 := E6) (s1 := s3) (sSet_ok (i := 9) (k := 0) (s1 := s3) (eLst_ok (aC_ok (eCall_ok (aC_ok (eVar_ok rfl) (aC_ok (eVar_ok rfl) aN_ok)) k1) (aC_ok (eCall_ok (aApp_ok (aC_ok (eVar_ok rfl) (aC_ok (eVar_ok rfl) aN_ok)) aN_ok) k2) (aC_ok (eCall_ok (aApp_ok (aC_ok (eVar_ok rfl) (aC_ok (eOp_ok (aC_ok (eVar_ok rfl) aN_ok) hlist) aN_ok)) aN_ok) k1) aN_ok))))) ?_
  refine sSeq_nx (e1 := E6) (s1 := s3) (sIf_f (oT_f (bT_ok (eBin_ok (eUn_ok (eVar_ok rfl) hshow) (eUn_ok (eBin_ok (d := .list [.int (fC gang t : Nat), .int (fC gang t : Nat), .int (fC gang t : Nat)]) (eLst_ok (aC_ok (eVar_ok rfl) aN_ok)) eC_ok rfl) hshow) (dNe_str _))) (oT_f (bT_ok (eBin_ok (eUn_ok (eVar_ok rfl) hrep) (eVar_ok rfl) (dNe_str _))) (bT_ok (eBin_ok (eUn_ok (eVar_ok rfl) hsav) (eVar_ok rfl) (dNe_str _))))) rfl) ?_
  refine sSeq_rt (sRet_ok (eAnd_t (eBin_ok (eCall_ok (aApp_ok (aC_ok (eVar_ok rfl) (aC_ok (eLst_ok aN_ok) aN_ok)) aN_ok) k3) eC_ok rfl) (eBin_ok (eCall_ok (aApp_ok (aC_ok (eVar_ok rfl) (aC_ok (eLRg_comp (n := many) (eVar_ok rfl) (by omega)) aN_ok)) aN_ok) k4) eC_ok rfl)))
end K33
namespace K33
open PySem PySem.Spec PyProof.Rows L2 J
open Nest (fS fC fD cap lf nd Kid leaves isNode par eN mks ch)
theorem law1_turn {n : Nat} {top : Int} {p s : STO} {a0 a1 a4 a5 a6 : Slot} (hg : Good n p [] s) (hn : n < 2 ^ 34) (hp : clean p) (ht : 2 ≤ top ∧ top ≤ 20) :
    ∃ s', l_law_1 [a0, a1, .sh (tokD p.length), .sh (.int top), a4, a5, a6, .no] s = some (.nx, [a0, a1, .sh (tokD p.length), .sh (.int top), a4, a5, a6, .no], s') ∧ Good (n + 5000) p [] s' := by
  obtain ⟨v1, s1, e1, a1', b1, g1⟩ := pick_eq hg (by omega) (w := 2) (by decide) (by decide)
  obtain ⟨w, q1, m1⟩ := idx_mem (l := [2, top]) (i := v1) ⟨a1', by simpa using b1⟩ s1
  have hw : 2 ≤ w ∧ w ≤ top := by
    simp only [List.mem_cons, List.not_mem_nil, or_false] at m1
    omega
  obtain ⟨v2, s2, e2, a2, b2, g2⟩ := pick_eq g1 (by omega) (w := w) (by omega) (by omega)
  have hmany : top - v2 = (((top - v2).toNat : Nat) : Int) := by omega
  obtain ⟨s3, e3, g3⟩ := right_eq (many := (top - v2).toNat) g2 (by omega) hp (by omega)
  rw [← hmany] at e3
  refine ⟨s3, ?_, g3.mono (by omega)⟩
  unfold l_law_1
  exact sSeq_nx (e1 := [a0, a1, .sh (tokD p.length), .sh (.int top), a4, a5, a6, .no]) (s1 := s3) (sIf_f (nT_ok (b := true) (bT_ok (eCall_ok (aApp_ok (aC_ok (eVar_ok rfl) (aC_ok (eBin_ok (eVar_ok rfl) (eCall_ok (aApp_ok (aC_ok (eVar_ok rfl) (aC_ok (eIdx_ok (eLst_ok (aC_ok eC_ok (aC_ok (eVar_ok rfl) aN_ok))) (eCall_ok (aApp_ok (aC_ok (eVar_ok rfl) (aC_ok eC_ok aN_ok)) aN_ok) e1) q1) aN_ok)) aN_ok) e2) rfl) aN_ok)) aN_ok) e3))) rfl) rfl
theorem two_turns2 {n : Nat} {top : Int} {p s : STO} {a0 a1 a4 a5 a6 : Slot} (hg : Good n p [] s) (hn : n < 2 ^ 33) (hp : clean p) (ht : 2 ≤ top ∧ top ≤ 20) :
    ∃ a4' s', l_law_2 [a0, a1, .sh (tokD p.length), .sh (.int top), a4, a5, a6, .no] s = some (.nx, [a0, a1, .sh (tokD p.length), .sh (.int top), a4', a5, a6, .no], s') ∧ Good (n + 10000) p [] s' := by
  obtain ⟨s1, e1, g1⟩ := law1_turn (a0 := a0) (a1 := a1) (a4 := .sh (.int 0)) (a5 := a5) (a6 := a6) hg (by omega) hp ht
  obtain ⟨s2, e2, g2⟩ := law1_turn (a0 := a0) (a1 := a1) (a4 := .sh (.int 1)) (a5 := a5) (a6 := a6) g1 (by omega) hp ht
  refine ⟨.sh (.int 1), s2, ?_, g2.mono (by omega)⟩
  unfold l_law_2
  refine sSeq_nx (e1 := [a0, a1, .sh (tokD p.length), .sh (.int top), .sh (.int 1), a5, a6, .no]) (s1 := s2) (sFor0_ok (ds := (comp 2).map PyData.int) (s1 := s) (iU_ok eC_ok (rg1_ok (n := 2) (by omega))) ?_) rfl
  rw [comp2]
  exact forL_cons (by simp) rfl e1 (forL_cons (by simp) rfl e2 rfl)
theorem tops_loop {p : STO} {a0 a1 a5 a6 : Slot} (hp : clean p) : ∀ (ts : List Int) (a3 a4 : Slot) (n : Nat) (s : STO), Good n p [] s → n + 10000 * ts.length < 2 ^ 32 → (∀ t ∈ ts, 2 ≤ t ∧ t ≤ 20) →
    ∃ a3' a4' s', forL (bN 3) l_law_2 (ts.map PyData.int) [a0, a1, .sh (tokD p.length), a3, a4, a5, a6, .no] s = some (.nx, [a0, a1, .sh (tokD p.length), a3', a4', a5, a6, .no], s') ∧ Good (n + 10000 * ts.length) p [] s'
  | [], a3, a4, n, s, hg, _, _ => ⟨a3, a4, s, rfl, hg⟩
  | t :: r, a3, a4, n, s, hg, hn, ht => by
    rw [List.length_cons] at hn
    obtain ⟨b4, s1, e1, g1⟩ := two_turns2 (a0 := a0) (a1 := a1) (a4 := a4) (a5 := a5) (a6 := a6) hg (by omega) hp (ht t List.mem_cons_self)
    obtain ⟨a3', a4', s2, e2, g2⟩ := tops_loop (a0 := a0) (a1 := a1) (a5 := a5) (a6 := a6) hp r (.sh (.int t)) b4 (n + 10000) s1 g1 (by omega) fun x hx => ht x (List.mem_cons_of_mem _ hx)
    exact ⟨a3', a4', s2, forL_cons (by simp) rfl e1 e2, by rw [List.length_cons, show n + 10000 * (r.length + 1) = n + 10000 + 10000 * r.length by omega]; exact g2⟩
theorem cell_turn (ns : List Int) (hns : ns.length < 1000) (i : Nat) (hi : i < 100) {s : STO} (hs : clean s) (x2 x3 x4 x5 x6 : Slot) : ∃ x2' x3' x4' s', l_law_3 [.sh (skD (ns.map PyData.int)), .sh (.int i), x2, x3, x4, x5, x6, .no] s = some (.nx, [.sh (skD (ns.map PyData.int)), .sh (.int i), x2', x3', x4', x5, x6, .no], s') ∧ clean s' := by
  obtain ⟨ds, e1, hsc, hG⟩ := store_eq ns i hi hns s
  have g0 := hG s []
  generalize skD (ns.map PyData.int) = sk at *
  obtain ⟨a3, a4, s2, e2, g2⟩ := tops_loop (a0 := .sh sk) (a1 := .sh (.int i)) (a5 := x5) (a6 := x6) hs [20, 7, 20, 5] x3 x4 0 _ g0 (by simp) (by decide)
  have hp2 := good_clean g2 hs clean_nil
  clear g2 g0 hG
  refine ⟨.sh (tokD s.length), a3, a4, s2, ?_, hp2⟩
  unfold l_law_3
  refine sSeq_nx (e1 := [.sh sk, .sh (.int i), .sh (tokD s.length), x3, x4, x5, x6, .no]) (s1 := s ++ [.lst ds]) (sNew_ok (s1 := s) (eCall_ok (aApp_ok (aC_ok (eVar_ok rfl) (aC_ok (eVar_ok rfl) aN_ok)) aN_ok) e1)) ?_
  refine sSeq_nx (e1 := [.sh sk, .sh (.int i), .sh (tokD s.length), a3, a4, x5, x6, .no]) (s1 := s2) ?_ rfl
  refine sFor_ok (ds := ([20, 7, 20, 5] : List Int).map PyData.int) (s1 := s ++ [.lst ds]) (iVal_t eC_ok) ?_
  rw [fz, fzI_nil]
  exact e2
theorem cells (ns : List Int) (hns : ns.length < 1000) : ∀ (k j : Nat) (y x w v x5 x6 : Slot) (s : STO), j + k ≤ 100 → clean s →
    ∃ y' x' w' v' s', forL (bN 1) l_law_3 ((List.range' j k).map fun i : Nat => PyData.int i) [.sh (skD (ns.map PyData.int)), y, x, w, v, x5, x6, .no] s = some (.nx, [.sh (skD (ns.map PyData.int)), y', x', w', v', x5, x6, .no], s') ∧ clean s'
  | 0, j, y, x, w, v, x5, x6, s, _, hp => ⟨y, x, w, v, s, rfl, hp⟩
  | k + 1, j, y, x, w, v, x5, x6, s, hj, hp => by
    obtain ⟨x1, w1, v1, s1, e1, p1⟩ := cell_turn ns hns j (by omega) hp x w v x5 x6
    obtain ⟨y2, x2, w2, v2, s2, e2, p2⟩ := cells ns hns k (j + 1) (.sh (.int j)) x1 w1 v1 x5 x6 s1 (by omega) p1
    refine ⟨y2, x2, w2, v2, s2, ?_, p2⟩
    rw [List.range'_succ, List.map_cons]
    exact forL_cons (by simp) rfl e1 e2
/-! ### the written ones -/
def chT : Nat → Nest
  | 0 => lf 0
  | k + 1 => nd (chT k) (lf ((k + 1 : Nat) : Int))
theorem chT_lv : ∀ k, (chT k).lv = comp (k + 1)
  | 0 => rfl
  | k + 1 => by rw [chT, Nest.lv, chT_lv k, comp_succ (k + 1)]; rfl
theorem chT_of (k : Nat) : (chT k).Of (k + 1) := by unfold Nest.Of; rw [chT_lv]
theorem chT_gr : ∀ k, (chT k).gr.map Nest.folk = ((List.range k).map fun w => comp (w + 2)).reverse
  | 0 => rfl
  | k + 1 => by
    have hf : (nd (chT k) (lf ((k + 1 : Nat) : Int))).folk = comp (k + 2) := (chT_of (k + 1)).folk
    rw [chT, Nest.gr, List.map_cons, hf, List.map_append, chT_gr k, List.range_succ, List.map_append, List.reverse_append]
    show comp (k + 2) :: (_ ++ []) = _
    rw [List.append_nil]
    rfl
def chain : List (List Int) := (List.range 19).map fun w => comp (w + 2)
theorem chT_lots : (chT 19).lots = chain := by
  unfold Nest.lots
  rw [chT_gr]
  exact sR_is (List.reverse_perm _) (by decide +kernel)
def t4 : Nest := nd (nd (lf 0) (lf 1)) (nd (lf 2) (lf 3))
theorem n4 : t4.Of 4 ∧ t4.lots = [[0, 1], [0, 1, 2, 3], [2, 3]] := by
  have o : t4.Of 4 := by unfold Nest.Of; decide
  have f1 : t4.folk = [0, 1, 2, 3] := o.folk
  have f2 : Nest.folk (nd (lf 0) (lf 1)) = [0, 1] := sZ_asc (by decide)
  have f3 : Nest.folk (nd (lf 2) (lf 3)) = [2, 3] := sZ_asc (by decide)
  refine ⟨o, ?_⟩
  show sR [t4.folk, Nest.folk (nd (lf 0) (lf 1)), Nest.folk (nd (lf 2) (lf 3))] = _
  rw [f1, f2, f3]
  exact sR_is (by decide) (by decide)
theorem n1 : (lf 0).Of 1 ∧ (lf 0).lots = [] := ⟨Nest.of_zero, List.eq_nil_of_length_eq_zero (by rw [show (lf 0).lots.length = ((lf 0).gr.map Nest.folk).length from len_sR _]; rfl)⟩
theorem f_1 : fC [0] (chT 19) = 1 := by decide +kernel
theorem f_2 : fC [0, 2, 4, 6, 8, 10, 12, 14, 16, 18] (chT 19) = 10 := by decide +kernel
theorem f_3 : fC [0, 1, 2, 3] (chT 19) = 1 := by decide +kernel
theorem f_4 : fC [0, 2] t4 = 2 := by decide +kernel
theorem law_true : ∀ ns : List Int, ns.length ≤ 63 → fnD 8 b_law [skD (ns.map PyData.int)] [] = some (.bool true, []) := by
  intro ns hns
  obtain ⟨m, hm, hm2⟩ : ∃ m : Nat, m ≤ 4 ∧ eOp cMax (aC (eC (.int 1)) (aC (eOp cMin (aC (eC (.int 4)) (aC (eOp cLen (aC (eVar 0) aN)) aN))) aN)) (see [] [.sh (skD (ns.map PyData.int)), .no, .no, .no, .no, .no, .no, .no]) [] = some (.int m, []) := by
    refine ⟨max 1 (min 4 ns.length), by omega, ?_⟩
    refine eOp_ok (aC_ok eC_ok (aC_ok (eOp_ok (aC_ok eC_ok (aC_ok (eOp_ok (aC_ok (eVar_ok rfl) aN_ok) rfl) aN_ok)) rfl) aN_ok)) ?_
    show some (PyData.int _) = some (PyData.int _)
    rw [List.length_map]
    congr 2
    split <;> split <;> omega
  obtain ⟨y, x, w, v, s, e1, hs⟩ := cells ns (by omega) m 0 .no .no .no .no .no .no [] (by omega) clean_nil
  rw [rng_comp] at e1
  have o20 := chT_of 19
  have q1 := changes_eq (m := [0]) o20 (by decide) (by decide) (by decide) (by decide) hs
  have q2 := changes_eq (m := [0, 2, 4, 6, 8, 10, 12, 14, 16, 18]) o20 (by decide) (by decide) (by decide) (by decide) hs
  have q3 := changes_eq (m := [0, 1, 2, 3]) o20 (by decide) (by decide) (by decide) (by decide) hs
  have q4 := changes_eq (m := [0]) n1.1 (by decide) (by decide) (by decide) (by decide) hs
  have q5 := changes_eq (m := [0, 2]) n4.1 (by decide) (by decide) (by decide) (by decide) hs
  rw [chT_lots, f_1] at q1
  rw [chT_lots, f_2] at q2
  rw [chT_lots, f_3] at q3
  rw [n1.2] at q4
  rw [n4.2, f_4] at q5
  have hch : c_law_1 (see [] [.sh (skD (ns.map PyData.int)), y, x, w, v, .no, .no, .no]) s = some (dL chain, s) := by
    unfold c_law_1
    have := eComp_map (fi := iU rg1 (eC (.int 19))) (bd := bN 7) (fe := eLRg (r1 (eBin dAdd (eVar 7) (eC (.int 2))))) (own := [7]) (vw := see [] [.sh (skD (ns.map PyData.int)), y, x, w, v, .no, .no, .no]) (s := s) (List.range 19) (fun i : Nat => PyData.int i) (fun i => [(7, .int (i : Nat))]) (fun i => dI (comp (i + 2))) (iU_ok eC_ok ?_) (by simp) (fun _ _ => rfl) fun i hi => eLRg_comp (n := i + 2) (eBin_ok (eVar_ok rfl) eC_ok (by show some (PyData.int ((i : Int) + 2)) = _; rw [Int.natCast_add]; rfl)) (by have := List.mem_range.mp hi; omega)
    · rw [this]
      unfold chain
      show _ = some (PyData.list (((List.range 19).map fun w => comp (w + 2)).map dI), s)
      rw [List.map_map]
      rfl
    · have := rg1_ok (n := 19) (by omega)
      refine this.trans ?_
      unfold comp
      rw [List.map_map]
      rfl
  have hev : eLRg3 (aC (eC (.int 0)) (aC (eC (.int 20)) (aC (eC (.int 2)) aN))) (see [] [.sh (skD (ns.map PyData.int)), y, x, w, v, .sh (dL chain), .no, .no]) s = some (dI [0, 2, 4, 6, 8, 10, 12, 14, 16, 18], s) := rfl
  let E5 : J.Env := [.sh (skD (ns.map PyData.int)), y, x, w, v, .sh (dL chain), .no, .no]
  let E6 : J.Env := [.sh (skD (ns.map PyData.int)), y, x, w, v, .sh (dL chain), .sh (dI [1, 10, 1]), .no]
  refine fnD_rt (d := .bool true) (e1 := E6) (s1 := s) ?_ ?_
  · unfold b_law
    refine sSeq_nx (e1 := [.sh (skD (ns.map PyData.int)), y, x, w, v, .no, .no, .no]) (s1 := s) (sFor0_ok (ds := (comp m).map PyData.int) (s1 := []) (iU_ok hm2 (rg1_ok (by omega))) e1) ?_
    refine sSeq_nx (e1 := E5) (s1 := s) (sSet_ok (i := 5) (k := 0) (d := dL chain) hch) ?_
    refine sSeq_nx (e1 := E6) (s1 := s) (sSet_ok (i := 6) (k := 0) (d := dI [1, 10, 1]) (eLst_ok (aC_ok (eCall_ok (aApp_ok (aC_ok (eVar_ok rfl) (aC_ok (eLst_ok (aC_ok eC_ok aN_ok)) aN_ok)) aN_ok) q1) (aC_ok (eCall_ok (aApp_ok (aC_ok (eVar_ok rfl) (aC_ok hev aN_ok)) aN_ok) q2) (aC_ok (eCall_ok (aApp_ok (aC_ok (eVar_ok rfl) (aC_ok eC_ok aN_ok)) aN_ok) q3) aN_ok))))) ?_
    exact sSeq_rt (sRet_ok (eAnd_t (eBin_ok (eVar_ok rfl) eC_ok (dEq_dI [1, 10, 1] [1, 10, 1])) (eAnd_t (eBin_ok (eCall_ok (aApp_ok (aC_ok (eLst_ok aN_ok) (aC_ok (eLst_ok (aC_ok eC_ok aN_ok)) aN_ok)) aN_ok) q4) eC_ok rfl) (eBin_ok (eCall_ok (aApp_ok (aC_ok eC_ok (aC_ok eC_ok aN_ok)) aN_ok) q5) eC_ok (dEq_t (by decide))))))
  · unfold fin
    by_cases h : s.length = ([] : STO).length
    · rw [if_pos h, List.eq_nil_of_length_eq_zero h]
    · rw [if_neg h]
      rfl
end K33
open PySem PySem.W PyProof.Rows
set_option maxHeartbeats 0 in
theorem PySem.Challenge.cw_twopartings_k33_changes_by_all_marks_holds : PySem.Challenge.rw_twopartings_k33_changes_by_all_marks.Holds := by
  w_on; o_law; k_head; (case hw => w_witness2)
  k_fill
  refine J.walk_g (l := PySem.Challenge.rw_twopartings_k33_changes_by_all_marks) (n := 63) (k := 8) (x := "script") rfl (by decide) rfl ⟨rfl, by decide, by decide⟩ (fun w h Y => PySem.W.kIn_of Y) ?F K33.law_true
  case F =>
    intro w mg fa h KX G hmg
    refine' K33.all_mk KX G hmg ?a0 ?l0 ?c0 ?k0 ?a1 ?l1 ?c1 ?k1 ?a2 ?l2 ?c2 ?k2 ?a3 ?l3 ?c3 ?k3 ?a4 ?l4 ?c4 ?k4 ?a5 ?l5 ?c5 ?k5 ?a6 ?l6 ?c6 ?k6 ?a7 ?l7 ?c7 ?k7 ?a8 ?l8 ?c8 ?k8 ?a9 ?l9 ?c9 ?k9 ?a10 ?l10 ?c10 ?k10 ?a11 ?l11 ?c11 ?k11 ?a12 ?l12 ?c12 ?k12 ?a13 ?l13 ?c13 ?k13 ?a14 ?l14 ?c14 ?k14 ?a15 ?l15 ?c15 ?k15 ?a16 ?l16 ?c16 ?k16 ?a17 ?l17 ?c17 ?k17 ?a18 ?l18 ?c18 ?k18 ?a19 ?l19 ?c19 ?k19 ?a20 ?l20 ?c20 ?k20 ?y_abs ?y_all ?y_bool ?y_enumerate ?y_int ?y_isinstance ?y_len ?y_list ?y_max ?y_min ?y_range ?y_repr ?y_sorted ?y_sum ?y_tuple ?y_zip ?x_MOST_PERSONS
    (case a0 => k_is); (case l0 => k_is); (case c0 => k_is); (case k0 => k_is); (case a1 => k_is); (case l1 => k_is); (case c1 => k_is); (case k1 => k_is); (case a2 => k_is); (case l2 => k_is); (case c2 => k_is); (case k2 => k_is); (case a3 => k_is); (case l3 => k_is); (case c3 => k_is); (case k3 => k_is); (case a4 => k_is); (case l4 => k_is); (case c4 => k_is); (case k4 => k_is); (case a5 => k_is); (case l5 => k_is); (case c5 => k_is); (case k5 => k_is); (case a6 => k_is); (case l6 => k_is); (case c6 => k_is); (case k6 => k_is); (case a7 => k_is); (case l7 => k_is); (case c7 => k_is); (case k7 => k_is); (case a8 => k_is); (case l8 => k_is); (case c8 => k_is); (case k8 => k_is); (case a9 => k_is); (case l9 => k_is); (case c9 => k_is); (case k9 => k_is); (case a10 => k_is); (case l10 => k_is); (case c10 => k_is); (case k10 => k_is); (case a11 => k_is); (case l11 => k_is); (case c11 => k_is); (case k11 => k_is); (case a12 => k_is); (case l12 => k_is); (case c12 => k_is); (case k12 => k_is); (case a13 => k_is); (case l13 => k_is); (case c13 => k_is); (case k13 => k_is); (case a14 => k_is); (case l14 => k_is); (case c14 => k_is); (case k14 => k_is); (case a15 => k_is); (case l15 => k_is); (case c15 => k_is); (case k15 => k_is); (case a16 => k_is); (case l16 => k_is); (case c16 => k_is); (case k16 => k_is); (case a17 => k_is); (case l17 => k_is); (case c17 => k_is); (case k17 => k_is); (case a18 => k_is); (case l18 => k_is); (case c18 => k_is); (case k18 => k_is); (case a19 => k_is); (case l19 => k_is); (case c19 => k_is); (case k19 => k_is); (case a20 => k_is); (case l20 => k_is); (case c20 => k_is); (case k20 => k_is); (case y_abs => k_is); (case y_all => k_is); (case y_bool => k_is); (case y_enumerate => k_is); (case y_int => k_is); (case y_isinstance => k_is); (case y_len => k_is); (case y_list => k_is); (case y_max => k_is); (case y_min => k_is); (case y_range => k_is); (case y_repr => k_is); (case y_sorted => k_is); (case y_sum => k_is); (case y_tuple => k_is); (case y_zip => k_is); (case x_MOST_PERSONS => k_is)
