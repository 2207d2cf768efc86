import PyProof.Rows.All
import Wide.All
import OpenK.AllK
import Wide.FinOn
import HandS.ForMost
import HandS.Deep
import HandS.Walk
import HandS.IsInst
import HandS.Conv
import HandS.Wide
import HandS.WideBits
import HandS.TupLe
import HandS.Style
import HandS.Zip
import HandS.Flow
import HandS.NoneIn
import HandS.Lambda
import KE.SortData
import HandS.ExcValue
import HandS.ExcInit
import HandS.ExcField
import HandS.RevRange
import HandS.Rev
import HandS.Defaults
import HandS.RaiseMore
import HandS.Ends
import HandS.SetFor
import HandS.Strs
import HandS.DictSubView
import KE.KDictSum
import KE.KDictWalk
import HandS.Iter
import HandS.Star
import KE.DataMinMax
import HandS.DictComp
import KE.DataMinKey
import HandS.EndTab
import KE.KNestM
import HandS.TupSets
import KE.KTupSum
import KE.KDictPairs
import PyProof.Rows.TupDisplay
import HandS.Text
import HandS.ExcOwn
import HandS.ExcIs
import HandS.HotCalls
import HandS.ExcCtx
import KE.KExcIs
import PyProof.StrOps2
import HandS.More
import HandS.Comp
import PyProof.NeKinds
import PyProof.FactsAll.subtypes_4
import KE.KDictCopyH
import KE.KUnpack
import HandS.ReplaceLit
import PyProof.ReprLen
import KE.KWords
import PyProof.StrCalls6
import PySem.Challenge.RW_twopartings_k50_texts_written_and_read
set_option Elab.async false
set_option linter.all false
set_option maxRecDepth 100000
set_option maxHeartbeats 4000000
namespace J
open PySem PySem.Spec PyProof.Rows L2

abbrev D := PySem.PyData
abbrev VW := List (Option D)
/-- what a cell holds: a list or a dict that may change, a table of code objects, a dict that changes no more -/
inductive Cell where
  | lst (ds : List D)
  | dct (t : Bool) (es : List (D × D))
  | tbl (q : Str) (P : Addr)
  | fdc (t : Bool) (es : List (D × D))
abbrev STO := List Cell
/-- the token that stands for a cell -/
def tokD (i : Nat) : D := .dict [(.none, .int i)]
/-- the datum of the script's list -/
def skD (ds : List D) : D := .dict [(.none, .list ds)]
/-- the datum of an exception that is held: the reference alone -/
def exD (a : Addr) : D := .dict [(.none, .tuple [.int (a : Nat)])]
/-- an instance of a class, no more is told -/
def obD : D := .dict [(.none, .none)]
/-- what such a class must say -/
structure ObC (K : PySem.W.Frag) (C : Addr) : Prop where
  cl : L2.Cls K C
  ha : PySem.W.findIn K (.ref C) "__class__" = some (some (.builtin "object.__class__"))
  hn : PySem.W.specialIn K (.builtin "object.__class__") "__get__" = some (some (.builtin "getset_descriptor.__get__"))
  htk : PySem.W.takesIn K (.builtin "object.__class__") = some true
  hm : PySem.W.mroIn K C (.type "object") = some true
  no : ∀ T ∈ ["bool", "int", "str", "list", "tuple", "dict"], PySem.W.kitOne K (.ref C) (.type T) = some false
/-- an exception of the class named c, its fields -/
def exiD (c : Str) (fs : List (Str × D)) : D := .dict [(.none, .str c), (.none, .list (fs.map fun p => .tuple [.str p.1, p.2]))]
/-- a field's value -/
def scV : D → Option V
  | .none => some .non
  | .bool b => some (.bl b)
  | .int i => some (.int i)
  | .str s => some (.str s)
  | _ => none
inductive XiAt (K : PySem.W.Frag) (H : Hp) (a : Addr) (c : Str) : List (Str × D) → Prop
  | bare {C : Addr} : PySem.W.nsIn K mainGlobals c = some (some (.ref C)) → H a = some (L2.ExO (.ref C) a) → XiAt K H a c []
  | full {C d : Addr} {fs : List (Str × D)} {vs : List (Str × V)} : PySem.W.nsIn K mainGlobals c = some (some (.ref C)) → H a = some (L2.exo a C (some d)) → H d = some (L2.exd d vs) → (∀ f x, fs.lookup f = some x → ∃ v, scV x = some v ∧ vs.lookup f = some v) → XiAt K H a c fs
theorem XiAt.le {K : PySem.W.Frag} {H H' : Hp} {a : Addr} {c : Str} {fs : List (Str × D)} (e : Same H H') (h : XiAt K H a c fs) : XiAt K H' a c fs := by
  cases h with
  | bare h1 h2 => exact .bare h1 (e _ _ h2)
  | full h1 h2 h3 h4 => exact .full h1 (e _ _ h2) (e _ _ h3) h4
def kD : Key → D
  | .inl i => .int i
  | .inr x => .str x

open Classical in
/-- the heap without what A hides -/
noncomputable def hid (A : Addr → Prop) (H : Hp) : Hp := fun a => if A a then none else H a
theorem hid_eq {A : Addr → Prop} {H : Hp} {a : Addr} {o : HO} : hid A H a = some o ↔ ¬ A a ∧ H a = some o := by
  unfold hid
  by_cases h : A a
  · simp [h]
  · simp [h]

mutual
inductive Rp (K : PySem.W.Frag) (S : List Addr) (H : Hp) : V → D → Prop
  | non : Rp K S H .non .none
  | bl (b : Bool) : Rp K S H (.bl b) (.bool b)
  | int (i : Int) : Rp K S H (.int i) (.int i)
  | str (x : Str) : Rp K S H (.str x) (.str x)
  | lst {a : Addr} {xs : List V} {ds : List D} : Rd H a (.lst xs) → RpA K S H xs ds → Rp K S H (.ref a) (.list ds)
  | tup {a : Addr} {xs : List V} {ds : List D} : H a = some (.tup xs) → RpA K S H xs ds → Rp K S H (.ref a) (.tuple ds)
  | dK {a : Addr} {o : Obj} {kvs : List (Key × V)} {es : List (D × D)} : H a = some (.frz o (.dK kvs)) → RpK K S H kvs es → Rp K S H (.ref a) (.dict es)
  | dT {a : Addr} {o : Obj} {p : List Key × V} {kvs : List (List Key × V)} {es : List (D × D)} : H a = some (.frz o (.dT (p :: kvs))) → RpT K S H (p :: kvs) es → Rp K S H (.ref a) (.dict es)
  | tok {a : Addr} {i : Nat} : S[i]? = some a → Rp K S H (.ref a) (tokD i)
  | sk {a : Addr} {xs : List V} {ds : List D} : SqL K H a xs → RpA K S H xs ds → Rp K S H (.ref a) (skD ds)
  | rK {a : Addr} {o : Obj} {kvs : List (Key × V)} {es : List (D × D)} : H a = some (.frz o (.dK kvs)) → RpK K S H kvs es → Rp K S H (.ref a) (.dict ((.none, .bool false) :: es))
  | rT {a : Addr} {o : Obj} {kvs : List (List Key × V)} {es : List (D × D)} : H a = some (.frz o (.dT kvs)) → RpT K S H kvs es → Rp K S H (.ref a) (.dict ((.none, .bool true) :: es))
  | ex {a : Addr} : Rp K S H (.ref a) (exD a)
  | obj {a C dx : Addr} {fs : List (Str × V)} : H a = some (.ins C dx fs) → ObC K C → Rp K S H (.ref a) obD
  | exi {a : Addr} {c : Str} {fs : List (Str × D)} : XiAt K H a c fs → Rp K S H (.ref a) (exiD c fs)
inductive RpA (K : PySem.W.Frag) (S : List Addr) (H : Hp) : List V → List D → Prop
  | nil : RpA K S H [] []
  | cons {v : V} {vs : List V} {d : D} {ds : List D} : Rp K S H v d → RpA K S H vs ds → RpA K S H (v :: vs) (d :: ds)
inductive RpK (K : PySem.W.Frag) (S : List Addr) (H : Hp) : List (Key × V) → List (D × D) → Prop
  | nil : RpK K S H [] []
  | cons {k : Key} {v : V} {r : List (Key × V)} {d : D} {es : List (D × D)} : Rp K S H v d → RpK K S H r es → RpK K S H ((k, v) :: r) ((kD k, d) :: es)
inductive RpT (K : PySem.W.Frag) (S : List Addr) (H : Hp) : List (List Key × V) → List (D × D) → Prop
  | nil : RpT K S H [] []
  | cons {k : List Key} {v : V} {r : List (List Key × V)} {d : D} {es : List (D × D)} : Rp K S H v d → RpT K S H r es → RpT K S H ((k, v) :: r) ((.tuple (k.map kD), d) :: es)
end

theorem Rd.le {H H' : Hp} {a : Addr} {u : HO} (e : Same H H') (h : Rd H a u) : Rd H' a u := by
  rcases h with h | ⟨o, h⟩
  · exact .inl (e _ _ h)
  · exact .inr ⟨o, e _ _ h⟩

section
variable {K : PySem.W.Frag} {S : List Addr} {H H' : Hp}
theorem Rp.le (e : Same H H') {v : V} {d : D} (h : Rp K S H v d) : Rp K S H' v d :=
  Rp.rec (motive_1 := fun v d _ => Rp K S H' v d) (motive_2 := fun v d _ => RpA K S H' v d) (motive_3 := fun v d _ => RpK K S H' v d) (motive_4 := fun v d _ => RpT K S H' v d)
    .non .bl .int .str (fun s _ h => .lst (Rd.le e s) h) (fun s _ h => .tup (e _ _ s) h) (fun s _ h => .dK (e _ _ s) h) (fun s _ h => .dT (e _ _ s) h) .tok (fun s _ h => .sk (L2.Same.seq e s) h) (fun s _ h => .rK (e _ _ s) h) (fun s _ h => .rT (e _ _ s) h) .ex (fun s c => .obj (e _ _ s) c) (fun x => .exi (x.le e))
    .nil (fun _ _ a b => .cons a b) .nil (fun _ _ a b => .cons a b) .nil (fun _ _ a b => .cons a b) h
theorem RpA.le (e : Same H H') : ∀ {vs : List V} {ds : List D}, RpA K S H vs ds → RpA K S H' vs ds
  | _, _, .nil => .nil
  | _, _, .cons a b => .cons (a.le e) (b.le e)
theorem RpK.le (e : Same H H') : ∀ {vs : List (Key × V)} {ds : List (D × D)}, RpK K S H vs ds → RpK K S H' vs ds
  | _, _, .nil => .nil
  | _, _, .cons a b => .cons (a.le e) (b.le e)
theorem RpT.le (e : Same H H') : ∀ {vs : List (List Key × V)} {ds : List (D × D)}, RpT K S H vs ds → RpT K S H' vs ds
  | _, _, .nil => .nil
  | _, _, .cons a b => .cons (a.le e) (b.le e)
theorem RpK.key : ∀ {vs : List (Key × V)} {ds : List (D × D)}, RpK K S H vs ds → ∀ p ∈ ds, ∃ k, p.1 = kD k
  | _, _, .nil, _, h => nomatch h
  | _, _, .cons (k := k) a b, p, h => by
    rcases List.mem_cons.mp h with rfl | h
    · exact ⟨k, rfl⟩
    · exact b.key p h
theorem RpT.key : ∀ {vs : List (List Key × V)} {ds : List (D × D)}, RpT K S H vs ds → ∀ p ∈ ds, ∃ k : List Key, p.1 = .tuple (k.map kD)
  | _, _, .nil, _, h => nomatch h
  | _, _, .cons (k := k) a b, p, h => by
    rcases List.mem_cons.mp h with rfl | h
    · exact ⟨k, rfl⟩
    · exact b.key p h
theorem RpA.length : ∀ {vs : List V} {ds : List D}, RpA K S H vs ds → vs.length = ds.length
  | _, _, .nil => rfl
  | _, _, .cons _ b => congrArg (· + 1) b.length
theorem RpA.get : ∀ {vs : List V} {ds : List D} {i : Nat} {d : D}, RpA K S H vs ds → ds[i]? = some d → ∃ v, vs[i]? = some v ∧ Rp K S H v d
  | _, _, _, _, .nil, h => by simp at h
  | _, _, 0, d, .cons a b, h => by simp at h; subst h; exact ⟨_, rfl, a⟩
  | _, _, i + 1, d, .cons a b, h => by
    obtain ⟨v, e, r⟩ := RpA.get (i := i) b (by simpa using h)
    exact ⟨v, by simpa using e, r⟩
theorem RpA.getV : ∀ {vs : List V} {ds : List D} {i : Nat} {v : V}, RpA K S H vs ds → vs[i]? = some v → ∃ d, ds[i]? = some d ∧ Rp K S H v d
  | _, _, _, _, .nil, h => by simp at h
  | _, _, 0, d, .cons a b, h => by simp at h; subst h; exact ⟨_, rfl, a⟩
  | _, _, i + 1, d, .cons a b, h => by
    obtain ⟨v, e, r⟩ := RpA.getV (i := i) b (by simpa using h)
    exact ⟨v, by simpa using e, r⟩
theorem RpA.append : ∀ {vs ws : List V} {ds es : List D}, RpA K S H vs ds → RpA K S H ws es → RpA K S H (vs ++ ws) (ds ++ es)
  | _, _, _, _, .nil, h => h
  | _, _, _, _, .cons a b, h => .cons a (b.append h)
theorem RpA.take : ∀ {vs : List V} {ds : List D} (n : Nat), RpA K S H vs ds → RpA K S H (vs.take n) (ds.take n)
  | _, _, 0, _ => .nil
  | _, _, _ + 1, .nil => .nil
  | _, _, n + 1, .cons a b => .cons a (b.take n)
theorem RpA.drop : ∀ {vs : List V} {ds : List D} (n : Nat), RpA K S H vs ds → RpA K S H (vs.drop n) (ds.drop n)
  | _, _, 0, h => h
  | _, _, _ + 1, .nil => .nil
  | _, _, n + 1, .cons a b => b.drop n
theorem RpA.set {v : V} {d : D} (r : Rp K S H v d) : ∀ {vs : List V} {ds : List D} (n : Nat), RpA K S H vs ds → RpA K S H (vs.set n v) (ds.set n d)
  | _, _, _, .nil => .nil
  | _, _, 0, .cons a b => .cons r b
  | _, _, n + 1, .cons a b => .cons a (b.set r n)
theorem RpA.ints : ∀ {vs : List V} {ns : List Int}, RpA K S H vs (ns.map PyData.int) → vs = ns.map V.int
  | _, [], .nil => rfl
  | _, n :: ns, .cons a b => by cases a; rw [b.ints]; rfl
theorem RpA.of_ints : ∀ (ns : List Int), RpA K S H (ns.map V.int) (ns.map PyData.int)
  | [] => .nil
  | n :: ns => .cons (.int n) (RpA.of_ints ns)
end

/-- what the store may not be kept of -/
def Ext (S : List Addr) (H H' : Hp) : Prop := ∀ a o, a ∉ S → H a = some o → H' a = some o
theorem Ext.refl {S : List Addr} {H : Hp} : Ext S H H := fun _ _ _ h => h
theorem Ext.trans {S : List Addr} {H H1 H2 : Hp} (a : Ext S H H1) (b : Ext S H1 H2) : Ext S H H2 := fun c o n h => b c o n (a c o n h)
theorem Ext.of {S : List Addr} {H H' : Hp} (h : Same H H') : Ext S H H' := fun a o _ e => h a o e

mutual
inductive Ow (K : PySem.W.Frag) (S : List Addr) (A : Addr → Prop) (H : Hp) : Nat → V → D → List Addr → Prop
  | sh {v : V} {d : D} : Rp K S (hid A H) v d → Ow K S A H 0 v d []
  | at {k : Nat} {v : V} {d : D} : (∀ ds, d ≠ .list ds) → True → Rp K S (hid A H) v d → Ow K S A H (k + 1) v d []
  | lst {k : Nat} {a : Addr} {vs : List V} {ds : List D} {F : List Addr} : H a = some (.lst vs) → OwA K S A H k vs ds F → Ow K S A H (k + 1) (.ref a) (.list ds) (a :: F)
inductive OwA (K : PySem.W.Frag) (S : List Addr) (A : Addr → Prop) (H : Hp) : Nat → List V → List D → List Addr → Prop
  | nil {k : Nat} : OwA K S A H k [] [] []
  | cons {k : Nat} {v : V} {vs : List V} {d : D} {ds : List D} {F G : List Addr} : Ow K S A H k v d F → OwA K S A H k vs ds G → OwA K S A H k (v :: vs) (d :: ds) (F ++ G)
end

section
variable {K : PySem.W.Frag} {S : List Addr} {A A' : Addr → Prop} {H H' : Hp}
theorem hid_le (h : ∀ a, A' a → A a) : Same (hid A H) (hid A' H) := fun a o e => by
  rw [hid_eq] at e ⊢
  exact ⟨fun z => e.1 (h a z), e.2⟩
mutual
/-- what was owned is given to all -/
theorem Ow.rp : ∀ {k : Nat} {v : V} {d : D} {F : List Addr}, Ow K S A H k v d F → (∀ a, A' a → A a) → (∀ a ∈ F, ¬ A' a) → Rp K S (hid A' H) v d
  | _, _, _, _, .sh r, h, _ => r.le (hid_le h)
  | _, _, _, _, .at _ _ r, h, _ => r.le (hid_le h)
  | _, _, _, _, .lst e t, h, hF => .lst (.inl (hid_eq.mpr ⟨hF _ List.mem_cons_self, e⟩)) (t.rp h fun a ha => hF a (List.mem_cons_of_mem _ ha))
theorem OwA.rp : ∀ {k : Nat} {vs : List V} {ds : List D} {F : List Addr}, OwA K S A H k vs ds F → (∀ a, A' a → A a) → (∀ a ∈ F, ¬ A' a) → RpA K S (hid A' H) vs ds
  | _, _, _, _, .nil, _, _ => .nil
  | _, _, _, _, .cons a b, h, hF => .cons (a.rp h fun a ha => hF a (List.mem_append_left _ ha)) (b.rp h fun a ha => hF a (List.mem_append_right _ ha))
end
theorem hid_move (e : Ext S H H') (hS : ∀ a, a ∈ S → A a) (hA : ∀ a, A' a → A a ∨ H a = none) : Same (hid A H) (hid A' H') := fun a o q => by
  rw [hid_eq] at q ⊢
  refine ⟨fun z => ?_, e a o (fun z => q.1 (hS a z)) q.2⟩
  rcases hA a z with z | z
  · exact q.1 z
  · rw [z] at q; exact nomatch q.2
mutual
/-- the heap went on -/
theorem Ow.mv (hs : Same (hid A H) (hid A' H')) : ∀ {k : Nat} {v : V} {d : D} {F : List Addr}, Ow K S A H k v d F → (∀ a ∈ F, ∀ o, H a = some o → H' a = some o) → Ow K S A' H' k v d F
  | _, _, _, _, .sh r, _ => .sh (r.le hs)
  | _, _, _, _, .at h1 h2 r, _ => .at h1 h2 (r.le hs)
  | _, _, _, _, .lst q t, h => .lst (h _ List.mem_cons_self _ q) (t.mv hs fun a ha => h a (List.mem_cons_of_mem _ ha))
theorem OwA.mv (hs : Same (hid A H) (hid A' H')) : ∀ {k : Nat} {v : List V} {d : List D} {F : List Addr}, OwA K S A H k v d F → (∀ a ∈ F, ∀ o, H a = some o → H' a = some o) → OwA K S A' H' k v d F
  | _, _, _, _, .nil, _ => .nil
  | _, _, _, _, .cons a b, h => .cons (a.mv hs fun a ha => h a (List.mem_append_left _ ha)) (b.mv hs fun a ha => h a (List.mem_append_right _ ha))
end
theorem Ow.move (e : Ext S H H') (hS : ∀ a, a ∈ S → A a) (hA : ∀ a, A' a → A a ∨ H a = none) {k : Nat} {v : V} {d : D} {F : List Addr} (o : Ow K S A H k v d F) (h : ∀ a ∈ F, a ∉ S) : Ow K S A' H' k v d F :=
  o.mv (hid_move e hS hA) fun a ha o q => e a o (h a ha) q
theorem OwA.move (e : Ext S H H') (hS : ∀ a, a ∈ S → A a) (hA : ∀ a, A' a → A a ∨ H a = none) {k : Nat} {v : List V} {d : List D} {F : List Addr} (o : OwA K S A H k v d F) (h : ∀ a ∈ F, a ∉ S) : OwA K S A' H' k v d F :=
  o.mv (hid_move e hS hA) fun a ha o q => e a o (h a ha) q
theorem OwA.length : ∀ {k : Nat} {vs : List V} {ds : List D} {F : List Addr}, OwA K S A H k vs ds F → vs.length = ds.length
  | _, _, _, _, .nil => rfl
  | _, _, _, _, .cons _ b => congrArg (· + 1) b.length
theorem OwA.append : ∀ {k : Nat} {vs ws : List V} {ds es : List D} {F G : List Addr}, OwA K S A H k vs ds F → OwA K S A H k ws es G → OwA K S A H k (vs ++ ws) (ds ++ es) (F ++ G)
  | _, _, _, _, _, _, _, .nil, h => h
  | _, _, _, _, _, _, _, .cons a b, h => by rw [List.append_assoc]; exact .cons a (b.append h)
theorem OwA.zero : ∀ {vs : List V} {ds : List D}, RpA K S (hid A H) vs ds → OwA K S A H 0 vs ds []
  | _, _, .nil => .nil
  | _, _, .cons a b => .cons (F := []) (.sh a) (OwA.zero b)
mutual
/-- owned less deep -/
theorem Ow.weak : ∀ {k : Nat} {v : V} {d : D} {F : List Addr} (j : Nat), Ow K S A H k v d F → j ≤ k → F.Nodup → ∃ F', F'.Sublist F ∧ ∀ A', (∀ a, A' a → A a) → (∀ a ∈ F, A' a → a ∈ F') → Ow K S A' H j v d F'
  | _, _, _, F, 0, o, _, _ => ⟨[], List.nil_sublist _, fun A' h1 h2 => .sh (o.rp h1 fun a ha z => by simpa using h2 a ha z)⟩
  | _, _, _, _, j + 1, .at h1 h2 r, _, _ => ⟨[], List.nil_sublist _, fun A' q _ => .at h1 h2 (r.le (hid_le q))⟩
  | _, _, _, _, j + 1, .lst (a := a) e t, hk, nd => by
    obtain ⟨F', s, h⟩ := t.weak j (Nat.le_of_succ_le_succ hk) (List.nodup_cons.mp nd).2
    refine ⟨a :: F', s.cons_cons a, fun A' q1 q2 => .lst e (h A' q1 fun b hb z => ?_)⟩
    rcases List.mem_cons.mp (q2 b (List.mem_cons_of_mem _ hb) z) with rfl | w
    · exact absurd hb (List.nodup_cons.mp nd).1
    · exact w
theorem OwA.weak : ∀ {k : Nat} {v : List V} {d : List D} {F : List Addr} (j : Nat), OwA K S A H k v d F → j ≤ k → F.Nodup → ∃ F', F'.Sublist F ∧ ∀ A', (∀ a, A' a → A a) → (∀ a ∈ F, A' a → a ∈ F') → OwA K S A' H j v d F'
  | _, _, _, _, _, .nil, _, _ => ⟨[], List.Sublist.refl _, fun A' _ _ => .nil⟩
  | _, _, _, _, j, .cons (F := F) (G := G) a b, hk, nd => by
    obtain ⟨n1, n2, n3⟩ := List.nodup_append.mp nd
    obtain ⟨F1, s1, h1⟩ := a.weak j hk n1
    obtain ⟨F2, s2, h2⟩ := b.weak j hk n2
    refine ⟨F1 ++ F2, s1.append s2, fun A' q1 q2 => .cons (h1 A' q1 fun x hx z => ?_) (h2 A' q1 fun x hx z => ?_)⟩
    · rcases List.mem_append.mp (q2 x (List.mem_append_left _ hx) z) with w | w
      · exact w
      · exact absurd rfl (n3 x hx x (s2.subset w))
    · rcases List.mem_append.mp (q2 x (List.mem_append_right _ hx) z) with w | w
      · exact absurd rfl (n3 x (s1.subset w) x hx)
      · exact w
end
end
end J
namespace J
open PySem PySem.Spec PyProof.Rows L2

abbrev Ev := VW → STO → Option (D × STO)
abbrev EvA := VW → STO → Option (List D × STO)
abbrev EvT := VW → STO → Option (Bool × STO)
abbrev Sg := L2.St

def isScal : D → Bool
  | .none => true
  | .bool _ => true
  | .int _ => true
  | .str _ => true
  | _ => false
theorem scal_rp {K : PySem.W.Frag} {S S' : List Addr} {H H' : Hp} {v : V} {d : D} (h : isScal d = true) (p : Rp K S H v d) : Rp K S' H' v d := by
  cases p with
  | non => exact .non
  | bl b => exact .bl b
  | int i => exact .int i
  | str x => exact .str x
  | _ => exact absurd h (by simp [isScal, tokD, skD, exD, obD, exiD])
theorem scal_rpa {K : PySem.W.Frag} {S S' : List Addr} {H H' : Hp} : ∀ {v : List V} {d : List D}, (∀ x ∈ d, isScal x = true) → RpA K S H v d → RpA K S' H' v d
  | _, _, _, .nil => .nil
  | _, _, h, .cons a b => .cons (scal_rp (h _ List.mem_cons_self) a) (scal_rpa (fun x hx => h x (List.mem_cons_of_mem _ hx)) b)
/-- what stands at a cell's address -/
def CellOk (K : PySem.W.Frag) (S : List Addr) (A : Addr → Prop) (H : Hp) (a : Addr) : Cell → Prop
  | .lst ds => ∃ vs, H a = some (.lst vs) ∧ RpA K S (hid A H) vs ds
  | .dct false es => ∃ kvs, H a = some (.dK kvs) ∧ RpK K S (hid A H) kvs es
  | .dct true es => ∃ kvs, H a = some (.dT kvs) ∧ RpT K S (hid A H) kvs es
  | .tbl q P => a = P ∧ LamX.TabS H a q
  | .fdc false es => ∃ o kvs, H a = some (.frz o (.dK kvs)) ∧ RpK K S (hid A H) kvs es
  | .fdc true es => ∃ o kvs, H a = some (.frz o (.dT kvs)) ∧ RpT K S (hid A H) kvs es
/-- what is hidden is there, and no tuple -/
def Hdn (x : Option HO) : Prop := x ≠ none ∧ ∀ xs, x ≠ some (.tup xs)
/-- the world at a place: what is hidden stands, the cells are told -/
structure Wd (K : PySem.W.Frag) (S : List Addr) (A : Addr → Prop) (H : Hp) (sto : STO) : Prop where
  alt : ∀ a, A a → Hdn (H a)
  hS : ∀ a, a ∈ S → A a
  nds : S.Nodup
  len : S.length = sto.length
  st : ∀ (i : Nat) (a : Addr) (c : Cell), S[i]? = some a → sto[i]? = some c → CellOk K S A H a c
def RdV (K : PySem.W.Frag) (S : List Addr) (A : Addr → Prop) (σ : Sg) (H : Hp) (vw : VW) : Prop := vw.length ≤ σ.length ∧ ∀ (i : Nat) (d : D), vw[i]? = some (some d) → ∃ v, σ[i]? = some (some v) ∧ Rp K S (hid A H) v d
/-- F more are hidden -/
abbrev plus (F : List Addr) (A : Addr → Prop) : Addr → Prop := fun a => a ∈ F ∨ A a
structure Res (K : PySem.W.Frag) (S : List Addr) (A : Addr → Prop) (H : Hp) (sto : STO) (k : Nat) (H' : Hp) (v : V) (d : D) (F : List Addr) : Prop where
  ext : Ext S H H'
  wd : Wd K S (plus F A) H' sto
  nd : F.Nodup
  fr : ∀ a ∈ F, H a = none
  ow : Ow K S (plus F A) H' k v d F
structure ResA (K : PySem.W.Frag) (S : List Addr) (A : Addr → Prop) (H : Hp) (sto : STO) (k : Nat) (H' : Hp) (v : List V) (d : List D) (F : List Addr) : Prop where
  ext : Ext S H H'
  wd : Wd K S (plus F A) H' sto
  nd : F.Nodup
  fr : ∀ a ∈ F, H a = none
  ow : OwA K S (plus F A) H' k v d F

theorem noF {P : Addr → Prop} : ∀ a ∈ ([] : List Addr), P a := fun _ h => nomatch h
theorem plus_nil {A : Addr → Prop} : plus [] A = A := by funext a; simp [plus]
theorem plus_append {F G : List Addr} {A : Addr → Prop} : plus G (plus F A) = plus (F ++ G) A := by
  funext a; simp only [plus, List.mem_append, eq_iff_iff]
  constructor
  · rintro (h | h | h)
    · exact .inl (.inr h)
    · exact .inl (.inl h)
    · exact .inr h
  · rintro ((h | h) | h)
    · exact .inr (.inl h)
    · exact .inl h
    · exact .inr (.inr h)
section
variable {K : PySem.W.Frag} {S : List Addr} {A A' : Addr → Prop} {H H' : Hp} {sto sto' : STO} {σ : Sg} {vw : VW} {k j : Nat} {v u : V} {d e : D} {F G : List Addr} {a : Addr} {o : HO}
theorem Wd.al (w : Wd K S A H sto) : ∀ a, A a → H a ≠ none := fun a h => (w.alt a h).1
theorem Wd.live (w : Wd K S A H sto) (h : H a = none) : a ∉ S := fun e => w.al a (w.hS a e) h
theorem Wd.cell {i : Nat} {a : Addr} (w : Wd K S A H sto) (h : S[i]? = some a) : ∃ c, sto[i]? = some c ∧ CellOk K S A H a c := by
  have hl := (List.getElem?_eq_some_iff.mp h).1
  have hl2 : i < sto.length := by rw [← w.len]; exact hl
  exact ⟨sto[i], List.getElem?_eq_getElem hl2, w.st i a _ h (List.getElem?_eq_getElem hl2)⟩
theorem codeO_ne {c : Addr} {q : Str} : (∀ vs, LamX.CodeO c q ≠ .lst vs) ∧ (∀ vs, LamX.CodeO c q ≠ .dK vs) ∧ (∀ vs, LamX.CodeO c q ≠ .dT vs) ∧ ∀ vs, LamX.CodeO c q ≠ .tbl vs := by
  unfold LamX.CodeO
  exact ⟨fun vs z => (by cases z), fun vs z => (by cases z), fun vs z => (by cases z), fun vs z => (by cases z)⟩
theorem codeO_nf {c : Addr} {q : Str} {o : Obj} {u : HO} : LamX.CodeO c q ≠ .frz o u := by
  unfold LamX.CodeO
  exact fun z => by cases z
theorem tab_keep {P : Addr} {q : Str} (t : LamX.TabS H P q) (k : ∀ o, H P = some o → H' P = some o) (kt : ∀ c, H c = some (LamX.CodeO c q) → H' c = some (LamX.CodeO c q)) : LamX.TabS H' P q := by
  obtain ⟨ps, h1, h2, h3⟩ := t
  refine ⟨ps, k _ h1, h2, fun pos cv hc => ?_⟩
  obtain ⟨c, e1, e2⟩ := h3 pos cv hc
  exact ⟨c, e1, kt c e2⟩
theorem CellOk.keep {c : Cell} (h : CellOk K S A H a c) (e : Same (hid A H) (hid A' H')) (k : ∀ o, H a = some o → H' a = some o) (kt : ∀ c q, H c = some (LamX.CodeO c q) → H' c = some (LamX.CodeO c q)) : CellOk K S A' H' a c := by
  cases c with
  | lst ds => obtain ⟨vs, h1, h2⟩ := h; exact ⟨vs, k _ h1, h2.le e⟩
  | dct t es =>
    cases t with
    | false => obtain ⟨kvs, h1, h2⟩ := h; exact ⟨kvs, k _ h1, h2.le e⟩
    | true => obtain ⟨kvs, h1, h2⟩ := h; exact ⟨kvs, k _ h1, h2.le e⟩
  | tbl q P => exact ⟨h.1, tab_keep h.2 k fun c => kt c q⟩
  | fdc t es =>
    cases t with
    | false => obtain ⟨o, kvs, h1, h2⟩ := h; exact ⟨o, kvs, k _ h1, h2.le e⟩
    | true => obtain ⟨o, kvs, h1, h2⟩ := h; exact ⟨o, kvs, k _ h1, h2.le e⟩
theorem CellOk.hdn {c : Cell} (h : CellOk K S A H a c) : Hdn (H a) := by
  cases c with
  | lst ds => obtain ⟨vs, h1, h2⟩ := h; rw [h1]; exact ⟨(fun z => nomatch z), fun _ z => nomatch z⟩
  | dct t es =>
    cases t with
    | false => obtain ⟨vs, h1, h2⟩ := h; rw [h1]; exact ⟨(fun z => nomatch z), fun _ z => nomatch z⟩
    | true => obtain ⟨vs, h1, h2⟩ := h; rw [h1]; exact ⟨(fun z => nomatch z), fun _ z => nomatch z⟩
  | tbl p P => obtain ⟨_, ps, h1, _⟩ := h; rw [h1]; exact ⟨(fun z => nomatch z), fun _ z => nomatch z⟩
  | fdc t es =>
    cases t with
    | false => obtain ⟨o, vs, h1, h2⟩ := h; rw [h1]; exact ⟨(fun z => nomatch z), fun _ z => nomatch z⟩
    | true => obtain ⟨o, vs, h1, h2⟩ := h; rw [h1]; exact ⟨(fun z => nomatch z), fun _ z => nomatch z⟩
theorem CellOk.notCode {c : Cell} {q : Str} (h : CellOk K S A H a c) : H a ≠ some (LamX.CodeO a q) := fun z => by
  cases c with
  | lst ds => obtain ⟨vs, h1, h2⟩ := h; rw [h1] at z; exact codeO_ne.1 _ (Option.some.inj z).symm
  | dct t es =>
    cases t with
    | false => obtain ⟨kvs, h1, h2⟩ := h; rw [h1] at z; exact codeO_ne.2.1 _ (Option.some.inj z).symm
    | true => obtain ⟨kvs, h1, h2⟩ := h; rw [h1] at z; exact codeO_ne.2.2.1 _ (Option.some.inj z).symm
  | tbl p P =>
    obtain ⟨_, ps, h1, _⟩ := h
    rw [h1] at z; exact codeO_ne.2.2.2 _ (Option.some.inj z).symm
  | fdc t es =>
    cases t with
    | false => obtain ⟨o, kvs, h1, _⟩ := h; rw [h1] at z; exact codeO_nf (Option.some.inj z).symm
    | true => obtain ⟨o, kvs, h1, _⟩ := h; rw [h1] at z; exact codeO_nf (Option.some.inj z).symm
theorem Wd.code {c : Addr} {q : Str} (w : Wd K S A H sto) (h : H c = some (LamX.CodeO c q)) : c ∉ S := fun z => by
  obtain ⟨i, hi, e⟩ := List.getElem_of_mem z
  obtain ⟨cc, _, ok⟩ := w.cell (i := i) (a := c) (by rw [List.getElem?_eq_getElem hi, e])
  exact ok.notCode h
theorem Wd.keeps {K : PySem.W.Frag} (w : Wd K S A H sto) (al : ∀ a, A' a → Hdn (H' a)) (hS : ∀ a, a ∈ S → A' a) (e : Same (hid A H) (hid A' H')) (k : ∀ a ∈ S, ∀ o, H a = some o → H' a = some o) (kt : ∀ c q, H c = some (LamX.CodeO c q) → H' c = some (LamX.CodeO c q)) : Wd K S A' H' sto :=
  ⟨al, hS, w.nds, w.len, fun i a c h1 h2 => (w.st i a c h1 h2).keep e (k a (List.mem_of_getElem? h1)) kt⟩
theorem Wd.notA (w : Wd K S A H sto) (h : H a = none) : ¬ A a := fun e => w.al a e h
theorem RdV.move (r : RdV K S A σ H vw) (e : Ext S H H') (hS : ∀ a, a ∈ S → A a) (hA : ∀ a, A' a → A a ∨ H a = none) : RdV K S A' σ H' vw := ⟨r.1, fun i d h => by
  obtain ⟨v, e1, e2⟩ := r.2 i d h
  exact ⟨v, e1, e2.le (hid_move e hS hA)⟩⟩
theorem hdn_of_same (e : Same H H') (h : Hdn (H a)) : Hdn (H' a) := by
  cases q : H a with
  | none => exact absurd q h.1
  | some o =>
    rw [q] at h
    rw [e a o q]
    exact h
/-- the heap grew, and so did what is hidden, by new objects -/
theorem Wd.grow (w : Wd K S A H sto) (e : Same H H') (hA : ∀ a, A' a → A a ∨ (H a = none ∧ Hdn (H' a))) (hA2 : ∀ a, A a → A' a) : Wd K S A' H' sto := by
  refine w.keeps (fun a ha => ?_) (fun a h => hA2 a (w.hS a h)) (hid_move (Ext.of e) w.hS fun a h => (hA a h).imp id (·.1)) (fun a _ o h => e a o h) fun c q h => e _ _ h
  rcases hA a ha with z | z
  · exact hdn_of_same e (w.alt a z)
  · exact z.2
/-- a hidden object was changed -/
theorem hid_upd {D : Addr} (h : A D) : hid A (upd H D o) = hid A H := by
  funext a
  unfold hid
  by_cases z : A a
  · rw [if_pos z, if_pos z]
  · rw [if_neg z, if_neg z]
    exact upd_ne fun e => z (e ▸ h)
theorem Wd.upd {D : Addr} (w : Wd K S A H sto) (h : A D) (hS : D ∉ S) (hL : ∃ vs, H D = some (.lst vs)) (ho : ∀ xs, o ≠ .tup xs := by intro _ z; cases z) : Wd K S A (upd H D o) sto := by
  refine w.keeps (fun a ha => ?_) w.hS (by rw [hid_upd h]; exact fun _ _ h => h) (fun a ha x hx => ?_) fun c q hc => ?_
  · by_cases e : a = D
    · rw [e, upd_same]; exact ⟨(fun z => nomatch z), fun xs z => ho xs (Option.some.inj z)⟩
    · rw [upd_ne e]; exact w.alt a ha
  · rw [upd_ne (fun e : a = D => hS (e ▸ ha))]; exact hx
  · rw [upd_ne (fun e => ?_)]
    · exact hc
    · obtain ⟨vs, hv⟩ := hL
      rw [e] at hc
      rw [hv] at hc
      exact codeO_ne.1 _ (Option.some.inj hc).symm
theorem same_upd (h : H a = none) : Same H (upd H a o) := fun b x e => by
  rw [upd_ne (ne_of_none e h)]
  exact e
/-- less is hidden -/
theorem Wd.less (w : Wd K S A H sto) (h : ∀ a, A' a → A a) (hS : ∀ a, a ∈ S → A' a) : Wd K S A' H sto := by
  exact w.keeps (fun a ha => w.alt a (h a ha)) hS (hid_le h) (fun _ _ _ h => h) fun _ _ h => h
theorem Res.live (w : Wd K S A H sto) (r : Res K S A H sto' k H' v d F) : ∀ a ∈ F, a ∉ S := fun a ha => w.live (r.fr a ha)
theorem Res.rp (w : Wd K S A H sto) (r : Res K S A H sto' k H' v d F) : Rp K S (hid A H') v d := r.ow.rp (fun a h => .inr h) fun a ha => w.notA (r.fr a ha)
theorem ResA.rp {v : List V} {d : List D} (w : Wd K S A H sto) (r : ResA K S A H sto' k H' v d F) : RpA K S (hid A H') v d := r.ow.rp (fun a h => .inr h) fun a ha => w.notA (r.fr a ha)
/-- the freed result -/
theorem Res.zero (w : Wd K S A H sto) (r : Res K S A H sto' k H' v d F) : Res K S A H sto' 0 H' v d [] :=
  ⟨r.ext, by rw [plus_nil]; exact r.wd.less (fun a h => .inr h) w.hS, .nil, noF, .sh (by rw [plus_nil]; exact r.rp w)⟩
theorem Res.weak (w : Wd K S A H sto) (r : Res K S A H sto' k H' v d F) (h : j ≤ k) : ∃ G, Res K S A H sto' j H' v d G := by
  obtain ⟨G, s, q⟩ := r.ow.weak j h r.nd
  refine ⟨G, r.ext, r.wd.less (fun a h => h.imp (fun z => s.subset z) id) fun a e => .inr (w.hS a e), r.nd.sublist s, fun a ha => r.fr a (s.subset ha), ?_⟩
  refine q _ (fun a h => h.imp (fun z => s.subset z) id) fun a ha z => ?_
  rcases z with z | z
  · exact z
  · exact absurd z (w.notA (r.fr a ha))
/-- data that bear nothing that may change -/
def atomic (d : D) : Prop := (∀ ds, d ≠ .list ds) ∧ True
theorem Ow.atom (h : atomic d) (r : Rp K S (hid A H) v d) : Ow K S A H k v d [] := by
  cases k with
  | zero => exact .sh r
  | succ k => exact .at h.1 h.2 r
theorem Res.atom (w : Wd K S A H sto) (h : atomic d) (r : Rp K S (hid A H) v d) : Res K S A H sto k H v d [] :=
  ⟨Ext.refl, by rw [plus_nil]; exact w, .nil, noF, by rw [plus_nil]; exact .atom h r⟩
theorem Res.shared (w : Wd K S A H sto) (r : Rp K S (hid A H) v d) : Res K S A H sto 0 H v d [] :=
  ⟨Ext.refl, by rw [plus_nil]; exact w, .nil, noF, by rw [plus_nil]; exact .sh r⟩
/-- one more step behind -/
theorem Res.after {H1 : Hp} (e : Ext S H H1) (r : Res K S A H1 sto' k H' v d F) (hn : ∀ a ∈ F, H a = none) : Res K S A H sto' k H' v d F := ⟨e.trans r.ext, r.wd, r.nd, hn, r.ow⟩
theorem none_of_ext (e : Ext S H H') (hS : a ∉ S) (h : H' a = none) : H a = none := by
  cases q : H a with
  | none => rfl
  | some o => rw [e a o hS q] at h; cases h
theorem atomic_int (i : Int) : atomic (.int i) := ⟨(fun _ h => nomatch h), trivial⟩
theorem atomic_bool (b : Bool) : atomic (.bool b) := ⟨(fun _ h => nomatch h), trivial⟩
theorem atomic_none : atomic .none := ⟨(fun _ h => nomatch h), trivial⟩
theorem atomic_str (x : Str) : atomic (.str x) := ⟨(fun _ h => nomatch h), trivial⟩
theorem atomic_tuple (xs : List D) : atomic (.tuple xs) := ⟨(fun _ h => nomatch h), trivial⟩
/-- a new list of owned things -/
theorem Res.lst {vs : List V} {ds : List D} {p : Addr} {H0 : Hp} {sto0 : STO} (w : Wd K S A H0 sto0) (r : ResA K S A H0 sto k H vs ds F) (hp : H p = none) : Res K S A H0 sto (k + 1) (upd H p (.lst vs)) (.ref p) (.list ds) (p :: F) := by
  have hpF : p ∉ F := fun h => r.wd.al p (.inl h) hp
  have sm : Same H (upd H p (.lst vs)) := same_upd hp
  have hp0 : H0 p = none := by
    cases q : H0 p with
    | none => rfl
    | some o =>
      by_cases z : p ∈ S
      · exact absurd hp (r.wd.al p (.inr (w.hS p z)))
      · rw [r.ext p o z q] at hp; cases hp
  refine ⟨r.ext.trans (Ext.of sm), r.wd.grow sm (fun a h => ?_) (fun a h => h.imp (List.mem_cons_of_mem _) id), List.nodup_cons.mpr ⟨hpF, r.nd⟩, fun a ha => ?_, .lst upd_same (r.ow.move (Ext.of sm) r.wd.hS (fun a h => ?_) fun a ha => w.live (r.fr a ha))⟩
  · rcases h with h | h
    · rcases List.mem_cons.mp h with rfl | h
      · exact .inr ⟨hp, by rw [upd_same]; exact ⟨(fun z => nomatch z), fun _ z => nomatch z⟩⟩
      · exact .inl (.inl h)
    · exact .inl (.inr h)
  · rcases List.mem_cons.mp ha with rfl | ha
    · exact hp0
    · exact r.fr a ha
  · rcases h with h | h
    · rcases List.mem_cons.mp h with rfl | h
      · exact .inr hp
      · exact .inl (.inl h)
    · exact .inl (.inr h)
/-- a new tuple of things that are given to all -/
theorem Res.tup {vs : List V} {ds : List D} {p : Addr} {H0 : Hp} {sto0 : STO} (w : Wd K S A H0 sto0) (r : ResA K S A H0 sto 0 H vs ds F) (hp : H p = none) : Res K S A H0 sto k (upd H p (.tup vs)) (.ref p) (.tuple ds) [] := by
  have sm : Same H (upd H p (.tup vs)) := same_upd hp
  have w1 : Wd K S A H sto := r.wd.less (fun a h => .inr h) w.hS
  refine ⟨r.ext.trans (Ext.of sm), by rw [plus_nil]; exact w1.grow sm (fun a h => .inl h) (fun a h => h), .nil, noF, ?_⟩
  rw [plus_nil]
  refine .atom (atomic_tuple ds) (.tup (hid_eq.mpr ⟨w1.notA hp, upd_same⟩) ((r.rp w).le (hid_move (Ext.of sm) w.hS fun a h => .inl h)))
theorem ResA.nil (w : Wd K S A H sto) : ResA K S A H sto k H [] [] [] := ⟨Ext.refl, by rw [plus_nil]; exact w, .nil, noF, .nil⟩
/-- given to all: a list of things -/
theorem ResA.shared {vs : List V} {ds : List D} (w : Wd K S A H sto) (r : RpA K S (hid A H) vs ds) : ResA K S A H sto 0 H vs ds [] := ⟨Ext.refl, by rw [plus_nil]; exact w, .nil, noF, by rw [plus_nil]; exact .zero r⟩
theorem ResA.zero {v : List V} {d : List D} (w : Wd K S A H sto) (r : ResA K S A H sto' k H' v d F) : ResA K S A H sto' 0 H' v d [] :=
  ⟨r.ext, by rw [plus_nil]; exact r.wd.less (fun a h => .inr h) w.hS, .nil, noF, by rw [plus_nil]; exact .zero (r.rp w)⟩
/-- two results, one behind the other -/
theorem ResA.cons {sto1 sto2 : STO} {H1 H2 : Hp} {vs : List V} {ds : List D} (w : Wd K S A H sto) (r : Res K S A H sto1 k H1 v d F) (q : ResA K S (plus F A) H1 sto2 k H2 vs ds G) : ResA K S A H sto2 k H2 (v :: vs) (d :: ds) (F ++ G) := by
  have hlive : ∀ a ∈ G, a ∉ S := fun a ha => r.wd.live (q.fr a ha)
  refine ⟨r.ext.trans q.ext, by rw [← plus_append]; exact q.wd, List.nodup_append.mpr ⟨r.nd, q.nd, fun x hx y hy e => ?_⟩, fun a ha => ?_, ?_⟩
  · subst e
    exact r.wd.al x (.inl hx) (q.fr x hy)
  · rcases List.mem_append.mp ha with h | h
    · exact r.fr a h
    · exact none_of_ext r.ext (hlive a h) (q.fr a h)
  · rw [← plus_append]
    refine .cons (r.ow.move q.ext r.wd.hS (fun a h => ?_) (r.live w)) q.ow
    rcases h with h | h
    · exact .inr (q.fr a h)
    · exact .inl h
end

/-! ### the judgements -/
section
/-- an expression's own reading, the widest -/
def wpE (X : Cx) (e : Expr) : TE := fun σ H Q => ∀ pins s, Inv X pins σ H s → wpAny (model X.prog X.w) X.A (eval e X.env) (EP X pins σ Q) X.xe s
theorem wpE_pe {X : Cx} {e : Expr} : PE X e (wpE X e) := ⟨fun pins s σ H Q I h => h pins s I⟩
def wpT (X : Cx) (e : Expr) : TT := fun σ H Q => ∀ pins s, Inv X pins σ H s → wpAny (model X.prog X.w) X.A (isTrue e X.env (eval e X.env)) (TP X pins σ Q) X.xe s
theorem wpT_pt {X : Cx} {e : Expr} : PT X e (wpT X e) := ⟨fun pins s σ H Q I h => h pins s I⟩
def wpW (X : Cx) (e : Expr) : TT := fun σ H Q => ∀ whole pins s, Inv X pins σ H s → wpAny (model X.prog X.w) X.A (isTrue e X.env whole) (TP X pins σ Q) X.xe s
theorem wpW_pw {X : Cx} {e : Expr} : PW X e (wpW X e) := ⟨fun whole pins s σ H Q I h => h whole pins s I⟩
def wpA (X : Cx) (es : List Expr) : TA := fun σ H Q => ∀ pos pins s, Inv X pins σ H s → wpAny (model X.prog X.w) X.A (spliced (backTo pos (starEach es X.env))) (AP X pins σ Q) X.xe s
theorem wpA_pa {X : Cx} {es : List Expr} : PA X es (wpA X es) := ⟨fun pos pins s σ H Q I h => h pos pins s I⟩
def wpS (X : Cx) (st : Stmt) : TS := fun D σ H => ∀ pins s, Inv X pins σ H s → wpAny (model X.prog X.w) X.A (exec st X.env) (SP X pins D) X.xe s
theorem wpS_ps {X : Cx} {st : Stmt} : PS X st (wpS X st) := ⟨fun pins s σ H D I h => h pins s I⟩
def wpSs (X : Cx) (st : List Stmt) : TS := fun D σ H => ∀ pins s, Inv X pins σ H s → wpAny (model X.prog X.w) X.A (execs st X.env) (SP X pins D) X.xe s
theorem wpSs_pss {X : Cx} {st : List Stmt} : PSs X st (wpSs X st) := ⟨fun pins s σ H D I h => h pins s I⟩
/-- by a rule of the layer -/
theorem wpE.by {X : Cx} {e : Expr} {t : TE} (h : PE X e t) {σ : Sg} {H : Hp} {Q : VK} (q : t σ H Q) : wpE X e σ H Q := fun pins s I => h.run pins s σ H Q I q
theorem wpT.by {X : Cx} {e : Expr} {t : TT} (h : PT X e t) {σ : Sg} {H : Hp} {Q : Bool → Hp → Prop} (q : t σ H Q) : wpT X e σ H Q := fun pins s I => h.run pins s σ H Q I q
theorem wpW.by {X : Cx} {e : Expr} {t : TT} (h : PW X e t) {σ : Sg} {H : Hp} {Q : Bool → Hp → Prop} (q : t σ H Q) : wpW X e σ H Q := fun wh pins s I => h.run wh pins s σ H Q I q
theorem wpA.by {X : Cx} {e : List Expr} {t : TA} (h : PA X e t) {σ : Sg} {H : Hp} {Q : List V → Hp → Prop} (q : t σ H Q) : wpA X e σ H Q := fun pos pins s I => h.run pos pins s σ H Q I q
theorem wpS.by {X : Cx} {e : Stmt} {t : TS} (h : PS X e t) {σ : Sg} {H : Hp} {D : Ends} (q : t D σ H) : wpS X e D σ H := fun pins s I => h.run pins s σ H D I q
theorem wpSs.by {X : Cx} {e : List Stmt} {t : TS} (h : PSs X e t) {σ : Sg} {H : Hp} {D : Ends} (q : t D σ H) : wpSs X e D σ H := fun pins s I => h.run pins s σ H D I q

/-- e is told by f: its value, owned to depth k -/
def JP (X : Cx) (e : Expr) (f : Ev) (k : Nat) : Prop := ∀ A S σ H vw sto d sto' (Q : VK), Wd X.K S A H sto → RdV X.K S A σ H vw → f vw sto = some (d, sto') →
  (∀ v H' F, Res X.K S A H sto' k H' v d F → Q v H') → wpE X e σ H Q
def JA (X : Cx) (es : List Expr) (f : EvA) (k : Nat) : Prop := ∀ A S σ H vw sto d sto' (Q : List V → Hp → Prop), Wd X.K S A H sto → RdV X.K S A σ H vw → f vw sto = some (d, sto') →
  (∀ v H' F, ResA X.K S A H sto' k H' v d F → Q v H') → wpA X es σ H Q
def JT (X : Cx) (e : Expr) (f : EvT) : Prop := ∀ A S σ H vw sto b sto' (Q : Bool → Hp → Prop), Wd X.K S A H sto → RdV X.K S A σ H vw → f vw sto = some (b, sto') →
  (∀ H', Ext S H H' → Wd X.K S A H' sto' → Q b H') → wpT X e σ H Q
def JW (X : Cx) (e : Expr) (f : EvT) : Prop := ∀ A S σ H vw sto b sto' (Q : Bool → Hp → Prop), Wd X.K S A H sto → RdV X.K S A σ H vw → f vw sto = some (b, sto') →
  (∀ H', Ext S H H' → Wd X.K S A H' sto' → Q b H') → wpW X e σ H Q
variable {X : Cx} {e a b : Expr} {es : List Expr} {f g : Ev} {fs : EvA} {k j : Nat}
theorem JP.weak (h : JP X e f k) (hj : j ≤ k) : JP X e f j := fun A S σ H vw sto d sto' Q w r q z => h A S σ H vw sto d sto' Q w r q fun v H' F rs => by
  obtain ⟨G, rs'⟩ := rs.weak w hj
  exact z v H' G rs'
theorem JP.zero (h : JP X e f k) : JP X e f 0 := h.weak (Nat.zero_le _)
/-- its value given to all -/
theorem JP.use (h : JP X e f k) {A : Addr → Prop} {S : List Addr} {σ : Sg} {H : Hp} {vw : VW} {sto sto' : STO} {d : D} {Q : VK} (w : Wd X.K S A H sto) (r : RdV X.K S A σ H vw) (q : f vw sto = some (d, sto'))
    (z : ∀ v H', Ext S H H' → Wd X.K S A H' sto' → RdV X.K S A σ H' vw → Rp X.K S (hid A H') v d → Q v H') : wpE X e σ H Q := h A S σ H vw sto d sto' Q w r q fun v H' F rs =>
  z v H' rs.ext (rs.wd.less (fun a h => .inr h) w.hS) (r.move rs.ext w.hS fun a h => .inl h) (rs.rp w)
theorem JA.use (h : JA X es fs k) {A : Addr → Prop} {S : List Addr} {σ : Sg} {H : Hp} {vw : VW} {sto sto' : STO} {d : List D} {Q : List V → Hp → Prop} (w : Wd X.K S A H sto) (r : RdV X.K S A σ H vw) (q : fs vw sto = some (d, sto'))
    (z : ∀ v H', Ext S H H' → Wd X.K S A H' sto' → RdV X.K S A σ H' vw → RpA X.K S (hid A H') v d → Q v H') : wpA X es σ H Q := h A S σ H vw sto d sto' Q w r q fun v H' F rs =>
  z v H' rs.ext (rs.wd.less (fun a h => .inr h) w.hS) (r.move rs.ext w.hS fun a h => .inl h) (rs.rp w)
end
end J
namespace J
open PySem PySem.Spec PyProof.Rows L2

/-- ints that a product, a power, a quotient may meet -/
def small (i : Int) : Bool := decide (i.natAbs < 2 ^ 4000)
theorem small_log {i : Int} (h : small i = true) : i.natAbs.log2 < 4000 := PySem.Flt.log2_lt_of (by decide) (of_decide_eq_true h)

section
variable {K : PySem.W.Frag} {S : List Addr} {A A' : Addr → Prop} {H H' : Hp} {sto sto' : STO} {x y : V} {d e : D}
/-! ### what stands for a datum -/
theorem Rp.intI {i : Int} (h : Rp K S H x (.int i)) : x = .int i := by cases h; rfl
theorem Rp.strI {i : Str} (h : Rp K S H x (.str i)) : x = .str i := by cases h; rfl
theorem Rp.blI {i : Bool} (h : Rp K S H x (.bool i)) : x = .bl i := by cases h; rfl
theorem Rp.nonI (h : Rp K S H x .none) : x = .non := by cases h; rfl
theorem Rp.lstI {ds : List D} (h : Rp K S H x (.list ds)) : ∃ a xs, x = .ref a ∧ Rd H a (.lst xs) ∧ RpA K S H xs ds := by
  cases h with
  | lst h1 h2 => exact ⟨_, _, rfl, h1, h2⟩
theorem Rp.tupI {ds : List D} (h : Rp K S H x (.tuple ds)) : ∃ a xs, x = .ref a ∧ Rd H a (.tup xs) ∧ RpA K S H xs ds := by
  cases h with
  | tup h1 h2 => exact ⟨_, _, rfl, .inl h1, h2⟩
theorem Rp.tupI' {ds : List D} (h : Rp K S H x (.tuple ds)) : ∃ a xs, x = .ref a ∧ H a = some (.tup xs) ∧ RpA K S H xs ds := by
  cases h with
  | tup h1 h2 => exact ⟨_, _, rfl, h1, h2⟩
theorem same_hid : Same (hid A H) H := fun a o e => (hid_eq.mp e).2
theorem Rp.out (h : Rp K S (hid A H) x d) : Rp K S H x d := h.le same_hid
theorem RpA.out {x : List V} {d : List D} (h : RpA K S (hid A H) x d) : RpA K S H x d := h.le same_hid
theorem _root_.L2.Rd.out {a : Addr} {u : HO} (h : Rd (hid A H) a u) : Rd H a u := Rd.le same_hid h
/-- without dicts it is data of the layer -/
theorem Rp.dp (h : Rp K S H x d) : d.canLay0 = true → Dp K H x d :=
  Rp.rec (motive_1 := fun v d _ => d.canLay0 = true → Dp K H v d) (motive_2 := fun v d _ => PyData.canLayAll0 d = true → DpAll K H v d) (motive_3 := fun _ _ _ => True) (motive_4 := fun _ _ _ => True)
    (fun _ => .non) (fun b _ => .bl b) (fun i _ => .int i) (fun x _ => .str x) (fun s _ h c => .lst (.inl s) (h (by simpa [PyData.canLay0] using c))) (fun s _ h c => .tup (.inl (.inl s)) (h (by simpa [PyData.canLay0] using c)))
    (fun _ _ _ c => absurd c (by simp [PyData.canLay0])) (fun _ _ _ c => absurd c (by simp [PyData.canLay0])) (fun _ c => by unfold tokD at c; simp [PyData.canLay0] at c) (fun _ _ _ c => by unfold skD at c; simp [PyData.canLay0] at c) (fun _ _ _ c => absurd c (by simp [PyData.canLay0])) (fun _ _ _ c => absurd c (by simp [PyData.canLay0])) (fun c => by unfold exD at c; simp [PyData.canLay0] at c) (fun _ _ c => by unfold obD at c; simp [PyData.canLay0] at c) (fun _ c => by unfold exiD at c; simp [PyData.canLay0] at c)
    (fun _ => .nil) (fun _ _ a b c => by
      have c' := Bool.and_eq_true_iff.mp (by simpa [PyData.canLayAll0] using c)
      exact .cons (a c'.1) (b c'.2)) trivial (fun _ _ _ _ => trivial) trivial (fun _ _ _ _ => trivial) h
theorem shaped_lay (h : SeqAt.shaped d = true) : d.canLay0 = true := SeqAt.canLay_of_shaped h
end

/-! ### two-place operations -/
/-- the operation F is told by op -/
def OpJ (X : Cx) (F : Value → Value → Sem Value) (op : D → D → Option D) (k : Nat) : Prop := ∀ d1 d2 d, op d1 d2 = some d → ∃ r, OpR X F r ∧ ∀ A S H sto x y Q, Wd X.K S A H sto → Rp X.K S (hid A H) x d1 → Rp X.K S (hid A H) y d2 →
  (∀ v H' F', Res X.K S A H sto k H' v d F' → Q v H') → r x y H Q
def UnJ (X : Cx) (F : Value → Sem Value) (op : D → Option D) (k : Nat) : Prop := ∀ d1 d, op d1 = some d → ∃ r, UnR X F r ∧ ∀ A S H sto x Q, Wd X.K S A H sto → Rp X.K S (hid A H) x d1 →
  (∀ v H' F', Res X.K S A H sto k H' v d F' → Q v H') → r x H Q
def eVar (i : Nat) : Ev := fun vw s => match vw[i]? with
  | some (some d) => some (d, s)
  | _ => none
def eC (d : D) : Ev := fun _ s => some (d, s)
def eBin (op : D → D → Option D) (f g : Ev) : Ev := fun vw s => (f vw s).bind fun p => (g vw p.2).bind fun q => (op p.1 q.1).map fun r => (r, q.2)
def eUn (op : D → Option D) (f : Ev) : Ev := fun vw s => (f vw s).bind fun p => (op p.1).map fun r => (r, p.2)
theorem eBin_some {op : D → D → Option D} {f g : Ev} {vw : VW} {s s' : STO} {d : D} (h : eBin op f g vw s = some (d, s')) : ∃ x s1 y, f vw s = some (x, s1) ∧ g vw s1 = some (y, s') ∧ op x y = some d := by
  unfold eBin at h
  cases e1 : f vw s with
  | none => rw [e1] at h; cases h
  | some p =>
    rw [e1, Option.bind_some] at h
    cases e2 : g vw p.2 with
    | none => rw [e2] at h; cases h
    | some q =>
      rw [e2, Option.bind_some] at h
      cases e3 : op p.1 q.1 with
      | none => rw [e3] at h; cases h
      | some r =>
        rw [e3] at h
        cases h
        exact ⟨p.1, p.2, q.1, rfl, e2, e3⟩
theorem eUn_some {op : D → Option D} {f : Ev} {vw : VW} {s s' : STO} {d : D} (h : eUn op f vw s = some (d, s')) : ∃ x, f vw s = some (x, s') ∧ op x = some d := by
  unfold eUn at h
  cases e1 : f vw s with
  | none => rw [e1] at h; cases h
  | some p =>
    rw [e1, Option.bind_some] at h
    cases e3 : op p.1 with
    | none => rw [e3] at h; cases h
    | some r =>
      rw [e3] at h
      cases h
      exact ⟨p.1, rfl, e3⟩
section
variable {X : Cx} {e a b c : Expr} {es : List Expr} {f g : Ev} {fs : EvA} {k j : Nat} {pos p : Pos} {op : D → D → Option D}
/-- a then b, both given to all -/
theorem JP.use2 {k j : Nat} (ha : JP X a f k) (hb : JP X b g j) {A : Addr → Prop} {S : List Addr} {σ : Sg} {H : Hp} {vw : VW} {sto s1 s2 : STO} {x y : D} {R : V → V → Hp → Prop} (w : Wd X.K S A H sto) (r : RdV X.K S A σ H vw)
    (e1 : f vw sto = some (x, s1)) (e2 : g vw s1 = some (y, s2))
    (z : ∀ v u H', Ext S H H' → Wd X.K S A H' s2 → RdV X.K S A σ H' vw → Rp X.K S (hid A H') v x → Rp X.K S (hid A H') u y → R v u H') : wpE X a σ H fun v H1 => wpE X b σ H1 fun u H2 => R v u H2 :=
  ha.use w r e1 fun v H1 x1 w1 r1 p1 => hb.use w1 r1 e2 fun u H2 x2 w2 r2 p2 => z v u H2 (x1.trans x2) w2 r2 (p1.le (hid_move x2 w1.hS fun a h => .inl h)) p2
theorem jp_bin {o : Operator} (ho : OpJ X (binaryOp o) op k) (ha : JP X a f 0) (hb : JP X b g 0) : JP X (.BinOp a o b pos) (eBin op f g) k := fun A S σ H vw sto d sto' Q w r q z => by
  obtain ⟨x, s1, y, e1, e2, e3⟩ := eBin_some q
  obtain ⟨rr, h1, h2⟩ := ho x y d e3
  refine wpE.by (pe_op h1 wpE_pe wpE_pe) (ha.use2 hb w r e1 e2 fun v u H' x' w' r' p1 p2 => h2 A S H' sto' v u Q w' p1 p2 fun v' H2 F' rs => z v' H2 F' (rs.after x' fun a ha => none_of_ext x' (w'.live (rs.fr a ha)) (rs.fr a ha)))
theorem jp_un {o : UnaryOp} {op : D → Option D} (ho : UnJ X (unaryOp o) op k) (ha : JP X a f 0) : JP X (.UnaryOp o a pos) (eUn op f) k := fun A S σ H vw sto d sto' Q w r q z => by
  obtain ⟨x, e1, e3⟩ := eUn_some q
  obtain ⟨rr, h1, h2⟩ := ho x d e3
  refine wpE.by (pe_un h1 wpE_pe) (ha.use w r e1 fun v H' x' w' r' p1 => h2 A S H' sto' v Q w' p1 fun v' H2 F' rs => z v' H2 F' (rs.after x' fun a ha => none_of_ext x' (w'.live (rs.fr a ha)) (rs.fr a ha)))
/-- a comparison -/
theorem jp_cmp {o : CmpOp} (ho : OpJ X (compareOp o) op k) (ha : JP X a f 0) (hb : JP X b g 0) (hm : behindInMarks o b = false) : JP X (.Compare a [o] [b] pos) (eBin op f g) k := fun A S σ H vw sto d sto' Q w r q z => by
  obtain ⟨x, s1, y, e1, e2, e3⟩ := eBin_some q
  obtain ⟨rr, h1, h2⟩ := ho x y d e3
  refine wpE.by (pe_cmpR h1 wpE_pe wpE_pe hm) (ha.use2 hb w r e1 e2 fun v u H' x' w' r' p1 p2 => h2 A S H' sto' v u Q w' p1 p2 fun v' H2 F' rs => z v' H2 F' (rs.after x' fun a ha => none_of_ext x' (w'.live (rs.fr a ha)) (rs.fr a ha)))
theorem jp_int {i j} : JP X (.Constant (.int i) j pos) (eC (.int i)) k := fun A S σ H vw sto d sto' Q w r q z => by
  cases q
  exact wpE.by pe_int (z _ _ [] (.atom w (atomic_int i) (.int i)))
theorem jp_bl {b j} : JP X (.Constant (.bool b) j pos) (eC (.bool b)) k := fun A S σ H vw sto d sto' Q w r q z => by
  cases q
  exact wpE.by pe_bl (z _ _ [] (.atom w (atomic_bool b) (.bl b)))
theorem jp_non {j} : JP X (.Constant .none j pos) (eC .none) k := fun A S σ H vw sto d sto' Q w r q z => by
  cases q
  exact wpE.by pe_non (z _ _ [] (.atom w atomic_none .non))
theorem jp_str {x j} : JP X (.Constant (.str x) j pos) (eC (.str x)) k := fun A S σ H vw sto d sto' Q w r q z => by
  cases q
  exact wpE.by pe_str (z _ _ [] (.atom w (atomic_str x) (.str x)))
theorem jp_var {i : Nat} {x : Str} (hN : X.N[i]? = some x) (hv : Vis X.env.scope x) (hd : (x == ("__debug__" : Str)) = false := by decide) (hcd : (x == ("__classdict__" : Str)) = false := by decide) : JP X (.Name x pos) (eVar i) 0 := fun A S σ H vw sto d sto' Q w r q z => by
  unfold eVar at q
  split at q
  · rename_i d' e
    cases q
    obtain ⟨v, e1, e2⟩ := r.2 i _ e
    exact wpE.by (pe_var hN hv hd hcd) ⟨v, e1, z v H [] (.shared w e2)⟩
  · cases q
/-- a module's constant -/
theorem jp_glob {x : Str} {i : Int} {t : Tok} (hg : Gl X x) (hm : X.mg x = some (.int i t)) (hd : (x == ("__debug__" : Str)) = false := by decide) : JP X (.Name x pos) (eC (.int i)) k := fun A S σ H vw sto d sto' Q w r q z => by
  cases q
  exact wpE.by (pe_glob (v := .int i) hg hm ⟨_, rfl⟩ hd) (z _ _ [] (.atom w (atomic_int i) (.int i)))
theorem jp_globS {x : Str} {i : Str} {t : Tok} (hg : Gl X x) (hm : X.mg x = some (.str i t)) (hd : (x == ("__debug__" : Str)) = false := by decide) : JP X (.Name x pos) (eC (.str i)) k := fun A S σ H vw sto d sto' Q w r q z => by
  cases q
  exact wpE.by (pe_glob (v := .str i) hg hm ⟨_, rfl⟩ hd) (z _ _ [] (.atom w (atomic_str i) (.str i)))
end

/-! ### the operators -/
section
variable {X : Cx} {k : Nat}
def dAdd : D → D → Option D
  | .int i, .int j => some (.int (i + j))
  | .str x, .str y => if x.length + y.length ≤ 16777216 then some (.str (x ++ y)) else none
  | .list xs, .list ys => if xs.length + ys.length ≤ 16777216 then some (.list (xs ++ ys)) else none
  | _, _ => none
def rCatR : R2 := fun x y H Q => ∃ l b xs zs, x = .ref l ∧ y = .ref b ∧ Rd H l (.lst xs) ∧ Rd H b (.lst zs) ∧ xs.length + zs.length ≤ sizeLine ∧ ∀ p, H p = none → Q (.ref p) (upd H p (.lst (xs ++ zs)))
theorem lstR {pins : List (Addr × Obj)} {σ : Sg} {H : Hp} {s : Shared} {l : Addr} {xs : List V} (I : Inv X pins σ H s) (hH : Rd H l (.lst xs)) : xs.length ≤ sizeLine ∧ ∃ (its : List Value) (n : Nat), Vals xs its ∧ xs.length = its.length ∧ s.heap.get? l = some { cls := .type "list", data := .seq its.toArray n } := by
  obtain ⟨z, its, n, r, e⟩ := Rd.ok hH I.hok
  exact ⟨z, its, n, r, r.length, e⟩
theorem op_catR : OpR X (binaryOp .Add) rCatR := by
  intro pins s σ H x y v u Q I rx ry h
  obtain ⟨l, b, xs, zs, rfl, rfl, hH, hB, hz, q⟩ := h
  cases rx
  cases ry
  obtain ⟨z, its, n, r, hl, e⟩ := lstR I hH
  obtain ⟨z2, its2, n2, r2, hl2, e2⟩ := lstR I hB
  refine PySem.P.add_list e e2 ?_ (by rw [List.size_toArray, List.size_toArray]; omega)
  have ea : its.toArray ++ its2.toArray = (its ++ its2).toArray := by simp
  rw [ea]
  exact ⟨.ref _, _, I.lnew (t' := s.toks) (r.append r2) (by rw [List.length_append]; omega), rfl, q _ I.fresh⟩
theorem oj_add : OpJ X (binaryOp .Add) dAdd 1 := fun d1 d2 d h => by
  unfold dAdd at h
  split at h
  · cases h
    exact ⟨_, op_add, fun A S H sto x y Q w p1 p2 z => ⟨_, _, p1.intI, p2.intI, z _ _ [] (.atom w (atomic_int _) (.int _))⟩⟩
  · split at h
    · rename_i hl
      cases h
      exact ⟨_, op_add_str, fun A S H sto x y Q w p1 p2 z => ⟨_, _, p1.strI, p2.strI, by rw [sizeLine_eq]; exact hl, z _ _ [] (.atom w (atomic_str _) (.str _))⟩⟩
    · cases h
  · split at h
    · rename_i hl
      cases h
      refine ⟨_, op_catR, fun A S H sto x y Q w p1 p2 z => ?_⟩
      obtain ⟨a, xs, rfl, r1, q1⟩ := p1.lstI
      obtain ⟨b, ys, rfl, r2, q2⟩ := p2.lstI
      exact ⟨a, b, xs, ys, rfl, rfl, r1.out, r2.out, by rw [q1.length, q2.length, sizeLine_eq]; exact hl, fun p hp => z _ _ [p] (Res.lst w (.shared w (q1.append q2)) hp)⟩
    · cases h
  · cases h
def dSub : D → D → Option D
  | .int i, .int j => some (.int (i - j))
  | _, _ => none
theorem oj_sub : OpJ X (binaryOp .Sub) dSub k := fun d1 d2 d h => by
  unfold dSub at h
  split at h
  · cases h
    exact ⟨_, op_sub, fun A S H sto x y Q w p1 p2 z => ⟨_, _, p1.intI, p2.intI, z _ _ [] (.atom w (atomic_int _) (.int _))⟩⟩
  · cases h
def dMul : D → D → Option D
  | .int i, .int j => if small i = true ∧ small j = true then some (.int (i * j)) else none
  | .list xs, .int j => if j ≤ 16777216 ∧ -16777216 ≤ j ∧ xs.length * j.toNat ≤ 16777216 then some (.list (List.replicate j.toNat xs).flatten) else none
  | _, _ => none
def rRepR : R2 := fun x y H Q => ∃ l k xs, x = .ref l ∧ y = .int k ∧ Rd H l (.lst xs) ∧ -(2 ^ 63) ≤ k ∧ k < 2 ^ 63 ∧ xs.length * k.toNat ≤ sizeLine ∧
  ∀ p, H p = none → Q (.ref p) (upd H p (.lst (List.replicate k.toNat xs).flatten))
theorem op_repR : OpR X (binaryOp .Mult) rRepR := by
  intro pins s σ H x y v u Q I rx ry h
  obtain ⟨l, k, xs, rfl, rfl, hH, h1, h2, hz, q⟩ := h
  cases rx
  obtain ⟨t, rfl⟩ := ry
  obtain ⟨z, its, n, r, hl, e⟩ := lstR I hH
  have hlen : its.toArray.size * k.toNat ≤ sizeLine := by rw [List.size_toArray, ← hl]; exact hz
  have hcap : ¬ its.toArray.size * k.toNat > (2 ^ 63 - 1) / 8 := by
    have : (sizeLine : Nat) ≤ (2 ^ 63 - 1) / 8 := by decide
    omega
  have hfit : ¬ (!Builtin.List.listFitsIndex k) = true := by
    rw [fitsIndex_both h1 h2]
    exact Bool.false_ne_true
  have hlong : ¬ Builtin.List.listTooLong (its.toArray.size * k.toNat) = true := by
    rw [notLongL hlen]
    exact Bool.false_ne_true
  have hnew : List.foldl (fun x1 x2 => x1 ++ x2) #[] (List.replicate (if its.toArray.isEmpty = true then 0 else k.toNat) its.toArray) = (List.replicate k.toNat its).flatten.toArray := by
    have f0 : ∀ m : Nat, List.foldl (fun x1 x2 => x1 ++ x2) #[] (List.replicate m its.toArray) = (List.replicate m its).flatten.toArray := fun m => by
      have := foldl_rep its m []
      rw [List.nil_append] at this
      exact this
    rw [f0]
    cases its with
    | nil => simp
    | cons a r' => rw [if_neg (by simp)]
  refine wpAny_binaryOp_repeat_ref (T := "list") (U := "int") (by decide) ⟨_, e, rfl⟩ (fun s' => typeIs_int s' k t) noFill_list_mul PySem.F.fills_int_mul PySem.F.slot_int_rmul repeat_list PySem.F.slot_int_index.lookup
    (call_meets PySem.F.slot_int_rmul (typeIs_int s k t) PySem.F.entry_int_rmul (PySem.F.args_int_rmul_2 _ _) (int___rmul___int_list k t l its.toArray n)
      ⟨e, rfl, ⟨_, e, rfl⟩, call_meets PySem.F.slot_list_mul ⟨_, e, rfl⟩ PySem.F.entry_list_mul (PySem.F.args_list_mul_2 _ _) (AutoListH.list___mul___list_int_3 l its.toArray n k t hfit hcap hlong) ⟨e, ?_⟩⟩)
  rw [hnew]
  exact ⟨.ref _, _, I.lnew (t' := s.toks) (r.rep k.toNat) (by rw [PyProof.Rows.lm_len_rep_flat, Nat.mul_comm]; exact hz), rfl, q _ I.fresh⟩
theorem RpA.rep {K : PySem.W.Frag} {S : List Addr} {H : Hp} {vs : List V} {ds : List D} (h : RpA K S H vs ds) : ∀ n : Nat, RpA K S H (List.replicate n vs).flatten (List.replicate n ds).flatten
  | 0 => .nil
  | n + 1 => by
    rw [List.replicate_succ, List.replicate_succ, List.flatten_cons, List.flatten_cons]
    exact h.append (h.rep n)
theorem oj_mul : OpJ X (binaryOp .Mult) dMul 1 := fun d1 d2 d h => by
  unfold dMul at h
  split at h
  · split at h
    · rename_i hs
      cases h
      refine ⟨_, op_mulW, fun A S H sto x y Q w p1 p2 z => ⟨_, _, p1.intI, p2.intI, ?_, z _ _ [] (.atom w (atomic_int _) (.int _))⟩⟩
      have h1 := small_log hs.1
      have h2 := small_log hs.2
      unfold CMulW
      omega
    · cases h
  · split at h
    · rename_i hl
      cases h
      refine ⟨_, op_repR, fun A S H sto x y Q w p1 p2 z => ?_⟩
      obtain ⟨a, xs, rfl, r1, q1⟩ := p1.lstI
      exact ⟨a, _, xs, rfl, p2.intI, r1.out, by omega, by omega, by rw [q1.length, sizeLine_eq]; exact hl.2.2, fun p hp => z _ _ [p] (Res.lst w (.shared w (q1.rep _)) hp)⟩
    · cases h
  · cases h
def dFdiv : D → D → Option D
  | .int i, .int j => if 0 < j ∧ small j = true then some (.int (i / j)) else none
  | _, _ => none
theorem oj_fdiv : OpJ X (binaryOp .FloorDiv) dFdiv k := fun d1 d2 d h => by
  unfold dFdiv at h
  split at h
  · split at h
    · rename_i hs
      cases h
      refine ⟨_, op_fdivW, fun A S H sto x y Q w p1 p2 z => ⟨_, _, p1.intI, p2.intI, ⟨hs.1, ?_⟩, z _ _ [] (.atom w (atomic_int _) (.int _))⟩⟩
      have h2 := small_log hs.2
      omega
    · cases h
  · cases h
def dMod : D → D → Option D
  | .int i, .int j => if 0 < j then some (.int (i % j)) else none
  | _, _ => none
theorem oj_mod : OpJ X (binaryOp .Mod) dMod k := fun d1 d2 d h => by
  unfold dMod at h
  split at h
  · split at h
    · rename_i i j hs
      cases h
      refine ⟨_, op_modN, fun A S H sto x y Q w p1 p2 z => ⟨_, _, p1.intI, p2.intI, by omega, ?_⟩⟩
      show Q (V.int (i.fmod j)) H
      rw [Int.fmod_eq_emod_of_nonneg i (show (0 : Int) ≤ j by omega)]
      exact z _ _ [] (.atom w (atomic_int _) (.int _))
    · cases h
  · cases h
def dPow : D → D → Option D
  | .int i, .int j => if 0 ≤ j ∧ j ≤ 300 ∧ small i = true then some (.int (i ^ j.toNat)) else none
  | _, _ => none
theorem op_powW : OpR X (binaryOp .Pow) (rI (fun i j => 0 ≤ j ∧ j ≤ 300 ∧ small i = true) fun i j => .int (i ^ j.toNat)) := opI fun i j _ _ _ _ _ hc q => pow_int hc.1 (by
  have h1 := small_log hc.2.2
  have b : Builtin.Int.intBits i ≤ i.natAbs.log2 + 1 := by
    unfold Builtin.Int.intBits
    split <;> omega
  have h2 : (Builtin.Int.intBits i : Int) ≤ 4000 := by omega
  have h3 : (Builtin.Int.intBits i : Int) * j ≤ 4000 * 300 := by
    refine Int.le_trans (Int.mul_le_mul_of_nonneg_right h2 hc.1) (Int.mul_le_mul_of_nonneg_left hc.2.1 (by decide))
  exact Int.le_trans h3 (by decide)) q
theorem oj_pow : OpJ X (binaryOp .Pow) dPow k := fun d1 d2 d h => by
  unfold dPow at h
  split at h
  · split at h
    · rename_i hs
      cases h
      exact ⟨_, op_powW, fun A S H sto x y Q w p1 p2 z => ⟨_, _, p1.intI, p2.intI, hs, z _ _ [] (.atom w (atomic_int _) (.int _))⟩⟩
    · cases h
  · cases h
def dNeg : D → Option D
  | .int i => some (.int (-i))
  | _ => none
theorem uj_neg : UnJ X (unaryOp .USub) dNeg k := fun d1 d h => by
  unfold dNeg at h
  split at h
  · cases h
    exact ⟨_, un_neg, fun A S H sto x Q w p1 z => ⟨_, p1.intI, z _ _ [] (.atom w (atomic_int _) (.int _))⟩⟩
  · cases h

/-! ### comparisons -/
def dEq : D → D → Option D
  | .str x, .str y => some (.bool (x == y))
  | x, y => if SeqAt.shaped x = true ∧ SeqAt.shaped y = true then some (.bool (PyData.eqv x y)) else none
def dNe : D → D → Option D
  | .str x, .str y => some (.bool (!(x == y)))
  | x, y => if SeqAt.shaped x = true ∧ SeqAt.shaped y = true then some (.bool (!PyData.eqv x y)) else none
theorem oj_eq (hu : X.A.units + 64 < cLine) : OpJ X (compareOp .Eq) dEq k := fun d1 d2 d h => by
  unfold dEq at h
  split at h
  · cases h
    exact ⟨_, op_eq, fun A S H sto x y Q w p1 p2 z => by rw [p1.strI, p2.strI]; exact ⟨rfl, by rw [dec_str]; exact z _ _ [] (.atom w (atomic_bool _) (.bl _))⟩⟩
  · split at h
    · rename_i hs
      cases h
      exact ⟨_, op_eqD hu, fun A S H sto x y Q w p1 p2 z => ⟨_, _, p1.out.dp (shaped_lay hs.1), p2.out.dp (shaped_lay hs.2), hs.1, hs.2, z _ _ [] (.atom w (atomic_bool _) (.bl _))⟩⟩
    · cases h
theorem oj_ne (hu : X.A.units + 64 < cLine) : OpJ X (compareOp .NotEq) dNe k := fun d1 d2 d h => by
  unfold dNe at h
  split at h
  · cases h
    exact ⟨_, op_ne, fun A S H sto x y Q w p1 p2 z => by rw [p1.strI, p2.strI]; exact ⟨rfl, by rw [dec_str]; exact z _ _ [] (.atom w (atomic_bool _) (.bl _))⟩⟩
  · split at h
    · rename_i hs
      cases h
      exact ⟨_, op_neD hu, fun A S H sto x y Q w p1 p2 z => ⟨_, _, p1.out.dp (shaped_lay hs.1), p2.out.dp (shaped_lay hs.2), hs.1, hs.2, z _ _ [] (.atom w (atomic_bool _) (.bl _))⟩⟩
    · cases h
/-- a < b of alike data -/
def notNone : D → Bool
  | .none => false
  | _ => true
def dLt : D → D → Option D
  | .int i, .int j => some (.bool (decide (i < j)))
  | x, y => if PySem.W.alike x y = true ∧ SeqAt.shaped x = true ∧ SeqAt.shaped y = true ∧ notNone x = true then some (.bool (PySem.W.dataLt x y)) else none
def rLtD (K : PySem.W.Frag) : R2 := fun x y H Q => ∃ d e, Dp K H x d ∧ Dp K H y e ∧ SeqAt.shaped d = true ∧ SeqAt.shaped e = true ∧ PySem.W.alike d e = true ∧ notNone d = true ∧ Q (.bl (PySem.W.dataLt d e)) H
theorem op_ltD (hu : X.A.units + 64 < cLine) : OpR X (compareOp .Lt) (rLtD X.K) := by
  intro pins s σ H x y v u Q I rx ry h
  obtain ⟨d, e, hd, he, sd, se, al, nn, q⟩ := h
  obtain ⟨as, r1⟩ := Dp.reads I d x v hd rx
  obtain ⟨bs, r2⟩ := Dp.reads I e y u he ry
  exact PySem.W.rcLt_alike d e X.A s v u as bs r1 r2 al (fun z => by rw [z] at nn; exact absurd nn (by decide)) (SeqAt.room_of_shaped sd hu) X.prog X.w X.xe _ ⟨.bl _, H, I, rfl, q⟩
theorem oj_lt (hu : X.A.units + 64 < cLine) : OpJ X (compareOp .Lt) dLt k := fun d1 d2 d h => by
  unfold dLt at h
  split at h
  · cases h
    exact ⟨_, op_lt, fun A S H sto x y Q w p1 p2 z => ⟨_, _, p1.intI, p2.intI, z _ _ [] (.atom w (atomic_bool _) (.bl _))⟩⟩
  · split at h
    · rename_i hs
      cases h
      exact ⟨_, op_ltD hu, fun A S H sto x y Q w p1 p2 z => ⟨_, _, p1.out.dp (shaped_lay hs.2.1), p2.out.dp (shaped_lay hs.2.2.1), hs.2.1, hs.2.2.1, hs.1, hs.2.2.2, z _ _ [] (.atom w (atomic_bool _) (.bl _))⟩⟩
    · cases h
def dLe : D → D → Option D
  | .int i, .int j => some (.bool (decide (i ≤ j)))
  | _, _ => none
theorem oj_le : OpJ X (compareOp .LtE) dLe k := fun d1 d2 d h => by
  unfold dLe at h
  split at h
  · cases h
    exact ⟨_, op_le, fun A S H sto x y Q w p1 p2 z => ⟨_, _, p1.intI, p2.intI, z _ _ [] (.atom w (atomic_bool _) (.bl _))⟩⟩
  · cases h
def dGt : D → D → Option D
  | .int i, .int j => some (.bool (decide (j < i)))
  | _, _ => none
theorem oj_gt : OpJ X (compareOp .Gt) dGt k := fun d1 d2 d h => by
  unfold dGt at h
  split at h
  · cases h
    refine ⟨_, op_gt, fun A S H sto x y Q w p1 p2 z => ⟨_, _, p1.intI, p2.intI, z _ _ [] (.atom w (atomic_bool _) (.bl _))⟩⟩
  · cases h
def dGe : D → D → Option D
  | .int i, .int j => some (.bool (decide (j ≤ i)))
  | _, _ => none
theorem oj_ge : OpJ X (compareOp .GtE) dGe k := fun d1 d2 d h => by
  unfold dGe at h
  split at h
  · cases h
    refine ⟨_, op_ge, fun A S H sto x y Q w p1 p2 z => ⟨_, _, p1.intI, p2.intI, z _ _ [] (.atom w (atomic_bool _) (.bl _))⟩⟩
  · cases h
def hasD (d : D) (ds : List D) : Bool := ds.any fun z => PyData.eqv z d
def dIn : D → D → Option D
  | d, .list ds => if SeqAt.shaped d = true ∧ SeqAt.shaped (.list ds) = true then some (.bool (hasD d ds)) else none
  | d, .tuple ds => if SeqAt.shaped d = true ∧ SeqAt.shaped (.tuple ds) = true then some (.bool (hasD d ds)) else none
  | _, _ => none
def dNotIn : D → D → Option D
  | d, .list ds => if SeqAt.shaped d = true ∧ SeqAt.shaped (.list ds) = true then some (.bool (!hasD d ds)) else none
  | d, .tuple ds => if SeqAt.shaped d = true ∧ SeqAt.shaped (.tuple ds) = true then some (.bool (!hasD d ds)) else none
  | _, _ => none
def rInT (K : PySem.W.Frag) : R2 := fun x y H Q => ∃ d ds, Dp K H x d ∧ Dp K H y (.tuple ds) ∧ SeqAt.shaped d = true ∧ SeqAt.shaped (.tuple ds) = true ∧ Q (.bl (ds.any fun z => PyData.eqv z d)) H
def rNotInT (K : PySem.W.Frag) : R2 := fun x y H Q => ∃ d ds, Dp K H x d ∧ Dp K H y (.tuple ds) ∧ SeqAt.shaped d = true ∧ SeqAt.shaped (.tuple ds) = true ∧ Q (.bl (!ds.any fun z => PyData.eqv z d)) H
theorem room_in {A : Around} {d : D} {xs : List D} (h : SeqAt.shaped d = true) (hu : A.units + 65 < cLine) : A.units + 1 + min (PyData.depthAll xs) d.depth < cLine := by
  have h1 := SeqAt.depth_of_shaped h
  have h2 : min (PyData.depthAll xs) d.depth ≤ d.depth := Nat.min_le_right _ _
  omega
theorem op_inT (hu : X.A.units + 65 < cLine) : OpR X (compareOp .In) (rInT X.K) := by
  intro pins s σ H x y v u Q I rx ry h
  obtain ⟨d, ds, hd, he, sd, se, q⟩ := h
  obtain ⟨as, r1⟩ := Dp.reads I d x v hd rx
  obtain ⟨bs, r2⟩ := Dp.reads I (.tuple ds) y u he ry
  exact SeqAt.in_tuple_reads r2 r1 (by simpa [PyData.canLay0] using SeqAt.canLay_of_shaped se) (SeqAt.canLay_of_shaped sd) (room_in sd hu) ⟨.bl _, H, I, rfl, q⟩
theorem op_notInT (hu : X.A.units + 65 < cLine) : OpR X (compareOp .NotIn) (rNotInT X.K) := by
  intro pins s σ H x y v u Q I rx ry h
  obtain ⟨d, ds, hd, he, sd, se, q⟩ := h
  obtain ⟨as, r1⟩ := Dp.reads I d x v hd rx
  obtain ⟨bs, r2⟩ := Dp.reads I (.tuple ds) y u he ry
  exact SeqAt.notIn_tuple_reads r2 r1 (by simpa [PyData.canLay0] using SeqAt.canLay_of_shaped se) (SeqAt.canLay_of_shaped sd) (room_in sd hu) ⟨.bl _, H, I, rfl, q⟩
theorem oj_in (hu : X.A.units + 65 < cLine) : OpJ X (compareOp .In) dIn k := fun d1 d2 d h => by
  unfold dIn at h
  split at h
  · split at h
    · rename_i hs
      cases h
      exact ⟨_, op_inD hu, fun A S H sto x y Q w p1 p2 z => ⟨_, _, p1.out.dp (shaped_lay hs.1), p2.out.dp (shaped_lay hs.2), hs.1, hs.2, z _ _ [] (.atom w (atomic_bool _) (.bl _))⟩⟩
    · cases h
  · split at h
    · rename_i hs
      cases h
      exact ⟨_, op_inT hu, fun A S H sto x y Q w p1 p2 z => ⟨_, _, p1.out.dp (shaped_lay hs.1), p2.out.dp (shaped_lay hs.2), hs.1, hs.2, z _ _ [] (.atom w (atomic_bool _) (.bl _))⟩⟩
    · cases h
  · cases h
theorem oj_notIn (hu : X.A.units + 65 < cLine) : OpJ X (compareOp .NotIn) dNotIn k := fun d1 d2 d h => by
  unfold dNotIn at h
  split at h
  · split at h
    · rename_i hs
      cases h
      exact ⟨_, op_notInD hu, fun A S H sto x y Q w p1 p2 z => ⟨_, _, p1.out.dp (shaped_lay hs.1), p2.out.dp (shaped_lay hs.2), hs.1, hs.2, z _ _ [] (.atom w (atomic_bool _) (.bl _))⟩⟩
    · cases h
  · split at h
    · rename_i hs
      cases h
      exact ⟨_, op_notInT hu, fun A S H sto x y Q w p1 p2 z => ⟨_, _, p1.out.dp (shaped_lay hs.1), p2.out.dp (shaped_lay hs.2), hs.1, hs.2, z _ _ [] (.atom w (atomic_bool _) (.bl _))⟩⟩
    · cases h
  · cases h
/-- is, is not: of None, of a bool by a bool -/
def isNoneD : D → Bool
  | .none => true
  | _ => false
def dIs : D → D → Option D
  | x, .none => some (.bool (isNoneD x))
  | .bool a, .bool b => some (.bool (decide (a = b)))
  | _, _ => none
theorem isNone_v {K : PySem.W.Frag} {S : List Addr} {H : Hp} {x : V} {d : D} (p : Rp K S H x d) : decide (x = V.non) = isNoneD d := by
  cases p <;> first | rfl | (simp [isNoneD, tokD])
theorem oj_is : OpJ X (compareOp .Is) dIs k := fun d1 d2 d h => by
  unfold dIs at h
  split at h
  · cases h
    refine ⟨_, op_isN, fun A S H sto x y Q w p1 p2 z => ⟨p2.nonI, ?_⟩⟩
    rw [isNone_v p1]
    exact z _ _ [] (.atom w (atomic_bool _) (.bl _))
  · cases h
    exact ⟨_, op_isBl, fun A S H sto x y Q w p1 p2 z => ⟨_, _, p1.blI, p2.blI, z _ _ [] (.atom w (atomic_bool _) (.bl _))⟩⟩
  · cases h
end

/-! ### chains, and, or, not, if else -/
def eChain (o1 o2 : D → D → Option D) (f g h : Ev) : Ev := fun vw s => (f vw s).bind fun p => (g vw p.2).bind fun q => (o1 p.1 q.1).bind fun c => match c with
  | .bool true => (h vw q.2).bind fun r => (o2 q.1 r.1).map fun z => (z, r.2)
  | .bool false => some (.bool false, q.2)
  | _ => none
theorem bind_some' {α β : Type} {x : Option α} {f : α → Option β} {b : β} (h : x.bind f = some b) : ∃ a, x = some a ∧ f a = some b := by
  cases x with
  | none => cases h
  | some a => exact ⟨a, rfl, h⟩
theorem map_some' {α β : Type} {x : Option α} {f : α → β} {b : β} (h : x.map f = some b) : ∃ a, x = some a ∧ f a = b := by
  cases x with
  | none => cases h
  | some a => exact ⟨a, rfl, Option.some.inj h⟩
section
variable {X : Cx} {e a b c : Expr} {es rest : List Expr} {f g h : Ev} {fs : EvA} {k j : Nat} {pos p : Pos} {o1 o2 : D → D → Option D}
theorem chain_read {c1 c2 : CmpOp} (h1 : OpJ X (compareOp c1) o1 0) (h2 : OpJ X (compareOp c2) o2 k) (ha : JP X a f 0) (hb : JP X b g 0) (hc : JP X c h 0)
    {A : Addr → Prop} {S : List Addr} {σ : Sg} {H : Hp} {vw : VW} {sto sto' : STO} {d : D} (w : Wd X.K S A H sto) (r : RdV X.K S A σ H vw) (q : eChain o1 o2 f g h vw sto = some (d, sto')) :
    ∃ r1 r2, OpR X (compareOp c1) r1 ∧ OpR X (compareOp c2) r2 ∧ ∀ Q : VK, (∀ v H' F, Res X.K S A H sto' k H' v d F → Q v H') → tChain r1 r2 (wpE X a) (wpE X b) (wpE X c) σ H Q := by
  unfold eChain at q
  obtain ⟨⟨x, s1⟩, e1, q⟩ := bind_some' q
  obtain ⟨⟨y, s2⟩, e2, q⟩ := bind_some' q
  obtain ⟨cc, e3, q⟩ := bind_some' q
  obtain ⟨r1, ho1, q1⟩ := h1 x y cc e3
  -- the second operation, where it is asked
  have k2 : ∃ r2, OpR X (compareOp c2) r2 ∧ (cc = .bool true → ∃ t s3, h vw s2 = some (t, s3) ∧ s3 = sto' ∧ ∀ A S H sto x' y' Q, Wd X.K S A H sto → Rp X.K S (hid A H) x' y → Rp X.K S (hid A H) y' t → (∀ v H' F', Res X.K S A H sto k H' v d F' → Q v H') → r2 x' y' H Q) := by
    split at q
    · obtain ⟨⟨t, s3⟩, e4, q⟩ := bind_some' q
      obtain ⟨zz, e5, q⟩ := map_some' q
      cases q
      obtain ⟨r2, ho2, q2⟩ := h2 y t _ e5
      exact ⟨r2, ho2, fun _ => ⟨t, s3, e4, rfl, q2⟩⟩
    · exact ⟨fun _ _ _ _ => False, fun _ _ _ _ _ _ _ _ _ _ _ _ z => z.elim, fun z => by cases z⟩
    · cases q
  obtain ⟨r2, ho2, q2⟩ := k2
  refine ⟨r1, r2, ho1, ho2, fun Q z => ha.use2 hb w r e1 e2 fun v u H' x' w' r' p1 p2 => q1 A S H' s2 v u _ w' p1 p2 fun v' H2 F' rs => ?_⟩
  have w2 := rs.wd.less (A' := A) (fun a h => .inr h) w'.hS
  have r3 := r'.move rs.ext w'.hS (A' := A) fun a h => .inl h
  have pc := rs.rp w'
  split at q
  · have ev := pc.blI
    refine ⟨true, ev, ?_⟩
    rw [if_pos rfl]
    obtain ⟨t, s3, e4, e5, qq⟩ := q2 rfl
    subst e5
    refine hc.use w2 r3 e4 fun t' H3 x3 w3 r4 p4 => qq A S H3 s3 u t' Q w3 (p2.le (hid_move (rs.ext.trans x3) w'.hS fun a h => .inl h)) p4 fun v'' H4 F4 rs4 => ?_
    have ex := x'.trans (rs.ext.trans x3)
    exact z v'' H4 F4 (rs4.after ex fun a ha => none_of_ext ex (w3.live (rs4.fr a ha)) (rs4.fr a ha))
  · have ev := pc.blI
    cases q
    refine ⟨false, ev, ?_⟩
    rw [if_neg Bool.false_ne_true]
    exact z _ _ [] ((Res.atom w2 (atomic_bool _) (.bl _)).after (x'.trans rs.ext) noF)
  · cases q
theorem jp_chain {c1 c2 : CmpOp} (h1 : OpJ X (compareOp c1) o1 0) (h2 : OpJ X (compareOp c2) o2 k) (ha : JP X a f 0) (hb : JP X b g 0) (hc : JP X c h 0)
    (hm : lastMarks [c1, c2] [b, c] = false) : JP X (.Compare a [c1, c2] [b, c] pos) (eChain o1 o2 f g h) k := fun A S σ H vw sto d sto' Q w r q z => by
  obtain ⟨r1, r2, ho1, ho2, hh⟩ := chain_read h1 h2 ha hb hc w r q
  exact wpE.by (pe_chain ho1 ho2 wpE_pe wpE_pe wpE_pe hm) (hh Q z)
/-- a and b, a or b, as values, all but the last a bool -/
def eAnd (f g : Ev) : Ev := fun vw s => (f vw s).bind fun p => match p.1 with
  | .bool true => g vw p.2
  | .bool false => some (.bool false, p.2)
  | _ => none
def eOr (f g : Ev) : Ev := fun vw s => (f vw s).bind fun p => match p.1 with
  | .bool true => some (.bool true, p.2)
  | .bool false => g vw p.2
  | _ => none
def dNot : D → Option D
  | .bool b => some (.bool (!b))
  | _ => none
theorem jp_one {o} (ha : JP X a f k) : JP X (.BoolOp o [a] pos) f k := fun A S σ H vw sto d sto' Q w r q z => wpE.by (pe_one wpE_pe) (ha A S σ H vw sto d sto' Q w r q z)
theorem Res.later {K : PySem.W.Frag} {S : List Addr} {A : Addr → Prop} {H H1 H' : Hp} {sto1 sto' : STO} {k : Nat} {v : V} {d : D} {F : List Addr} (x : Ext S H H1) (w1 : Wd K S A H1 sto1) (r : Res K S A H1 sto' k H' v d F) : Res K S A H sto' k H' v d F :=
  r.after x fun a ha => none_of_ext x (w1.live (r.fr a ha)) (r.fr a ha)
theorem jp_and (ha : JP X a f 0) (hb : JP X (.BoolOp .And (b :: rest) pos) g k) : JP X (.BoolOp .And (a :: b :: rest) pos) (eAnd f g) k := fun A S σ H vw sto d sto' Q w r q z => by
  unfold eAnd at q
  obtain ⟨⟨x, s1⟩, e1, q⟩ := bind_some' q
  refine wpE.by (pe_and wpE_pe wpE_pe) (ha.use w r e1 fun v H1 x1 w1 r1 p1 => ?_)
  simp only at q
  split at q
  · refine ⟨true, p1.blI, ?_⟩
    rw [if_pos rfl]
    exact hb A S σ H1 vw s1 d sto' Q w1 r1 q fun v' H' F rs => z v' H' F (rs.later x1 w1)
  · cases q
    refine ⟨false, p1.blI, ?_⟩
    rw [if_neg Bool.false_ne_true]
    exact z _ _ [] ((Res.atom w1 (atomic_bool _) (.bl _)).after x1 noF)
  · cases q
theorem jp_or (ha : JP X a f 0) (hb : JP X (.BoolOp .Or (b :: rest) pos) g k) : JP X (.BoolOp .Or (a :: b :: rest) pos) (eOr f g) k := fun A S σ H vw sto d sto' Q w r q z => by
  unfold eOr at q
  obtain ⟨⟨x, s1⟩, e1, q⟩ := bind_some' q
  refine wpE.by (pe_or wpE_pe wpE_pe) (ha.use w r e1 fun v H1 x1 w1 r1 p1 => ?_)
  simp only at q
  split at q
  · cases q
    refine ⟨true, p1.blI, ?_⟩
    rw [if_pos rfl]
    exact z _ _ [] ((Res.atom w1 (atomic_bool _) (.bl _)).after x1 noF)
  · refine ⟨false, p1.blI, ?_⟩
    rw [if_neg Bool.false_ne_true]
    exact hb A S σ H1 vw s1 d sto' Q w1 r1 q fun v' H' F rs => z v' H' F (rs.later x1 w1)
  · cases q
theorem jp_not (ha : JP X a f 0) : JP X (.UnaryOp .Not a pos) (eUn dNot f) k := fun A S σ H vw sto d sto' Q w r q z => by
  obtain ⟨x, e1, e3⟩ := eUn_some q
  refine wpE.by (pe_not wpE_pe) (ha.use w r e1 fun v H1 x1 w1 r1 p1 => ?_)
  unfold dNot at e3
  split at e3
  · cases e3
    exact ⟨_, p1.blI, z _ _ [] ((Res.atom w1 (atomic_bool _) (.bl _)).after x1 noF)⟩
  · cases e3

/-! ### tests -/
def bT (f : Ev) : EvT := fun vw s => (f vw s).bind fun p => match p.1 with
  | .bool b => some (b, p.2)
  | _ => none
def aT (f g : EvT) : EvT := fun vw s => (f vw s).bind fun p => if p.1 = true then g vw p.2 else some (false, p.2)
def oT (f g : EvT) : EvT := fun vw s => (f vw s).bind fun p => if p.1 = true then some (true, p.2) else g vw p.2
def nT (f : EvT) : EvT := fun vw s => (f vw s).map fun p => (!p.1, p.2)
variable {ft gt : EvT}
theorem jt_val (ha : JP X a f 0) (he : ∀ whole, isTrue a X.env whole = (do let v ← whole; standAt a.pos; holding [v] (truthy v))) : JT X a (bT f) := fun A S σ H vw sto b sto' Q w r q z => by
  unfold bT at q
  obtain ⟨⟨x, s1⟩, e1, q⟩ := bind_some' q
  refine wpT.by (pt_val wpE_pe he) (ha.use w r e1 fun v H1 x1 w1 r1 p1 => ?_)
  simp only at q
  split at q
  · cases q
    exact ⟨_, p1.blI, z H1 x1 w1⟩
  · cases q
theorem jt_cmp {o : CmpOp} (ho : OpJ X (compareOp o) o1 0) (ha : JP X a f 0) (hb : JP X b g 0) (hm : behindInMarks o b = false) : JT X (.Compare a [o] [b] pos) (bT (eBin o1 f g)) := fun A S σ H vw sto bb sto' Q w r q z => by
  unfold bT at q
  obtain ⟨⟨t, s1⟩, e0, q⟩ := bind_some' q
  obtain ⟨x, s2, y, e1, e2, e3⟩ := eBin_some e0
  obtain ⟨rr, h1, h2⟩ := ho x y t e3
  refine wpT.by (pt_cmpR h1 wpE_pe wpE_pe hm) (ha.use2 hb w r e1 e2 fun v u H' x' w' r' p1 p2 => h2 A S H' s1 v u _ w' p1 p2 fun v' H2 F' rs => ?_)
  simp only at q
  split at q
  · cases q
    exact ⟨_, (rs.rp w').blI, z _ (x'.trans rs.ext) (rs.wd.less (fun a h => .inr h) w'.hS)⟩
  · cases q
theorem jt_chain {c1 c2 : CmpOp} {o2 : D → D → Option D} (h1 : OpJ X (compareOp c1) o1 0) (h2 : OpJ X (compareOp c2) o2 0) (ha : JP X a f 0) (hb : JP X b g 0) (hc : JP X c h 0)
    (hm : lastMarks [c1, c2] [b, c] = false) : JT X (.Compare a [c1, c2] [b, c] pos) (bT (eChain o1 o2 f g h)) := fun A S σ H vw sto bb sto' Q w r q z => by
  unfold bT at q
  obtain ⟨⟨t, s1⟩, e0, q⟩ := bind_some' q
  obtain ⟨r1, r2, ho1, ho2, hh⟩ := chain_read h1 h2 ha hb hc w r e0
  refine wpT.by (pt_chain ho1 ho2 wpE_pe wpE_pe wpE_pe hm) (hh _ fun v' H2 F' rs => ?_)
  simp only at q
  split at q
  · cases q
    exact ⟨_, (rs.rp w).blI, z _ rs.ext (rs.wd.less (fun a h => .inr h) w.hS)⟩
  · cases q
theorem jt_pw (h : JW X a ft) : JT X a ft := fun A S σ H vw sto b sto' Q w r q z => fun pins s I => h A S σ H vw sto b sto' Q w r q z _ pins s I
theorem jw_and1 (h : JT X a ft) : JW X (.BoolOp .And [a] pos) ft := fun A S σ H vw sto b sto' Q w r q z => wpW.by (pw_and1 wpT_pt) (h A S σ H vw sto b sto' Q w r q z)
theorem jw_or1 (h : JT X a ft) : JW X (.BoolOp .Or [a] pos) ft := fun A S σ H vw sto b sto' Q w r q z => wpW.by (pw_or1 wpT_pt) (h A S σ H vw sto b sto' Q w r q z)
theorem JT.use (h : JT X a ft) {A : Addr → Prop} {S : List Addr} {σ : Sg} {H : Hp} {vw : VW} {sto sto' : STO} {b : Bool} {Q : Bool → Hp → Prop} (w : Wd X.K S A H sto) (r : RdV X.K S A σ H vw) (q : ft vw sto = some (b, sto'))
    (z : ∀ H', Ext S H H' → Wd X.K S A H' sto' → RdV X.K S A σ H' vw → Q b H') : wpT X a σ H Q := h A S σ H vw sto b sto' Q w r q fun H' x' w' => z H' x' w' (r.move x' w.hS fun a h => .inl h)
theorem jw_and (ha : JT X a ft) (hb : JW X (.BoolOp .And (b :: rest) pos) gt) : JW X (.BoolOp .And (a :: b :: rest) pos) (aT ft gt) := fun A S σ H vw sto bb sto' Q w r q z => by
  unfold aT at q
  obtain ⟨⟨x, s1⟩, e1, q⟩ := bind_some' q
  refine wpW.by (pw_and wpT_pt wpW_pw) (ha.use w r e1 fun H1 x1 w1 r1 => ?_)
  simp only at q
  split at q
  · rename_i hx
    rw [if_pos hx]
    exact hb A S σ H1 vw s1 bb sto' Q w1 r1 q fun H' x' w' => z H' (x1.trans x') w'
  · rename_i hx
    rw [if_neg hx]
    cases q
    exact z H1 x1 w1
theorem jw_or (ha : JT X a ft) (hb : JW X (.BoolOp .Or (b :: rest) pos) gt) : JW X (.BoolOp .Or (a :: b :: rest) pos) (oT ft gt) := fun A S σ H vw sto bb sto' Q w r q z => by
  unfold oT at q
  obtain ⟨⟨x, s1⟩, e1, q⟩ := bind_some' q
  refine wpW.by (pw_or wpT_pt wpW_pw) (ha.use w r e1 fun H1 x1 w1 r1 => ?_)
  simp only at q
  split at q
  · rename_i hx
    rw [if_pos hx]
    cases q
    exact z H1 x1 w1
  · rename_i hx
    rw [if_neg hx]
    exact hb A S σ H1 vw s1 bb sto' Q w1 r1 q fun H' x' w' => z H' (x1.trans x') w'
theorem jt_not (ha : JT X a ft) : JT X (.UnaryOp .Not a pos) (nT ft) := fun A S σ H vw sto b sto' Q w r q z => by
  unfold nT at q
  obtain ⟨⟨x, s1⟩, e1, q⟩ := map_some' q
  cases q
  exact wpT.by (pt_not wpT_pt) (ha.use w r e1 fun H1 x1 w1 r1 => z H1 x1 w1)
def eIf (t : EvT) (f g : Ev) : Ev := fun vw s => (t vw s).bind fun p => if p.1 = true then f vw p.2 else g vw p.2
theorem jp_if (ht : JT X c ft) (ha : JP X a f k) (hb : JP X b g k) : JP X (.IfExp c a b pos) (eIf ft f g) k := fun A S σ H vw sto d sto' Q w r q z => by
  unfold eIf at q
  obtain ⟨⟨x, s1⟩, e1, q⟩ := bind_some' q
  refine wpE.by (pe_ifExp wpT_pt wpE_pe wpE_pe) (ht.use w r e1 fun H1 x1 w1 r1 => ?_)
  simp only at q
  split at q
  · rename_i hx
    rw [if_pos hx]
    exact ha A S σ H1 vw s1 d sto' Q w1 r1 q fun v' H' F rs => z v' H' F (rs.later x1 w1)
  · rename_i hx
    rw [if_neg hx]
    exact hb A S σ H1 vw s1 d sto' Q w1 r1 q fun v' H' F rs => z v' H' F (rs.later x1 w1)

/-! ### argument lists, displays -/
def aN : EvA := fun _ s => some ([], s)
def aC (f : Ev) (g : EvA) : EvA := fun vw s => (f vw s).bind fun p => (g vw p.2).map fun q => (p.1 :: q.1, q.2)
theorem ja_nil : JA X [] aN k := fun A S σ H vw sto d sto' Q w r q z => by
  cases q
  exact wpA.by pa_nil (z [] H [] (.nil w))
theorem ja_cons {gs : EvA} (ha : JP X a f k) (hr : JA X es gs k) (hs : starEach (a :: es) X.env = (false, eval a X.env) :: starEach es X.env := by rfl) : JA X (a :: es) (aC f gs) k := fun A S σ H vw sto d sto' Q w r q z => by
  unfold aC at q
  obtain ⟨⟨x, s1⟩, e1, q⟩ := bind_some' q
  obtain ⟨⟨ys, s2⟩, e2, q⟩ := map_some' q
  cases q
  refine wpA.by (pa_cons wpE_pe wpA_pa hs) (ha A S σ H vw sto x s1 _ w r e1 fun v H1 F rs => ?_)
  refine hr (plus F A) S σ H1 vw s1 ys s2 _ rs.wd (r.move rs.ext w.hS fun a h => ?_) e2 fun vs H2 G qs => z (v :: vs) H2 (F ++ G) (.cons w rs qs)
  rcases h with h | h
  · exact .inr (rs.fr a h)
  · exact .inl h
def eLst (f : EvA) : Ev := fun vw s => (f vw s).bind fun p => if p.1.length ≤ 16777216 then some (.list p.1, p.2) else none
def eTup (f : EvA) : Ev := fun vw s => (f vw s).bind fun p => if p.1.length ≤ 16777216 then some (.tuple p.1, p.2) else none
theorem jp_lst (h : JA X es fs k) : JP X (.List es pos) (eLst fs) (k + 1) := fun A S σ H vw sto d sto' Q w r q z => by
  unfold eLst at q
  obtain ⟨⟨x, s1⟩, e1, q⟩ := bind_some' q
  simp only at q
  split at q
  · rename_i hl
    cases q
    exact wpE.by (pe_lst wpA_pa) (h A S σ H vw sto x _ _ w r e1 fun vs H1 F rs => ⟨by rw [rs.ow.length, sizeLine_eq]; exact hl, fun p hp => z _ _ _ (Res.lst w rs hp)⟩)
  · cases q
theorem jp_tup {x1} (h : JA X es fs 0) : JP X (.Tuple es x1 pos) (eTup fs) k := fun A S σ H vw sto d sto' Q w r q z => by
  unfold eTup at q
  obtain ⟨⟨x, s1⟩, e1, q⟩ := bind_some' q
  simp only at q
  split at q
  · rename_i hl
    cases q
    exact wpE.by (pe_tup wpA_pa) (h A S σ H vw sto x _ _ w r e1 fun vs H1 F rs => ⟨by rw [rs.ow.length, sizeLine_eq]; exact hl, fun p hp => z _ _ _ (Res.tup w rs hp)⟩)
  · cases q
end
end J
namespace J
open PySem PySem.Spec PyProof.Rows L2

/-! ### an item -/
/-- a datum that stands for another thing -/
def isMk : D → Bool
  | .dict ((.none, _) :: _) => true
  | .dict ((.tuple _, _) :: _) => true
  | _ => false
theorem Rp.skI {K : PySem.W.Frag} {S : List Addr} {H : Hp} {v : V} {ds : List D} (h : Rp K S H v (.dict [(.none, .list ds)])) : ∃ a xs, v = .ref a ∧ SqL K H a xs ∧ RpA K S H xs ds := by
  cases h with
  | sk h1 h2 => exact ⟨_, _, rfl, h1, h2⟩
  | dK h1 h2 =>
    obtain ⟨k, e⟩ := h2.key _ List.mem_cons_self
    cases k <;> cases e
  | dT h1 h2 =>
    obtain ⟨k, e⟩ := h2.key _ List.mem_cons_self
    cases e
theorem _root_.L2.SqL.out {K : PySem.W.Frag} {A : Addr → Prop} {H : Hp} {a : Addr} {xs : List V} (h : SqL K (hid A H) a xs) : SqL K H a xs := L2.Same.seq same_hid h
def isTok : D → Option Nat
  | .dict [(.none, .int i)] => if 0 ≤ i then some i.toNat else none
  | _ => none
theorem isTok_tok (i : Nat) : isTok (tokD i) = some i := by
  show (if (0 : Int) ≤ (i : Int) then some (i : Int).toNat else none) = _
  rw [if_pos (by omega)]
  rfl
theorem isTok_eq {d : D} {i : Nat} (h : isTok d = some i) : d = tokD i := by
  unfold isTok at h
  split at h
  · split at h
    · rename_i j hj
      cases h
      show PyData.dict [(.none, .int j)] = .dict [(.none, .int (j.toNat : Nat))]
      rw [show ((j.toNat : Nat) : Int) = j by omega]
    · cases h
  · cases h
/-- the items of a cell that holds a list -/
def cellL (s : STO) (i : Nat) : Option (List D) := match s[i]? with
  | some (.lst ds) => some ds
  | _ => none
def dIdx (s : STO) : D → D → Option D
  | .list ds, .int i => atI ds i
  | .tuple ds, .int i => atI ds i
  | .str z, .int i => if z.length ≤ 16777216 then (atI z.cps.toList i).map fun c => .str ⟨#[c]⟩ else none
  | .dict [(.none, .int j)], .int i => (isTok (.dict [(.none, .int j)])).bind fun k => (cellL s k).bind fun ds => atI ds i
  | .dict [(.none, .list ds)], .int i => atI ds i
  | _, _ => none
theorem Rp.tokI {K : PySem.W.Frag} {S : List Addr} {H : Hp} {v : V} {i : Nat} (h : Rp K S H v (tokD i)) : ∃ l, v = .ref l ∧ S[i]? = some l := by
  unfold tokD at h
  generalize e0 : PyData.dict [(.none, .int (i : Nat))] = d at h
  cases h with
  | @tok _ j h =>
    unfold tokD at e0
    injection e0 with e0
    injection e0 with e0 _
    injection e0 with _ e0
    injection e0 with e0
    have : i = j := by omega
    subst this
    exact ⟨_, rfl, h⟩
  | dK h1 h2 =>
    injection e0 with e0
    subst e0
    obtain ⟨k, e⟩ := h2.key _ List.mem_cons_self
    cases k <;> cases e
  | dT h1 h2 =>
    injection e0 with e0
    subst e0
    obtain ⟨k, e⟩ := h2.key _ List.mem_cons_self
    cases e
  | sk h1 h2 =>
    unfold skD at e0
    injection e0 with e0
    injection e0 with e0 _
    injection e0 with _ e0
    cases e0
  | _ => cases e0
theorem Wd.cellL {K : PySem.W.Frag} {S : List Addr} {A : Addr → Prop} {H : Hp} {sto : STO} {i : Nat} {l : Addr} {ds : List D} (w : Wd K S A H sto) (hS : S[i]? = some l) (h : cellL sto i = some ds) : ∃ vs, H l = some (.lst vs) ∧ RpA K S (hid A H) vs ds := by
  unfold J.cellL at h
  split at h
  · rename_i ds' hc
    cases h
    exact w.st i l _ hS hc
  · cases h
def eIdx (f g : Ev) : Ev := fun vw s => (f vw s).bind fun p => (g vw p.2).bind fun q => (dIdx q.2 p.1 q.1).map fun r => (r, q.2)
section
variable {K : PySem.W.Frag} {S : List Addr} {H : Hp}
theorem RpA.atI {vs : List V} {ds : List D} {i : Int} {d : D} (h : RpA K S H vs ds) (e : L2.atI ds i = some d) : ∃ v, L2.atI vs i = some v ∧ Rp K S H v d := by
  unfold L2.atI at e ⊢
  rw [h.length]
  cases q : ixN ds.length i with
  | none => rw [q] at e; cases e
  | some j =>
    rw [q] at e
    exact h.get (i := j) e
end
section
variable {X : Cx} {e a b c : Expr} {es rest : List Expr} {f g h : Ev} {fs : EvA} {k j : Nat} {pos p p2 cpos apos : Pos}
theorem jp_idx (ha : JP X a f 0) (hb : JP X b g 0) (hs : PlainIx b) : JP X (.Subscript a b pos) (eIdx f g) 0 := fun A S σ H vw sto d sto' Q w r q z => by
  unfold eIdx at q
  obtain ⟨⟨x, s1⟩, e1, q⟩ := bind_some' q
  obtain ⟨⟨y, s2⟩, e2, q⟩ := bind_some' q
  obtain ⟨t, e3, q⟩ := map_some' q
  cases q
  simp only at e2 e3
  unfold dIdx at e3
  split at e3
  · refine wpE.by (pe_ix ix_list wpE_pe wpE_pe hs) (ha.use2 hb w r e1 e2 fun v u H' x' w' r' p1 p2 => ?_)
    obtain ⟨l, xs, rfl, r1, q1⟩ := p1.lstI
    obtain ⟨t', e4, p4⟩ := q1.atI e3
    exact ⟨l, xs, _, t', rfl, p2.intI, .inl r1.out, e4, z t' H' [] ((Res.shared w' p4).after x' noF)⟩
  · refine wpE.by (pe_ix ix_tup wpE_pe wpE_pe hs) (ha.use2 hb w r e1 e2 fun v u H' x' w' r' p1 p2 => ?_)
    obtain ⟨l, xs, rfl, r1, q1⟩ := p1.tupI
    obtain ⟨t', e4, p4⟩ := q1.atI e3
    exact ⟨l, xs, _, t', rfl, p2.intI, .inl r1.out, e4, z t' H' [] ((Res.shared w' p4).after x' noF)⟩
  · split at e3
    · rename_i hl
      obtain ⟨c, e4, e5⟩ := map_some' e3
      refine wpE.by (pe_ix ix_str wpE_pe wpE_pe hs) (ha.use2 hb w r e1 e2 fun v u H' x' w' r' p1 p2 => ?_)
      cases e5
      exact ⟨_, _, c, p1.strI, p2.intI, by rw [sizeLine_eq]; exact hl, e4, z _ H' [] ((Res.atom w' (atomic_str _) (.str _)).after x' noF)⟩
    · cases e3
  · obtain ⟨kk, e3, e4⟩ := bind_some' e3
    have e6 := isTok_eq e3
    obtain ⟨ds, e4, e5⟩ := bind_some' e4
    refine wpE.by (pe_ix ix_list wpE_pe wpE_pe hs) (ha.use2 hb w r e1 e2 fun v u H' x' w' r' p1 p2 => ?_)
    rw [e6] at p1
    obtain ⟨l, rfl, hS⟩ := p1.tokI
    obtain ⟨vs', h4, h5⟩ := w'.cellL hS e4
    obtain ⟨t', e6, p6⟩ := h5.atI e5
    exact ⟨l, vs', _, t', rfl, p2.intI, .of h4, e6, z t' H' [] ((Res.shared w' p6).after x' noF)⟩
  · refine wpE.by (pe_ix ix_list wpE_pe wpE_pe hs) (ha.use2 hb w r e1 e2 fun v u H' x' w' r' p1 p2 => ?_)
    obtain ⟨l, xs, rfl, r1, q1⟩ := p1.skI
    obtain ⟨t', e4, p4⟩ := q1.atI e3
    exact ⟨l, xs, _, t', rfl, p2.intI, r1.out, e4, z t' H' [] ((Res.shared w' p4).after x' noF)⟩
  · cases e3

/-! ### slices -/
def JO (X : Cx) (e : Option Expr) (f : VW → STO → Option (Option Int × STO)) : Prop := ∃ t, PO X e t ∧ ∀ A S σ H vw sto o sto' (Q : Option Int → Hp → Prop), Wd X.K S A H sto → RdV X.K S A σ H vw → f vw sto = some (o, sto') →
  (∀ H', Ext S H H' → Wd X.K S A H' sto' → RdV X.K S A σ H' vw → Q o H') → t σ H Q
def oN : VW → STO → Option (Option Int × STO) := fun _ s => some (none, s)
def oS (f : Ev) : VW → STO → Option (Option Int × STO) := fun vw s => (f vw s).bind fun p => match p.1 with
  | .int i => some (some i, p.2)
  | _ => none
theorem jo_none : JO X none oN := ⟨_, po_none, fun A S σ H vw sto o sto' Q w r q z => by
  cases q
  exact z H Ext.refl w r⟩
theorem jo_some (ha : JP X a f 0) : JO X (some a) (oS f) := ⟨_, po_some wpE_pe, fun A S σ H vw sto o sto' Q w r q z => by
  unfold oS at q
  obtain ⟨⟨x, s1⟩, e1, q⟩ := bind_some' q
  refine ha.use w r e1 fun v H1 x1 w1 r1 p1 => ?_
  simp only at q
  split at q
  · cases q
    exact ⟨_, p1.intI, z H1 x1 w1 r1⟩
  · cases q⟩
def cutL {α : Type} (xs : List α) (lo hi : Option Int) : List α := (xs.drop (HT.sIx xs.length 0 lo)).take (HT.sIx xs.length xs.length hi - HT.sIx xs.length 0 lo)
def dSl : D → Option Int → Option Int → Option D
  | .list ds, lo, hi => some (.list (cutL ds lo hi))
  | .str z, lo, hi => if z.length ≤ 16777216 then some (.str (cutS z lo hi)) else none
  | _, _, _ => none
def eSl (f : Ev) (lo hi : VW → STO → Option (Option Int × STO)) : Ev := fun vw s => (f vw s).bind fun p => (lo vw p.2).bind fun q => (hi vw q.2).bind fun u => (dSl p.1 q.1 u.1).map fun d => (d, u.2)
theorem RpA.cut {K : PySem.W.Frag} {S : List Addr} {H : Hp} {vs : List V} {ds : List D} (h : RpA K S H vs ds) (lo hi : Option Int) : RpA K S H (cutV vs lo hi) (cutL ds lo hi) := by
  unfold cutV cutL
  rw [h.length]
  exact (h.drop _).take _
theorem jp_slice {lo hi : Option Expr} {fl fh : VW → STO → Option (Option Int × STO)} (ha : JP X a f 0) (hl : JO X lo fl) (hh : JO X hi fh) : JP X (.Subscript a (.Slice lo hi none p2) pos) (eSl f fl fh) 1 := fun A S σ H vw sto d sto' Q w r q z => by
  unfold eSl at q
  obtain ⟨⟨x, s1⟩, e1, q⟩ := bind_some' q
  obtain ⟨⟨o1, s2⟩, e2, q⟩ := bind_some' q
  obtain ⟨⟨o2, s3⟩, e3, q⟩ := bind_some' q
  obtain ⟨t, e4, q⟩ := map_some' q
  cases q
  simp only at e2 e3 e4
  obtain ⟨tl, hl, jl⟩ := hl
  obtain ⟨th, hh, jh⟩ := hh
  unfold dSl at e4
  split at e4
  · cases e4
    refine wpE.by (pe_slice sl_list wpE_pe hl hh) (ha.use w r e1 fun v H1 x1 w1 r1 p1 => jl A S σ H1 vw s1 o1 s2 _ w1 r1 e2 fun H2 x2 w2 r2 => jh A S σ H2 vw s2 o2 s3 _ w2 r2 e3 fun H3 x3 w3 r3 => ?_)
    have p3 := p1.le (hid_move (x2.trans x3) w1.hS (A' := A) fun a h => .inl h)
    obtain ⟨l, xs, rfl, r4, q4⟩ := p3.lstI
    exact ⟨l, xs, rfl, .inl r4.out, fun p hp => z _ _ [p] ((Res.lst w3 (.shared w3 (q4.cut _ _)) hp).later (x1.trans (x2.trans x3)) w3)⟩
  · split at e4
    · rename_i hl'
      cases e4
      refine wpE.by (pe_slice sl_str wpE_pe hl hh) (ha.use w r e1 fun v H1 x1 w1 r1 p1 => jl A S σ H1 vw s1 o1 s2 _ w1 r1 e2 fun H2 x2 w2 r2 => jh A S σ H2 vw s2 o2 s3 _ w2 r2 e3 fun H3 x3 w3 r3 => ?_)
      have ev := p1.strI
      subst ev
      exact ⟨_, rfl, by rw [sizeLine_eq]; exact hl', z _ _ [] ((Res.atom w3 (atomic_str _) (.str _)).after (x1.trans (x2.trans x3)) noF)⟩
    · cases e4
  · cases e4

/-! ### built-ins by their names -/
def CallJ (X : Cx) (fv : Value) (op : List D → Option D) (k : Nat) : Prop := ∀ ds d, op ds = some d → ∃ r, CallR X fv r ∧ ∀ A S H sto vs Q, Wd X.K S A H sto → RpA X.K S (hid A H) vs ds →
  (∀ v H' F', Res X.K S A H sto k H' v d F' → Q v H') → r vs H Q
def eOp (op : List D → Option D) (fs : EvA) : Ev := fun vw s => (fs vw s).bind fun p => (op p.1).map fun d => (d, p.2)
theorem jp_callB {x : Str} {id : String} {op : List D → Option D} (hc : CallJ X (.builtin id) op k) (hg : Gl X x) (hm : X.mg x = none) (hv : bootBuiltins x = some (.builtin id)) (ha : JA X (e :: es) fs 0) (hn : x ≠ "__name__" := by decide) (hdb : (x == ("__debug__" : Str)) = false := by decide)
    (he : starEach (e :: es) X.env = (false, eval e X.env) :: starEach es X.env := by rfl) (hpl : (backTo pos (starEach es X.env)).any (·.1) = false := by rfl) : JP X (.Call (.Name x p) (e :: es) [] pos) (eOp op fs) k := fun A S σ H vw sto d sto' Q w r q z => by
  unfold eOp at q
  obtain ⟨⟨xs, s1⟩, e1, q⟩ := bind_some' q
  obtain ⟨t, e2, q⟩ := map_some' q
  cases q
  obtain ⟨rr, h1, h2⟩ := hc xs _ e2
  exact wpE.by (pe_callB h1 hg hm hv wpA_pa hn hdb he hpl) (ha.use w r e1 fun vs H1 x1 w1 r1 p1 => h2 A S H1 s1 vs Q w1 p1 fun v H2 F' rs => z v H2 F' (rs.later x1 w1))
theorem jp_callTy {x : Str} {T : String} {op : List D → Option D} (hc : CallJ X (.type T) op k) (hg : Gl X x) (hm : X.mg x = none) (hv : bootBuiltins x = some (.type T)) (ha : JA X (e :: es) fs 0) (hn : x ≠ "__name__" := by decide) (hdb : (x == ("__debug__" : Str)) = false := by decide)
    (he : starEach (e :: es) X.env = (false, eval e X.env) :: starEach es X.env := by rfl) (hpl : (backTo pos (starEach es X.env)).any (·.1) = false := by rfl) : JP X (.Call (.Name x p) (e :: es) [] pos) (eOp op fs) k := fun A S σ H vw sto d sto' Q w r q z => by
  unfold eOp at q
  obtain ⟨⟨xs, s1⟩, e1, q⟩ := bind_some' q
  obtain ⟨t, e2, q⟩ := map_some' q
  cases q
  obtain ⟨rr, h1, h2⟩ := hc xs _ e2
  exact wpE.by (pe_callTy h1 hg hm hv wpA_pa hn hdb he hpl) (ha.use w r e1 fun vs H1 x1 w1 r1 p1 => h2 A S H1 s1 vs Q w1 p1 fun v H2 F' rs => z v H2 F' (rs.later x1 w1))
end

section
variable {X : Cx} {k : Nat}
variable {K : PySem.W.Frag} {S : List Addr} {H : Hp}
theorem RpA.one {vs : List V} {d : D} (h : RpA K S H vs [d]) : ∃ v, vs = [v] ∧ Rp K S H v d := by
  cases h with
  | cons a b => cases b; exact ⟨_, rfl, a⟩
theorem RpA.two {vs : List V} {d e : D} (h : RpA K S H vs [d, e]) : ∃ v u, vs = [v, u] ∧ Rp K S H v d ∧ Rp K S H u e := by
  cases h with
  | cons a b =>
    obtain ⟨u, rfl, q⟩ := b.one
    exact ⟨_, u, rfl, a, q⟩
def cLen : List D → Option D
  | [.list ds] => some (.int ds.length)
  | [.tuple ds] => some (.int ds.length)
  | [.dict [(.none, .list ds)]] => some (.int ds.length)
  | [.str z] => if z.length ≤ 16777216 then some (.int z.length) else none
  | _ => none
theorem cj_len : CallJ X (.builtin "len") cLen k := fun ds d h => by
  unfold cLen at h
  split at h
  · cases h
    refine ⟨_, call_len_seq, fun A S H sto vs Q w p z => ?_⟩
    obtain ⟨v, ev, p1⟩ := p.one; subst ev
    obtain ⟨l, xs, rfl, r1, q1⟩ := p1.lstI
    refine ⟨l, xs, rfl, .inl (.inl r1.out), ?_⟩
    rw [q1.length]
    exact z _ _ [] (.atom w (atomic_int _) (.int _))
  · cases h
    refine ⟨_, call_len_seq, fun A S H sto vs Q w p z => ?_⟩
    obtain ⟨v, ev, p1⟩ := p.one; subst ev
    obtain ⟨l, xs, rfl, r1, q1⟩ := p1.tupI
    refine ⟨l, xs, rfl, .inr (.inl r1.out), ?_⟩
    rw [q1.length]
    exact z _ _ [] (.atom w (atomic_int _) (.int _))
  · cases h
    refine ⟨_, call_len_seq, fun A S H sto vs Q w p z => ?_⟩
    obtain ⟨v, ev, p1⟩ := p.one; subst ev
    obtain ⟨l, xs, rfl, r1, q1⟩ := p1.skI
    refine ⟨l, xs, rfl, .inl r1.out, ?_⟩
    rw [q1.length]
    exact z _ _ [] (.atom w (atomic_int _) (.int _))
  · split at h
    · rename_i hl
      cases h
      refine ⟨_, call_len, fun A S H sto vs Q w p z => ?_⟩
      obtain ⟨v, ev, p1⟩ := p.one; subst ev
      have e := p1.strI
      subst e
      exact ⟨_, _, rfl, ⟨by rw [sizeLine_eq]; exact hl, rfl⟩, z _ _ [] (.atom w (atomic_int _) (.int _))⟩
    · cases h
  · cases h
def cAbs : List D → Option D
  | [.int i] => some (.int (if i < 0 then -i else i))
  | _ => none
theorem cj_abs : CallJ X (.builtin "abs") cAbs k := fun ds d h => by
  unfold cAbs at h
  split at h
  · cases h
    refine ⟨_, call_abs, fun A S H sto vs Q w p z => ?_⟩
    obtain ⟨v, ev, p1⟩ := p.one; subst ev
    exact ⟨_, by rw [p1.intI], z _ _ [] (.atom w (atomic_int _) (.int _))⟩
  · cases h
def cInt : List D → Option D
  | [.int i] => some (.int i)
  | [.bool b] => some (.int (if b then 1 else 0))
  | _ => none
theorem cj_int : CallJ X (.type "int") cInt k := fun ds d h => by
  unfold cInt at h
  split at h
  · cases h
    refine ⟨_, call_int1, fun A S H sto vs Q w p z => ?_⟩
    obtain ⟨v, ev, p1⟩ := p.one; subst ev
    exact .inl ⟨_, by rw [p1.intI], z _ _ [] (.atom w (atomic_int _) (.int _))⟩
  · cases h
    refine ⟨_, call_int1, fun A S H sto vs Q w p z => ?_⟩
    obtain ⟨v, ev, p1⟩ := p.one; subst ev
    exact .inr ⟨_, by rw [p1.blI], z _ _ [] (.atom w (atomic_int _) (.int _))⟩
  · cases h
def isInts : List D → Option (List Int)
  | [] => some []
  | .int i :: r => (isInts r).map (i :: ·)
  | _ => none
def isBls : List D → Option (List Bool)
  | [] => some []
  | .bool i :: r => (isBls r).map (i :: ·)
  | _ => none
theorem isBls_some : ∀ {ds : List D} {ns : List Bool}, isBls ds = some ns → ds = ns.map PyData.bool
  | [], ns, h => by cases h; rfl
  | .bool i :: r, ns, h => by
    unfold isBls at h
    obtain ⟨ms, e, q⟩ := map_some' h
    subst q
    rw [isBls_some e]
    rfl
  | .none :: _, _, h => by cases h
  | .int _ :: _, _, h => by cases h
  | .str _ :: _, _, h => by cases h
  | .list _ :: _, _, h => by cases h
  | .tuple _ :: _, _, h => by cases h
  | .dict _ :: _, _, h => by cases h
theorem isBls_map : ∀ (ns : List Bool), isBls (ns.map PyData.bool) = some ns
  | [] => rfl
  | n :: ns => by
    show (isBls (ns.map PyData.bool)).map (n :: ·) = _
    rw [isBls_map ns]
    rfl
theorem RpA.bls : ∀ {vs : List V} {ns : List Bool}, RpA K S H vs (ns.map PyData.bool) → vs = ns.map V.bl
  | _, [], .nil => rfl
  | _, n :: ns, .cons a b => by cases a; rw [b.bls]; rfl
def cAll : List D → Option D
  | [.list ds] => (isBls ds).map fun ns => .bool (ns.all id)
  | _ => none
theorem cj_all (hc : X.calm = true) : CallJ X (.builtin "all") cAll k := fun ds d h => by
  unfold cAll at h
  split at h
  · obtain ⟨ns, e, q⟩ := map_some' h
    cases q
    have e' := isBls_some e
    subst e'
    refine ⟨_, cr_all hc, fun A S H sto vs Q w p z => ?_⟩
    obtain ⟨v, ev, p1⟩ := p.one; subst ev
    obtain ⟨l, xs, rfl, r1, q1⟩ := p1.lstI
    rw [q1.bls] at r1
    exact ⟨l, ns, rfl, .inl r1.out, z _ _ [] (.atom w (atomic_bool _) (.bl _))⟩
  · cases h
/-- the least, the greatest of a list of ints, of two ints -/
def minL : List Int → Int
  | [] => 0
  | x :: r => r.foldl (fun a b => if b < a then b else a) x
def maxL : List Int → Int
  | [] => 0
  | x :: r => r.foldl (fun a b => if a < b then b else a) x
def cMin : List D → Option D
  | [.int i, .int j] => some (.int (if j < i then j else i))
  | [.list ds] => (isInts ds).bind fun ns => if ns = [] then none else some (.int (minL ns))
  | _ => none
def cMax : List D → Option D
  | [.int i, .int j] => some (.int (if j > i then j else i))
  | [.list ds] => (isInts ds).bind fun ns => if ns = [] then none else some (.int (maxL ns))
  | _ => none
/-- list(xs), tuple(xs) -/
def cList : List D → Option D
  | [.list ds] => some (.list ds)
  | [.tuple ds] => some (.list ds)
  | _ => none
theorem cj_list : CallJ X (.type "list") cList 1 := fun ds d h => by
  unfold cList at h
  split at h
  · cases h
    refine ⟨_, call_list_of, fun A S H sto vs Q w p z => ?_⟩
    obtain ⟨v, ev, p1⟩ := p.one; subst ev
    obtain ⟨l, xs, rfl, r1, q1⟩ := p1.lstI
    exact ⟨l, xs, rfl, .inl (.inl r1.out), fun p hp => z _ _ [p] (Res.lst w (.shared w q1) hp)⟩
  · cases h
    refine ⟨_, call_list_of, fun A S H sto vs Q w p z => ?_⟩
    obtain ⟨v, ev, p1⟩ := p.one; subst ev
    obtain ⟨l, xs, rfl, r1, q1⟩ := p1.tupI
    exact ⟨l, xs, rfl, .inr (.inl r1.out), fun p hp => z _ _ [p] (Res.lst w (.shared w q1) hp)⟩
  · cases h
end

/-! ### isinstance -/
def typD : D → String
  | .none => "NoneType"
  | .bool _ => "bool"
  | .int _ => "int"
  | .str _ => "str"
  | .list _ => "list"
  | .tuple _ => "tuple"
  | .dict _ => "dict"
def isiB (T t : String) : Bool := t == T || (T == "int" && t == "bool")
def IsT (T : String) : Prop := ∀ t ∈ ["NoneType", "bool", "int", "str", "list", "tuple", "dict"], kitB t T = some (isiB T t)
theorem ist_list : IsT "list" := by unfold IsT; decide +kernel
theorem ist_int : IsT "int" := by unfold IsT; decide +kernel
theorem ist_bool : IsT "bool" := by unfold IsT; decide +kernel
theorem ist_tuple : IsT "tuple" := by unfold IsT; decide +kernel
theorem ist_str : IsT "str" := by unfold IsT; decide +kernel
theorem typD_mem (d : D) : typD d ∈ ["NoneType", "bool", "int", "str", "list", "tuple", "dict"] := by cases d <;> simp [typD]
def dIsi (T : String) (d : D) : Option D := if isMk d = true then none else some (.bool (isiB T (typD d)))
theorem Rp.tyx {K : PySem.W.Frag} {S : List Addr} {H : Hp} {v : V} {d : D} (p : Rp K S H v d) (h : isMk d = false) : TyX K H v (.type (typD d)) := by
  cases p with
  | non => exact .base .non
  | bl b => exact .base (.bl b)
  | int i => exact .base (.int i)
  | str x => exact .base (.str x)
  | lst r _ =>
    rcases r with r | ⟨o, r⟩
    · exact .base (.lst r)
    · exact .base (.frz r)
  | tup r _ => exact .base (.tup r)
  | dK e _ => exact .fDict e
  | dT e r =>
    cases r with
    | cons a b => exact nomatch h
  | tok e => exact absurd h (fun z => nomatch z)
  | sk e _ => exact absurd h (fun z => nomatch z)
  | rK e _ => exact absurd h (fun z => nomatch z)
  | rT e _ => exact absurd h (fun z => nomatch z)
  | ex => exact absurd h (fun z => nomatch z)
  | obj _ _ => exact absurd h (fun z => nomatch z)
  | exi _ => exact absurd h (fun z => nomatch z)
theorem TyX.out {K : PySem.W.Frag} {S : List Addr} {A : Addr → Prop} {H : Hp} {v : V} {d : D} (p : Rp K S (hid A H) v d) (h : isMk d = false) : TyX K H v (.type (typD d)) := p.out.tyx h
section
variable {X : Cx} {e a b c : Expr} {es rest : List Expr} {f g h : Ev} {fs : EvA} {k j : Nat} {pos p q1 : Pos}
theorem jp_isi {T : Str} {T' : String} (hT : IsT T') (ha : JP X a f 0) (hg : Gl X "isinstance") (hm : X.mg "isinstance" = none) (gT : Gl X T) (mT : X.mg T = none) (bT : bootBuiltins T = some (.type T'))
    (he : starEach [a, .Name T q1] X.env = (false, eval a X.env) :: starEach [.Name T q1] X.env := by rfl) (hs : starEach [.Name T q1] X.env = (false, eval (.Name T q1) X.env) :: starEach [] X.env := by rfl)
    (hpl : (backTo pos (starEach [.Name T q1] X.env)).any (·.1) = false := by rfl) (hn : T ≠ "__name__" := by decide) (hdb : (T == ("__debug__" : Str)) = false := by decide) : JP X (.Call (.Name "isinstance" p) [a, .Name T q1] [] pos) (eUn (dIsi T') f) k := fun A S σ H vw sto d sto' Q w r q z => by
  obtain ⟨x, e1, e3⟩ := eUn_some q
  unfold dIsi at e3
  split at e3
  · cases e3
  · rename_i ht
    cases e3
    refine wpE.by (pe_callB call_isi hg hm (by decide +kernel) (pa_cons wpE_pe (pa_cons (pe_bltn (v := .ty T') gT mT bT rfl hn hdb) pa_nil hs) he) (by decide) (by decide) he hpl) ?_
    refine ha.use w r e1 fun v H1 x1 w1 r1 p1 => ?_
    have hk := hT (typD x) (typD_mem x)
    exact ⟨v, .ty T', _, _, _, rfl, .ty T', p1.out.tyx (by simpa using ht), kit_ty hk, z _ _ [] ((Res.atom w1 (atomic_bool _) (.bl _)).after x1 noF)⟩
def dIsi2 (T U : String) (d : D) : Option D := if isMk d = true then none else some (.bool (isiB T (typD d) || isiB U (typD d)))
theorem jp_isi2 {T U : Str} {T' U' : String} {x1 : Nat} {q2 q3 : Pos} (hT : IsT T') (hU : IsT U') (ha : JP X a f 0) (hg : Gl X "isinstance") (hm : X.mg "isinstance" = none) (gT : Gl X T) (mT : X.mg T = none) (bT : bootBuiltins T = some (.type T')) (gU : Gl X U) (mU : X.mg U = none) (bU : bootBuiltins U = some (.type U'))
    (he : starEach [a, .Tuple [.Name T q1, .Name U q2] x1 q3] X.env = (false, eval a X.env) :: starEach [.Tuple [.Name T q1, .Name U q2] x1 q3] X.env := by rfl) (hs : starEach [.Tuple [.Name T q1, .Name U q2] x1 q3] X.env = (false, eval (.Tuple [.Name T q1, .Name U q2] x1 q3) X.env) :: starEach [] X.env := by rfl)
    (hs1 : starEach [.Name T q1, .Name U q2] X.env = (false, eval (.Name T q1) X.env) :: starEach [.Name U q2] X.env := by rfl) (hs2 : starEach [.Name U q2] X.env = (false, eval (.Name U q2) X.env) :: starEach [] X.env := by rfl)
    (hpl : (backTo pos (starEach [.Tuple [.Name T q1, .Name U q2] x1 q3] X.env)).any (·.1) = false := by rfl) (hn : T ≠ "__name__" := by decide) (hdb : (T == ("__debug__" : Str)) = false := by decide) (hn2 : U ≠ "__name__" := by decide) (hdb2 : (U == ("__debug__" : Str)) = false := by decide) :
    JP X (.Call (.Name "isinstance" p) [a, .Tuple [.Name T q1, .Name U q2] x1 q3] [] pos) (eUn (dIsi2 T' U') f) k := fun A S σ H vw sto d sto' Q w r q z => by
  obtain ⟨x, e1, e3⟩ := eUn_some q
  unfold dIsi2 at e3
  split at e3
  · cases e3
  · rename_i ht
    cases e3
    refine wpE.by (pe_callB call_isiT hg hm (by decide +kernel) (pa_cons wpE_pe (pa_cons (pe_tup (pa_cons (pe_bltn (v := .ty T') gT mT bT rfl hn hdb) (pa_cons (pe_bltn (v := .ty U') gU mU bU rfl hn2 hdb2) pa_nil hs2) hs1)) pa_nil hs) he) (by decide) (by decide) he hpl) ?_
    refine ha.use w r e1 fun v H1 x1 w1 r1 p1 => ⟨by rw [sizeLine_eq]; simp, fun tp htp => ?_⟩
    have hk := hT (typD x) (typD_mem x)
    have hk2 := hU (typD x) (typD_mem x)
    have sm : Same H1 (upd H1 tp (.tup [.ty T', .ty U'])) := same_upd htp
    refine ⟨v, tp, [.ty T', .ty U'], _, [.type T', .type U'], _, rfl, upd_same, .cons (.ty T') (.cons (.ty U') .nil), (p1.out.le sm).tyx (by simpa using ht), kitAny_cons (r := isiB T' (typD x) || isiB U' (typD x)) (kit_ty hk) (fun h => kitAny_cons (kit_ty hk2) (fun h2 => ?_) (fun h2 => ?_)) (fun h => ?_), z _ _ [] ((Res.atom ?_ (atomic_bool _) (.bl _)).after (x1.trans (Ext.of sm)) noF)⟩
    · rw [h, h2]; rfl
    · rw [h2, Bool.or_true]
    · rw [h, Bool.true_or]
    · exact w1.grow sm (fun a h => .inl h) fun a h => h
end
end J
namespace J
open PySem PySem.Spec PyProof.Rows L2

/-! ### what is walked -/
abbrev EvI := EvA
def YD (K : PySem.W.Frag) (S : List Addr) (A : Addr → Prop) (H0 : Hp) (ds : List D) : Nat → Hp → V → Hp → Prop := fun i H1 x H2 => ∃ d, ds[i]? = some d ∧ (H2 = H1 ∨ ∃ T o, H1 T = none ∧ H2 = upd H1 T o) ∧
  ∀ A2, Same (hid A H0) (hid A2 H1) → (∀ a, A2 a → Hdn (H1 a)) → Rp K S (hid A2 H2) x d
def wpI (X : Cx) (tg iter : Expr) : TI := fun σ H R => ∀ pins s, Inv X pins σ H s → wpAny (model X.prog X.w) X.A (eval iter X.env) (fun v s1 => wpAny (model X.prog X.w) X.A (pyIter v) (PIE X pins σ tg R) X.xe s1) X.xe s
theorem wpI_pi {X : Cx} {tg iter : Expr} : PI X tg iter (wpI X tg iter) := ⟨fun pins s σ H R I h => h pins s I⟩
theorem wpI.by {X : Cx} {tg iter : Expr} {t : TI} (h : PI X tg iter t) {σ : Sg} {H : Hp} {R : It → Hp → Prop} (q : t σ H R) : wpI X tg iter σ H R := fun pins s I => h.run pins s σ H R I q
def JI (X : Cx) (tg it : Expr) (fi : EvI) : Prop := ∀ A S σ H vw sto ds sto' (R : It → Hp → Prop), Wd X.K S A H sto → RdV X.K S A σ H vw → fi vw sto = some (ds, sto') →
  (∀ J H', Ext S H H' → Wd X.K S A H' sto' → Walk J ds.length (fun H1 => Same (hid A H') H1) (YD X.K S A H' ds) → R J H') → wpI X tg it σ H R
section
variable {K : PySem.W.Frag} {S : List Addr} {A : Addr → Prop} {H : Hp}
theorem walk_dl {l : Addr} {xs : List V} {ds : List D} (r : Rd (hid A H) l (.lst xs)) (q : RpA K S (hid A H) xs ds) : Walk (Itl K l) ds.length (fun H1 => Same (hid A H) H1) (YD K S A H ds) := by
  rw [← q.length]
  refine (walk_list (xs := xs)).mono (fun H1 h => .inl (Rd.le h r)) fun i H1 x H2 hi h y => ?_
  obtain ⟨rfl, e⟩ := y
  obtain ⟨d, e1, p⟩ := q.getV e
  exact ⟨d, e1, .inl rfl, fun A2 h2 _ => p.le h2⟩
theorem walk_dt {l : Addr} {xs : List V} {ds : List D} (r : Rd (hid A H) l (.tup xs)) (q : RpA K S (hid A H) xs ds) : Walk (Itt K l) ds.length (fun H1 => Same (hid A H) H1) (YD K S A H ds) := by
  rw [← q.length]
  refine (walk_tup (xs := xs)).mono (fun H1 h => .inl (Rd.le h r)) fun i H1 x H2 hi h y => ?_
  obtain ⟨rfl, e⟩ := y
  obtain ⟨d, e1, p⟩ := q.getV e
  exact ⟨d, e1, .inl rfl, fun A2 h2 _ => p.le h2⟩
/-- the ints lo, lo + c, .. -/
def rgD (lo c : Int) (n : Nat) : List D := (List.range n).map fun i => .int (lo + (i : Nat) * c)
theorem rgD_len (lo c : Int) (n : Nat) : (rgD lo c n).length = n := by unfold rgD; rw [List.length_map, List.length_range]
theorem rgD_get {lo c : Int} {n i : Nat} (h : i < n) : (rgD lo c n)[i]? = some (.int (lo + (i : Nat) * c)) := by
  unfold rgD
  rw [List.getElem?_map, List.getElem?_range h]
  rfl
theorem walk_dr {lo : Int} {n : Nat} : Walk (Itr lo n) (rgD lo 1 n).length (fun H1 => Same (hid A H) H1) (YD K S A H (rgD lo 1 n)) := by
  rw [rgD_len]
  refine walk_range.mono (fun H1 h => trivial) fun i H1 x H2 hi h y => ?_
  obtain ⟨rfl, rfl⟩ := y
  exact ⟨_, rgD_get hi, .inl rfl, fun A2 h2 _ => by rw [Int.mul_one]; exact .int _⟩
/-- a new pair -/
theorem yd_pair {A2 : Addr → Prop} {H1 : Hp} {T : Addr} {x y : V} {d e : D} (hT : H1 T = none) (p : Rp K S (hid A2 H1) x d) (q : Rp K S (hid A2 H1) y e) (al : ∀ a, A2 a → Hdn (H1 a)) : Rp K S (hid A2 (upd H1 T (.tup [x, y]))) (.ref T) (.tuple [d, e]) := by
  have sm : Same (hid A2 H1) (hid A2 (upd H1 T (.tup [x, y]))) := fun a o h => by
    rw [hid_eq] at h ⊢
    exact ⟨h.1, by rw [upd_ne (ne_of_none h.2 hT)]; exact h.2⟩
  exact .tup (hid_eq.mpr ⟨fun z => (al T z).1 hT, upd_same⟩) (.cons (p.le sm) (.cons (q.le sm) .nil))
def enD (ds : List D) (n : Nat) : List D := match ds with
  | [] => []
  | d :: r => .tuple [.int n, d] :: enD r (n + 1)
theorem enD_len : ∀ (ds : List D) (n : Nat), (enD ds n).length = ds.length
  | [], _ => rfl
  | d :: r, n => congrArg (· + 1) (enD_len r (n + 1))
theorem enD_get : ∀ (ds : List D) (n i : Nat) (d : D), ds[i]? = some d → (enD ds n)[i]? = some (.tuple [.int ((n + i : Nat) : Int), d])
  | [], _, _, _, h => by simp at h
  | d :: r, n, 0, d', h => by simp at h; subst h; rfl
  | d :: r, n, i + 1, d', h => by
    have := enD_get r (n + 1) i d' (by simpa using h)
    rw [show n + 1 + i = n + (i + 1) by omega] at this
    simpa [enD] using this
theorem walk_de {l : Addr} {xs : List V} {ds : List D} (r : Rd (hid A H) l (.lst xs)) (q : RpA K S (hid A H) xs ds) : Walk (Ite K l) (enD ds 0).length (fun H1 => Same (hid A H) H1) (YD K S A H (enD ds 0)) := by
  rw [enD_len, ← q.length]
  refine (walk_enum (xs := xs)).mono (fun H1 h => .inl (Rd.le h r)) fun i H1 v H2 hi h y => ?_
  obtain ⟨T, x, y, rfl, hT, rfl, e1, e2⟩ := y
  obtain ⟨d, e3, p⟩ := q.getV e2
  cases e1
  refine ⟨_, enD_get ds 0 i d e3, .inr ⟨T, _, hT, rfl⟩, fun A2 h2 al => ?_⟩
  rw [Nat.zero_add]
  exact yd_pair hT (.int _) (p.le h2) al
def ziD : List D → List D → List D
  | d :: r, e :: s => .tuple [d, e] :: ziD r s
  | _, _ => []
theorem ziD_len : ∀ (ds es : List D), (ziD ds es).length = min ds.length es.length
  | [], es => by simp [ziD]
  | d :: r, [] => by simp [ziD]
  | d :: r, e :: s => by simp only [ziD, List.length_cons, ziD_len r s]; omega
theorem ziD_get : ∀ (ds es : List D) (i : Nat) (d e : D), ds[i]? = some d → es[i]? = some e → (ziD ds es)[i]? = some (.tuple [d, e])
  | [], _, _, _, _, h, _ => by simp at h
  | d :: r, [], _, _, _, _, h => by simp at h
  | d :: r, e :: s, 0, _, _, h, h' => by simp at h h'; subst h; subst h'; rfl
  | d :: r, e :: s, i + 1, d', e', h, h' => by simpa [ziD] using ziD_get r s i d' e' (by simpa using h) (by simpa using h')
theorem walk_dz {l m : Addr} {xs ys : List V} {ds es : List D} (r : Rd (hid A H) l (.lst xs)) (q : RpA K S (hid A H) xs ds) (r' : Rd (hid A H) m (.lst ys)) (q' : RpA K S (hid A H) ys es) : Walk (Itz K l m) (ziD ds es).length (fun H1 => Same (hid A H) H1) (YD K S A H (ziD ds es)) := by
  rw [ziD_len, ← q.length, ← q'.length]
  refine (walk_zip (xs := xs) (ys := ys) rfl).mono (fun H1 h => ⟨.inl (Rd.le h r), .inl (Rd.le h r')⟩) fun i H1 v H2 hi h y => ?_
  obtain ⟨T, x, y, rfl, hT, rfl, e1, e2⟩ := y
  obtain ⟨d, e3, p⟩ := q.getV e1
  obtain ⟨e, e4, p'⟩ := q'.getV e2
  exact ⟨_, ziD_get ds es i d e e3 e4, .inr ⟨T, _, hT, rfl⟩, fun A2 h2 al => yd_pair hT (p.le h2) (p'.le h2) al⟩
def chD (z : Str) : List D := z.cps.toList.map fun c => .str ⟨#[c]⟩
theorem walk_ds {z : Str} : Walk (Its z) (chD z).length (fun H1 => Same (hid A H) H1) (YD K S A H (chD z)) := by
  have e : (chD z).length = z.cps.size := by unfold chD; rw [List.length_map, Array.length_toList]
  rw [e]
  refine walk_str.mono (fun H1 h => trivial) fun i H1 x H2 hi h y => ?_
  obtain ⟨rfl, c, hc, rfl⟩ := y
  refine ⟨.str ⟨#[c]⟩, ?_, .inl rfl, fun A2 h2 _ => .str _⟩
  unfold chD
  rw [List.getElem?_map, Array.getElem?_toList, hc]
  rfl
end
section
variable {X : Cx} {tg e a b c : Expr} {es rest : List Expr} {f g h : Ev} {fs : EvA} {k j : Nat} {pos p p2 cpos apos tpos : Pos} {elts : List Expr} {kk : Nat}
/-- over a value: a list, a tuple, a text -/
def iVal (f : Ev) : EvI := fun vw s => (f vw s).bind fun p => match p.1 with
  | .list ds => some (ds, p.2)
  | .tuple ds => some (ds, p.2)
  | .str z => some (chD z, p.2)
  | _ => none
theorem ji_val (ha : JP X a f 0) : JI X tg a (iVal f) := fun A S σ H vw sto ds sto' R w r q z => by
  unfold iVal at q
  obtain ⟨⟨x, s1⟩, e1, q⟩ := bind_some' q
  simp only at q
  split at q
  · cases q
    refine wpI.by (pi_list wpE_pe) (ha.use w r e1 fun v H1 x1 w1 r1 p1 => ?_)
    obtain ⟨l, xs, rfl, r2, q2⟩ := p1.lstI
    exact ⟨l, rfl, ⟨xs, .inl r2.out⟩, z _ H1 x1 w1 (walk_dl r2 q2)⟩
  · cases q
    refine wpI.by (pi_tup wpE_pe) (ha.use w r e1 fun v H1 x1 w1 r1 p1 => ?_)
    obtain ⟨l, xs, rfl, r2, q2⟩ := p1.tupI
    exact ⟨l, rfl, ⟨xs, .inl r2.out⟩, z _ H1 x1 w1 (walk_dt r2 q2)⟩
  · cases q
    refine wpI.by (pi_str wpE_pe) (ha.use w r e1 fun v H1 x1 w1 r1 p1 => ?_)
    exact ⟨_, p1.strI, z _ H1 x1 w1 walk_ds⟩
  · cases q
def inRg (i : Int) : Bool := decide (-(2 ^ 62) ≤ i) && decide (i < 2 ^ 62)
theorem inRg_iff {i : Int} (h : inRg i = true) : -(2 ^ 62) ≤ i ∧ i < 2 ^ 62 := by
  unfold inRg at h
  rw [Bool.and_eq_true] at h
  exact ⟨of_decide_eq_true h.1, of_decide_eq_true h.2⟩
def iU (op : D → Option (List D)) (f : Ev) : EvI := fun vw s => (f vw s).bind fun p => (op p.1).map fun d => (d, p.2)
def iB (op : D → D → Option (List D)) (f g : Ev) : EvI := fun vw s => (f vw s).bind fun p => (g vw p.2).bind fun q => (op p.1 q.1).map fun d => (d, q.2)
def rg1 : D → Option (List D)
  | .int j => if inRg j = true then some (rgD 0 1 j.toNat) else none
  | _ => none
theorem iU_some {op : D → Option (List D)} {vw : VW} {s s' : STO} {d : List D} (h : iU op f vw s = some (d, s')) : ∃ x, f vw s = some (x, s') ∧ op x = some d := by
  unfold iU at h
  obtain ⟨⟨x, s1⟩, e1, q⟩ := bind_some' h
  obtain ⟨t, e2, q⟩ := map_some' q
  cases q
  exact ⟨x, e1, e2⟩
theorem iB_some {op : D → D → Option (List D)} {vw : VW} {s s' : STO} {d : List D} (h : iB op f g vw s = some (d, s')) : ∃ x s1 y, f vw s = some (x, s1) ∧ g vw s1 = some (y, s') ∧ op x y = some d := by
  unfold iB at h
  obtain ⟨⟨x, s1⟩, e1, q⟩ := bind_some' h
  obtain ⟨⟨y, s2⟩, e2, q⟩ := bind_some' q
  obtain ⟨t, e3, q⟩ := map_some' q
  cases q
  exact ⟨x, s1, y, e1, e2, e3⟩
theorem rg1_some {x : D} {ds : List D} (h : rg1 x = some ds) : ∃ j : Int, x = .int j ∧ (-(2 ^ 62) ≤ j ∧ j < 2 ^ 62) ∧ ds = rgD 0 1 j.toNat := by
  unfold rg1 at h
  split at h
  · split at h
    · rename_i hj
      cases h
      exact ⟨_, rfl, inRg_iff hj, rfl⟩
    · cases h
  · cases h
theorem ji_range1 (ha : JP X a f 0) (hg : Gl X "range") (hm : X.mg "range" = none) (hs : starEach [a] X.env = [(false, eval a X.env)] := by rfl) : JI X tg (.Call (.Name "range" p) [a] [] pos) (iU rg1 f) := fun A S σ H vw sto ds sto' R w r q z => by
  obtain ⟨x, e1, e2⟩ := iU_some q
  obtain ⟨j, rfl, ⟨b1, b2⟩, rfl⟩ := rg1_some e2
  refine wpI.by (pi_range1 hg hm (pa_cons wpE_pe pa_nil hs) hs) (ha.use w r e1 fun v H1 x1 w1 r1 p1 => ?_)
  exact ⟨j, by rw [p1.intI], b1, b2, z _ H1 x1 w1 walk_dr⟩
/-- reversed(range(..)) -/
def JRg (X : Cx) (e : Expr) (f : VW → STO → Option ((Int × Int) × STO)) : Prop := ∃ t, PRg X e t ∧ ∀ A S σ H vw sto ab sto' (Q : Int → Int → Hp → Prop), Wd X.K S A H sto → RdV X.K S A σ H vw → f vw sto = some (ab, sto') →
  (∀ H', Ext S H H' → Wd X.K S A H' sto' → Q ab.1 ab.2 H') → t σ H Q
def r1 (f : Ev) : VW → STO → Option ((Int × Int) × STO) := fun vw s => (f vw s).bind fun p => match p.1 with
  | .int j => if inRg j = true then some ((0, j), p.2) else none
  | _ => none
def r2 (f g : Ev) : VW → STO → Option ((Int × Int) × STO) := fun vw s => (f vw s).bind fun p => (g vw p.2).bind fun q => match p.1, q.1 with
  | .int i, .int j => if inRg i = true ∧ inRg j = true then some ((i, j), q.2) else none
  | _, _ => none
theorem r1_some {vw : VW} {s s' : STO} {ab : Int × Int} (h : r1 f vw s = some (ab, s')) : ∃ j, f vw s = some (.int j, s') ∧ (-(2 ^ 62) ≤ j ∧ j < 2 ^ 62) ∧ ab = (0, j) := by
  unfold r1 at h
  obtain ⟨⟨x, s1⟩, e1, q⟩ := bind_some' h
  simp only at q
  split at q
  · split at q
    · rename_i hj
      cases q
      exact ⟨_, e1, inRg_iff hj, rfl⟩
    · cases q
  · cases q
theorem jrg_1 (ha : JP X a f 0) (hg : Gl X "range") (hm : X.mg "range" = none) (na : starEach [a] X.env = (false, eval a X.env) :: starEach [] X.env := by rfl) : JRg X (.Call (.Name "range" p) [a] [] pos) (r1 f) := ⟨_, prg_1 hg hm wpE_pe na, fun A S σ H vw sto ab sto' Q w r q z => by
  obtain ⟨j, e1, _, rfl⟩ := r1_some q
  exact ha.use w r e1 fun v H1 x1 w1 r1 p1 => ⟨j, p1.intI, z H1 x1 w1⟩⟩
variable {fr : VW → STO → Option ((Int × Int) × STO)}
/-- list(range(..)) -/
def eLRg (fr : VW → STO → Option ((Int × Int) × STO)) : Ev := fun vw s => (fr vw s).bind fun p => if -16777216 ≤ p.1.1 ∧ p.1.1 ≤ 16777216 ∧ -16777216 ≤ p.1.2 ∧ p.1.2 ≤ 16777216 ∧ (p.1.2 - p.1.1).toNat ≤ 16777216 then some (.list (rgD p.1.1 1 (p.1.2 - p.1.1).toNat), p.2) else none
theorem rg_rp {K : PySem.W.Frag} {S : List Addr} {H : Hp} (a b : Int) : RpA K S H (rgV a b) (rgD a 1 (b - a).toNat) := by
  unfold rgV rgD
  induction List.range (b - a).toNat with
  | nil => exact .nil
  | cons n l ih => exact .cons (by show Rp K S H (V.int (a + (n : Nat))) (PyData.int (a + (n : Nat) * 1)); rw [Int.mul_one]; exact .int _) ih
theorem jp_listRg {er : Expr} (he : JRg X er fr) (hc : X.calm = true) (hg : Gl X "list") (hm : X.mg "list" = none) (na : starEach [er] X.env = (false, eval er X.env) :: starEach [] X.env := by rfl) : JP X (.Call (.Name "list" p) [er] [] pos) (eLRg fr) 1 := fun A S σ H vw sto d sto' Q w r q z => by
  unfold eLRg at q
  obtain ⟨⟨⟨lo, hi⟩, s1⟩, e1, q⟩ := bind_some' q
  simp only at q
  split at q
  · rename_i hb
    cases q
    obtain ⟨t, ht, hq⟩ := he
    refine wpE.by (pe_listRg hc hg hm ht na) (hq A S σ H vw sto _ _ _ w r e1 fun H1 x1 w1 => ⟨⟨by omega, by omega, by omega, by omega, by omega⟩, fun l hl => z _ _ [l] ((Res.lst w1 (.shared w1 (rg_rp lo hi)) hl).later x1 w1)⟩)
  · cases q
def eTRg (fr : VW → STO → Option ((Int × Int) × STO)) : Ev := fun vw s => (fr vw s).bind fun p => if -16777216 ≤ p.1.1 ∧ p.1.1 ≤ 16777216 ∧ -16777216 ≤ p.1.2 ∧ p.1.2 ≤ 16777216 ∧ (p.1.2 - p.1.1).toNat ≤ 16777216 then some (.tuple (rgD p.1.1 1 (p.1.2 - p.1.1).toNat), p.2) else none
def iRevRg (fr : VW → STO → Option ((Int × Int) × STO)) : EvI := fun vw s => (fr vw s).bind fun p => if inRg p.1.1 = true ∧ inRg p.1.2 = true then some (rgD (p.1.1 + (((p.1.2 - p.1.1).toNat : Nat) : Int) - 1) (-1) (p.1.2 - p.1.1).toNat, p.2) else none
def isLst : D → Option (List D)
  | .list ds => some ds
  | _ => none
theorem isLst_some {x : D} {ds : List D} (h : isLst x = some ds) : x = .list ds := by
  unfold isLst at h
  split at h
  · cases h; rfl
  · cases h
theorem ji_enum (ha : JP X a f 0) (hg : Gl X "enumerate") (hm : X.mg "enumerate" = none) (hs : starEach [a] X.env = [(false, eval a X.env)] := by rfl) : JI X (.Tuple elts kk tpos) (.Call (.Name "enumerate" p) [a] [] pos) (iU (fun d => (isLst d).map fun ds => enD ds 0) f) := fun A S σ H vw sto ds sto' R w r q z => by
  obtain ⟨x, e1, e2⟩ := iU_some q
  obtain ⟨es, e3, rfl⟩ := map_some' e2
  have e4 := isLst_some e3
  subst e4
  refine wpI.by (pi_enum hg hm (pa_cons wpE_pe pa_nil hs) hs) (ha.use w r e1 fun v H1 x1 w1 r1 p1 => ?_)
  obtain ⟨l, xs, rfl, r2, q2⟩ := p1.lstI
  exact ⟨l, xs, rfl, .inl r2.out, z _ H1 x1 w1 (walk_de r2 q2)⟩
theorem ji_zip (ha : JP X a f 0) (hb : JP X b g 0) (hg : Gl X "zip") (hm : X.mg "zip" = none) (hs : starEach [a, b] X.env = (false, eval a X.env) :: starEach [b] X.env := by rfl) (hs2 : starEach [b] X.env = (false, eval b X.env) :: starEach [] X.env := by rfl) (hpl : (backTo pos (starEach [b] X.env)).any (·.1) = false := by rfl) :
    JI X (.Tuple elts kk tpos) (.Call (.Name "zip" p) [a, b] [] pos) (iB (fun x y => (isLst x).bind fun ds => (isLst y).map fun es => ziD ds es) f g) := fun A S σ H vw sto ds sto' R w r q z => by
  obtain ⟨x, s1, y, e1, e2, e3⟩ := iB_some q
  obtain ⟨ds1, e4, e3⟩ := bind_some' e3
  obtain ⟨es, e5, rfl⟩ := map_some' e3
  have e6 := isLst_some e4
  have e7 := isLst_some e5
  subst e6; subst e7
  refine wpI.by (pi_zip hg hm (pa_cons wpE_pe (pa_cons wpE_pe pa_nil hs2) hs) hs hpl) (ha.use2 hb w r e1 e2 fun v u H1 x1 w1 r1 p1 p2 => ?_)
  obtain ⟨l, xs, rfl, r2, q2⟩ := p1.lstI
  obtain ⟨m, ys, rfl, r3, q3⟩ := p2.lstI
  exact ⟨l, m, xs, ys, rfl, .inl r2.out, .inl r3.out, z _ H1 x1 w1 (walk_dz r2 q2 r3 q3)⟩

/-! ### targets -/
abbrev Bd := D → Option (List (Nat × D))
def bN (i : Nat) : Bd := fun d => some [(i, d)]
def bT2 (i j : Nat) : Bd
  | .tuple [x, y] => some [(i, x), (j, y)]
  | _ => none
def setS (σ : Sg) : List (Nat × V) → Sg
  | [] => σ
  | (i, v) :: r => setS (σ.set i (some v)) r
def setV (vw : VW) : List (Nat × D) → VW
  | [] => vw
  | (i, d) :: r => setV (vw.set i (some d)) r
abbrev SlotsR (K : PySem.W.Frag) (S : List Addr) (H : Hp) : List (Nat × V) → List (Nat × D) → Prop := Paired fun p q => p.1 = q.1 ∧ Rp K S H p.2 q.2
def gSpec (K : PySem.W.Frag) (g : TG) (bd : Bd) : Prop := ∀ S σ H H0 v d l (Q : Sg → Hp → Prop), Same H H0 → Rp K S H v d → bd d = some l → (∀ vl, SlotsR K S H vl l → Q (setS σ vl) H0) → g v σ H0 Q
theorem gspec_name {K : PySem.W.Frag} {i : Nat} : gSpec K (gName i) (bN i) := fun S σ H H0 v d l Q sm p e z => by
  cases e
  exact z [(i, v)] (.cons ⟨rfl, p⟩ .nil)
theorem gspec_tup2 {K : PySem.W.Frag} {i j : Nat} : gSpec K (gTup K 2 (gCons (gName i) (gCons (gName j) gNil))) (bT2 i j) := fun S σ H H0 v d l Q sm p e z => by
  unfold bT2 at e
  split at e
  · cases e
    obtain ⟨a, xs, rfl, r, q⟩ := p.tupI
    obtain ⟨x, y, rfl, p1, p2⟩ := q.two
    exact ⟨a, [x, y], rfl, .inl (Rd.le sm r), rfl, x, [y], rfl, y, [], rfl, rfl, z [(i, x), (j, y)] (.cons ⟨rfl, p1⟩ (.cons ⟨rfl, p2⟩ .nil))⟩
  · cases e
theorem setS_len : ∀ (l : List (Nat × V)) (σ : Sg), (setS σ l).length = σ.length
  | [], σ => rfl
  | (i, v) :: r, σ => by rw [setS, setS_len r, List.length_set]
theorem SlotsR.rd {K : PySem.W.Frag} {S : List Addr} {H : Hp} {A : Addr → Prop} : ∀ {vl : List (Nat × V)} {l : List (Nat × D)} {σ : Sg} {vw : VW}, SlotsR K S (hid A H) vl l → RdV K S A σ H vw → RdV K S A (setS σ vl) H (setV vw l)
  | _, _, σ, vw, .nil, h => h
  | _, _, σ, vw, .cons (a := (i, v)) (b := (j, d)) e r, h => by
    obtain ⟨rfl, p⟩ := e
    show RdV K S A (setS (σ.set i (some v)) _) H (setV (vw.set i (some d)) _)
    refine SlotsR.rd r ⟨by rw [List.length_set, List.length_set]; exact h.1, fun n d' hd => ?_⟩
    by_cases hn : i = n
    · subst hn
      rw [List.getElem?_set] at hd
      rw [if_pos rfl] at hd
      split at hd
      · rename_i hlt
        have hd' : d = d' := by simpa using hd
        subst hd'
        refine ⟨v, ?_, p⟩
        rw [List.getElem?_set, if_pos rfl, if_pos (by have := h.1; show i < σ.length; omega)]
      · cases hd
    · rw [List.getElem?_set_ne hn] at hd
      obtain ⟨v', e1, e2⟩ := h.2 n d' hd
      exact ⟨v', by rw [List.getElem?_set_ne hn]; exact e1, e2⟩
end
end J
namespace J
open PySem PySem.Spec PyProof.Rows L2

/-! ### comprehensions -/
def wipeV (vw : VW) : List Nat → VW
  | [] => vw
  | v :: vs => (wipeV vw vs).set v none
theorem wipeV_len (vw : VW) : ∀ vs : List Nat, (wipeV vw vs).length = vw.length
  | [] => rfl
  | v :: vs => by unfold wipeV; rw [List.length_set, wipeV_len vw vs]
theorem wipe_get {α : Type} : ∀ (vs : List Nat) (f : List (Option α) → List Nat → List (Option α)) (h0 : ∀ s, f s [] = s) (h1 : ∀ s v r, f s (v :: r) = (f s r).set v none) (s : List (Option α)) (i : Nat), (f s vs)[i]? = if i ∈ vs ∧ i < s.length then some none else s[i]?
  | [], f, h0, h1, s, i => by rw [h0]; simp
  | v :: r, f, h0, h1, s, i => by
    have ih := wipe_get r f h0 h1 s i
    have hlen : ∀ r, (f s r).length = s.length := fun r => by
      induction r with
      | nil => rw [h0]
      | cons a r ih => rw [h1, List.length_set, ih]
    rw [h1, List.getElem?_set]
    by_cases e : v = i
    · subst e
      rw [if_pos rfl, hlen]
      by_cases hl : v < s.length
      · rw [if_pos hl, if_pos ⟨List.mem_cons_self, hl⟩]
      · rw [if_neg hl, if_neg (fun z => hl z.2), List.getElem?_eq_none (by omega)]
    · rw [if_neg e, ih]
      have : (i ∈ v :: r) ↔ i ∈ r := by
        constructor
        · intro h
          rcases List.mem_cons.mp h with h | h
          · exact absurd h.symm e
          · exact h
        · exact List.mem_cons_of_mem _
      simp only [this]
theorem wipeS_get (σ : Sg) (vs : List Nat) (i : Nat) : (wipe σ vs)[i]? = if i ∈ vs ∧ i < σ.length then some none else σ[i]? := wipe_get vs wipe (fun _ => rfl) (fun _ _ _ => rfl) σ i
theorem wipeV_get (σ : VW) (vs : List Nat) (i : Nat) : (wipeV σ vs)[i]? = if i ∈ vs ∧ i < σ.length then some none else σ[i]? := wipe_get vs wipeV (fun _ => rfl) (fun _ _ _ => rfl) σ i
theorem setS_get : ∀ (l : List (Nat × V)) (σ : Sg) (i : Nat), (∀ p ∈ l, p.1 ≠ i) → (setS σ l)[i]? = σ[i]?
  | [], σ, i, _ => rfl
  | (j, v) :: r, σ, i, h => by
    rw [setS, setS_get r _ i fun p hp => h p (List.mem_cons_of_mem _ hp), List.getElem?_set_ne (h (j, v) List.mem_cons_self)]
theorem wipe_set {σ : Sg} {vs : List Nat} {l : List (Nat × V)} (h : ∀ p ∈ l, p.1 ∈ vs) : wipe (setS (wipe σ vs) l) vs = wipe σ vs := by
  apply List.ext_getElem?
  intro i
  rw [wipeS_get, setS_len, wipe_length]
  by_cases c : i ∈ vs ∧ i < σ.length
  · rw [if_pos c, wipeS_get, if_pos c]
  · rw [if_neg c]
    by_cases d : i ∈ vs
    · have hi : σ.length ≤ i := Nat.le_of_not_lt fun z => c ⟨d, z⟩
      rw [List.getElem?_eq_none (by rw [setS_len, wipe_length]; exact hi), List.getElem?_eq_none (by rw [wipe_length]; exact hi)]
    · rw [setS_get l _ i fun p hp e => d (e ▸ h p hp)]
theorem RdV.wipe {K : PySem.W.Frag} {S : List Addr} {A : Addr → Prop} {σ : Sg} {H : Hp} {vw : VW} (r : RdV K S A σ H vw) (vs : List Nat) : RdV K S A (L2.wipe σ vs) H (wipeV vw vs) := by
  refine ⟨by rw [wipe_length, wipeV_len]; exact r.1, fun i d h => ?_⟩
  rw [wipeV_get] at h
  split at h
  · cases h
  · rename_i c
    obtain ⟨v, e1, e2⟩ := r.2 i d h
    have hl : i < vw.length := (List.getElem?_eq_some_iff.mp h).1
    refine ⟨v, ?_, e2⟩
    rw [wipeS_get, if_neg (fun z => c ⟨z.1, hl⟩)]
    exact e1
theorem SlotsR.mem {K : PySem.W.Frag} {S : List Addr} {H : Hp} {P : Nat → Prop} : ∀ {vl : List (Nat × V)} {l : List (Nat × D)}, SlotsR K S H vl l → (∀ p ∈ l, P p.1) → ∀ p ∈ vl, P p.1
  | _, _, .nil, _, p, h => nomatch h
  | _, _, .cons (a := a) (b := b) e r, h, p, hp => by
    rcases List.mem_cons.mp hp with rfl | hp
    · rw [e.1]; exact h b List.mem_cons_self
    · exact SlotsR.mem r (fun q hq => h q (List.mem_cons_of_mem _ hq)) p hp

abbrev blkX (X : Cx) (scope : Scope) (s : Shared) (H : Hp) (C : Addr) (cl : List (Str × Addr)) (fp : List Addr) : Cx := X.blk s H scope (compEnvC scope cl C X.env) fp
def JPB (X : Cx) (scope : Scope) (e : Expr) (f : Ev) (k : Nat) : Prop := ∀ s H C cl fp, JP (blkX X scope s H C cl fp) e f k
def JTB (X : Cx) (scope : Scope) (e : Expr) (f : EvT) : Prop := ∀ s H C cl fp, JT (blkX X scope s H C cl fp) e f
def wpEB (X : Cx) (scope : Scope) (e : Expr) : TE := fun σ H Q => ∀ s H0 C cl fp, wpE (blkX X scope s H0 C cl fp) e σ H Q
def wpTB (X : Cx) (scope : Scope) (e : Expr) : TT := fun σ H Q => ∀ s H0 C cl fp, wpT (blkX X scope s H0 C cl fp) e σ H Q
theorem wpEB_pe {X : Cx} {scope : Scope} {e : Expr} : ∀ (s : Shared) (H : Hp) (C : Addr) (cl : List (Str × Addr)) (fp : List Addr), PE (X.blk s H scope (compEnvC scope cl C X.env) fp) e (wpEB X scope e) :=
  fun s H C cl fp => ⟨fun pins s' σ H' Q I h => h s H C cl fp pins s' I⟩
theorem wpTB_pt {X : Cx} {scope : Scope} {e : Expr} : ∀ (s : Shared) (H : Hp) (C : Addr) (cl : List (Str × Addr)) (fp : List Addr), PT (X.blk s H scope (compEnvC scope cl C X.env) fp) e (wpTB X scope e) :=
  fun s H C cl fp => ⟨fun pins s' σ H' Q I h => h s H C cl fp pins s' I⟩
/-- the tests of a comprehension: none, one -/
def JTs (X : Cx) (scope : Scope) (ifs : List Expr) (f : EvT) : Prop := ∃ t, (∀ (s : Shared) (H : Hp) (C : Addr) (cl : List (Str × Addr)) (fp : List Addr), PTs (X.blk s H scope (compEnvC scope cl C X.env) fp) ifs t) ∧
  ∀ A S σ H vw sto b sto' (Q : Bool → Hp → Prop), Wd X.K S A H sto → RdV X.K S A σ H vw → f vw sto = some (b, sto') → (∀ H', Ext S H H' → Wd X.K S A H' sto' → Q b H') → t σ H Q
def tY : EvT := fun _ s => some (true, s)
theorem jts_nil {X : Cx} {scope : Scope} : JTs X scope [] tY := ⟨tYes, fun _ _ _ _ _ => pts_nil, fun A S σ H vw sto b sto' Q w r q z => by
  cases q
  exact z H Ext.refl w⟩
theorem jts_one {X : Cx} {scope : Scope} {e : Expr} {f : EvT} (h : JTB X scope e f) : JTs X scope [e] f := ⟨_, fun s H C cl fp => pts_one (wpTB_pt s H C cl fp), fun A S σ H vw sto b sto' Q w r q z => fun s H0 C cl fp => h s H0 C cl fp A S σ H vw sto b sto' Q w r q z⟩
def JG (X : Cx) (scope : Scope) (tg : Expr) (bd : Bd) : Prop := ∃ g, (∀ (s : Shared) (H : Hp) (C : Addr) (cl : List (Str × Addr)) (fp : List Addr), PG (X.blk s H scope (compEnvC scope cl C X.env) fp) tg g) ∧ gSpec X.K g bd

def compL (bd : Bd) (fc : EvT) (fe : Ev) (own : List Nat) (vw : VW) : List D → STO → Option (List D × STO)
  | [], s => some ([], s)
  | d :: r, s => (bd d).bind fun l => (fc (setV (wipeV vw own) l) s).bind fun p =>
    if p.1 = true then (fe (setV (wipeV vw own) l) p.2).bind fun q => (compL bd fc fe own vw r q.2).map fun u => (q.1 :: u.1, u.2) else compL bd fc fe own vw r p.2
def eComp (fi : EvI) (bd : Bd) (fc : EvT) (fe : Ev) (own : List Nat) : Ev := fun vw s => (fi vw s).bind fun p => if p.1.length ≤ 16777216 then (compL bd fc fe own vw p.1 p.2).map fun q => (.list q.1, q.2) else none
theorem hid_ext {S : List Addr} {A : Addr → Prop} {H H' : Hp} (e : Ext S H H') (hS : ∀ a, a ∈ S → A a) : Same (hid A H) H' := fun a o q => by
  rw [hid_eq] at q
  exact e a o (fun z => q.1 (hS a z)) q.2
theorem comp_read {X : Cx} {tg it elt : Expr} {scope : Scope} {own : List Nat} {fi : EvI} {bd : Bd} {fc : EvT} {fe : Ev} {k : Nat} {g : TG} {tt : TT}
    (hi : JI X tg it fi) (hg : gSpec X.K g bd)
    (ht : ∀ A S σ H vw sto b sto' (Q : Bool → Hp → Prop), Wd X.K S A H sto → RdV X.K S A σ H vw → fc vw sto = some (b, sto') → (∀ H', Ext S H H' → Wd X.K S A H' sto' → Q b H') → tt σ H Q)
    (he : JPB X scope elt fe k) (hown : ∀ d l, bd d = some l → ∀ p ∈ l, p.1 ∈ own)
    {A : Addr → Prop} {S : List Addr} {σ : Sg} {H : Hp} {vw : VW} {sto sto' : STO} {d : D} {Q : VK} (w : Wd X.K S A H sto) (r : RdV X.K S A σ H vw) (q : eComp fi bd fc fe own vw sto = some (d, sto'))
    (z : ∀ v H' F, Res X.K S A H sto' (k + 1) H' v d F → Q v H') : tLc (wpI X tg it) g tt (wpEB X scope elt) own σ H Q := by
  unfold eComp at q
  obtain ⟨⟨ds, s1⟩, e1, q⟩ := bind_some' q
  simp only at q
  split at q
  case isFalse => cases q
  rename_i hlen
  obtain ⟨⟨ys, s2⟩, e2, q⟩ := map_some' q
  obtain ⟨rfl, rfl⟩ : PyData.list ys = d ∧ s2 = sto' := by cases q; exact ⟨rfl, rfl⟩
  clear q
  refine hi A S σ H vw sto ds s1 _ w r e1 fun J H1 x1 w1 wk => fun D hD => ?_
  have hSD : D ∉ S := w1.live hD
  have hDA : ¬ A D := w1.notA hD
  refine lc_it wk (fun i Hi => ∃ acc ds' F si rest, compL bd fc fe own vw (ds.drop i) si = some (rest, s2) ∧ ds' ++ rest = ys ∧ acc.length ≤ i ∧ Hi D = some (.lst acc) ∧ Ext S H1 Hi ∧ Wd X.K S (plus F (plus [D] A)) Hi si ∧
    F.Nodup ∧ D ∉ F ∧ (∀ a ∈ F, H1 a = none) ∧ OwA X.K S (plus F (plus [D] A)) Hi k acc ds' F) ?_ ?_ ?_ ?_
  · refine ⟨[], [], [], s1, ys, by simpa using e2, rfl, Nat.le_refl _, upd_same, Ext.of (same_upd hD), ?_, .nil, by simp, noF, .nil⟩
    rw [plus_nil]
    refine w1.grow (same_upd hD) (fun a h => ?_) fun a h => .inr h
    rcases h with h | h
    · have e : a = D := by simpa using h
      subst e
      exact .inr ⟨hD, by rw [upd_same]; exact ⟨(fun z => nomatch z), fun _ z => nomatch z⟩⟩
    · exact .inl h
  · rintro i Hi _ ⟨acc, ds', F, si, rest, _, _, _, _, ex, _, _, _, _, _⟩
    exact hid_ext ex w1.hS
  · rintro i x Hi H' hi' ⟨acc, ds', F, si, rest, c1, c2, c3, c4, ex, wi, nd, hDF, fr, ow⟩ ⟨dx, e3, hH', rp⟩
    have hdrop : ds.drop i = dx :: ds.drop (i + 1) := by
      obtain ⟨hlt, e⟩ := List.getElem?_eq_some_iff.mp e3
      rw [List.drop_eq_getElem_cons hlt, e]
    rw [hdrop] at c1
    unfold compL at c1
    obtain ⟨l, el, c1⟩ := bind_some' c1
    obtain ⟨⟨b, sb⟩, eb, c1⟩ := bind_some' c1
    have smi : Same Hi H' := by
      rcases hH' with rfl | ⟨T, o, hT, rfl⟩
      · exact fun _ _ h => h
      · exact same_upd hT
    have w2 : Wd X.K S (plus F (plus [D] A)) H' si := wi.grow smi (fun a h => .inl h) fun a h => h
    have hA2 : ∀ a, plus F (plus [D] A) a → A a ∨ H1 a = none := fun a h => by
      rcases h with h | h | h
      · exact .inr (fr a h)
      · have e : a = D := by simpa using h
        subst e
        exact .inr hD
      · exact .inl h
    have px : Rp X.K S (hid (plus F (plus [D] A)) H') x dx := rp _ (hid_move ex w1.hS hA2) wi.alt
    have ext2 : Ext S H1 H' := ex.trans (Ext.of smi)
    refine hg S _ _ H' x dx l _ same_hid px el fun vl sl => ?_
    refine ⟨wipe_set (sl.mem fun p hp => hown dx l el p hp), ?_⟩
    have r2 : RdV X.K S (plus F (plus [D] A)) (setS (wipe σ own) vl) H' (setV (wipeV vw own) l) := sl.rd (((r.move x1 w.hS fun a h => .inl h).move ext2 w1.hS hA2).wipe own)
    refine ht _ S _ H' _ si b sb _ w2 r2 eb fun H3 x3 w3 => ?_
    have hD3 : H3 D = some (.lst acc) := x3 D _ hSD (smi _ _ c4)
    have ext3 : Ext S H1 H3 := ext2.trans x3
    simp only at c1
    cases b with
    | true =>
      rw [if_pos rfl] at c1 ⊢
      obtain ⟨⟨y, sy⟩, ey, c1⟩ := bind_some' c1
      obtain ⟨⟨us, su⟩, eu, c1⟩ := map_some' c1
      cases c1
      intro s0 H0 C cl fp
      refine he s0 H0 C cl fp _ S _ H3 _ sb y sy _ w3 (r2.move x3 w2.hS fun a h => .inl h) ey fun v H4 F' rs => ?_
      have rs : Res X.K S (plus F (plus [D] A)) H3 sy k H4 v y F' := rs
      have hD4 : H4 D = some (.lst acc) := rs.ext D _ hSD hD3
      have ext4 : Ext S H1 H4 := ext3.trans rs.ext
      have frF' : ∀ a ∈ F', H1 a = none := fun a ha => none_of_ext ext3 (w3.live (rs.fr a ha)) (rs.fr a ha)
      have hDF' : D ∉ F' := fun h => by
        have := rs.fr D h
        rw [hD3] at this
        cases this
      have hF4 : ∀ a ∈ F, a ∉ F' := fun a ha h => by
        have h1 := rs.fr a h
        exact w3.al a (.inl ha) h1
      refine ⟨acc, hD4, by rw [sizeLine_eq]; omega, acc ++ [v], ds' ++ [y], F ++ F', sy, us, eu, by rw [List.append_assoc]; exact c2, by rw [List.length_append, List.length_singleton]; omega, upd_same, ?_, ?_, ?_, ?_, ?_, ?_⟩
      · intro a o hS h
        by_cases e : a = D
        · subst e; rw [hD] at h; cases h
        · rw [upd_ne e]; exact ext4 a o hS h
      · rw [← plus_append]
        exact rs.wd.upd (.inr (.inr (.inl (by simp)))) hSD ⟨acc, hD4⟩
      · exact List.nodup_append.mpr ⟨nd, rs.nd, fun a ha b hb e => hF4 a ha (e ▸ hb)⟩
      · intro h
        rcases List.mem_append.mp h with h | h
        · exact hDF h
        · exact hDF' h
      · intro a ha
        rcases List.mem_append.mp ha with h | h
        · exact fr a h
        · exact frF' a h
      · rw [← plus_append]
        have hidD : hid (plus F' (plus F (plus [D] A))) (upd H4 D (.lst (acc ++ [v]))) = hid (plus F' (plus F (plus [D] A))) H4 := hid_upd (.inr (.inr (.inl (by simp))))
        have o1 : OwA X.K S (plus F' (plus F (plus [D] A))) (upd H4 D (.lst (acc ++ [v]))) k acc ds' F := by
          refine ow.mv ?_ fun a ha o ho => ?_
          · rw [hidD]
            exact hid_move ((Ext.of smi).trans (x3.trans rs.ext)) wi.hS fun a h => by
              rcases h with h | h
              · exact .inr (none_of_ext ((Ext.of smi).trans x3) (w3.live (rs.fr a h)) (rs.fr a h))
              · exact .inl h
          · rw [upd_ne (fun e : a = D => hDF (e ▸ ha))]
            exact rs.ext a o (w1.live (fr a ha)) (x3 a o (w1.live (fr a ha)) (smi a o ho))
        have o2 : Ow X.K S (plus F' (plus F (plus [D] A))) (upd H4 D (.lst (acc ++ [v]))) k v y F' := by
          refine rs.ow.mv (by rw [hidD]; exact fun _ _ h => h) fun a ha o ho => ?_
          rw [upd_ne (fun e : a = D => hDF' (e ▸ ha))]
          exact ho
        have := o1.append (.cons o2 .nil)
        rwa [List.append_nil] at this
    | false =>
      rw [if_neg Bool.false_ne_true] at c1 ⊢
      refine ⟨acc, ds', F, sb, rest, c1, c2, by omega, hD3, ext3, w3, nd, hDF, fr, ?_⟩
      exact ow.move ((Ext.of smi).trans x3) wi.hS (fun a h => .inl h) fun a ha => w1.live (fr a ha)
  · rintro Hn ⟨acc, ds', F, si, rest, c1, c2, c3, c4, ex, wi, nd, hDF, fr, ow⟩
    rw [List.drop_length] at c1
    cases c1
    rw [List.append_nil] at c2
    subst c2
    have eP : plus F (plus [D] A) = plus (D :: F) A := plus_append
    rw [eP] at wi ow
    refine z (.ref D) Hn (D :: F) ⟨x1.trans ex, wi, List.nodup_cons.mpr ⟨hDF, nd⟩, fun a ha => ?_, .lst c4 ow⟩
    rcases List.mem_cons.mp ha with rfl | ha
    · exact none_of_ext x1 hSD hD
    · exact none_of_ext x1 (w1.live (fr a ha)) (fr a ha)
theorem jp_comp {X : Cx} {tg it elt : Expr} {ifs : List Expr} {scope : Scope} {own : List (Str × Nat)} {pos : Pos} {fi : EvI} {bd : Bd} {fc : EvT} {fe : Ev} {k : Nat} (hc : X.calm = true) (hN : X.N.Nodup)
    (hi : JI X tg it fi) (ok : BlkOk X.N X.env.scope scope own) (hg : JG X scope tg bd) (ht : JTs X scope ifs fc) (he : JPB X scope elt fe k) (hown : ∀ d l, bd d = some l → ∀ p ∈ l, p.1 ∈ own.map (·.2))
    (hs : ∀ x, foldedSetIterable it X.env x = pure x) : JP X (.ListComp elt [⟨tg, it, ifs, 0⟩] scope pos) (eComp fi bd fc fe (own.map (·.2))) (k + 1) := fun A S σ H vw sto d sto' Q w r q z => by
  obtain ⟨g, hg1, hg2⟩ := hg
  obtain ⟨t, ht1, ht2⟩ := ht
  exact wpE.by (pe_lc hc hN wpI_pi ok hg1 ht1 wpEB_pe hs) (comp_read hi hg2 ht2 he hown w r q z)
end J
namespace J
/-! sorting by insertion: the kernel can run it -/
def insB {α : Type} (le : α → α → Bool) (x : α) : List α → List α
  | [] => [x]
  | y :: r => if le x y = true then x :: y :: r else y :: insB le x r
def isort {α : Type} (le : α → α → Bool) : List α → List α
  | [] => []
  | x :: r => insB le x (isort le r)
theorem insB_mid {α : Type} {le : α → α → Bool} {x : α} : ∀ {l m : List α}, (∀ b ∈ l, le x b = false) → (∀ b ∈ m, le x b = true) → insB le x (l ++ m) = l ++ x :: m
  | [], [], _, _ => rfl
  | [], y :: m, _, h => by
    show (if le x y = true then _ else _) = _
    rw [if_pos (h y List.mem_cons_self)]
    rfl
  | y :: l, m, h, h2 => by
    show (if le x y = true then _ else y :: insB le x (l ++ m)) = _
    rw [if_neg (by rw [h y List.mem_cons_self]; simp), insB_mid (fun b hb => h b (List.mem_cons_of_mem _ hb)) h2]
    rfl
theorem isort_eq {α : Type} {le : α → α → Bool} (trans : ∀ a b c, le a b = true → le b c = true → le a c = true) (total : ∀ a b, (le a b || le b a) = true) : ∀ l : List α, isort le l = l.mergeSort le
  | [] => by rw [List.mergeSort_nil]; rfl
  | x :: r => by
    obtain ⟨l1, l2, e1, e2, h⟩ := List.mergeSort_cons trans total x r
    have hs := List.pairwise_mergeSort trans total (x :: r)
    rw [e1] at hs ⊢
    show insB le x (isort le r) = _
    rw [isort_eq trans total r, e2]
    refine insB_mid (fun b hb => by simpa using h b hb) fun b hb => ?_
    exact (List.pairwise_cons.mp (List.pairwise_append.mp hs).2.1).1 b hb
end J
namespace J
open PySem PySem.Spec PyProof.Rows L2

/-! ### a def's promise where no repr runs around it -/
abbrev SpG := List V → Hp → VK → Prop
structure FnG (P : Program) (w : World) (K : PySem.W.Frag) (mg : Str → Option Value) (base : Heap) (k : Nat) (f : Addr) (fd : FuncData) (ps : List Str) (sp : SpG) : Prop where
  len : ∀ vs H Q, sp vs H Q → vs.length = ps.length
  run : ∀ (A : Around) (outer : List Env) (s : Shared) (H : Hp) (args : Args) (us : List Value) (vs : List V) (Q : VK), Room k A → A.guards = some [] → Env0 P w K mg base A outer s H → BindsTo s fd args (ps.zip us) → Vals vs us → sp vs H Q →
    codeAny (model P w) A (.call (.ref f) args) (CR CX0 outer P w H s Q E0) s
theorem FnG.mono {P : Program} {w : World} {K : PySem.W.Frag} {mg : Str → Option Value} {base : Heap} {j k : Nat} {f : Addr} {fd : FuncData} {ps : List Str} {sp : SpG} (F : FnG P w K mg base j f fd ps sp) (h : j ≤ k) : FnG P w K mg base k f fd ps sp :=
  ⟨F.len, fun A outer s H args us vs Q hr => F.run A outer s H args us vs Q (hr.mono h)⟩
/-- a def by its body -/
theorem FnG.of {P : Program} {w : World} {K : PySem.W.Frag} {mg : Str → Option Value} {base : Heap} {k : Nat} {x qual : Str} {st : Stmt} {f : Addr} {fd : FuncData} {N ps : List Str} {sp : SpG}
    (F : Fun K x qual st f fd) (S : FnScope N ps (defScope st)) (len : ∀ vs H Q, sp vs H Q → vs.length = ps.length)
    (hbody : ∀ (cdv : Value) (A : Around) (outer : List Env) (s : Shared) (H : Hp) (vs : List V) (Q : VK), Room k (A.deeper (envOfC qual (defScope st) s.heap.objs.size f cdv)) → A.guards = some [] → sp vs H Q →
      wpSs (cxOf CX0 P w K mg base N qual (defScope st) f cdv A outer s H E0).nox (defBody st) { nx := fun _ H' => Q .non H', rt := Q } (start N vs) H) :
    FnG P w K mg base (k + 1) f fd ps sp := by
  obtain ⟨oc, od, kV, doc, pm, an, cdv, ct, osl, rfl, lk, hcd⟩ := F.ex
  refine ⟨len, fun A outer s H args us vs Q hr hg e0 hb r hsp => ?_⟩
  have hl := len _ _ _ hsp
  have KX : K.In s.heap := e0.mod.kin.keeps fun b o e => (e0.bs b o e).1
  have lim : s.heap.NoLimit := e0.mod.nolimit.keeps fun b o e => (e0.bs b o e).1
  have places : ∀ y ∈ ps.zip us, (defScope st).names.lookup y.1 = some .local ∨ ((defScope st).names.lookup y.1 = some .cell ∧ ((cellsFrom (s.heap.objs.size + 1) (defScope st).names []).lookup y.1).isSome = true) := by
    rintro ⟨n, v⟩ hy
    exact (S.par n (List.of_mem_zip hy).1).imp id fun q => ⟨q, PySem.W.cellsFrom_some _ _ _ (.inl q)⟩
  refine codeAny_call_function hr.depth (KX _ _ lk) rfl S.co S.gen rfl (PySem.W.codeRec_of KX hcd) (hb _ _ _ _ (wpAny_newFunctionEnv_cells S.kind places fun env he s1 x => ?_))
  subst he
  refine ⟨lim.keeps x.toInCall.keep, codeAny_func ?_⟩
  have I := inv_start (CX := CX0) (E := E0) S hr.hd e0 hl r x
  have q := hbody cdv A outer s H vs Q (hr.deeper _) hg hsp [] s1 (I.wish _)
  refine wpAny_mono q (fun fl s' hs => ?_) fun e s' hs => False.elim hs
  have hs := SP.unwish hs
  cases fl with
  | ret u =>
    obtain ⟨v, σ', H', J, rv, q⟩ := hs
    exact ⟨v, H', J.os, J.bare, J.base, J.hok, rv, q⟩
  | next =>
    obtain ⟨σ', H', J, q⟩ := hs
    exact ⟨.non, H', J.os, J.bare, J.base, J.hok, rfl, q⟩
  | brk =>
    obtain ⟨_, _, _, q⟩ := hs
    exact False.elim q
  | cont =>
    obtain ⟨_, _, _, q⟩ := hs
    exact False.elim q
theorem run_fg {X : Cx} {k : Nat} {f : Addr} {fd : FuncData} {ps ks : List Str} {sp : SpG} {pins : List (Addr × Obj)} {σ : Sg} {H : Hp} {s : Shared} {Q : VK} {us ws : List Value} {vs zs : List V} {n : Nat} {g : List Value → List Value → List Value} {gV : List V → List V → List V}
    (F : FnG X.prog X.w X.K X.mg X.base k f fd ps sp) (hr : Room k X.A) (hg : X.A.guards = some []) (hb : KBn X.K fd ps n ks g gV) (I : Inv X pins σ H s) (r : Vals vs us) (rz : Vals zs ws) (l1 : vs.length = n) (l2 : zs.length = ks.length) (h : sp (gV vs zs) H Q) :
    wpAny (model X.prog X.w) X.A (call (.ref f) us (ks.zip ws)) (EP X pins σ Q) X.xe s := by
  refine wpAny_call (codeAny_mono (F.run X.A X.stack s H ⟨us, ks.zip ws⟩ (g us ws) (gV vs zs) Q hr hg I.env0 (hb.to s us ws I.kIn (r.length.symm.trans l1) (rz.length.symm.trans l2)) (hb.rel r rz) h) fun res s' hq => ?_)
  cases res with
  | error e => exact False.elim hq
  | ok fl =>
    cases fl with
    | ret u => exact I.after hq
    | next => exact False.elim hq
    | brk => exact False.elim hq
    | cont => exact False.elim hq

/-! ### a def that is told by a function on data -/
abbrev FnD := List D → STO → Option (D × STO)
def spD (K : PySem.W.Frag) (n : Nat) (F : FnD) (k : Nat) : SpG := fun vs H Q => ∃ A S ds sto d sto', ds.length = n ∧ Wd K S A H sto ∧ RpA K S (hid A H) vs ds ∧ F ds sto = some (d, sto') ∧ ∀ v H' F', Res K S A H sto' k H' v d F' → Q v H'
/-- how arguments, positional and by keyword, come to their places -/
def pick {α : Type} (e : α) (perm : List Nat) (xs : List α) : List α := perm.map fun i => xs.getD i e
theorem vals_pick {xs : List V} {us : List Value} (h : Vals xs us) (perm : List Nat) : Vals (pick V.non perm xs) (pick Value.none perm us) := by
  unfold pick
  induction perm with
  | nil => exact .nil
  | cons i r ih =>
    refine .cons ?_ ih
    show RelV (xs.getD i .non) (us.getD i .none)
    rw [List.getD_eq_getElem?_getD, List.getD_eq_getElem?_getD]
    cases e : xs[i]? with
    | none => rw [h.none_of e]; exact rfl
    | some x =>
      obtain ⟨u, e1, r⟩ := h.get e
      rw [e1]
      exact r
theorem rpa_pick {K : PySem.W.Frag} {S : List Addr} {H : Hp} {xs : List V} {ds : List D} (h : RpA K S H xs ds) (perm : List Nat) : RpA K S H (pick V.non perm xs) (pick PyData.none perm ds) := by
  unfold pick
  induction perm with
  | nil => exact .nil
  | cons i r ih =>
    refine .cons ?_ ih
    show Rp K S H (xs.getD i .non) (ds.getD i .none)
    rw [List.getD_eq_getElem?_getD, List.getD_eq_getElem?_getD]
    cases e : ds[i]? with
    | none =>
      have e2 : xs[i]? = none := by
        have := h.length
        rw [List.getElem?_eq_none_iff] at e ⊢
        omega
      rw [e2]; exact .non
    | some x =>
      obtain ⟨u, e1, r⟩ := h.get e
      rw [e1]
      exact r
/-- the binding of n positional arguments and the keywords ks: the places perm of all of them, one behind the other -/
theorem kbn_of {K : PySem.W.Frag} {x qual : Str} {st : Stmt} {f : Addr} {fd : FuncData} {ps ks : List Str} {n : Nat} (perm : List Nat) (F : Fun K x qual st f fd)
    (h : ∀ (kV doc pm : Value) (an : Option Addr) (cdv ct : Value) (us ws : List Value), us.length = n → ws.length = ks.length → bindArgs (PySem.W.fnOf x qual (defArgs st) (defBody st) (defScope st) .none kV doc pm an cdv ct) ⟨us, ks.zip ws⟩ = pure (ps.zip (pick Value.none perm (us ++ ws)))) :
    KBn K fd ps n ks (fun us ws => pick Value.none perm (us ++ ws)) (fun vs zs => pick V.non perm (vs ++ zs)) := by
  obtain ⟨oc, od, kV, doc, pm, an, cdv, ct, osl, rfl, lk, hcd⟩ := F.ex
  exact ⟨fun s us ws _ l1 l2 => .of_eq (h kV doc pm an cdv ct us ws l1 l2), fun r rz => vals_pick (r.append rz) perm⟩
section
variable {X : Cx} {e a b c : Expr} {es rest : List Expr} {f g h : Ev} {fs gs : EvA} {k j n : Nat} {pos p : Pos} {kws : List Keyword}
def eCall (F : FnD) (perm : List Nat) (fs : EvA) : Ev := fun vw s => (fs vw s).bind fun p => F (pick PyData.none perm p.1) p.2
def aApp (fs gs : EvA) : EvA := fun vw s => (fs vw s).bind fun p => (gs vw p.2).map fun q => (p.1 ++ q.1, q.2)
/-- keyword arguments -/
def wpK (X : Cx) (kws : List Keyword) : TA := fun σ H Q => ∀ pos pins s, Inv X pins σ H s → wpAny (model X.prog X.w) X.A (evalAll ((backToKw pos (keywordEach kws X.env)).map (·.2))) (AP X pins σ Q) X.xe s
theorem wpK_pk : PK X kws (wpK X kws) := ⟨fun pos pins s σ H Q I h => h pos pins s I⟩
theorem wpK.by {t : TA} (h : PK X kws t) {σ : Sg} {H : Hp} {Q : List V → Hp → Prop} (q : t σ H Q) : wpK X kws σ H Q := fun pos pins s I => h.run pos pins s σ H Q I q
def JK (X : Cx) (kws : List Keyword) (f : EvA) : Prop := ∀ A S σ H vw sto d sto' (Q : List V → Hp → Prop), Wd X.K S A H sto → RdV X.K S A σ H vw → f vw sto = some (d, sto') →
  (∀ v H', Ext S H H' → Wd X.K S A H' sto' → RpA X.K S (hid A H') v d → Q v H') → wpK X kws σ H Q
theorem jk_nil : JK X [] aN := fun A S σ H vw sto d sto' Q w r q z => by
  cases q
  exact wpK.by pk_nil (z [] H Ext.refl w .nil)
theorem jk_cons {nm : Option Str} {kpos : Pos} (ha : JP X a f 0) (hr : JK X kws gs) : JK X (⟨nm, a, kpos⟩ :: kws) (aC f gs) := fun A S σ H vw sto d sto' Q w r q z => by
  unfold aC at q
  obtain ⟨⟨x, s1⟩, e1, q⟩ := bind_some' q
  obtain ⟨⟨ys, s2⟩, e2, q⟩ := map_some' q
  cases q
  exact wpK.by (pk_cons wpE_pe wpK_pk) (ha.use w r e1 fun v H1 x1 w1 r1 p1 => hr A S σ H1 vw s1 ys _ _ w1 r1 e2 fun vs H2 x2 w2 p2 =>
    z (v :: vs) H2 (x1.trans x2) w2 (.cons (p1.le (hid_move x2 w1.hS fun a h => .inl h)) p2))
/-- f(e, .., k = v, ..) -/
theorem jp_call {x : Str} {fa : Addr} {fd : FuncData} {ps ks : List Str} {F : FnD} {perm : List Nat} (hF : FnG X.prog X.w X.K X.mg X.base j fa fd ps (spD X.K ps.length F k)) (hr : Room j X.A) (hgu : X.A.guards = some []) (hg : Gl X x) (hm : X.mg x = some (.ref fa)) (hk : PySem.W.keepIn X.K (.ref fa) = true)
    (hb : KBn X.K fd ps n ks (fun us ws => pick Value.none perm (us ++ ws)) (fun vs zs => pick V.non perm (vs ++ zs))) (hn : (e :: es).length = n) (hkn : kws.length = ks.length) (hpl' : perm.length = ps.length)
    (ha : JA X (e :: es) fs 0) (hkw : JK X kws gs) (hfl : ∀ vw s d s', fs vw s = some (d, s') → d.length = n) (hgl : ∀ vw s d s', gs vw s = some (d, s') → d.length = ks.length)
    (hall : (backToKw pos (keywordEach kws X.env)).all (·.1.isSome) = true := by rfl) (hks : (backToKw pos (keywordEach kws X.env)).filterMap (·.1) = ks := by rfl)
    (hdb : (x == ("__debug__" : Str)) = false := by decide) (he : starEach (e :: es) X.env = (false, eval e X.env) :: starEach es X.env := by rfl)
    (hpl : ((backTo pos (starEach (e :: es) X.env)).any (·.1) || (backToKw pos (keywordEach kws X.env)).any (·.1.isNone)) = false := by rfl) :
    JP X (.Call (.Name x p) (e :: es) kws pos) (eCall F perm (aApp fs gs)) k := fun A S σ H vw sto d sto' Q w r q z => by
  unfold eCall aApp at q
  obtain ⟨⟨xs, s1⟩, e1, q⟩ := bind_some' q
  obtain ⟨⟨x1, s2⟩, e2, e1⟩ := bind_some' e1
  obtain ⟨⟨x2, s3⟩, e3, e1⟩ := map_some' e1
  cases e1
  intro pins s I
  refine wpAny_Call_Name_kw (ld_glob I hg hm ?_ hdb)
  refine PySem.W.callWith_KW (h₀ := X.base) I.ok.mod.kin hk hall (thn (ha.use (Q := fun vs H1 => Ext S H H1 ∧ Wd X.K S A H1 s2 ∧ RdV X.K S A σ H1 vw ∧ RpA X.K S (hid A H1) vs x1) w r e2 (fun vs H1 x1 w1 r1 p1 => ⟨x1, w1, r1, p1⟩) pos pins s I) fun us t1 hq => ?_) hpl he
  obtain ⟨vs, H1, I1, rv, y1, w1, r1, p1⟩ := hq
  refine thn (hkw A S σ H1 vw s2 x2 _ (fun zs H2 => Ext S H1 H2 ∧ Wd X.K S A H2 s3 ∧ RpA X.K S (hid A H2) zs x2) w1 r1 e3 (fun zs H2 y2 w2 p2 => ⟨y2, w2, p2⟩) pos pins t1 I1) fun ws t2 hq => ?_
  obtain ⟨zs, H2, I2, rz, y2, w2, p2⟩ := hq
  refine ⟨I2.kIn, ?_⟩
  rw [hks]
  have l1 : vs.length = n := by rw [p1.length]; exact hfl _ _ _ _ e2
  have l2 : zs.length = ks.length := by rw [p2.length]; exact hgl _ _ _ _ e3
  have pp : RpA X.K S (hid A H2) (vs ++ zs) (x1 ++ x2) := (p1.le (hid_move y2 w1.hS fun a h => .inl h)).append p2
  exact run_fg hF hr hgu hb I2 rv rz l1 l2 ⟨A, S, _, s3, d, sto', by unfold pick; rw [List.length_map]; exact hpl', w2, rpa_pick pp perm, q, fun v H' F' rs => z v H' F' (rs.later (y1.trans y2) w2)⟩
/-- f(k = v, ..) and f() -/
theorem jp_call0 {x : Str} {fa : Addr} {fd : FuncData} {ps ks : List Str} {F : FnD} {perm : List Nat} (hF : FnG X.prog X.w X.K X.mg X.base j fa fd ps (spD X.K ps.length F k)) (hr : Room j X.A) (hgu : X.A.guards = some []) (hg : Gl X x) (hm : X.mg x = some (.ref fa)) (hk : PySem.W.keepIn X.K (.ref fa) = true)
    (hb : KBn X.K fd ps 0 ks (fun us ws => pick Value.none perm (us ++ ws)) (fun vs zs => pick V.non perm (vs ++ zs))) (hkn : kws.length = ks.length) (hpl' : perm.length = ps.length)
    (hkw : JK X kws gs) (hgl : ∀ vw s d s', gs vw s = some (d, s') → d.length = ks.length)
    (hall : (backToKw pos (keywordEach kws X.env)).all (·.1.isSome) = true := by rfl) (hks : (backToKw pos (keywordEach kws X.env)).filterMap (·.1) = ks := by rfl)
    (hdb : (x == ("__debug__" : Str)) = false := by decide)
    (hpl : ((backTo pos (starEach [] X.env)).any (·.1) || (backToKw pos (keywordEach kws X.env)).any (·.1.isNone)) = false := by rfl) :
    JP X (.Call (.Name x p) [] kws pos) (eCall F perm gs) k := fun A S σ H vw sto d sto' Q w r q z => by
  unfold eCall at q
  obtain ⟨⟨x2, s3⟩, e3, q⟩ := bind_some' q
  intro pins s I
  refine wpAny_Call_Name_kw (ld_glob I hg hm ?_ hdb)
  refine PySem.W.callWith_KW0 (h₀ := X.base) I.ok.mod.kin hk hall ?_ hpl
  refine thn (hkw A S σ H vw sto x2 _ (fun zs H2 => Ext S H H2 ∧ Wd X.K S A H2 s3 ∧ RpA X.K S (hid A H2) zs x2) w r e3 (fun zs H2 y2 w2 p2 => ⟨y2, w2, p2⟩) pos pins s I) fun ws t2 hq => ?_
  obtain ⟨zs, H2, I2, rz, y2, w2, p2⟩ := hq
  refine ⟨I2.kIn, ?_⟩
  rw [hks]
  have l2 : zs.length = ks.length := by rw [p2.length]; exact hgl _ _ _ _ e3
  exact run_fg (vs := []) (us := []) hF hr hgu hb I2 .nil rz rfl l2 ⟨A, S, _, s3, d, sto', by unfold pick; rw [List.length_map]; exact hpl', w2, rpa_pick (by rw [List.nil_append]; exact p2) perm, q, fun v H' F' rs => z v H' F' (rs.later y2 w2)⟩
theorem len_aN : ∀ vw s d s', aN vw s = some (d, s') → d.length = 0 := fun vw s d s' h => by cases h; rfl
theorem len_aC {n : Nat} (hg : ∀ vw s d s', gs vw s = some (d, s') → d.length = n) : ∀ vw s d s', aC f gs vw s = some (d, s') → d.length = n + 1 := fun vw s d s' h => by
  unfold aC at h
  obtain ⟨⟨x, s1⟩, e1, h⟩ := bind_some' h
  obtain ⟨⟨ys, s2⟩, e2, h⟩ := map_some' h
  cases h
  exact congrArg (· + 1) (hg _ _ _ _ e2)

/-! ### sorted -/
def allAlike (ds : List D) : Bool := ds.all fun x => ds.all fun y => PySem.W.alike x y
def notTup : D → Bool
  | .none => false
  | .tuple _ => false
  | _ => true
def headTup : D → Bool
  | .tuple (_ :: _) => true
  | _ => false
def sortOk (ds : List D) : Bool := allAlike ds && (ds.all notTup || ds.all headTup) && SeqAt.shaped (.list ds)
def srt (ds : List D) : List D := isort (PySem.W.dataLe false id) ds
theorem srt_eq (ds : List D) : srt ds = ds.mergeSort (PySem.W.dataLe false id) := isort_eq (PySem.W.sortLe_total _ _ _).trans (fun a b => by
  rcases (PySem.W.sortLe_total (PyProof.Rows.listOrd PyProof.Rows.itemOrd) false fun b : D => PySem.W.keyToks (id b)).total a b with h | h
  · show (PySem.W.sortLe _ _ _ a b || _) = true; rw [h]; rfl
  · show (_ || PySem.W.sortLe _ _ _ b a) = true; rw [h]; exact Bool.or_true _) ds
end
end J
namespace J
open PySem PySem.Spec PyProof.Rows L2

/-! ### slots -/
inductive Slot where
  | no
  | sh (d : D)
  | ow (k : Nat) (d : D)
abbrev Env := List Slot
/-- what an expression sees that names the slots M -/
def seeS (m : Bool) : Slot → Option D
  | .no => none
  | .sh d => some d
  | .ow _ d => if m = true then some d else none
def seeI (M : List Nat) : Nat → Env → VW
  | _, [] => []
  | n, s :: r => seeS (M.contains n) s :: seeI M (n + 1) r
def see (M : List Nat) (env : Env) : VW := seeI M 0 env
theorem seeI_len (M : List Nat) : ∀ (n : Nat) (env : Env), (seeI M n env).length = env.length
  | _, [] => rfl
  | n, s :: r => congrArg (· + 1) (seeI_len M (n + 1) r)
theorem seeI_get (M : List Nat) : ∀ (n : Nat) (env : Env) (i : Nat), (seeI M n env)[i]? = (env[i]?).map (seeS (M.contains (n + i)))
  | _, [], i => by simp [seeI]
  | n, s :: r, 0 => by simp [seeI]
  | n, s :: r, i + 1 => by
    have := seeI_get M (n + 1) r i
    rw [show n + 1 + i = n + (i + 1) by omega] at this
    simpa [seeI] using this
theorem see_get (M : List Nat) (env : Env) (i : Nat) : (see M env)[i]? = (env[i]?).map (seeS (M.contains i)) := by
  have := seeI_get M 0 env i
  rwa [Nat.zero_add] at this
/-- what was owned by the slots M is given to all -/
def fzS (m : Bool) : Slot → Slot
  | .ow k d => if m = true then .sh d else .ow k d
  | s => s
def fzI (M : List Nat) : Nat → Env → Env
  | _, [] => []
  | n, s :: r => fzS (M.contains n) s :: fzI M (n + 1) r
def fz (M : List Nat) (env : Env) : Env := fzI M 0 env
theorem fzI_len (M : List Nat) : ∀ (n : Nat) (env : Env), (fzI M n env).length = env.length
  | _, [] => rfl
  | n, s :: r => congrArg (· + 1) (fzI_len M (n + 1) r)
theorem fzI_get (M : List Nat) : ∀ (n : Nat) (env : Env) (i : Nat), (fzI M n env)[i]? = (env[i]?).map (fzS (M.contains (n + i)))
  | _, [], i => by simp [fzI]
  | n, s :: r, 0 => by simp [fzI]
  | n, s :: r, i + 1 => by
    have := fzI_get M (n + 1) r i
    rw [show n + 1 + i = n + (i + 1) by omega] at this
    simpa [fzI] using this
theorem fz_get (M : List Nat) (env : Env) (i : Nat) : (fz M env)[i]? = (env[i]?).map (fzS (M.contains i)) := by
  have := fzI_get M 0 env i
  rwa [Nat.zero_add] at this

abbrev hd (S : List Addr) (Fs : Nat → List Addr) (A0 : Addr → Prop) : Addr → Prop := fun a => (∃ i, a ∈ Fs i) ∨ A0 a ∨ a ∈ S
/-- hidden while an expression is run that names the slots M -/
abbrev hdM (S : List Addr) (M : List Nat) (Fs : Nat → List Addr) (A0 : Addr → Prop) : Addr → Prop := fun a => (∃ i, M.contains i = false ∧ a ∈ Fs i) ∨ A0 a ∨ a ∈ S
def SlotOk (K : PySem.W.Frag) (S : List Addr) (A : Addr → Prop) (H : Hp) (v : Option (Option V)) (F : List Addr) : Slot → Prop
  | .no => True
  | .sh d => F = [] ∧ ∃ u, v = some (some u) ∧ Rp K S (hid A H) u d
  | .ow k d => ∃ u, v = some (some u) ∧ Ow K S A H k u d F
structure Sr (K : PySem.W.Frag) (C : Hp) (S0 S : List Addr) (A0 : Addr → Prop) (H0 : Hp) (σ : Sg) (H : Hp) (env : Env) (sto : STO) (Fs : Nat → List Addr) : Prop where
  len : env.length = σ.length
  s0 : ∃ S1, S = S0 ++ S1 ∧ ∀ a ∈ S1, H0 a = none
  al0 : ∀ a, A0 a → H0 a ≠ none
  a0S : ∀ a, a ∈ S0 → A0 a
  ext : Ext S0 H0 H
  wd : Wd K S (hd S Fs A0) H sto
  nd : ∀ i, (Fs i).Nodup
  dj : ∀ i j a, a ∈ Fs i → a ∈ Fs j → i = j
  fr : ∀ i a, a ∈ Fs i → H0 a = none
  ns : ∀ i a, a ∈ Fs i → a ∉ S
  sl : ∀ i s, env[i]? = some s → SlotOk K S (hd S Fs A0) H σ[i]? (Fs i) s
  out : ∀ i, env[i]? = none → Fs i = []
  pub : Same C (hid (hd S Fs A0) H)

section
variable {K : PySem.W.Frag} {C : Hp} {S0 S : List Addr} {A0 : Addr → Prop} {H0 H H' : Hp} {σ : Sg} {env : Env} {sto sto' : STO} {Fs : Nat → List Addr} {M : List Nat} {k : Nat} {v : V} {d : D} {F : List Addr}
theorem Sr.ext' (r : Sr K C S0 S A0 H0 σ H env sto Fs) (e : Ext S H H') : Ext S0 H0 H' := fun a o hS h => by
  refine e a o (fun z => ?_) (r.ext a o hS h)
  obtain ⟨S1, q, q2⟩ := r.s0
  rw [q] at z
  rcases List.mem_append.mp z with z | z
  · exact hS z
  · rw [q2 a z] at h; cases h
theorem Sr.notM (r : Sr K C S0 S A0 H0 σ H env sto Fs) {i : Nat} (h : M.contains i = true) : ∀ a ∈ Fs i, ¬ hdM S M Fs A0 a := fun a ha z => by
  rcases z with ⟨j, hj, q⟩ | q | q
  · have := r.dj i j a ha q
    subst this
    rw [h] at hj; cases hj
  · exact r.al0 a q (r.fr i a ha)
  · exact r.ns i a ha q
theorem hdM_le : ∀ a, hdM S M Fs A0 a → hd S Fs A0 a := fun a h => by
  rcases h with ⟨i, _, h⟩ | h
  · exact .inl ⟨i, h⟩
  · exact .inr h
theorem Sr.wdM (r : Sr K C S0 S A0 H0 σ H env sto Fs) (M : List Nat) : Wd K S (hdM S M Fs A0) H sto := r.wd.less hdM_le fun a e => .inr (.inr e)
theorem Sr.rdM (r : Sr K C S0 S A0 H0 σ H env sto Fs) (M : List Nat) : RdV K S (hdM S M Fs A0) σ H (see M env) := by
  refine ⟨by unfold see; rw [seeI_len, r.len]; exact Nat.le_refl _, fun i d h => ?_⟩
  rw [see_get] at h
  cases e : env[i]? with
  | none => rw [e] at h; cases h
  | some s =>
    rw [e] at h
    have h' : seeS (M.contains i) s = some d := Option.some.inj h
    have q := r.sl i s e
    cases s with
    | no => cases h'
    | sh d' =>
      cases h'
      obtain ⟨_, u, e1, e2⟩ := q
      exact ⟨u, e1, e2.le (hid_le hdM_le)⟩
    | ow k d' =>
      have h' : (if M.contains i = true then some d' else none) = some d := h'
      split at h'
      · rename_i hm
        cases h'
        obtain ⟨u, e1, e2⟩ := q
        exact ⟨u, e1, e2.rp hdM_le (r.notM hm)⟩
      · cases h'
/-- the slots M frozen -/
def fzF (M : List Nat) (Fs : Nat → List Addr) : Nat → List Addr := fun i => if M.contains i = true then [] else Fs i
theorem hd_fz : hd S (fzF M Fs) A0 = hdM S M Fs A0 := by
  funext a
  simp only [eq_iff_iff]
  constructor
  · rintro (⟨i, h⟩ | h)
    · unfold fzF at h
      split at h
      · exact nomatch h
      · rename_i hm
        exact .inl ⟨i, by simpa using hm, h⟩
    · exact .inr h
  · rintro (⟨i, hm, h⟩ | h)
    · exact .inl ⟨i, by unfold fzF; rw [if_neg (by rw [hm]; decide)]; exact h⟩
    · exact .inr h
theorem Sr.freeze (r : Sr K C S0 S A0 H0 σ H env sto Fs) (M : List Nat) : Sr K C S0 S A0 H0 σ H (fz M env) sto (fzF M Fs) := by
  have sub : ∀ i a, a ∈ fzF M Fs i → a ∈ Fs i := fun i a h => by
    unfold fzF at h
    split at h
    · exact nomatch h
    · exact h
  refine ⟨by unfold fz; rw [fzI_len]; exact r.len, r.s0, r.al0, r.a0S, r.ext, by rw [hd_fz]; exact r.wdM M, fun i => ?_, fun i j a h1 h2 => r.dj i j a (sub i a h1) (sub j a h2), fun i a h => r.fr i a (sub i a h), fun i a h => r.ns i a (sub i a h), fun i s h => ?_, fun i h => ?_, fun a o h => by rw [hd_fz]; exact hid_le hdM_le a o (r.pub a o h)⟩
  · unfold fzF
    split
    · exact .nil
    · exact r.nd i
  · rw [hd_fz]
    rw [fz_get] at h
    cases e : env[i]? with
    | none => rw [e] at h; cases h
    | some t =>
      rw [e] at h
      have h' : fzS (M.contains i) t = s := Option.some.inj h
      have q := r.sl i t e
      cases t with
      | no =>
        cases h'
        exact trivial
      | sh d' =>
        cases h'
        obtain ⟨q1, u, e1, e2⟩ := q
        refine ⟨?_, u, e1, e2.le (hid_le hdM_le)⟩
        unfold fzF
        split
        · rfl
        · exact q1
      | ow k d' =>
        have h' : (if M.contains i = true then Slot.sh d' else .ow k d') = s := h'
        obtain ⟨u, e1, e2⟩ := q
        split at h'
        · rename_i hm
          subst h'
          exact ⟨by unfold fzF; rw [if_pos hm], u, e1, e2.rp hdM_le (r.notM hm)⟩
        · rename_i hm
          subst h'
          refine ⟨u, e1, ?_⟩
          have ef : fzF M Fs i = Fs i := by unfold fzF; rw [if_neg hm]
          rw [ef]
          exact e2.mv (hid_le hdM_le) fun a _ o ho => ho
  · have e : env[i]? = none := by
      rw [fz_get] at h
      cases e : env[i]? with
      | none => rfl
      | some t => rw [e] at h; cases h
    unfold fzF
    split
    · rfl
    · exact r.out i e
/-- the heap went on behind an expression: the slots stand -/
theorem Sr.go (r : Sr K C S0 S A0 H0 σ H env sto Fs) (e : Ext S H H') (w : Wd K S (hd S Fs A0) H' sto') : Sr K C S0 S A0 H0 σ H' env sto' Fs := by
  refine ⟨r.len, r.s0, r.al0, r.a0S, r.ext' e, w, r.nd, r.dj, r.fr, r.ns, fun i s h => ?_, r.out, fun a o h => hid_move e r.wd.hS (fun a h => .inl h) a o (r.pub a o h)⟩
  have q := r.sl i s h
  cases s with
  | no => exact q
  | sh d' =>
    obtain ⟨q1, u, e1, e2⟩ := q
    exact ⟨q1, u, e1, e2.le (hid_move e r.wd.hS fun a h => .inl h)⟩
  | ow k d' =>
    obtain ⟨u, e1, e2⟩ := q
    exact ⟨u, e1, e2.move e r.wd.hS (fun a h => .inl h) fun a ha => r.ns i a ha⟩
/-- a slot takes a result -/
def setF (Fs : Nat → List Addr) (i : Nat) (F : List Addr) : Nat → List Addr := fun j => if j = i then F else Fs j
def mkS (k : Nat) (d : D) : Slot := match k with
  | 0 => .sh d
  | k + 1 => if isScal d = true then .sh d else .ow (k + 1) d
end
end J
namespace J
open PySem PySem.Spec PyProof.Rows L2

/-! ### results that bear nothing but themselves -/
def full : Nat → D → Bool
  | k + 1, .list ds => ds.all (full k)
  | _, d => isScal d
theorem full_zero {d : D} : full 0 d = isScal d := by cases d <;> rfl
theorem full_at {k : Nat} {d : D} (h1 : ∀ ds, d ≠ .list ds) (h : full k d = true) : isScal d = true := by
  cases k with
  | zero => rwa [full_zero] at h
  | succ k =>
    cases d with
    | list ds => exact absurd rfl (h1 ds)
    | _ => exact h
section
variable {K : PySem.W.Frag} {S S' : List Addr} {A A' : Addr → Prop} {H H' : Hp}
mutual
theorem Ow.full : ∀ {k : Nat} {v : V} {d : D} {F : List Addr}, Ow K S A H k v d F → J.full k d = true → Ow K S' A' H k v d F
  | _, _, _, _, .sh r, h => .sh (scal_rp (by rw [full_zero] at h; exact h) r)
  | _, _, _, _, .at h1 h2 r, h => .at h1 h2 (scal_rp (full_at h1 h) r)
  | _, _, _, _, .lst e t, h => .lst e (t.full (by unfold J.full at h; exact h))
theorem OwA.full : ∀ {k : Nat} {vs : List V} {ds : List D} {F : List Addr}, OwA K S A H k vs ds F → ds.all (J.full k) = true → OwA K S' A' H k vs ds F
  | _, _, _, _, .nil, _ => .nil
  | _, _, _, _, .cons a b, h => by
    rw [List.all_cons, Bool.and_eq_true] at h
    exact .cons (a.full h.1) (b.full h.2)
end
theorem Ow.noF {k : Nat} {v : V} {d : D} {F : List Addr} (h : Ow K S A H k v d F) (hs : isScal d = true) : F = [] := by
  cases h with
  | sh r => rfl
  | «at» h1 h2 r => rfl
  | lst e t => exact nomatch hs
theorem Ow.scal {k : Nat} {v : V} {d : D} {F : List Addr} (h : Ow K S A H k v d F) (hs : isScal d = true) : Rp K S' H' v d := by
  cases h with
  | sh r => exact scal_rp hs r
  | «at» h1 h2 r => exact scal_rp hs r
  | lst e t => exact nomatch hs
def scalCell : Cell → Bool
  | .lst ds => ds.all isScal
  | .dct _ es => es.all fun p => isScal p.2
  | .tbl _ _ => true
  | .fdc _ es => es.all fun p => isScal p.2
def okM (M : List Nat) (s : STO) : Bool := M.isEmpty || s.all scalCell
theorem okM_nil (s : STO) : okM [] s = true := rfl
theorem scal_rpk {K : PySem.W.Frag} {S S' : List Addr} {H H' : Hp} : ∀ {kvs : List (Key × V)} {es : List (D × D)}, (∀ p ∈ es, isScal p.2 = true) → RpK K S H kvs es → RpK K S' H' kvs es
  | _, _, _, .nil => .nil
  | _, _, h, .cons a b => .cons (scal_rp (h _ List.mem_cons_self) a) (scal_rpk (fun x hx => h x (List.mem_cons_of_mem _ hx)) b)
theorem scal_rpt {K : PySem.W.Frag} {S S' : List Addr} {H H' : Hp} : ∀ {kvs : List (List Key × V)} {es : List (D × D)}, (∀ p ∈ es, isScal p.2 = true) → RpT K S H kvs es → RpT K S' H' kvs es
  | _, _, _, .nil => .nil
  | _, _, h, .cons a b => .cons (scal_rp (h _ List.mem_cons_self) a) (scal_rpt (fun x hx => h x (List.mem_cons_of_mem _ hx)) b)
/-- more is hidden behind a step that did not -/
theorem Wd.wide {A2 : Addr → Prop} {sto sto' : STO} (w2 : Wd K S A2 H sto) (x : Ext S H H') (w : Wd K S A H' sto') (g : A2 = A ∨ sto'.all scalCell = true) : Wd K S A2 H' sto' := by
  rcases g with rfl | g
  · exact w
  · refine ⟨fun a ha => ?_, w2.hS, w.nds, w.len, fun i a c h1 h2 => ?_⟩
    · by_cases e : a ∈ S
      · exact w.alt a (w.hS a e)
      · cases q : H a with
        | none => exact absurd q (w2.al a ha)
        | some o => rw [x a o e q, ← q]; exact w2.alt a ha
    · have ok := w.st i a c h1 h2
      have hc : scalCell c = true := List.all_eq_true.mp g c (List.mem_of_getElem? h2)
      cases c with
      | lst ds => obtain ⟨vs, q1, q2⟩ := ok; exact ⟨vs, q1, scal_rpa (fun x hx => List.all_eq_true.mp hc x hx) q2⟩
      | dct t es =>
        cases t with
        | false => obtain ⟨kvs, q1, q2⟩ := ok; exact ⟨kvs, q1, scal_rpk (fun x hx => List.all_eq_true.mp hc x hx) q2⟩
        | true => obtain ⟨kvs, q1, q2⟩ := ok; exact ⟨kvs, q1, scal_rpt (fun x hx => List.all_eq_true.mp hc x hx) q2⟩
      | tbl q P => exact  ok
      | fdc t es =>
        cases t with
        | false => obtain ⟨o, kvs, q1, q2⟩ := ok; exact ⟨o, kvs, q1, scal_rpk (fun x hx => List.all_eq_true.mp hc x hx) q2⟩
        | true => obtain ⟨o, kvs, q1, q2⟩ := ok; exact ⟨o, kvs, q1, scal_rpt (fun x hx => List.all_eq_true.mp hc x hx) q2⟩
theorem Res.full {sto sto' : STO} {k : Nat} {v : V} {d : D} {F : List Addr} {A2 : Addr → Prop} (h : J.full k d = true) (r : Res K S A H sto' k H' v d F) (w2 : Wd K S A2 H sto) (g : A2 = A ∨ sto'.all scalCell = true) : Res K S A2 H sto' k H' v d F := by
  rcases g with rfl | g
  · exact r
  · refine ⟨r.ext, ⟨fun a ha => ?_, fun a e => .inr (w2.hS a e), r.wd.nds, r.wd.len, fun i a c h1 h2 => ?_⟩, r.nd, r.fr, r.ow.full h⟩
    · rcases ha with ha | ha
      · exact r.wd.alt a (.inl ha)
      · by_cases e : a ∈ S
        · exact r.wd.alt a (r.wd.hS a e)
        · cases q : H a with
          | none => exact absurd q (w2.al a ha)
          | some o => rw [r.ext a o e q, ← q]; exact w2.alt a ha
    · have ok := r.wd.st i a c h1 h2
      have hc : scalCell c = true := List.all_eq_true.mp g c (List.mem_of_getElem? h2)
      cases c with
      | lst ds => obtain ⟨vs, q1, q2⟩ := ok; exact ⟨vs, q1, scal_rpa (fun x hx => List.all_eq_true.mp hc x hx) q2⟩
      | dct t es =>
        cases t with
        | false => obtain ⟨kvs, q1, q2⟩ := ok; exact ⟨kvs, q1, scal_rpk (fun x hx => List.all_eq_true.mp hc x hx) q2⟩
        | true => obtain ⟨kvs, q1, q2⟩ := ok; exact ⟨kvs, q1, scal_rpt (fun x hx => List.all_eq_true.mp hc x hx) q2⟩
      | tbl q P => exact  ok
      | fdc t es =>
        cases t with
        | false => obtain ⟨o, kvs, q1, q2⟩ := ok; exact ⟨o, kvs, q1, scal_rpk (fun x hx => List.all_eq_true.mp hc x hx) q2⟩
        | true => obtain ⟨o, kvs, q1, q2⟩ := ok; exact ⟨o, kvs, q1, scal_rpt (fun x hx => List.all_eq_true.mp hc x hx) q2⟩
end

/-! ### a slot is set -/
section
variable {K : PySem.W.Frag} {C : Hp} {S0 S : List Addr} {A0 : Addr → Prop} {H0 H H' : Hp} {σ : Sg} {env : Env} {sto sto' : STO} {Fs : Nat → List Addr} {M : List Nat} {k : Nat} {v : V} {d : D} {F : List Addr} {i : Nat}
theorem Sr.old (r : Sr K C S0 S A0 H0 σ H env sto Fs) {a : Addr} (h : H a = none) : H0 a = none := by
  refine none_of_ext r.ext (fun e => ?_) h
  obtain ⟨S1, q, _⟩ := r.s0
  exact r.wd.al a (.inr (.inr (by rw [q]; exact List.mem_append_left _ e))) h
theorem Sr.inS0 (r : Sr K C S0 S A0 H0 σ H env sto Fs) {b : Addr} {o : HO} (z : b ∈ S) (hbo : H0 b = some o) : b ∈ S0 := by
  obtain ⟨S1, q, q2⟩ := r.s0
  rw [q] at z
  rcases List.mem_append.mp z with z | z
  · exact z
  · rw [q2 b z] at hbo; cases hbo
theorem hd_set (r : Sr K C S0 S A0 H0 σ H env sto Fs) : ∀ a, hd S (setF Fs i F) A0 a → a ∈ F ∨ hd S Fs A0 a := fun a h => by
  rcases h with ⟨j, h⟩ | h
  · unfold setF at h
    split at h
    · exact .inl h
    · exact .inr (.inl ⟨j, h⟩)
  · exact .inr (.inr h)
/-- what a slot takes: the general step; what it owned before may have been changed -/
theorem Sr.mut (r : Sr K C S0 S A0 H0 σ H env sto Fs) (hi : i < env.length) (e : ∀ b o, b ∉ S → b ∉ Fs i → H b = some o → H' b = some o) (w : Wd K S (plus F (hd S Fs A0)) H' sto') (nd : F.Nodup) (fr : ∀ a ∈ F, H a = none ∨ a ∈ Fs i) {s : Slot} {ov : Option V}
    (hs : SlotOk K S (hd S (setF Fs i F) A0) H' (some ov) F s) : Sr K C S0 S A0 H0 (σ.set i ov) H' (env.set i s) sto' (setF Fs i F) := by
  have hiσ : i < σ.length := by rw [← r.len]; exact hi
  have hnew : ∀ a, hd S (setF Fs i F) A0 a → hd S Fs A0 a ∨ H a = none := fun a h => by
    rcases hd_set r a h with h | h
    · rcases fr a h with h | h
      · exact .inr h
      · exact .inl (.inl ⟨i, h⟩)
    · exact .inl h
  have hm : Same (hid (hd S Fs A0) H) (hid (hd S (setF Fs i F) A0) H') := fun a o q => by
    rw [hid_eq] at q ⊢
    refine ⟨fun z => ?_, e a o (fun z => q.1 (.inr (.inr z))) (fun z => q.1 (.inl ⟨i, z⟩)) q.2⟩
    rcases hnew a z with z | z
    · exact q.1 z
    · rw [z] at q; exact nomatch q.2
  have hx : Ext S0 H0 H' := fun b o hb hbo => by
    refine e b o (fun z => ?_) (fun z => ?_) (r.ext b o hb hbo)
    · exact hb (r.inS0 z hbo)
    · rw [r.fr i b z] at hbo; cases hbo
  refine ⟨by rw [List.length_set, List.length_set]; exact r.len, r.s0, r.al0, r.a0S, hx, w.less (hd_set r) (fun a e => .inr (.inr e)), fun j => ?_, fun j l a h1 h2 => ?_, fun j a h => ?_, fun j a h => ?_, fun j t h => ?_, fun j h => ?_, fun a o h => hm a o (r.pub a o h)⟩
  · unfold setF
    split
    · exact nd
    · exact r.nd j
  · unfold setF at h1 h2
    split at h1 <;> split at h2
    · rename_i e1 e2; rw [e1, e2]
    · rename_i e1 e2
      rcases fr a h1 with h | h
      · exact absurd h (r.wd.al a (.inl ⟨l, h2⟩))
      · exact e1.trans (r.dj i l a h h2)
    · rename_i e1 e2
      rcases fr a h2 with h | h
      · exact absurd h (r.wd.al a (.inl ⟨j, h1⟩))
      · exact (r.dj j i a h1 h).trans e2.symm
    · exact r.dj j l a h1 h2
  · unfold setF at h
    split at h
    · rcases fr a h with h | h
      · exact r.old h
      · exact r.fr i a h
    · exact r.fr j a h
  · unfold setF at h
    split at h
    · rcases fr a h with h | h
      · exact r.wd.live h
      · exact r.ns i a h
    · exact r.ns j a h
  · by_cases c : j = i
    · subst c
      rw [List.getElem?_set, if_pos rfl, if_pos hi] at h
      cases h
      rw [List.getElem?_set, if_pos rfl, if_pos hiσ]
      have : setF Fs j F j = F := by unfold setF; rw [if_pos rfl]
      rw [this]
      exact hs
    · rw [List.getElem?_set_ne (Ne.symm c)] at h ⊢
      have : setF Fs i F j = Fs j := by unfold setF; rw [if_neg c]
      rw [this]
      have q := r.sl j t h
      cases t with
      | no => exact q
      | sh d' =>
        obtain ⟨q1, u, e1, e2⟩ := q
        exact ⟨q1, u, e1, e2.le hm⟩
      | ow k d' =>
        obtain ⟨u, e1, e2⟩ := q
        exact ⟨u, e1, e2.mv hm fun a ha o q => e a o (r.ns j a ha) (fun z => c (r.dj j i a ha z)) q⟩
  · rw [List.getElem?_eq_none_iff, List.length_set] at h
    have c : j ≠ i := by omega
    unfold setF
    rw [if_neg c]
    exact r.out j (List.getElem?_eq_none h)
/-- a slot takes what is new -/
theorem Sr.take (r : Sr K C S0 S A0 H0 σ H env sto Fs) (hi : i < env.length) (e : Ext S H H') (w : Wd K S (plus F (hd S Fs A0)) H' sto') (nd : F.Nodup) (fr : ∀ a ∈ F, H a = none) {s : Slot} {ov : Option V}
    (hs : SlotOk K S (hd S (setF Fs i F) A0) H' (some ov) F s) : Sr K C S0 S A0 H0 (σ.set i ov) H' (env.set i s) sto' (setF Fs i F) :=
  r.mut hi (fun b o h _ q => e b o h q) w nd (fun a h => .inl (fr a h)) hs
/-- a slot takes a result -/
theorem Sr.put (r : Sr K C S0 S A0 H0 σ H env sto Fs) (hi : i < env.length) (rs : Res K S (hd S Fs A0) H sto' k H' v d F) : Sr K C S0 S A0 H0 (σ.set i (some v)) H' (env.set i (mkS k d)) sto' (setF Fs i F) := by
  refine r.take hi rs.ext rs.wd rs.nd rs.fr ?_
  have le : Same (hid (plus F (hd S Fs A0)) H') (hid (hd S (setF Fs i F) A0) H') := hid_le (hd_set r)
  have ow := rs.ow
  cases k with
  | zero =>
    cases ow with
    | sh q => exact ⟨rfl, v, rfl, q.le le⟩
  | succ k =>
    by_cases h : isScal d = true
    · rw [show mkS (k + 1) d = .sh d from if_pos h]
      exact ⟨ow.noF h, v, rfl, ow.scal h⟩
    · rw [show mkS (k + 1) d = .ow (k + 1) d from if_neg h]
      exact ⟨v, rfl, ow.mv le fun a _ o q => q⟩
/-- a slot takes what is given to all -/
theorem Sr.putS (r : Sr K C S0 S A0 H0 σ H env sto Fs) (hi : i < env.length) (p : Rp K S (hid (hd S Fs A0) H) v d) : Sr K C S0 S A0 H0 (σ.set i (some v)) H (env.set i (.sh d)) sto (setF Fs i []) :=
  r.put (k := 0) hi ⟨Ext.refl, by rw [plus_nil]; exact r.wd, .nil, noF, .sh (by rw [plus_nil]; exact p)⟩
/-- a slot is not looked at any more -/
theorem Sr.drop (r : Sr K C S0 S A0 H0 σ H env sto Fs) (hi : i < env.length) (ov : Option V) : Sr K C S0 S A0 H0 (σ.set i ov) H (env.set i .no) sto (setF Fs i []) :=
  r.take hi Ext.refl (by rw [plus_nil]; exact r.wd) .nil noF trivial
def setE (env : Env) : List (Nat × D) → Env
  | [] => env
  | (i, d) :: r => setE (env.set i (.sh d)) r
def allLt (n : Nat) (l : List (Nat × D)) : Bool := l.all fun p => decide (p.1 < n)
theorem Sr.putL : ∀ {l : List (Nat × D)} {vl : List (Nat × V)} {σ : Sg} {env : Env} {Fs : Nat → List Addr}, Sr K C S0 S A0 H0 σ H env sto Fs → allLt env.length l = true → SlotsR K S (hid (hd S Fs A0) H) vl l → ∃ Fs', Sr K C S0 S A0 H0 (setS σ vl) H (setE env l) sto Fs' ∧ ∀ a, hd S Fs' A0 a → hd S Fs A0 a
  | [], _, σ, env, Fs, r, _, .nil => ⟨Fs, r, fun _ h => h⟩
  | (j, d) :: l, _, σ, env, Fs, r, hl, .cons (a := (i, v)) e t => by
    obtain ⟨rfl, p⟩ := e
    rw [allLt, List.all_cons, Bool.and_eq_true] at hl
    have r1 := r.putS (of_decide_eq_true hl.1) p
    have sub : ∀ a, hd S (setF Fs i []) A0 a → hd S Fs A0 a := fun a h => by
      rcases h with ⟨j, h⟩ | h
      · unfold setF at h
        split at h
        · exact nomatch h
        · exact .inl ⟨j, h⟩
      · exact .inr h
    have mono : ∀ {vl : List (Nat × V)} {l : List (Nat × D)}, SlotsR K S (hid (hd S Fs A0) H) vl l → SlotsR K S (hid (hd S (setF Fs i []) A0) H) vl l := fun h => by
      induction h with
      | nil => exact .nil
      | cons e t ih => exact .cons ⟨e.1, e.2.le (hid_le sub)⟩ ih
    obtain ⟨Fs', r2, s2⟩ := Sr.putL (l := l) r1 (by rw [allLt, List.length_set]; exact hl.2) (mono t)
    exact ⟨Fs', r2, fun a h => sub a (s2 a h)⟩

/-! ### an expression within a statement -/
def fzIf (k : Nat) (d : D) (M : List Nat) (s : STO) (env : Env) : Env := if (full k d && okM M s) = true then env else fz M env
/-- the same behind a test -/
def fzT (M : List Nat) (s : STO) (env : Env) : Env := if okM M s = true then env else fz M env
theorem fzIf_len (k : Nat) (d : D) (M : List Nat) (s : STO) (env : Env) : (fzIf k d M s env).length = env.length := by
  unfold fzIf
  split
  · rfl
  · unfold fz; rw [fzI_len]
theorem okM_g {M : List Nat} {s : STO} (h : okM M s = true) : hd S Fs A0 = hdM S M Fs A0 ∨ s.all scalCell = true := by
  unfold okM at h
  rw [Bool.or_eq_true] at h
  rcases h with h | h
  · left
    have : M = [] := List.isEmpty_iff.mp h
    subst this
    funext a
    simp only [eq_iff_iff]
    constructor
    · rintro (⟨i, h⟩ | h)
      · exact .inl ⟨i, rfl, h⟩
      · exact .inr h
    · exact hdM_le a
  · exact .inr h
theorem Sr.evalR (r : Sr K C S0 S A0 H0 σ H env sto Fs) (rs : Res K S (hdM S M Fs A0) H sto' k H' v d F) : ∃ Fs', Sr K C S0 S A0 H0 σ H (fzIf k d M sto' env) sto Fs' ∧ Res K S (hd S Fs' A0) H sto' k H' v d F := by
  by_cases h : (full k d && okM M sto') = true
  · have h' := h
    rw [Bool.and_eq_true] at h'
    exact ⟨Fs, by unfold fzIf; rw [if_pos h]; exact r, rs.full h'.1 r.wd (okM_g h'.2)⟩
  · exact ⟨fzF M Fs, by unfold fzIf; rw [if_neg h]; exact r.freeze M, by rw [hd_fz]; exact rs⟩
theorem Sr.eval {X : Cx} {e : Expr} {f : Ev} {Q : VK} (r : Sr X.K C S0 S A0 H0 σ H env sto Fs) (h : JP X e f k) (q : f (see M env) sto = some (d, sto'))
    (z : ∀ v H' F Fs', Sr X.K C S0 S A0 H0 σ H (fzIf k d M sto' env) sto Fs' → Res X.K S (hd S Fs' A0) H sto' k H' v d F → Q v H') : wpE X e σ H Q :=
  h _ S σ H _ sto d sto' Q (r.wdM M) (r.rdM M) q fun v H' F rs => by
    obtain ⟨Fs', r2, rs2⟩ := r.evalR rs
    exact z v H' F Fs' r2 rs2
/-- the store behind a reading -/
theorem Sr.goM (r : Sr K C S0 S A0 H0 σ H env sto Fs) (x : Ext S H H') (w : Wd K S (hdM S M Fs A0) H' sto') : ∃ Fs', Sr K C S0 S A0 H0 σ H' (fzT M sto' env) sto' Fs' := by
  by_cases h : okM M sto' = true
  · exact ⟨Fs, by unfold fzT; rw [if_pos h]; exact r.go x (r.wd.wide x w (okM_g h))⟩
  · exact ⟨fzF M Fs, by unfold fzT; rw [if_neg h]; exact (r.freeze M).go x (by rw [hd_fz]; exact w)⟩
theorem Sr.test {X : Cx} {e : Expr} {f : EvT} {b : Bool} {Q : Bool → Hp → Prop} (r : Sr X.K C S0 S A0 H0 σ H env sto Fs) (h : JT X e f) (q : f (see M env) sto = some (b, sto'))
    (z : ∀ H' Fs', Sr X.K C S0 S A0 H0 σ H' (fzT M sto' env) sto' Fs' → Q b H') : wpT X e σ H Q :=
  h _ S σ H _ sto b sto' Q (r.wdM M) (r.rdM M) q fun H' x w => by
    obtain ⟨Fs', r2⟩ := r.goM x w
    exact z H' Fs' r2

/-! ### statements -/
inductive Out where
  | nx
  | rt (d : D)
  | bk
  | ct
abbrev Sv := Env → STO → Option (Out × Env × STO)
/-- what is known behind a return -/
def RtR (K : PySem.W.Frag) (S0 : List Addr) (A0 : Addr → Prop) (H0 H' : Hp) (k : Nat) (v : V) (d : D) (sto' : STO) : Prop :=
  ∃ S F, (∃ S1, S = S0 ++ S1 ∧ ∀ a ∈ S1, H0 a = none) ∧ Ext S0 H0 H' ∧ (∀ a, A0 a → H0 a ≠ none) ∧ (∀ a, a ∈ S0 → A0 a) ∧ Wd K S (fun a => a ∈ F ∨ A0 a ∨ a ∈ S) H' sto' ∧ F.Nodup ∧ (∀ a ∈ F, H0 a = none) ∧ (∀ a ∈ F, a ∉ S) ∧ Ow K S (fun a => a ∈ F ∨ A0 a ∨ a ∈ S) H' k v d F
def OutOk (K : PySem.W.Frag) (C : Hp) (S0 : List Addr) (A0 : Addr → Prop) (H0 : Hp) (k : Nat) (E : Ends) : Out → Env → STO → Prop
  | .nx, env, sto => ∀ S σ H Fs, Sr K C S0 S A0 H0 σ H env sto Fs → E.nx σ H
  | .bk, env, sto => ∀ S σ H Fs, Sr K C S0 S A0 H0 σ H env sto Fs → E.bk σ H
  | .ct, env, sto => ∀ S σ H Fs, Sr K C S0 S A0 H0 σ H env sto Fs → E.ct σ H
  | .rt d, _, sto => ∀ v H, RtR K S0 A0 H0 H k v d sto → E.rt v H
def JS (Z : List Addr → Prop) (X : Cx) (st : Stmt) (g : Sv) (k : Nat) : Prop := ∀ C S0 S A0 H0 σ H env sto Fs o env' sto' (E : Ends), Z S0 → Sr X.K C S0 S A0 H0 σ H env sto Fs → g env sto = some (o, env', sto') → OutOk X.K C S0 A0 H0 k E o env' sto' → wpS X st E σ H
def JSs (Z : List Addr → Prop) (X : Cx) (sts : List Stmt) (g : Sv) (k : Nat) : Prop := ∀ C S0 S A0 H0 σ H env sto Fs o env' sto' (E : Ends), Z S0 → Sr X.K C S0 S A0 H0 σ H env sto Fs → g env sto = some (o, env', sto') → OutOk X.K C S0 A0 H0 k E o env' sto' → wpSs X sts E σ H
def sNil : Sv := fun env s => some (.nx, env, s)
def sSeq (g h : Sv) : Sv := fun env s => (g env s).bind fun p => match p.1 with
  | .nx => h p.2.1 p.2.2
  | o => some (o, p.2)
def sNever : Sv := fun _ _ => none
end
section
variable {Z : List Addr → Prop} {X : Cx} {st : Stmt} {rest body orelse : List Stmt} {e c : Expr} {f : Ev} {g h : Sv} {t : EvT} {j k n i : Nat} {pos p p2 : Pos} {x : Str}
theorem jss_nil : JSs Z X [] sNil k := fun C S0 S A0 H0 σ H env sto Fs o env' sto' E hZ r q z => by
  cases q
  exact wpSs.by pss_nil (z S σ H Fs r)
theorem jss_cons (h1 : JS Z X st g k) (h2 : JSs Z X rest h k) : JSs Z X (st :: rest) (sSeq g h) k := fun C S0 S A0 H0 σ H env sto Fs o env' sto' E hZ r q z => by
  unfold sSeq at q
  obtain ⟨⟨o1, e1, s1⟩, q1, q⟩ := bind_some' q
  refine wpSs.by (pss_cons wpS_ps wpSs_pss) (h1 C S0 S A0 H0 σ H env sto Fs o1 e1 s1 _ hZ r q1 ?_)
  cases o1 with
  | nx => exact fun S' σ' H' Fs' r' => h2 C S0 S' A0 H0 σ' H' e1 s1 Fs' o env' sto' E hZ r' q z
  | rt d => cases q; exact z
  | bk => cases q; exact z
  | ct => cases q; exact z
theorem js_never : JS Z X st sNever k := fun C S0 S A0 H0 σ H env sto Fs o env' sto' E hZ r q z => nomatch q
def sBrk : Sv := fun env s => some (.bk, env, s)
def sCnt : Sv := fun env s => some (.ct, env, s)
/-- name = e -/
def sSet (i k : Nat) (M : List Nat) (f : Ev) : Sv := fun env s => if i < env.length then (f (see M env) s).map fun p => (.nx, (fzIf k p.1 M p.2 env).set i (mkS k p.1), p.2) else none
theorem js_set {M : List Nat} (he : JP X e f j) (hN : X.N.Nodup) (hi : X.N[i]? = some x) (hx : Loc X.env.scope x) (hs : swapsWith e (some (.Name x p)) pos.line X.env = pure false := by rfl) (hf : X.fn x = true ∨ X.env.scope.names.lookup x = some .local := by first | exact .inl rfl | exact .inr rfl | assumption) :
    JS Z X (.Assign [.Name x p] e pos) (sSet i j M f) k := fun C S0 S A0 H0 σ H env sto Fs o env' sto' E hZ r q z => by
  unfold sSet at q
  split at q
  case isFalse => cases q
  rename_i hlt
  obtain ⟨⟨d, s1⟩, q1, q⟩ := map_some' q
  cases q
  refine wpS.by (ps_set hN hi hx wpE_pe hs hf) (r.eval he q1 fun v H' F Fs' r2 rs => ?_)
  exact z S _ _ _ (r2.put (by rw [fzIf_len]; exact hlt) rs)
/-- the same, to be shared -/
theorem js_comp0 {M : List Nat} {tg it elt : Expr} {ifs : List Expr} {scope : Scope} {own : List (Str × Nat)} {cpos : Pos} {fi : EvI} {bd : Bd} {fc : EvT} {fe : Ev} (hc : X.calm = true) (hN : X.N.Nodup) (hy : X.N[i]? = some x) (hyl : X.env.scope.names.lookup x = some .local)
    (hsw : swapsWith (.ListComp elt [⟨tg, it, ifs, 0⟩] scope cpos) (some (.Name x p)) pos.line X.env = pure true)
    (hi : JI X tg it fi) (ok : BlkOk X.N X.env.scope scope own) (hg : JG X scope tg bd) (ht : JTs X scope ifs fc) (he : JPB X scope elt fe j) (hown : ∀ d l, bd d = some l → ∀ p ∈ l, p.1 ∈ own.map (·.2))
    (hs : ∀ x, foldedSetIterable it X.env x = pure x) : JS Z X (.Assign [.Name x p] (.ListComp elt [⟨tg, it, ifs, 0⟩] scope cpos) pos) (sSet i 0 M (eComp fi bd fc fe (own.map (·.2)))) k := fun C S0 S A0 H0 σ H env sto Fs o env' sto' E hZ r q z => by
  obtain ⟨g, hg1, hg2⟩ := hg
  obtain ⟨t, ht1, ht2⟩ := ht
  unfold sSet at q
  split at q
  case isFalse => cases q
  rename_i hlt
  obtain ⟨⟨d, s1⟩, q1, q⟩ := map_some' q
  cases q
  refine wpS.by (ps_setLc hc hN hy hyl hsw wpI_pi ok hg1 ht1 wpEB_pe hs) ?_
  refine comp_read hi hg2 ht2 he hown (r.wdM M) (r.rdM M) q1 fun v H' F rs0 => ?_
  have rs := rs0.zero (r.wdM M)
  obtain ⟨Fs', r2, rs2⟩ := r.evalR rs
  exact z S _ _ _ (r2.put (by rw [fzIf_len]; exact hlt) rs2)
/-- an expression whose value is dropped -/
def sEx (M : List Nat) (f : Ev) : Sv := fun env s => (f (see M env) s).map fun p => (.nx, fzT M p.2 env, p.2)
/-- return e -/
def sRet (M : List Nat) (f : Ev) : Sv := fun env s => (f (see M env) s).map fun p => (.rt p.1, env, p.2)
theorem js_ret {M : List Nat} (he : JP X e f k) : JS Z X (.Return (some e) pos) (sRet M f) k := fun C S0 S A0 H0 σ H env sto Fs o env' sto' E hZ r q z => by
  unfold sRet at q
  obtain ⟨⟨d, s1⟩, q1, q⟩ := map_some' q
  cases q
  refine wpS.by (ps_ret wpE_pe) (r.eval he q1 fun v H' F Fs' r2 rs => z v H' ?_)
  have le : ∀ a, (a ∈ F ∨ A0 a ∨ a ∈ S) → plus F (hd S Fs' A0) a := fun a h => h.imp id .inr
  exact ⟨S, F, r2.s0, r2.ext' rs.ext, r.al0, r.a0S, rs.wd.less le fun a e => .inr (.inr e), rs.nd, fun a ha => r2.old (rs.fr a ha), fun a ha => r2.wd.live (rs.fr a ha), rs.ow.mv (hid_le le) fun a _ o q => q⟩
def sRetN : Sv := fun env s => some (.rt .none, env, s)
/-- return name, owned -/
def sRetM (i k : Nat) : Sv := fun env s => match env[i]? with
  | some (.ow j d) => if j = k then some (.rt d, env, s) else none
  | _ => none
theorem js_retM (he : X.N[i]? = some x) (hx : Vis X.env.scope x) (hdb : (x == Str.ofString "__debug__") = false := by decide) (hcd : (x == Str.ofString "__classdict__") = false := by decide) : JS Z X (.Return (some (.Name x p)) pos) (sRetM i k) k := fun C S0 S A0 H0 σ H env sto Fs o env' sto' E hZ r q z => by
  unfold sRetM at q
  split at q
  case h_2 => cases q
  rename_i j d he1
  split at q
  case isFalse => cases q
  rename_i hjk
  subst hjk
  cases q
  obtain ⟨u, e1, e2⟩ := r.sl i _ he1
  refine wpS.by (ps_ret (pe_var he hx hdb hcd)) ⟨u, e1, z u H ?_⟩
  have le : ∀ a, (a ∈ Fs i ∨ A0 a ∨ a ∈ S) → hd S Fs A0 a := fun a h => h.imp (fun h => ⟨i, h⟩) id
  exact ⟨S, Fs i, r.s0, r.ext, r.al0, r.a0S, r.wd.less le fun a e => .inr (.inr e), r.nd i, fun a ha => r.fr i a ha, fun a ha => r.ns i a ha, e2.mv (hid_le le) fun a _ o q => q⟩
/-- if -/
def sIf (M : List Nat) (t : EvT) (g h : Sv) : Sv := fun env s => (t (see M env) s).bind fun p => if p.1 = true then g (fzT M p.2 env) p.2 else h (fzT M p.2 env) p.2
theorem js_if {M : List Nat} (hc : JT X c t) (ha : JSs Z X body g k) (hb : JSs Z X orelse h k) : JS Z X (.If c body orelse pos) (sIf M t g h) k := fun C S0 S A0 H0 σ H env sto Fs o env' sto' E hZ r q z => by
  unfold sIf at q
  obtain ⟨⟨b, s1⟩, q1, q⟩ := bind_some' q
  refine wpS.by (ps_if wpT_pt wpSs_pss wpSs_pss) (r.test hc q1 fun H' Fs2 r2 => ?_)
  cases b with
  | true =>
    rw [if_pos rfl]
    exact ha C S0 S A0 H0 σ H' _ s1 Fs2 o env' sto' E hZ r2 (by simpa using q) z
  | false =>
    rw [if_neg Bool.false_ne_true]
    exact hb C S0 S A0 H0 σ H' _ s1 Fs2 o env' sto' E hZ r2 (by simpa using q) z
end
end J
namespace J
open PySem PySem.Spec PyProof.Rows L2

/-! ### data without the token -/
mutual
def noTok : D → Bool
  | .list ds => noTokA ds
  | .tuple ds => noTokA ds
  | .dict es => (match es with
    | [(.none, .int _)] => false
    | _ => true) && noTokE es
  | _ => true
def noTokA : List D → Bool
  | [] => true
  | d :: r => noTok d && noTokA r
def noTokE : List (D × D) → Bool
  | [] => true
  | (_, d) :: r => noTok d && noTokE r
end
section
variable {K : PySem.W.Frag} {S S' : List Addr} {H : Hp}
theorem Rp.retok {v : V} {d : D} (h : Rp K S H v d) : noTok d = true → Rp K S' H v d :=
  Rp.rec (motive_1 := fun v d _ => noTok d = true → Rp K S' H v d) (motive_2 := fun v d _ => noTokA d = true → RpA K S' H v d) (motive_3 := fun v d _ => noTokE d = true → RpK K S' H v d) (motive_4 := fun v d _ => noTokE d = true → RpT K S' H v d)
    (fun _ => .non) (fun b _ => .bl b) (fun i _ => .int i) (fun x _ => .str x) (fun s _ h e => .lst s (h (by rw [noTok] at e; exact e))) (fun s _ h e => .tup s (h (by rw [noTok] at e; exact e)))
    (fun s _ h e => .dK s (h (by simp only [noTok, Bool.and_eq_true] at e; exact e.2))) (fun s _ h e => .dT s (h (by simp only [noTok, Bool.and_eq_true] at e; exact e.2))) (fun s e => by rw [tokD, noTok] at e; simp at e) (fun s _ h e => .sk s (h (by simp only [skD, noTok, noTokE, Bool.and_eq_true] at e; exact e.2.1))) (fun s _ h e => .rK s (h (by simp only [noTok, noTokE, Bool.and_eq_true] at e; exact e.2.2))) (fun s _ h e => .rT s (h (by simp only [noTok, noTokE, Bool.and_eq_true] at e; exact e.2.2))) (fun _ => .ex) (fun s c _ => .obj s c) (fun x _ => .exi x)
    (fun _ => .nil) (fun _ _ a b e => by rw [noTokA, Bool.and_eq_true] at e; exact .cons (a e.1) (b e.2)) (fun _ => .nil) (fun _ _ a b e => by rw [noTokE, Bool.and_eq_true] at e; exact .cons (a e.1) (b e.2)) (fun _ => .nil) (fun _ _ a b e => by rw [noTokE, Bool.and_eq_true] at e; exact .cons (a e.1) (b e.2)) h
end

section
variable {K : PySem.W.Frag} {C C' : Hp} {S0 S : List Addr} {A0 A A2 : Addr → Prop} {H0 H H' : Hp} {σ : Sg} {env : Env} {sto sto' : STO} {Fs : Nat → List Addr} {M : List Nat} {k j k1 k2 : Nat} {v w : V} {d e : D} {F G : List Addr} {i : Nat}
theorem Sr.back (r : Sr K C' S0 S A0 H0 σ H env sto Fs) (h : Same C C') : Sr K C S0 S A0 H0 σ H env sto Fs := { r with pub := fun a o q => r.pub a o (h a o q) }
theorem Sr.chk (r : Sr K C S0 S A0 H0 σ H env sto Fs) : Sr K (hid (hd S Fs A0) H) S0 S A0 H0 σ H env sto Fs := { r with pub := fun _ _ h => h }

/-! ### for -/
def forL (bd : Bd) (body : Sv) : List D → Sv
  | [], env, s => some (.nx, env, s)
  | d :: r, env, s => (bd d).bind fun l => if allLt env.length l = true ∧ noTok d = true then (body (setE env l) s).bind fun p => match p.1 with
      | .nx => forL bd body r p.2.1 p.2.2
      | .ct => forL bd body r p.2.1 p.2.2
      | .bk => some (.nx, p.2)
      | .rt d => some (.rt d, p.2)
    else none
theorem forL_walk {X : Cx} {Z : List Addr → Prop} {bd : Bd} {body : List Stmt} {gb : Sv} {g : TG} {ds : List D} {J : It} {o : Out} {env' : Env} {E : Ends} (hZ : Z S0)
    (r : Sr X.K C S0 S A0 H0 σ H env sto Fs) (wk : Walk J ds.length (fun H1 => Same (hid (hd S Fs A0) H) H1) (YD X.K S (hd S Fs A0) H ds)) (hg : gSpec X.K g bd) (hb : JSs Z X body gb k)
    (q : forL bd gb ds env sto = some (o, env', sto')) (z : OutOk X.K C S0 A0 H0 k E o env' sto') :
    ∃ W : Nat → Nat → L2.St → Hp → Prop, (∃ m, W 0 m σ H) ∧ ∀ i m σ H, W i m σ H →
      (J.stop i H ∧ E.nx σ H) ∨ (J.go i H ∧ ∃ N : L2.St → Hp → Prop, (∀ σ' H', N σ' H' → ∃ m', m' < m ∧ W (i + 1) m' σ' H') ∧ ∀ x H', J.yld i H x H' → g x σ H' fun σ2 H2 => wpSs X body { E with nx := N, ct := N, bk := E.nx } σ2 H2) := by
  have r0 := r.chk
  refine for_it wk (tb := wpSs X body) (D := E) (fun i σ Hi => ∃ env1 s1 S1 Fs1, Sr X.K (hid (hd S Fs A0) H) S0 S1 A0 H0 σ Hi env1 s1 Fs1 ∧ forL bd gb (ds.drop i) env1 s1 = some (o, env', sto')) ⟨env, sto, S, Fs, r0, by simpa using q⟩ ?_ ?_ ?_
  · rintro i σ1 Hi _ ⟨env1, s1, S1, Fs1, r1, _⟩
    exact fun a o q => same_hid a o (r1.pub a o q)
  · rintro i x σ1 Hi H' hi ⟨env1, s1, S1, Fs1, r1, q1⟩ ⟨dx, e3, hH', rp⟩
    have hdrop : ds.drop i = dx :: ds.drop (i + 1) := by
      obtain ⟨hlt, e⟩ := List.getElem?_eq_some_iff.mp e3
      rw [List.drop_eq_getElem_cons hlt, e]
    rw [hdrop] at q1
    unfold forL at q1
    obtain ⟨l, el, q1⟩ := bind_some' q1
    split at q1
    case isFalse => cases q1
    rename_i hc
    obtain ⟨⟨o1, e1, s2⟩, eb, q1⟩ := bind_some' q1
    have smi : Same Hi H' := by
      rcases hH' with rfl | ⟨T, o, hT, rfl⟩
      · exact fun _ _ h => h
      · exact same_upd hT
    have px : Rp X.K S1 (hid (hd S1 Fs1 A0) H') x dx := (rp _ r1.pub r1.wd.alt).retok hc.2
    have r2 : Sr X.K (hid (hd S Fs A0) H) S0 S1 A0 H0 σ1 H' env1 s1 Fs1 := r1.go (Ext.of smi) (r1.wd.grow smi (fun a h => .inl h) fun a h => h)
    refine hg S1 σ1 _ H' x dx l _ same_hid px el fun vl sl => ?_
    obtain ⟨Fs2, r3, _⟩ := r2.putL hc.1 sl
    refine hb _ S0 S1 A0 H0 _ H' _ s1 Fs2 o1 e1 s2 _ hZ r3 eb ?_
    cases o1 with
    | nx => exact fun S' σ' H' Fs' r' => ⟨e1, s2, S', Fs', r', q1⟩
    | ct => exact fun S' σ' H' Fs' r' => ⟨e1, s2, S', Fs', r', q1⟩
    | rt d => cases q1; exact z
    | bk => cases q1; exact fun S' σ' H' Fs' r' => z S' σ' H' Fs' (r'.back r.pub)
  · rintro σ1 Hi ⟨env1, s1, S1, Fs1, r1, q1⟩
    rw [List.drop_length] at q1
    cases q1
    exact z S1 σ1 Hi Fs1 (r1.back r.pub)
def sFor (M : List Nat) (fi : EvI) (bd : Bd) (body : Sv) : Sv := fun env s => (fi (see M env) s).bind fun p => forL bd body p.1 (fz M env) p.2
def sFor0 (M : List Nat) (fi : EvI) (bd : Bd) (body : Sv) : Sv := fun env s => (fi (see M env) s).bind fun p => if okM M p.2 = true then forL bd body p.1 env p.2 else none
/-- a walk over what no slot's change can touch -/
def JI0 (X : Cx) (tg it : Expr) (fi : EvI) : Prop := ∀ A A2 S σ H vw sto ds sto' (R : It → Hp → Prop), (∀ a, A a → A2 a) → Wd X.K S A2 H sto → Wd X.K S A H sto → RdV X.K S A σ H vw → fi vw sto = some (ds, sto') → (A2 = A ∨ sto'.all scalCell = true) →
  (∀ J H', Ext S H H' → Wd X.K S A2 H' sto' → Walk J ds.length (fun H1 => Same (hid A2 H') H1) (YD X.K S A2 H' ds) → R J H') → wpI X tg it σ H R
end
section
variable {Z : List Addr → Prop} {X : Cx} {st : Stmt} {rest body orelse : List Stmt} {tg it e a b c : Expr} {f g : Ev} {gb : Sv} {gt : TG} {bd : Bd} {fi : EvI} {t : EvT} {j k n i : Nat} {pos p p2 : Pos} {x : Str} {M : List Nat}
theorem js_for (hp : PassesOwn (model X.prog X.w) X.A X.env X.xe) (hc : X.calm = true) (hi : JI X tg it fi) (hg : PG X tg gt) (hgs : gSpec X.K gt bd) (hb : JSs Z X body gb k) (hs : ∀ x, foldedSetIterable it X.env x = pure x := by intro _; rfl) :
    JS Z X (.For tg it body [] pos) (sFor M fi bd gb) k := fun C S0 S A0 H0 σ H env sto Fs o env' sto' E hZ r q z => by
  unfold sFor at q
  obtain ⟨⟨ds, s1⟩, q1, q⟩ := bind_some' q
  refine wpS.by (ps_for hp hc wpI_pi hg wpSs_pss hs) ?_
  have r1 := r.freeze M
  refine hi _ S σ H _ sto ds s1 _ (r.wdM M) (r.rdM M) q1 fun J H1 x1 w1 wk => ?_
  rw [← hd_fz] at w1 wk
  exact forL_walk hZ (r1.go x1 w1) wk hgs hb q z
theorem js_for0 (hp : PassesOwn (model X.prog X.w) X.A X.env X.xe) (hc : X.calm = true) (hi : JI0 X tg it fi) (hg : PG X tg gt) (hgs : gSpec X.K gt bd) (hb : JSs Z X body gb k) (hs : ∀ x, foldedSetIterable it X.env x = pure x := by intro _; rfl) :
    JS Z X (.For tg it body [] pos) (sFor0 M fi bd gb) k := fun C S0 S A0 H0 σ H env sto Fs o env' sto' E hZ r q z => by
  unfold sFor0 at q
  obtain ⟨⟨ds, s1⟩, q1, q⟩ := bind_some' q
  simp only at q
  split at q
  case isFalse => cases q
  rename_i hok
  refine wpS.by (ps_for hp hc wpI_pi hg wpSs_pss hs) ?_
  refine hi _ _ S σ H _ sto ds s1 _ hdM_le r.wd (r.wdM M) (r.rdM M) q1 (okM_g hok) fun J H1 x1 w1 wk => ?_
  exact forL_walk hZ (r.go x1 w1) wk hgs hb q z
/-- over a new list of plain things -/
def iVal0 (k : Nat) (f : Ev) : EvI := fun vw s => (f vw s).bind fun p => match p.1 with
  | .list ds => if full k (.list ds) = true then some (ds, p.2) else none
  | _ => none
theorem ji0_range1 (ha : JP X a f 0) (hg : Gl X "range") (hm : X.mg "range" = none) (hs : starEach [a] X.env = [(false, eval a X.env)] := by rfl) : JI0 X tg (.Call (.Name "range" p) [a] [] pos) (iU rg1 f) := fun A A2 S σ H vw sto ds sto' R hA w2 w r q g2 z => by
  obtain ⟨x, e1, e2⟩ := iU_some q
  obtain ⟨j, rfl, ⟨b1, b2⟩, rfl⟩ := rg1_some e2
  refine wpI.by (pi_range1 hg hm (pa_cons wpE_pe pa_nil hs) hs) (ha.use w r e1 fun v H1 x1 w1 r1 p1 => ?_)
  exact ⟨j, by rw [p1.intI], b1, b2, z _ H1 x1 (w2.wide x1 w1 g2) walk_dr⟩
/-! ### two values into two names -/
theorem Res.less {K : PySem.W.Frag} {S : List Addr} {A A' : Addr → Prop} {H H' : Hp} {sto' : STO} {k : Nat} {v : V} {d : D} {F : List Addr} (r : Res K S A H sto' k H' v d F) (h : ∀ a, A' a → A a) (hS : ∀ a, a ∈ S → A' a) : Res K S A' H sto' k H' v d F :=
  ⟨r.ext, r.wd.less (fun a ha => ha.imp id (h a)) (fun a e => .inr (hS a e)), r.nd, r.fr, r.ow.mv (hid_le fun a ha => ha.imp id (h a)) fun a _ o q => q⟩
def sPar (i j k1 k2 : Nat) (M1 M2 : List Nat) (f g : Ev) : Sv := fun env s => if i < env.length ∧ j < env.length then
  (f (see M1 env) s).bind fun p => (g (see M2 (fzIf k1 p.1 M1 p.2 env)) p.2).map fun q => (.nx, ((fzIf k2 q.1 M2 q.2 (fzIf k1 p.1 M1 p.2 env)).set i (mkS k1 p.1)).set j (mkS k2 q.1), q.2) else none
theorem js_par {y : Str} {k1 k2 : Nat} {M1 M2 : List Nat} {px py pt : Pos} {kt k3 pt2} (ha : JP X a f k1) (hb : JP X b g k2) (hc : X.calm = true) (hN : X.N.Nodup) (hi : X.N[i]? = some x) (hj : X.N[j]? = some y) (hij : i ≠ j)
    (hx : X.env.scope.names.lookup x = some .local) (hy : X.env.scope.names.lookup y = some .local)
    (hw : swappedStores [.Tuple [.Name x px, .Name y py] kt pt] (.Tuple [a, b] k3 pt2) X.env = pure (some [x, y]))
    (hs : swapsWithSole [.Tuple [.Name x px, .Name y py] kt pt] (.Tuple [a, b] k3 pt2) pos.line X.env = pure false := by rfl)
    (hs1 : starEach [a, b] X.env = (false, eval a X.env) :: starEach [b] X.env := by rfl) (hs2 : starEach [b] X.env = (false, eval b X.env) :: starEach [] X.env := by rfl) :
    JS Z X (.Assign [.Tuple [.Name x px, .Name y py] kt pt] (.Tuple [a, b] k3 pt2) pos) (sPar i j k1 k2 M1 M2 f g) k := fun C S0 S A0 H0 σ H env sto Fs o env' sto' E hZ r q z => by
  unfold sPar at q
  split at q
  case isFalse => cases q
  rename_i hlt
  obtain ⟨⟨d1, s1⟩, q1, q⟩ := bind_some' q
  obtain ⟨⟨d2, s2⟩, q2, q⟩ := map_some' q
  cases q
  simp only at q2
  refine wpS.by (ps_par hc hN hi hj hij hx hy (pa_cons wpE_pe (pa_cons wpE_pe pa_nil hs2) hs1) hw hs) (r.eval ha q1 fun v H1 F Fs' r1 rs1 => ?_)
  have rd2 : RdV X.K S (plus F (hdM S M2 Fs' A0)) σ H1 (see M2 (fzIf k1 d1 M1 s1 env)) := (r1.rdM M2).move rs1.ext (r1.wdM M2).hS fun a h => by
    rcases h with h | h
    · exact .inr (rs1.fr a h)
    · exact .inl h
  have w2 : Wd X.K S (plus F (hdM S M2 Fs' A0)) H1 s1 := rs1.wd.less (fun a h => h.imp id (hdM_le a)) fun a e => .inr (.inr (.inr e))
  refine hb _ S σ H1 _ s1 d2 s2 _ w2 rd2 q2 fun u H2 G rs2 => ?_
  refine ⟨v, u, rfl, ?_⟩
  have fin : ∃ Fs2, Sr X.K C S0 S A0 H0 σ H (fzIf k2 d2 M2 s2 (fzIf k1 d1 M1 s1 env)) sto Fs2 ∧ (∀ a, hd S Fs2 A0 a → hd S Fs' A0 a) ∧ Res X.K S (plus F (hd S Fs2 A0)) H1 s2 k2 H2 u d2 G := by
    by_cases h : (full k2 d2 && okM M2 s2) = true
    · have h' := h
      rw [Bool.and_eq_true] at h'
      refine ⟨Fs', by rw [show fzIf k2 d2 M2 s2 (fzIf k1 d1 M1 s1 env) = fzIf k1 d1 M1 s1 env from if_pos h]; exact r1, fun a h => h, rs2.full h'.1 rs1.wd ?_⟩
      exact (okM_g (S := S) (Fs := Fs') (A0 := A0) h'.2).imp (fun e => by rw [e]) id
    · exact ⟨fzF M2 Fs', by rw [show fzIf k2 d2 M2 s2 (fzIf k1 d1 M1 s1 env) = fz M2 (fzIf k1 d1 M1 s1 env) from if_neg h]; exact r1.freeze M2, by rw [hd_fz]; exact hdM_le, by rw [hd_fz]; exact rs2⟩
  obtain ⟨Fs2, r2, le2, rs3⟩ := fin
  have r3 := r2.put (i := i) (by rw [fzIf_len, fzIf_len]; exact hlt.1) (rs1.less le2 fun a e => .inr (.inr e))
  have rs4 := rs3.less (A' := hd S (setF Fs2 i F) A0) (fun a h => hd_set r2 a h) fun a e => .inr (.inr e)
  have r4 := r3.put (i := j) (by rw [List.length_set, fzIf_len, fzIf_len]; exact hlt.2) rs4
  exact z S _ _ _ r4

/-! ### one value into names -/
def sBind (M : List Nat) (bd : Bd) (f : Ev) : Sv := fun env s => (f (see M env) s).bind fun p => (bd p.1).bind fun l => if allLt env.length l = true then some (.nx, setE (fz M env) l, p.2) else none
theorem js_bind (he : JP X e f 0) (hg : PG X tg gt) (hgs : gSpec X.K gt bd) (hs : swapsWithSole [tg] e pos.line X.env = pure false := by rfl) (hw : swappedStores [tg] e X.env = pure none := by rfl)
    (h1 : (assignEach [tg] X.env).map (·.2) = [assign tg X.env] := by rfl) : JS Z X (.Assign [tg] e pos) (sBind M bd f) k := fun C S0 S A0 H0 σ H env sto Fs o env' sto' E hZ r q z => by
  unfold sBind at q
  obtain ⟨⟨d, s1⟩, q1, q⟩ := bind_some' q
  obtain ⟨l, q2, q⟩ := bind_some' q
  split at q
  case isFalse => cases q
  rename_i hl
  cases q
  refine wpS.by (ps_asg wpE_pe hg hs hw h1) (he.use (r.wdM M) (r.rdM M) q1 fun v H1 x1 w1 r1 p1 => ?_)
  have r2 := r.freeze M
  rw [← hd_fz] at w1 p1
  have r3 := r2.go x1 w1
  refine hgs S σ _ H1 v d l _ same_hid p1 q2 fun vl sl => ?_
  obtain ⟨Fs2, r4, _⟩ := r3.putL (by unfold fz; rw [fzI_len]; exact hl) sl
  exact z S _ _ _ r4
/-- a list of two -/
def bL2 (i j : Nat) : Bd
  | .list [x, y] => some [(i, x), (j, y)]
  | _ => none
theorem gspec_lst2 {K : PySem.W.Frag} {i j : Nat} : gSpec K (gUnl K 2 (gCons (gName i) (gCons (gName j) gNil))) (bL2 i j) := fun S σ H H0 v d l Q sm p e z => by
  unfold bL2 at e
  split at e
  · cases e
    obtain ⟨a, xs, rfl, r, q⟩ := p.lstI
    obtain ⟨x, y, rfl, p1, p2⟩ := q.two
    exact ⟨a, [x, y], rfl, .inl (Rd.le sm r), rfl, x, [y], rfl, y, [], rfl, rfl, z [(i, x), (j, y)] (.cons ⟨rfl, p1⟩ (.cons ⟨rfl, p2⟩ .nil))⟩
  · cases e

/-! ### name += int -/
def sAug (i : Nat) (M : List Nat) (op : Int → Int → Int) (f : Ev) : Sv := fun env s => match env[i]? with
  | some (.sh (.int m)) => (f (see M env) s).bind fun p => match p.1 with
    | .int n => some (.nx, (fzT M p.2 env).set i (.sh (.int (op m n))), p.2)
    | _ => none
  | _ => none
/-! ### store[i] = e -/
/-- the store and a value behind a reading -/
theorem Sr.evalS {K : PySem.W.Frag} {C : Hp} {S0 S : List Addr} {A0 : Addr → Prop} {H0 H H' : Hp} {σ : Sg} {env : Env} {sto sto' : STO} {Fs : Nat → List Addr} {M : List Nat} {v : V} {d : D} (r : Sr K C S0 S A0 H0 σ H env sto Fs) (x : Ext S H H') (w : Wd K S (hdM S M Fs A0) H' sto') (p : Rp K S (hid (hdM S M Fs A0) H') v d) :
    ∃ Fs', Sr K C S0 S A0 H0 σ H' (fzIf 0 d M sto' env) sto' Fs' ∧ Rp K S (hid (hd S Fs' A0) H') v d := by
  by_cases h : (full 0 d && okM M sto') = true
  · have h' := h
    rw [Bool.and_eq_true, full_zero] at h'
    exact ⟨Fs, by unfold fzIf; rw [if_pos h]; exact r.go x (r.wd.wide x w (okM_g h'.2)), scal_rp h'.1 p⟩
  · exact ⟨fzF M Fs, by unfold fzIf; rw [if_neg h]; exact (r.freeze M).go x (by rw [hd_fz]; exact w), by rw [hd_fz]; exact p⟩
def sSto (M : List Nat) (fp fi fv : Ev) : Sv := fun env s => (fv (see M env) s).bind fun p => (fp (see M env) p.2).bind fun q => (isTok q.1).bind fun j => (fi (see M env) q.2).bind fun u => match u.1 with
    | .int n => (cellL u.2 j).bind fun ds => (ixN ds.length n).map fun m => (.nx, fzIf 0 p.1 M u.2 env, u.2.set j (.lst (ds.set m p.1)))
    | _ => none
theorem CellOk.upd {K : PySem.W.Frag} {S : List Addr} {A : Addr → Prop} {H : Hp} {a b : Addr} {o : HO} {c : Cell} (h : CellOk K S A H b c) (ha : A a) (hne : b ≠ a) (hc : ∀ q, H a ≠ some (LamX.CodeO a q)) : CellOk K S A (L2.upd H a o) b c :=
  h.keep (by rw [hid_upd ha]; exact fun _ _ h => h) (fun x hx => by rw [upd_ne hne]; exact hx) fun c q hq => by
    rw [upd_ne (fun e : c = a => hc q (e ▸ hq))]
    exact hq
/-- a cell's object is written -/
theorem Wd.put {K : PySem.W.Frag} {S : List Addr} {A : Addr → Prop} {H : Hp} {sto : STO} {j : Nat} {a : Addr} {o : HO} {c : Cell} (w : Wd K S A H sto) (hS : S[j]? = some a) (hc : CellOk K S A (L2.upd H a o) a c) :
    Ext S H (L2.upd H a o) ∧ Wd K S A (L2.upd H a o) (sto.set j c) := by
  have hm : a ∈ S := List.mem_of_getElem? hS
  obtain ⟨c0, h0, ok0⟩ := w.cell hS
  refine ⟨fun b x hb e => ?_, fun b hb => ?_, w.hS, w.nds, by rw [List.length_set]; exact w.len, fun i b ci h1 h2 => ?_⟩
  · rw [upd_ne (fun e : b = a => hb (e ▸ hm))]; exact e
  · by_cases e : b = a
    · rw [e]; exact hc.hdn
    · rw [upd_ne e]; exact w.alt b hb
  · by_cases e : j = i
    · subst e
      rw [hS] at h1
      cases h1
      have hl := (List.getElem?_eq_some_iff.mp h0).1
      rw [List.getElem?_set, if_pos rfl, if_pos hl] at h2
      cases h2
      exact hc
    · rw [List.getElem?_set_ne e] at h2
      refine (w.st i b ci h1 h2).upd (w.hS a hm) (fun q => ?_) fun q => ok0.notCode
      subst q
      have l1 := (List.getElem?_eq_some_iff.mp h1).1
      have l2 := (List.getElem?_eq_some_iff.mp hS).1
      have e1 := (List.getElem?_eq_some_iff.mp h1).2
      have e2 := (List.getElem?_eq_some_iff.mp hS).2
      exact e ((List.getElem_inj w.nds).mp (e2.trans e1.symm))
/-- an item of a list in a cell is written -/
theorem Wd.store {K : PySem.W.Frag} {S : List Addr} {A : Addr → Prop} {H : Hp} {sto : STO} {ds : List D} {j : Nat} {a : Addr} (w : Wd K S A H sto) (hS : S[j]? = some a) (hl : J.cellL sto j = some ds) {m : Nat} {v : V} {d : D} (p : Rp K S (hid A H) v d) :
    ∃ vs, H a = some (.lst vs) ∧ vs.length = ds.length ∧ Ext S H (L2.upd H a (.lst (vs.set m v))) ∧ Wd K S A (L2.upd H a (.lst (vs.set m v))) (sto.set j (.lst (ds.set m d))) := by
  obtain ⟨vs, h1, h2⟩ := w.cellL hS hl
  refine ⟨vs, h1, h2.length, w.put hS ⟨_, upd_same, ?_⟩⟩
  rw [hid_upd (w.hS a (List.mem_of_getElem? hS))]
  exact h2.set p m
theorem js_sto {io : Expr} {fp fv : Ev} {tpos : Pos} (hv : JP X e fv 0) (ho : JP X a fp 0) (hi : JP X io f 0) (hs : swapsWithSole [.Subscript a io tpos] e pos.line X.env = pure false := by rfl) (hw : swappedStores [.Subscript a io tpos] e X.env = pure none := by rfl)
    (h1 : (assignEach [.Subscript a io tpos] X.env).map (·.2) = [assign (.Subscript a io tpos) X.env] := by rfl)
    (hg : ∀ {to ti : TE}, PE X a to → PE X io ti → PG X (.Subscript a io tpos) (gSub to ti rSetL)) : JS Z X (.Assign [.Subscript a io tpos] e pos) (sSto M fp f fv) k := fun C S0 S A0 H0 σ H env sto Fs o env' sto' E hZ r q z => by
  unfold sSto at q
  obtain ⟨⟨d, s1⟩, q1, q⟩ := bind_some' q
  obtain ⟨⟨dt, s2⟩, q2, q⟩ := bind_some' q
  obtain ⟨jj, ht, q⟩ := bind_some' q
  obtain ⟨⟨di, s3⟩, q3, q⟩ := bind_some' q
  simp only at q
  split at q
  case h_2 => cases q
  rename_i n
  obtain ⟨ds, q5, q⟩ := bind_some' q
  obtain ⟨m, q4, q⟩ := map_some' q
  cases q
  have ht := isTok_eq ht
  simp only at ht q2 q3
  subst ht
  refine wpS.by (ps_asg wpE_pe (hg wpE_pe wpE_pe) hs hw h1) (hv.use (r.wdM M) (r.rdM M) q1 fun v H1 x1 w1 r1 p1 => ho.use w1 r1 q2 fun vo H2 x2 w2 r2 p2 => hi.use w2 r2 q3 fun vi H3 x3 w3 r3 p3 => ?_)
  obtain ⟨a, rfl, hS⟩ := p2.tokI
  obtain ⟨Fs', r5, p5⟩ := r.evalS ((x1.trans x2).trans x3) w3 (p1.le (hid_move (x2.trans x3) w1.hS fun a h => .inl h))
  obtain ⟨vs, e1, e2, x4, w5⟩ := r5.wd.store hS q5 (m := m) p5
  refine ⟨a, vs, n, m, rfl, p3.intI, e1, by rw [e2]; exact q4, z S _ _ _ (r5.go x4 w5)⟩

/-! ### a list is added to -/
end
end J
namespace J
open PySem PySem.Spec PyProof.Rows L2

section
variable {K : PySem.W.Frag} {S : List Addr} {A : Addr → Prop} {H : Hp}
theorem Ow.lstI {k : Nat} {v : V} {ds : List D} {F : List Addr} (h : Ow K S A H (k + 1) v (.list ds) F) : ∃ a vs F0, v = .ref a ∧ F = a :: F0 ∧ H a = some (.lst vs) ∧ OwA K S A H k vs ds F0 := by
  cases h with
  | «at» h1 h2 r => exact absurd rfl (h1 ds)
  | lst e t => exact ⟨_, _, _, rfl, rfl, e, t⟩
/-- one item of owned ones -/
theorem OwA.split : ∀ {k : Nat} {vs : List V} {ds : List D} {F : List Addr} {j : Nat} {d : D}, OwA K S A H k vs ds F → ds[j]? = some d →
    ∃ v F1 Fj F2, vs[j]? = some v ∧ F = F1 ++ (Fj ++ F2) ∧ OwA K S A H k (vs.take j) (ds.take j) F1 ∧ Ow K S A H k v d Fj ∧ OwA K S A H k (vs.drop (j + 1)) (ds.drop (j + 1)) F2
  | _, _, _, _, _, _, .nil, h => by simp at h
  | k, _, _, _, 0, d, .cons (v := v) (F := F) (G := G) a b, h => by
    simp at h; subst h
    exact ⟨v, [], F, G, rfl, rfl, .nil, a, b⟩
  | k, _, _, _, j + 1, d, .cons (v := v) (vs := vs) (ds := ds) (F := F) (G := G) a b, h => by
    obtain ⟨w, F1, Fj, F2, e1, e2, o1, o2, o3⟩ := OwA.split (j := j) b (by simpa using h)
    refine ⟨w, F ++ F1, Fj, F2, by simpa using e1, by rw [e2, List.append_assoc], ?_, o2, o3⟩
    exact .cons a o1
theorem set_split {α : Type} : ∀ (xs : List α) (j : Nat) (x : α), j < xs.length → xs.set j x = xs.take j ++ (x :: xs.drop (j + 1))
  | [], _, _, h => absurd h (Nat.not_lt_zero _)
  | y :: r, 0, x, _ => rfl
  | y :: r, j + 1, x, h => by
    show y :: r.set j x = y :: (r.take j ++ (x :: r.drop (j + 1)))
    rw [set_split r j x (Nat.lt_of_succ_lt_succ h)]
end

section
variable {Z : List Addr → Prop} {X : Cx} {st : Stmt} {rest body orelse : List Stmt} {tg it e a b c : Expr} {f g : Ev} {gb : Sv} {gt : TG} {bd : Bd} {fi : EvI} {t : EvT} {j k n i l : Nat} {pos p p2 apos cpos : Pos} {x y : Str} {M : List Nat}
/-- name.append(e) -/
def sApp (i : Nat) (M : List Nat) (k : Nat) (g : Ev) : Sv := fun env s => (g (see M env) s).bind fun p => match (fzIf k p.1 M p.2 env)[i]? with
  | some (.ow (k' + 1) (.list ds)) => if k' = k ∧ ds.length < 16777216 then some (.nx, (fzIf k p.1 M p.2 env).set i (.ow (k + 1) (.list (ds ++ [p.1]))), p.2) else none
  | _ => none
theorem js_app (he : JP X e g j) (hi : X.N[i]? = some x) (hx : Vis X.env.scope x) (hdb : (x == Str.ofString "__debug__") = false := by decide) (hcd : (x == Str.ofString "__classdict__") = false := by decide)
    (hbase : attributeBase (.Name x p) "append" X.env (eval (.Name x p) X.env) = eval (.Name x p) X.env := by rfl)
    (hfew : ((backTo cpos (starEach [e] X.env)).all (fun x => !x.1) && (backToKw cpos (keywordEach [] X.env)).all (fun x => x.1.isSome) && decide ([e].length + ([] : List Keyword).length + (if ([] : List Keyword).isEmpty then 0 else 1) < 30)) = true := by rfl)
    (hline : (apos.endLine == cpos.line) = true := by rfl) (hs : starEach [e] X.env = (false, eval e X.env) :: starEach [] X.env := by rfl) (hsw : swapsWith (.Call (.Attribute (.Name x p) "append" apos) [e] [] cpos) none pos.line X.env = pure false := by rfl) :
    JS Z X (.Expr (.Call (.Attribute (.Name x p) "append" apos) [e] [] cpos) pos) (sApp i M j g) k := fun C S0 S A0 H0 σ H env sto Fs o env' sto' E hZ r q z => by
  unfold sApp at q
  obtain ⟨⟨d, s1⟩, q1, q⟩ := bind_some' q
  simp only at q
  split at q
  case h_2 => cases q
  rename_i k' ds hsl
  split at q
  case isFalse => cases q
  rename_i hk
  obtain ⟨rfl, hlen⟩ := hk
  cases q
  have hlt : i < (fzIf k' d M sto' env).length := (List.getElem?_eq_some_iff.mp hsl).1
  -- the receiver
  have hrc : ∃ a0 vs0, σ[i]? = some (some (.ref a0)) ∧ H a0 = some (.lst vs0) := by
    have : ∃ d', env[i]? = some (.ow (k' + 1) d') ∧ d' = .list ds := by
      unfold fzIf at hsl
      split at hsl
      · exact ⟨_, hsl, rfl⟩
      · rw [fz_get] at hsl
        cases e1 : env[i]? with
        | none => rw [e1] at hsl; cases hsl
        | some s =>
          rw [e1] at hsl
          have h' : fzS (M.contains i) s = .ow (k' + 1) (.list ds) := Option.some.inj hsl
          cases s with
          | no => cases h'
          | sh d' => cases h'
          | ow k2 d' =>
            have h' : (if M.contains i = true then Slot.sh d' else .ow k2 d') = .ow (k' + 1) (.list ds) := h'
            split at h'
            · cases h'
            · cases h'; exact ⟨_, rfl, rfl⟩
    obtain ⟨d', e1, rfl⟩ := this
    obtain ⟨u, e2, ow⟩ := r.sl i _ e1
    obtain ⟨a0, vs0, F0, rfl, _, e3, _⟩ := ow.lstI
    exact ⟨a0, vs0, e2, e3⟩
  obtain ⟨a0, vs0, hσ, hH⟩ := hrc
  refine wpS.by (ps_expr (pe_bm PySem.F.plainAttrs_list PySem.F.slot_list_append rfl mt_append (pe_var hi hx hdb hcd) (pa_cons wpE_pe pa_nil hs) hbase hfew hline hs rfl) hsw) ?_
  refine ⟨_, hσ, .inl ⟨rfl, vs0, .of hH⟩, r.eval he q1 fun v H' F Fs' r2 rs => ?_⟩
  obtain ⟨u, e2, ow⟩ := r2.sl i _ hsl
  obtain ⟨a1, vs, F0, rfl, eF, e3, ow0⟩ := ow.lstI
  rw [hσ] at e2
  cases e2
  have ha : a0 ∈ Fs' i := by rw [eF]; exact List.mem_cons_self
  have haS : a0 ∉ S := r2.ns i a0 ha
  have e4 : H' a0 = some (.lst vs) := rs.ext a0 _ haS e3
  have hvl := ow0.length
  refine ⟨a0, vs, v, rfl, rfl, e4, by rw [sizeLine_eq]; omega, ?_⟩
  have hdis : ∀ b ∈ F, b ∉ Fs' i := fun b hb h => r2.wd.al b (.inl ⟨i, h⟩) (rs.fr b hb)
  have nd0 := r2.nd i
  rw [eF] at nd0
  have hF0 : ∀ b ∈ F0, b ∈ Fs' i := fun b hb => by rw [eF]; exact List.mem_cons_of_mem _ hb
  have hA : plus F (hd S Fs' A0) a0 := .inr (.inl ⟨i, ha⟩)
  have r3 := r2.mut (i := i) (F := a0 :: (F0 ++ F)) (ov := some (.ref a0)) (s := .ow (k' + 1) (.list (ds ++ [d]))) (H' := upd H' a0 (.lst (vs ++ [v]))) (sto' := sto') hlt ?_ ?_ ?_ ?_ ?_
  · have eσ : σ.set i (some (.ref a0)) = σ := by
      apply List.ext_getElem?
      intro m
      rw [List.getElem?_set]
      by_cases c : i = m
      · subst c
        rw [if_pos rfl, hσ]
        rw [if_pos (List.getElem?_eq_some_iff.mp hσ).1]
      · rw [if_neg c]
    rw [eσ] at r3
    exact z S _ _ _ r3
  · intro b o hb hn h
    rw [upd_ne (fun c : b = a0 => hn (c ▸ ha))]
    exact rs.ext b o hb h
  · have w1 := rs.wd.upd (o := .lst (vs ++ [v])) hA haS ⟨_, e4⟩
    refine w1.less (fun b h => ?_) (fun a e => .inr (.inr (.inr e)))
    rcases h with h | h
    · rcases List.mem_cons.mp h with rfl | h
      · exact hA
      · rcases List.mem_append.mp h with h | h
        · exact .inr (.inl ⟨i, hF0 b h⟩)
        · exact .inl h
    · exact .inr h
  · refine List.nodup_cons.mpr ⟨fun h => ?_, List.nodup_append.mpr ⟨(List.nodup_cons.mp nd0).2, rs.nd, fun b hb c hc e => hdis c hc (e ▸ hF0 b hb)⟩⟩
    rcases List.mem_append.mp h with h | h
    · exact (List.nodup_cons.mp nd0).1 h
    · exact hdis a0 h ha
  · intro b h
    rcases List.mem_cons.mp h with rfl | h
    · exact .inr ha
    · rcases List.mem_append.mp h with h | h
      · exact .inr (hF0 b h)
      · exact .inl (rs.fr b h)
  · refine ⟨.ref a0, rfl, .lst upd_same ?_⟩
    have sub : ∀ b, hd S (setF Fs' i (a0 :: (F0 ++ F))) A0 b → plus F (hd S Fs' A0) b := fun b h => by
      rcases hd_set r2 b h with h | h
      · rcases List.mem_cons.mp h with rfl | h
        · exact hA
        · rcases List.mem_append.mp h with h | h
          · exact .inr (.inl ⟨i, hF0 b h⟩)
          · exact .inl h
      · exact .inr h
    have hu : hid (plus F (hd S Fs' A0)) (upd H' a0 (.lst (vs ++ [v]))) = hid (plus F (hd S Fs' A0)) H' := hid_upd hA
    have s2 : Same (hid (plus F (hd S Fs' A0)) H') (hid (hd S (setF Fs' i (a0 :: (F0 ++ F))) A0) (upd H' a0 (.lst (vs ++ [v])))) := fun b o q => by rw [← hu] at q; exact hid_le sub b o q
    have s1 : Same (hid (hd S Fs' A0) H) (hid (plus F (hd S Fs' A0)) H') := hid_move rs.ext r2.wd.hS fun b h => by
      rcases h with h | h
      · exact .inr (rs.fr b h)
      · exact .inl h
    have o1 : OwA X.K S (hd S (setF Fs' i (a0 :: (F0 ++ F))) A0) (upd H' a0 (.lst (vs ++ [v]))) k' vs ds F0 := ow0.mv (fun b o q => s2 b o (s1 b o q)) fun b hb o q => by
      rw [upd_ne (fun c : b = a0 => (List.nodup_cons.mp nd0).1 (c ▸ hb))]
      exact rs.ext b o (r2.ns i b (hF0 b hb)) q
    have o2 : Ow X.K S (hd S (setF Fs' i (a0 :: (F0 ++ F))) A0) (upd H' a0 (.lst (vs ++ [v]))) k' v d F := rs.ow.mv s2 fun b hb o q => by
      rw [upd_ne (fun c : b = a0 => hdis b hb (c ▸ ha))]
      exact q
    have := o1.append (.cons o2 .nil)
    rwa [List.append_nil] at this
theorem fzIf_ow {k k' : Nat} {d d' : D} {M : List Nat} {s : STO} {env : Env} {i : Nat} (hsl : (fzIf k d M s env)[i]? = some (.ow k' d')) : env[i]? = some (.ow k' d') := by
  unfold fzIf at hsl
  split at hsl
  · exact hsl
  · rw [fz_get] at hsl
    cases e1 : env[i]? with
    | none => rw [e1] at hsl; cases hsl
    | some s =>
      rw [e1] at hsl
      have h' : fzS (M.contains i) s = .ow k' d' := Option.some.inj hsl
      cases s with
      | no => cases h'
      | sh d' => cases h'
      | ow k2 d2 =>
        have h' : (if M.contains i = true then Slot.sh d2 else .ow k2 d2) = .ow k' d' := h'
        split at h'
        · cases h'
        · rw [h']
theorem set_same {σ : Sg} {i : Nat} {v : Option V} (h : σ[i]? = some v) : σ.set i v = σ := by
  apply List.ext_getElem?
  intro m
  rw [List.getElem?_set]
  by_cases c : i = m
  · subst c
    rw [if_pos rfl, h, if_pos (List.getElem?_eq_some_iff.mp h).1]
  · rw [if_neg c]
/-- name[i].append(e) -/
def sApp1 (i : Nat) (M : List Nat) (k : Nat) (fi g : Ev) : Sv := fun env s => (fi (see [] env) s).bind fun pi => match pi.1 with
  | .int n => (g (see M env) pi.2).bind fun p => match (fzIf k p.1 M p.2 env)[i]? with
    | some (.ow (k' + 2) (.list ds)) => if k' = k then (ixN ds.length n).bind fun m => match ds[m]? with
      | some (.list es) => if es.length < 16777216 then some (.nx, (fzIf k p.1 M p.2 env).set i (.ow (k + 2) (.list (ds.set m (.list (es ++ [p.1]))))), p.2) else none
      | _ => none
      else none
    | _ => none
  | _ => none
theorem js_app1 {spos : Pos} (hix : JP X b f 0) (he : JP X e g j) (hi : X.N[i]? = some x) (hx : Vis X.env.scope x) (hsx : PlainIx b) (hdb : (x == Str.ofString "__debug__") = false := by decide) (hcd : (x == Str.ofString "__classdict__") = false := by decide)
    (hbase : attributeBase (.Subscript (.Name x p) b spos) "append" X.env (eval (.Subscript (.Name x p) b spos) X.env) = eval (.Subscript (.Name x p) b spos) X.env := by rfl)
    (hfew : ((backTo cpos (starEach [e] X.env)).all (fun x => !x.1) && (backToKw cpos (keywordEach [] X.env)).all (fun x => x.1.isSome) && decide ([e].length + ([] : List Keyword).length + (if ([] : List Keyword).isEmpty then 0 else 1) < 30)) = true := by rfl)
    (hline : (apos.endLine == cpos.line) = true := by rfl) (hs : starEach [e] X.env = (false, eval e X.env) :: starEach [] X.env := by rfl) (hsw : swapsWith (.Call (.Attribute (.Subscript (.Name x p) b spos) "append" apos) [e] [] cpos) none pos.line X.env = pure false := by rfl) :
    JS Z X (.Expr (.Call (.Attribute (.Subscript (.Name x p) b spos) "append" apos) [e] [] cpos) pos) (sApp1 i M j f g) k := fun C S0 S A0 H0 σ H env sto Fs o env' sto' E hZ r q z => by
  unfold sApp1 at q
  obtain ⟨⟨di, s1⟩, q0, q⟩ := bind_some' q
  split at q
  case h_2 => cases q
  rename_i n hdi
  obtain rfl : di = .int n := hdi
  obtain ⟨⟨d, s2⟩, q1, q⟩ := bind_some' q
  simp only at q
  split at q
  case h_2 => cases q
  rename_i k' ds hsl
  split at q
  case isFalse => cases q
  rename_i hk
  subst hk
  obtain ⟨m, hm, q⟩ := bind_some' q
  split at q
  case h_2 => cases q
  rename_i es hes
  split at q
  case isFalse => cases q
  rename_i hlen
  cases q
  simp only at q1
  have hlt : i < (fzIf k' d M sto' env).length := (List.getElem?_eq_some_iff.mp hsl).1
  refine wpS.by (ps_expr (pe_bm PySem.F.plainAttrs_list PySem.F.slot_list_append rfl mt_append (pe_ix ix_list (pe_var hi hx hdb hcd) wpE_pe hsx) (pa_cons wpE_pe pa_nil hs) hbase hfew hline hs rfl) hsw) ?_
  have e1 := fzIf_ow hsl
  obtain ⟨u, e2, ow⟩ := r.sl i _ e1
  obtain ⟨a0, vs, F0, rfl, eF, e3, ow0⟩ := ow.lstI
  refine ⟨_, e2, hix.use (r.wdM []) (r.rdM []) q0 fun vi H1 x1 w1 r1 p1 => ?_⟩
  have rr : Sr X.K C S0 S A0 H0 σ H1 env s1 Fs := r.go x1 (r.wd.wide x1 w1 (okM_g (okM_nil _)))
  have haF : a0 ∈ Fs i := by rw [eF]; exact List.mem_cons_self
  have e3' : H1 a0 = some (.lst vs) := x1 a0 _ (r.ns i a0 haF) e3
  obtain ⟨vm, F1, Fj, F2, g1, g2, g3, g4, g5⟩ := ow0.split hes
  obtain ⟨b0, ws0, Fb, rfl, rfl, e5, _⟩ := g4.lstI
  have hat : atI vs n = some (.ref b0) := by unfold atI; rw [ow0.length, hm]; exact g1
  have hbF : b0 ∈ Fs i := by rw [eF, g2]; exact List.mem_cons_of_mem _ (List.mem_append_right _ (List.mem_append_left _ List.mem_cons_self))
  have e5' : H1 b0 = some (.lst ws0) := x1 b0 _ (r.ns i b0 hbF) e5
  refine ⟨a0, vs, n, .ref b0, rfl, p1.intI, .of e3', hat, .inl ⟨rfl, ws0, .of e5'⟩, rr.eval he q1 fun v H' F Fs' r2 rs => ?_⟩
  obtain ⟨u, e2', ow'⟩ := r2.sl i _ hsl
  rw [e2] at e2'
  cases e2'
  obtain ⟨a1, vs', G0, ea, eG, h3, ow1⟩ := ow'.lstI
  cases ea
  rw [e3'] at h3
  cases h3
  obtain ⟨vm', G1, Gj, G2, k1, k2, k3, k4, k5⟩ := ow1.split hes
  rw [g1] at k1
  cases k1
  obtain ⟨b1, ws, Gb, eb, rfl, h5, ow2⟩ := k4.lstI
  cases eb
  subst k2
  have ha : a0 ∈ Fs' i := by rw [eG]; exact List.mem_cons_self
  have hb : b0 ∈ Fs' i := by rw [eG]; exact List.mem_cons_of_mem _ (List.mem_append_right _ (List.mem_append_left _ List.mem_cons_self))
  have hin : ∀ c ∈ G1 ++ ((b0 :: Gb) ++ G2), c ∈ Fs' i := fun c hc => by rw [eG]; exact List.mem_cons_of_mem _ hc
  have hab : a0 ≠ b0 := fun c => by
    have := r2.nd i
    rw [eG] at this
    exact (List.nodup_cons.mp this).1 (by rw [c]; exact List.mem_append_right _ (List.mem_append_left _ List.mem_cons_self))
  have nd0 := r2.nd i
  rw [eG] at nd0
  obtain ⟨nda, nd1⟩ := List.nodup_cons.mp nd0
  obtain ⟨ndG1, ndR, ndx⟩ := List.nodup_append.mp nd1
  obtain ⟨ndb, ndG2, ndy⟩ := List.nodup_append.mp ndR
  obtain ⟨nbG, ndGb⟩ := List.nodup_cons.mp ndb
  have h5' : H' b0 = some (.lst ws) := rs.ext b0 _ (r2.ns i b0 hb) h5
  have h3' : H' a0 = some (.lst vs) := rs.ext a0 _ (r2.ns i a0 ha) e3'
  have hwl := ow2.length
  refine ⟨b0, ws, v, rfl, rfl, h5', by rw [sizeLine_eq]; omega, ?_⟩
  have hdis : ∀ c ∈ F, c ∉ Fs' i := fun c hc h => r2.wd.al c (.inl ⟨i, h⟩) (rs.fr c hc)
  have hB : plus F (hd S Fs' A0) b0 := .inr (.inl ⟨i, hb⟩)
  have mem3 : ∀ c, c ∈ a0 :: (G1 ++ ((b0 :: (Gb ++ F)) ++ G2)) → c ∈ F ∨ c ∈ Fs' i := fun c h => by
    rcases List.mem_cons.mp h with rfl | h
    · exact .inr ha
    · rcases List.mem_append.mp h with h | h
      · exact .inr (hin c (List.mem_append_left _ h))
      · rcases List.mem_append.mp h with h | h
        · rcases List.mem_cons.mp h with rfl | h
          · exact .inr hb
          · rcases List.mem_append.mp h with h | h
            · exact .inr (hin c (List.mem_append_right _ (List.mem_append_left _ (List.mem_cons_of_mem _ h))))
            · exact .inl h
        · exact .inr (hin c (List.mem_append_right _ (List.mem_append_right _ h)))
  have r3 := r2.mut (i := i) (F := a0 :: (G1 ++ ((b0 :: (Gb ++ F)) ++ G2))) (ov := some (.ref a0)) (s := .ow (k' + 2) (.list (ds.set m (.list (es ++ [d]))))) (H' := upd H' b0 (.lst (ws ++ [v]))) (sto' := sto') hlt ?_ ?_ ?_ ?_ ?_
  · rw [set_same e2] at r3
    exact z S _ _ _ r3
  · intro c o hcS hn h
    rw [upd_ne (fun q : c = b0 => hn (q ▸ hb))]
    exact rs.ext c o hcS h
  · have w1 := rs.wd.upd (o := .lst (ws ++ [v])) hB (r2.ns i b0 hb) ⟨_, h5'⟩
    refine w1.less (fun c h => ?_) (fun a e => .inr (.inr (.inr e)))
    rcases h with h | h
    · exact (mem3 c h).imp id fun h => .inl ⟨i, h⟩
    · exact .inr h
  · refine List.nodup_cons.mpr ⟨fun h => ?_, List.nodup_append.mpr ⟨ndG1, List.nodup_append.mpr ⟨List.nodup_cons.mpr ⟨fun h => ?_, List.nodup_append.mpr ⟨ndGb, rs.nd, fun c hc c' hc' e => hdis c' hc' (e ▸ hin c (List.mem_append_right _ (List.mem_append_left _ (List.mem_cons_of_mem _ hc))))⟩⟩, ndG2, fun c hc c' hc' e => ?_⟩, fun c hc c' hc' e => ?_⟩⟩
    · rcases List.mem_append.mp h with h | h
      · exact nda (List.mem_append_left _ h)
      · rcases List.mem_append.mp h with h | h
        · rcases List.mem_cons.mp h with h | h
          · exact hab h
          · rcases List.mem_append.mp h with h | h
            · exact nda (List.mem_append_right _ (List.mem_append_left _ (List.mem_cons_of_mem _ h)))
            · exact hdis a0 h ha
        · exact nda (List.mem_append_right _ (List.mem_append_right _ h))
    · rcases List.mem_append.mp h with h | h
      · exact nbG h
      · exact hdis b0 h hb
    · subst e
      rcases List.mem_cons.mp hc with rfl | hc
      · exact ndy _ List.mem_cons_self _ hc' rfl
      · rcases List.mem_append.mp hc with hc | hc
        · exact ndy c (List.mem_cons_of_mem _ hc) c hc' rfl
        · exact hdis c hc (hin c (List.mem_append_right _ (List.mem_append_right _ hc')))
    · subst e
      rcases List.mem_append.mp hc' with hc' | hc'
      · rcases List.mem_cons.mp hc' with rfl | hc'
        · exact ndx _ hc _ (List.mem_append_left _ List.mem_cons_self) rfl
        · rcases List.mem_append.mp hc' with hc' | hc'
          · exact ndx c hc c (List.mem_append_left _ (List.mem_cons_of_mem _ hc')) rfl
          · exact hdis c hc' (hin c (List.mem_append_left _ hc))
      · exact ndx c hc c (List.mem_append_right _ hc') rfl
  · intro c h
    exact (mem3 c h).symm.imp id id |>.symm.imp (fun h => rs.fr c h) id
  · refine ⟨.ref a0, rfl, ?_⟩
    generalize hF3 : a0 :: (G1 ++ ((b0 :: (Gb ++ F)) ++ G2)) = F3 at mem3
    have sub : ∀ c, hd S (setF Fs' i F3) A0 c → plus F (hd S Fs' A0) c := fun c h => by
      rcases hd_set r2 c h with h | h
      · exact (mem3 c h).imp id fun h => .inl ⟨i, h⟩
      · exact .inr h
    have hu : hid (plus F (hd S Fs' A0)) (upd H' b0 (.lst (ws ++ [v]))) = hid (plus F (hd S Fs' A0)) H' := hid_upd hB
    have s2 : Same (hid (plus F (hd S Fs' A0)) H') (hid (hd S (setF Fs' i F3) A0) (upd H' b0 (.lst (ws ++ [v])))) := fun c o q => by rw [← hu] at q; exact hid_le sub c o q
    have s1 : Same (hid (hd S Fs' A0) H1) (hid (plus F (hd S Fs' A0)) H') := hid_move rs.ext r2.wd.hS fun c h => by
      rcases h with h | h
      · exact .inr (rs.fr c h)
      · exact .inl h
    have s3 : Same (hid (hd S Fs' A0) H1) (hid (hd S (setF Fs' i F3) A0) (upd H' b0 (.lst (ws ++ [v])))) := fun c o q => s2 c o (s1 c o q)
    have keep : ∀ c ∈ Fs' i, c ≠ b0 → ∀ o, H1 c = some o → upd H' b0 (.lst (ws ++ [v])) c = some o := fun c hc hn o q => by
      rw [upd_ne hn]
      exact rs.ext c o (r2.ns i c hc) q
    have o1 := k3.mv s3 fun c hc o q => keep c (hin c (List.mem_append_left _ hc)) (fun e => ndx c hc b0 (List.mem_append_left _ List.mem_cons_self) e) o q
    have o3 := k5.mv s3 fun c hc o q => keep c (hin c (List.mem_append_right _ (List.mem_append_right _ hc))) (fun e => ndy b0 List.mem_cons_self c hc e.symm) o q
    have o2 := ow2.mv s3 fun c hc o q => keep c (hin c (List.mem_append_right _ (List.mem_append_left _ (List.mem_cons_of_mem _ hc)))) (fun e => nbG (e ▸ hc)) o q
    have o4 : Ow X.K S (hd S (setF Fs' i F3) A0) (upd H' b0 (.lst (ws ++ [v]))) k' v d F := rs.ow.mv s2 fun c hc o q => by
      rw [upd_ne (fun e : c = b0 => hdis c hc (e ▸ hb))]
      exact q
    have o5 := o2.append (.cons o4 .nil)
    rw [List.append_nil] at o5
    rw [← hF3]
    refine .lst (vs := vs) (by rw [upd_ne hab]; exact h3') ?_
    have hml : m < ds.length := (List.getElem?_eq_some_iff.mp hes).1
    have hvl := ow1.length
    have ev : vs = vs.take m ++ (.ref b0 :: vs.drop (m + 1)) := by
      have := set_split vs m (.ref b0) (by omega)
      rw [← this]
      apply List.ext_getElem?
      intro l
      rw [List.getElem?_set]
      by_cases c : m = l
      · subst c
        rw [if_pos rfl, g1, if_pos (by omega)]
      · rw [if_neg c]
    rw [set_split ds m _ hml]
    rw [hF3]
    rw [ev] 
    have := o1.append (.cons (.lst upd_same o5) o3)
    rw [← ev]
    rw [← ev] at this
    exact this
end
end J
namespace J
open PySem PySem.Spec PyProof.Rows L2

section
variable {K : PySem.W.Frag} {S : List Addr} {A : Addr → Prop} {H : Hp}
end
theorem OwA.scal {K : PySem.W.Frag} {S S' : List Addr} {A : Addr → Prop} {H H' : Hp} : ∀ {k : Nat} {vs : List V} {ds : List D} {F : List Addr}, OwA K S A H k vs ds F → (∀ d ∈ ds, isScal d = true) → RpA K S' H' vs ds
  | _, _, _, _, .nil, _ => .nil
  | _, _, _, _, .cons a b, h => .cons (a.scal (h _ List.mem_cons_self)) (OwA.scal b fun d hd => h d (List.mem_cons_of_mem _ hd))
section
variable {Z : List Addr → Prop} {X : Cx} {st : Stmt} {rest body orelse : List Stmt} {tg it e a b c : Expr} {f g : Ev} {gb : Sv} {gt : TG} {bd : Bd} {fi : EvI} {t : EvT} {j k n i l : Nat} {pos p p2 apos cpos : Pos} {x y : Str} {M : List Nat}
/-- a slot takes what another one owned -/
theorem Sr.mut2 {K : PySem.W.Frag} {C : Hp} {S0 S : List Addr} {A0 : Addr → Prop} {H0 H H' : Hp} {σ : Sg} {env : Env} {sto sto' : STO} {Fs : Nat → List Addr} {F : List Addr} {i l : Nat} (r : Sr K C S0 S A0 H0 σ H env sto Fs) (hi : i < env.length) (hl : l < env.length) (hil : i ≠ l)
    (e : ∀ b o, b ∉ S → b ∉ Fs i → H b = some o → H' b = some o) (w : Wd K S (hd S Fs A0) H' sto') (nd : F.Nodup) (fr : ∀ a ∈ F, a ∈ Fs i ∨ a ∈ Fs l) {s : Slot} {ov : Option V}
    (hs : SlotOk K S (hd S (setF (setF Fs l []) i F) A0) H' (some ov) F s) : Sr K C S0 S A0 H0 (σ.set i ov) H' ((env.set i s).set l .no) sto' (setF (setF Fs l []) i F) := by
  have hiσ : i < σ.length := by rw [← r.len]; exact hi
  have get : ∀ j, setF (setF Fs l []) i F j = if j = i then F else if j = l then [] else Fs j := fun j => rfl
  have hin : ∀ a, a ∈ F → hd S Fs A0 a := fun a h => (fr a h).elim (fun h => .inl ⟨i, h⟩) fun h => .inl ⟨l, h⟩
  have hnew : ∀ a, hd S (setF (setF Fs l []) i F) A0 a → hd S Fs A0 a := fun a h => by
    rcases h with ⟨j, h⟩ | h
    · rw [get] at h
      split at h
      · exact hin a h
      · split at h
        · exact nomatch h
        · exact .inl ⟨j, h⟩
    · exact .inr h
  have hm : Same (hid (hd S Fs A0) H) (hid (hd S (setF (setF Fs l []) i F) A0) H') := fun a o q => by
    rw [hid_eq] at q ⊢
    exact ⟨fun z => q.1 (hnew a z), e a o (fun z => q.1 (.inr (.inr z))) (fun z => q.1 (.inl ⟨i, z⟩)) q.2⟩
  have hx : Ext S0 H0 H' := fun b o hb hbo => by
    refine e b o (fun z => ?_) (fun z => ?_) (r.ext b o hb hbo)
    · exact hb (r.inS0 z hbo)
    · rw [r.fr i b z] at hbo; cases hbo
  have dj : ∀ j a, j ≠ i → a ∈ F → a ∈ (if j = l then [] else Fs j) → False := fun j a hj h1 h2 => by
    split at h2
    · exact nomatch h2
    · rename_i hjl
      rcases fr a h1 with h | h
      · exact hj (r.dj j i a h2 h)
      · exact hjl (r.dj j l a h2 h)
  have sub : ∀ j a, a ∈ (if j = l then [] else Fs j) → a ∈ Fs j := fun j a h => by
    split at h
    · exact nomatch h
    · exact h
  refine ⟨by rw [List.length_set, List.length_set, List.length_set]; exact r.len, r.s0, r.al0, r.a0S, hx, w.less hnew (fun a e => .inr (.inr e)), fun j => ?_, fun j m a h1 h2 => ?_, fun j a h => ?_, fun j a h => ?_, fun j t h => ?_, fun j h => ?_, fun a o h => hm a o (r.pub a o h)⟩
  · rw [get]
    split
    · exact nd
    · split
      · exact .nil
      · exact r.nd j
  · rw [get] at h1 h2
    by_cases c1 : j = i
    · by_cases c2 : m = i
      · rw [c1, c2]
      · rw [if_pos c1] at h1; rw [if_neg c2] at h2
        exact (dj m a c2 h1 h2).elim
    · by_cases c2 : m = i
      · rw [if_neg c1] at h1; rw [if_pos c2] at h2
        exact (dj j a c1 h2 h1).elim
      · rw [if_neg c1] at h1; rw [if_neg c2] at h2
        exact r.dj j m a (sub j a h1) (sub m a h2)
  · rw [get] at h
    split at h
    · exact (fr a h).elim (r.fr i a) (r.fr l a)
    · exact r.fr j a (sub j a h)
  · rw [get] at h
    split at h
    · exact (fr a h).elim (r.ns i a) (r.ns l a)
    · exact r.ns j a (sub j a h)
  · by_cases c2 : j = l
    · subst c2
      rw [List.getElem?_set, if_pos rfl, if_pos (by rw [List.length_set]; exact hl)] at h
      cases h
      exact trivial
    · rw [List.getElem?_set_ne (Ne.symm c2)] at h
      by_cases c : j = i
      · subst c
        rw [List.getElem?_set, if_pos rfl, if_pos hi] at h
        cases h
        rw [List.getElem?_set, if_pos rfl, if_pos hiσ, get, if_pos rfl]
        exact hs
      · rw [List.getElem?_set_ne (Ne.symm c)] at h ⊢
        rw [get, if_neg c, if_neg c2]
        have q := r.sl j t h
        cases t with
        | no => exact q
        | sh d' =>
          obtain ⟨q1, u, e1, e2⟩ := q
          exact ⟨q1, u, e1, e2.le hm⟩
        | ow k d' =>
          obtain ⟨u, e1, e2⟩ := q
          exact ⟨u, e1, e2.mv hm fun a ha o q => e a o (r.ns j a ha) (fun z => c (r.dj j i a ha z)) q⟩
  · rw [List.getElem?_eq_none_iff, List.length_set, List.length_set] at h
    rw [get, if_neg (by omega), if_neg (by omega)]
    exact r.out j (List.getElem?_eq_none h)
/-- name.append(y), what y owned handed on -/
def sAppM (i l k : Nat) : Sv := fun env s => match env[i]?, env[l]? with
  | some (.ow (k' + 1) (.list ds)), some (.ow j d) => if k' = k ∧ j = k ∧ i ≠ l ∧ ds.length < 16777216 then some (.nx, (env.set i (.ow (k + 1) (.list (ds ++ [d])))).set l .no, s) else none
  | _, _ => none
end
/-! ### cells are made -/
mutual
def tokLt (n : Nat) : D → Bool
  | .list ds => tokLtA n ds
  | .tuple ds => tokLtA n ds
  | .dict es => (match es with
    | [(.none, .int i)] => decide (0 ≤ i) && decide (i < n)
    | _ => true) && tokLtE n es
  | _ => true
def tokLtA (n : Nat) : List D → Bool
  | [] => true
  | d :: r => tokLt n d && tokLtA n r
def tokLtE (n : Nat) : List (D × D) → Bool
  | [] => true
  | (_, d) :: r => tokLt n d && tokLtE n r
end
section
variable {K : PySem.W.Frag} {S T : List Addr} {H : Hp}
theorem Rp.grow {v : V} {d : D} (h : Rp K S H v d) : Rp K (S ++ T) H v d :=
  Rp.rec (motive_1 := fun v d _ => Rp K (S ++ T) H v d) (motive_2 := fun v d _ => RpA K (S ++ T) H v d) (motive_3 := fun v d _ => RpK K (S ++ T) H v d) (motive_4 := fun v d _ => RpT K (S ++ T) H v d)
    .non (fun b => .bl b) (fun i => .int i) (fun x => .str x) (fun s _ h => .lst s h) (fun s _ h => .tup s h)
    (fun s _ h => .dK s h) (fun s _ h => .dT s h) (fun s => .tok (by rw [List.getElem?_append_left (List.getElem?_eq_some_iff.mp s).1]; exact s)) (fun s _ h => .sk s h) (fun s _ h => .rK s h) (fun s _ h => .rT s h) .ex (fun s c => .obj s c) (fun x => .exi x)
    .nil (fun _ _ a b => .cons a b) .nil (fun _ _ a b => .cons a b) .nil (fun _ _ a b => .cons a b) h
theorem RpA.grow : ∀ {vs : List V} {ds : List D}, RpA K S H vs ds → RpA K (S ++ T) H vs ds
  | _, _, .nil => .nil
  | _, _, .cons a b => .cons a.grow b.grow
theorem RpK.grow : ∀ {vs : List (Key × V)} {ds : List (D × D)}, RpK K S H vs ds → RpK K (S ++ T) H vs ds
  | _, _, .nil => .nil
  | _, _, .cons a b => .cons a.grow b.grow
theorem RpT.grow : ∀ {vs : List (List Key × V)} {ds : List (D × D)}, RpT K S H vs ds → RpT K (S ++ T) H vs ds
  | _, _, .nil => .nil
  | _, _, .cons a b => .cons a.grow b.grow
theorem Rp.shrink {v : V} {d : D} (h : Rp K (S ++ T) H v d) : tokLt S.length d = true → Rp K S H v d :=
  Rp.rec (motive_1 := fun v d _ => tokLt S.length d = true → Rp K S H v d) (motive_2 := fun v d _ => tokLtA S.length d = true → RpA K S H v d) (motive_3 := fun v d _ => tokLtE S.length d = true → RpK K S H v d) (motive_4 := fun v d _ => tokLtE S.length d = true → RpT K S H v d)
    (fun _ => .non) (fun b _ => .bl b) (fun i _ => .int i) (fun x _ => .str x) (fun s _ h e => .lst s (h (by rw [tokLt] at e; exact e))) (fun s _ h e => .tup s (h (by rw [tokLt] at e; exact e)))
    (fun s _ h e => .dK s (h (by simp only [tokLt, Bool.and_eq_true] at e; exact e.2))) (fun s _ h e => .dT s (h (by simp only [tokLt, Bool.and_eq_true] at e; exact e.2)))
    (fun {a i} s e => .tok (by
      have e : (decide ((0 : Int) ≤ (i : Int)) && decide ((i : Int) < S.length)) && tokLtE S.length [(.none, .int (i : Nat))] = true := e
      rw [Bool.and_eq_true, Bool.and_eq_true, decide_eq_true_eq, decide_eq_true_eq] at e
      rw [List.getElem?_append_left (by omega)] at s
      exact s))
    (fun s _ h e => .sk s (h (by simp only [skD, tokLt, tokLtE, Bool.and_eq_true] at e; exact e.2.1))) (fun s _ h e => .rK s (h (by simp only [tokLt, tokLtE, Bool.and_eq_true] at e; exact e.2.2))) (fun s _ h e => .rT s (h (by simp only [tokLt, tokLtE, Bool.and_eq_true] at e; exact e.2.2))) (fun _ => .ex) (fun s c _ => .obj s c) (fun x _ => .exi x)
    (fun _ => .nil) (fun _ _ a b e => by rw [tokLtA, Bool.and_eq_true] at e; exact .cons (a e.1) (b e.2)) (fun _ => .nil) (fun _ _ a b e => by rw [tokLtE, Bool.and_eq_true] at e; exact .cons (a e.1) (b e.2)) (fun _ => .nil) (fun _ _ a b e => by rw [tokLtE, Bool.and_eq_true] at e; exact .cons (a e.1) (b e.2)) h
theorem RpA.shrink : ∀ {vs : List V} {ds : List D}, RpA K (S ++ T) H vs ds → tokLtA S.length ds = true → RpA K S H vs ds
  | _, _, .nil, _ => .nil
  | _, _, .cons a b, e => by rw [tokLtA, Bool.and_eq_true] at e; exact .cons (a.shrink e.1) (b.shrink e.2)
theorem RpK.shrink : ∀ {vs : List (Key × V)} {ds : List (D × D)}, RpK K (S ++ T) H vs ds → tokLtE S.length ds = true → RpK K S H vs ds
  | _, _, .nil, _ => .nil
  | _, _, .cons a b, e => by rw [tokLtE, Bool.and_eq_true] at e; exact .cons (a.shrink e.1) (b.shrink e.2)
theorem RpT.shrink : ∀ {vs : List (List Key × V)} {ds : List (D × D)}, RpT K (S ++ T) H vs ds → tokLtE S.length ds = true → RpT K S H vs ds
  | _, _, .nil, _ => .nil
  | _, _, .cons a b, e => by rw [tokLtE, Bool.and_eq_true] at e; exact .cons (a.shrink e.1) (b.shrink e.2)
variable {A : Addr → Prop}
mutual
theorem Ow.grow : ∀ {k : Nat} {v : V} {d : D} {F : List Addr}, Ow K S A H k v d F → Ow K (S ++ T) A H k v d F
  | _, _, _, _, .sh r => .sh r.grow
  | _, _, _, _, .at h1 h2 r => .at h1 h2 r.grow
  | _, _, _, _, .lst e t => .lst e t.grow
theorem OwA.grow : ∀ {k : Nat} {v : List V} {d : List D} {F : List Addr}, OwA K S A H k v d F → OwA K (S ++ T) A H k v d F
  | _, _, _, _, .nil => .nil
  | _, _, _, _, .cons a b => .cons a.grow b.grow
end
mutual
theorem Ow.shrink : ∀ {k : Nat} {v : V} {d : D} {F : List Addr}, Ow K (S ++ T) A H k v d F → tokLt S.length d = true → Ow K S A H k v d F
  | _, _, _, _, .sh r, e => .sh (r.shrink e)
  | _, _, _, _, .at h1 h2 r, e => .at h1 h2 (r.shrink e)
  | _, _, _, _, .lst q t, e => .lst q (t.shrink (by rw [tokLt] at e; exact e))
theorem OwA.shrink : ∀ {k : Nat} {v : List V} {d : List D} {F : List Addr}, OwA K (S ++ T) A H k v d F → tokLtA S.length d = true → OwA K S A H k v d F
  | _, _, _, _, .nil, _ => .nil
  | _, _, _, _, .cons a b, e => by
    rw [tokLtA, Bool.and_eq_true] at e
    exact .cons (a.shrink e.1) (b.shrink e.2)
end
theorem OwA.zero' : ∀ {v : List V} {d : List D} {F : List Addr}, OwA K S A H 0 v d F → F = [] ∧ RpA K S (hid A H) v d
  | _, _, _, .nil => ⟨rfl, .nil⟩
  | _, _, _, .cons a b => by
    obtain ⟨rfl, h2⟩ := b.zero'
    cases a with
    | sh r => exact ⟨rfl, .cons r h2⟩
def cellLt (n : Nat) : Cell → Bool
  | .lst ds => tokLtA n ds
  | .dct _ es => tokLtE n es
  | .tbl _ _ => true
  | .fdc _ es => tokLtE n es
theorem CellOk.grow {a : Addr} {c : Cell} (h : CellOk K S A H a c) : CellOk K (S ++ T) A H a c := by
  cases c with
  | lst ds => obtain ⟨vs, h1, h2⟩ := h; exact ⟨vs, h1, h2.grow⟩
  | dct t es =>
    cases t with
    | false => obtain ⟨k, h1, h2⟩ := h; exact ⟨k, h1, h2.grow⟩
    | true => obtain ⟨k, h1, h2⟩ := h; exact ⟨k, h1, h2.grow⟩
  | tbl q P => exact h
  | fdc t es =>
    cases t with
    | false => obtain ⟨o, k, h1, h2⟩ := h; exact ⟨o, k, h1, h2.grow⟩
    | true => obtain ⟨o, k, h1, h2⟩ := h; exact ⟨o, k, h1, h2.grow⟩
theorem CellOk.shrink {a : Addr} {c : Cell} (h : CellOk K (S ++ T) A H a c) (e : cellLt S.length c = true) : CellOk K S A H a c := by
  cases c with
  | lst ds => obtain ⟨vs, h1, h2⟩ := h; exact ⟨vs, h1, h2.shrink e⟩
  | dct t es =>
    cases t with
    | false => obtain ⟨k, h1, h2⟩ := h; exact ⟨k, h1, h2.shrink e⟩
    | true => obtain ⟨k, h1, h2⟩ := h; exact ⟨k, h1, h2.shrink e⟩
  | tbl q P => exact h
  | fdc t es =>
    cases t with
    | false => obtain ⟨o, k, h1, h2⟩ := h; exact ⟨o, k, h1, h2.shrink e⟩
    | true => obtain ⟨o, k, h1, h2⟩ := h; exact ⟨o, k, h1, h2.shrink e⟩
end
section
variable {K : PySem.W.Frag} {C : Hp} {S0 S : List Addr} {A0 : Addr → Prop} {H0 H : Hp} {σ : Sg} {env : Env} {sto : STO} {Fs : Nat → List Addr} {i : Nat}
theorem SlotOk.grow {T : List Addr} {A : Addr → Prop} {v : Option (Option V)} {F : List Addr} {s : Slot} (h : SlotOk K S A H v F s) : SlotOk K (S ++ T) A H v F s := by
  cases s with
  | no => exact trivial
  | sh d => obtain ⟨h1, u, e, r⟩ := h; exact ⟨h1, u, e, r.grow⟩
  | ow k d => obtain ⟨u, e, o⟩ := h; exact ⟨u, e, o.grow⟩
/-- an owned object becomes a cell -/
theorem Sr.toCell {b : Addr} {c : Cell} (r : Sr K C S0 S A0 H0 σ H env sto Fs) (hi : i < env.length) (hF : Fs i = [b]) (hv : σ[i]? = some (some (.ref b))) (hc : CellOk K S (hd S Fs A0) H b c) :
    Sr K C S0 (S ++ [b]) A0 H0 σ H (env.set i (.sh (tokD S.length))) (sto ++ [c]) (setF Fs i []) := by
  have hb : b ∈ Fs i := by rw [hF]; exact List.mem_cons_self
  have eA : hd (S ++ [b]) (setF Fs i []) A0 = hd S Fs A0 := by
    funext a
    simp only [eq_iff_iff]
    constructor
    · rintro (⟨j, h⟩ | h | h)
      · unfold setF at h
        split at h
        · exact nomatch h
        · exact .inl ⟨j, h⟩
      · exact .inr (.inl h)
      · rcases List.mem_append.mp h with h | h
        · exact .inr (.inr h)
        · rw [List.mem_singleton.mp h]; exact .inl ⟨i, hb⟩
    · rintro (⟨j, h⟩ | h | h)
      · by_cases e : j = i
        · subst e
          rw [hF] at h
          exact .inr (.inr (List.mem_append_right _ h))
        · exact .inl ⟨j, by unfold setF; rw [if_neg e]; exact h⟩
      · exact .inr (.inl h)
      · exact .inr (.inr (List.mem_append_left _ h))
  refine ⟨by rw [List.length_set]; exact r.len, ?_, r.al0, r.a0S, r.ext, ?_, fun j => ?_, fun j l a h1 h2 => ?_, fun j a h => ?_, fun j a h => ?_, fun j s h => ?_, fun j h => ?_, ?_⟩
  · obtain ⟨S1, e, h⟩ := r.s0
    refine ⟨S1 ++ [b], by rw [e, List.append_assoc], fun a ha => ?_⟩
    rcases List.mem_append.mp ha with ha | ha
    · exact h a ha
    · rw [List.mem_singleton.mp ha]; exact r.fr i b hb
  · rw [eA]
    refine ⟨r.wd.alt, fun a ha => ?_, List.nodup_append.mpr ⟨r.wd.nds, List.nodup_cons.mpr ⟨List.not_mem_nil, List.nodup_nil⟩, fun x hx y hy e => ?_⟩, by rw [List.length_append, List.length_append, r.wd.len]; rfl, fun j a cj h1 h2 => ?_⟩
    · rcases List.mem_append.mp ha with ha | ha
      · exact .inr (.inr ha)
      · rw [List.mem_singleton.mp ha]; exact .inl ⟨i, hb⟩
    · rw [List.mem_singleton.mp hy] at e
      exact r.ns i b hb (e ▸ hx)
    · by_cases hj : j < S.length
      · rw [List.getElem?_append_left hj] at h1
        rw [List.getElem?_append_left (by rw [← r.wd.len]; exact hj)] at h2
        exact (r.wd.st j a cj h1 h2).grow
      · rw [List.getElem?_append_right (by omega)] at h1
        rw [List.getElem?_append_right (by rw [← r.wd.len]; omega)] at h2
        rw [← r.wd.len] at h2
        have : j - S.length = 0 := by
          have := (List.getElem?_eq_some_iff.mp h1).1
          simp at this
          omega
        rw [this] at h1 h2
        cases h1
        cases h2
        exact hc.grow
  · unfold setF; split
    · exact .nil
    · exact r.nd j
  · unfold setF at h1 h2
    split at h1
    · exact nomatch h1
    · split at h2
      · exact nomatch h2
      · exact r.dj j l a h1 h2
  · unfold setF at h; split at h
    · exact nomatch h
    · exact r.fr j a h
  · unfold setF at h; split at h
    · exact nomatch h
    · rename_i e
      intro z
      rcases List.mem_append.mp z with z | z
      · exact r.ns j a h z
      · rw [List.mem_singleton.mp z] at h
        exact e (r.dj j i b h hb)
  · rw [eA]
    by_cases e : i = j
    · subst e
      rw [List.getElem?_set, if_pos rfl, if_pos hi] at h
      cases h
      refine ⟨by unfold setF; rw [if_pos rfl], _, hv, .tok ?_⟩
      rw [List.getElem?_append_right (Nat.le_refl _), Nat.sub_self]
      rfl
    · rw [List.getElem?_set_ne e] at h
      have q := (r.sl j s h).grow (T := [b])
      have : setF Fs i [] j = Fs j := by unfold setF; rw [if_neg (Ne.symm e)]
      rw [this]
      exact q
  · by_cases e : i = j
    · subst e
      unfold setF; rw [if_pos rfl]
    · rw [List.getElem?_set_ne e] at h
      unfold setF; rw [if_neg (Ne.symm e)]
      exact r.out j h
  · rw [eA]; exact r.pub
end
section
variable {Z : List Addr → Prop} {X : Cx} {e : Expr} {f : Ev} {k i : Nat} {pos p : Pos} {x : Str}
/-- an owned list or dict of depth one becomes a cell -/
def sCell (i : Nat) : Sv := fun env s => match env[i]? with
  | some (.ow 1 (.list ds)) => some (.nx, env.set i (.sh (tokD s.length)), s ++ [.lst ds])
  | _ => none
theorem Sr.cell {K : PySem.W.Frag} {C : Hp} {S0 S : List Addr} {A0 : Addr → Prop} {H0 H : Hp} {σ : Sg} {env env' : Env} {sto sto' : STO} {Fs : Nat → List Addr} {o : Out} (r : Sr K C S0 S A0 H0 σ H env sto Fs) (q : sCell i env sto = some (o, env', sto')) : o = .nx ∧ ∃ S' Fs', Sr K C S0 S' A0 H0 σ H env' sto' Fs' := by
  unfold sCell at q
  split at q
  · rename_i ds hs
    cases q
    obtain ⟨u, e1, ow⟩ := r.sl i _ hs
    obtain ⟨b, vs, F0, rfl, hF, h1, h2⟩ := ow.lstI
    obtain ⟨rfl, h3⟩ := h2.zero'
    have := r.toCell (List.getElem?_eq_some_iff.mp hs).1 hF e1 (c := .lst ds) ⟨vs, h1, h3⟩
    rw [r.wd.len] at this
    exact ⟨rfl, _, _, this⟩
  · cases q
/-- name = a new list, in a cell -/
def sNew (i : Nat) (f : Ev) : Sv := sSeq (sSet i 1 [] f) (sCell i)
theorem js_new (he : JP X e f 1) (hN : X.N.Nodup) (hi : X.N[i]? = some x) (hx : Loc X.env.scope x) (hs : swapsWith e (some (.Name x p)) pos.line X.env = pure false := by rfl) (hf : X.fn x = true ∨ X.env.scope.names.lookup x = some .local := by first | exact .inl rfl | exact .inr rfl | assumption) :
    JS Z X (.Assign [.Name x p] e pos) (sNew i f) k := fun C S0 S A0 H0 σ H env sto Fs o env' sto' E hZ r q z => by
  unfold sNew sSeq at q
  obtain ⟨⟨o1, e1, s1⟩, q1, q⟩ := bind_some' q
  have ho : o1 = .nx := by
    unfold sSet at q1
    split at q1
    · obtain ⟨_, _, h⟩ := map_some' q1
      cases h
      rfl
    · cases q1
  subst ho
  refine js_set (k := k) he hN hi hx hs hf C S0 S A0 H0 σ H env sto Fs .nx e1 s1 E hZ r q1 fun S1 σ1 H1 Fs1 r1 => ?_
  obtain ⟨rfl, S2, Fs2, r2⟩ := r1.cell q
  exact z S2 σ1 H1 Fs2 r2
end

/-! ### defs -/
/-- a dict that changes no more is handed back -/
def thaw (n : Nat) (d : D) (s' : STO) : D := match isTok d with
  | some j => (match s'[j]? with
    | some (.fdc t es) => if n ≤ j then .dict ((.none, .bool t) :: es) else d
    | _ => d)
  | none => d
def fin (s : STO) (d : D) (s' : STO) : Option (D × STO) :=
  if s'.length = s.length then some (d, s') else if tokLt s.length (thaw s.length d s') = true ∧ (s'.take s.length).all (cellLt s.length) = true then some (thaw s.length d s', s'.take s.length) else none
theorem thaw_ow {K : PySem.W.Frag} {S S1 : List Addr} {A : Addr → Prop} {H' : Hp} {sto s1 : STO} {k : Nat} {v : V} {d1 : D} {F : List Addr} (hl : S.length = sto.length) (w' : Wd K (S ++ S1) (fun a => a ∈ F ∨ A a ∨ a ∈ S ++ S1) H' s1) (hA : ∀ a ∈ S1, ¬ A a)
    (ow : Ow K (S ++ S1) (fun a => a ∈ F ∨ A a ∨ a ∈ S ++ S1) H' k v d1 F) (c1 : tokLt sto.length (thaw sto.length d1 s1) = true) : Ow K S (plus F A) H' k v (thaw sto.length d1 s1) F := by
  have hsub : ∀ a, plus F A a → (a ∈ F ∨ A a ∨ a ∈ S ++ S1) := fun a h => h.imp id .inl
  have plain : tokLt sto.length d1 = true → Ow K S (plus F A) H' k v d1 F := fun c => (ow.mv (hid_le hsub) fun a _ o q => q).shrink (by rw [hl]; exact c)
  unfold thaw at c1 ⊢
  split at c1
  · rename_i j hj
    split at c1
    · rename_i t es hc
      split at c1
      · rename_i hn
        simp only [hj, hc, if_pos hn]
        have hF : F = [] := by
          rw [isTok_eq hj] at ow
          unfold tokD at ow
          generalize e0 : PyData.dict [(.none, .int (j : Nat))] = d0 at ow
          cases ow with
          | sh r => rfl
          | «at» h1 h2 r => rfl
          | lst e t => cases e0
        subst hF
        have rp : Rp K (S ++ S1) (hid (fun a => a ∈ ([] : List Addr) ∨ A a ∨ a ∈ S ++ S1) H') v d1 := ow.rp (fun _ h => h) (fun _ h => nomatch h)
        rw [isTok_eq hj] at rp
        obtain ⟨l, rfl, hS⟩ := rp.tokI
        have hS1 : l ∈ S1 := by
          rw [List.getElem?_append_right (by omega)] at hS
          exact List.mem_of_getElem? hS
        have nA : ¬ plus [] A l := fun z => z.elim (fun z => nomatch z) (hA l hS1)
        have ok := w'.st j l _ hS hc
        have c2 : tokLtE S.length es = true := by
          have c1' : (true && (true && tokLtE sto.length es)) = true := c1
          rw [hl]
          simpa using c1'
        cases t with
        | false =>
          obtain ⟨o, kvs, h1, h2⟩ := ok
          exact .atom ⟨(fun ds z => by cases z), trivial⟩ (.rK (hid_eq.mpr ⟨nA, h1⟩) ((h2.le (hid_le hsub)).shrink c2))
        | true =>
          obtain ⟨o, kvs, h1, h2⟩ := ok
          exact .atom ⟨(fun ds z => by cases z), trivial⟩ (.rT (hid_eq.mpr ⟨nA, h1⟩) ((h2.le (hid_le hsub)).shrink c2))
      · rename_i hn
        simp only [hj, hc, if_neg hn]
        exact plain c1
    · exact plain c1
  · exact plain c1
def fnD (N : Nat) (body : Sv) : FnD := fun ds s => (body (ds.map .sh ++ List.replicate (N - ds.length) .no) s).bind fun p => match p.1 with
  | .rt d => fin s d p.2.2
  | .nx => fin s .none p.2.2
  | _ => none
/-- a body from its entry on -/
theorem body_core {X : Cx} {Z : List Addr → Prop} {sts : List Stmt} {g : Sv} {k : Nat} {N : List Str} {vs : List V} {H : Hp} {Q : VK} {A : Addr → Prop} {S : List Addr} {ds : List D} {sto sto' : STO} {d : D} (hZ : Z S) (hb : JSs Z X sts g k)
    (w : Wd X.K S A H sto) (rp : RpA X.K S (hid A H) vs ds) (hf : fnD N.length g ds sto = some (d, sto')) (z : ∀ v H' F', Res X.K S A H sto' k H' v d F' → Q v H') :
    wpSs X sts { nx := fun _ H' => Q .non H', rt := Q } (L2.start N vs) H := by
  unfold fnD at hf
  obtain ⟨⟨o, env', s1⟩, q1, q⟩ := bind_some' hf
  have hvl := rp.length
  have hA : hd S (fun _ => []) A = A := by
    funext a
    simp only [eq_iff_iff]
    constructor
    · rintro (⟨_, h⟩ | h | h)
      · exact nomatch h
      · exact h
      · exact w.hS a h
    · exact fun h => .inr (.inl h)
  have r : Sr X.K (fun _ => none) S S A H (L2.start N vs) H (ds.map .sh ++ List.replicate (N.length - ds.length) .no) sto (fun _ => []) := by
    refine ⟨?_, ⟨[], by simp, fun a h => absurd h List.not_mem_nil⟩, w.al, w.hS, Ext.refl, by rw [hA]; exact w, fun _ => .nil, (fun _ _ _ h => nomatch h), (fun _ _ h => nomatch h), (fun _ _ h => nomatch h), fun i s h => ?_, fun _ _ => rfl, fun _ _ h => nomatch h⟩
    · unfold L2.start
      rw [List.length_append, List.length_append, List.length_map, List.length_map, List.length_replicate, List.length_replicate, hvl]
    · rw [hA]
      unfold L2.start
      by_cases c : i < ds.length
      · rw [List.getElem?_append_left (by rw [List.length_map]; exact c), List.getElem?_map] at h
        rw [List.getElem?_append_left (by rw [List.length_map, hvl]; exact c), List.getElem?_map]
        cases e : ds[i]? with
        | none => rw [e] at h; cases h
        | some d' =>
          rw [e] at h
          cases h
          obtain ⟨v, e1, e2⟩ := rp.get e
          rw [e1]
          exact ⟨rfl, v, rfl, e2⟩
      · rw [List.getElem?_append_right (by rw [List.length_map]; omega)] at h
        have := List.mem_of_getElem? h
        rw [List.eq_of_mem_replicate this]
        exact trivial
  have fin' : ∀ d1, fin sto d1 s1 = some (d, sto') → ∀ v H', RtR X.K S A H H' k v d1 s1 → Q v H' := fun d1 hfin v H' hr => by
    obtain ⟨S', F, ⟨S1, hs, hs1⟩, x, al0, a0S, w', nd, fr, ns, ow⟩ := hr
    subst hs
    have hlS := w.len
    have hlS' := w'.len
    rw [List.length_append] at hlS'
    have hsub : ∀ a, plus F A a → (a ∈ F ∨ A a ∨ a ∈ S ++ S1) := fun a h => h.imp id .inl
    unfold fin at hfin
    split at hfin
    · rename_i hl
      cases hfin
      have : S1 = [] := List.eq_nil_of_length_eq_zero (by omega)
      subst this
      rw [List.append_nil] at *
      have hP : (fun a => a ∈ F ∨ A a ∨ a ∈ S) = plus F A := by
        funext a
        simp only [plus, eq_iff_iff]
        exact ⟨fun h => h.imp id fun h => h.elim id (w.hS a), fun h => h.imp id .inl⟩
      rw [hP] at w' ow
      exact z v H' F ⟨x, w', nd, fr, ow⟩
    · split at hfin
      case isFalse => cases hfin
      rename_i hc
      cases hfin
      obtain ⟨c1, c2⟩ := hc
      rw [← hlS] at c2
      refine z v H' F ⟨x, ⟨fun a h => w'.alt a (hsub a h), fun a h => .inr (w.hS a h), (List.nodup_append.mp w'.nds).1, by rw [List.length_take]; omega, fun i a c h1 h2 => ?_⟩, nd, fr, thaw_ow hlS w' (fun a h => w.notA (hs1 a h)) ow c1⟩
      have hi := (List.getElem?_eq_some_iff.mp h1).1
      have hcl := List.all_eq_true.mp c2 c (by rw [hlS]; exact List.mem_of_getElem? h2)
      rw [List.getElem?_take, if_pos (by omega)] at h2
      have ok := w'.st i a c (by rw [List.getElem?_append_left hi]; exact h1) h2
      exact (ok.keep (hid_le hsub) (fun _ h => h) fun _ _ h => h).shrink hcl
  refine hb (fun _ => none) S S A H (L2.start N vs) H _ sto (fun _ => []) o env' s1 _ hZ r q1 ?_
  cases o with
  | nx =>
    intro S' σ' H' Fs' r'
    refine fin' .none q .non H' ?_
    have le : ∀ a, (a ∈ ([] : List Addr) ∨ A a ∨ a ∈ S') → hd S' Fs' A a := fun a h => by
      rcases h with h | h
      · exact nomatch h
      · exact .inr h
    exact ⟨S', [], r'.s0, r'.ext, r'.al0, r'.a0S, r'.wd.less le fun a e => .inr (.inr e), .nil, noF, noF, .atom atomic_none .non⟩
  | rt d1 => exact fun v H' hr => fin' d1 q v H' hr
  | bk => cases q
  | ct => cases q
/-- what the promise about a def of n parameters says of its body -/
theorem body_of {X : Cx} {sts : List Stmt} {g : Sv} {n k : Nat} {N : List Str} {vs : List V} {H : Hp} {Q : VK} (hb : JSs (fun _ => True) X sts g k) (h : spD X.K n (fnD N.length g) k vs H Q) :
    wpSs X sts { nx := fun _ H' => Q .non H', rt := Q } (L2.start N vs) H := by
  obtain ⟨A, S, ds, sto, d, sto', hl, w, rp, hf, z⟩ := h
  exact body_core trivial hb w rp hf z
end J
namespace J
open PySem PySem.Spec PyProof.Rows L2

/-! ### sorted -/
abbrev Pc := V × D × List Addr
def pcLe (a b : Pc) : Bool := PySem.W.dataLe false (fun p : Pc => p.2.1) a b
theorem pc_srt (ps : List Pc) : (ps.mergeSort pcLe).map (fun p => p.2.1) = srt (ps.map fun p => p.2.1) := (PySem.W.sort_maps (fun p : Pc => p.2.1) fun _ _ _ _ => rfl).trans (srt_eq _).symm
def rSortedD (K : PySem.W.Frag) : List V → Hp → VK → Prop := fun vs H Q => ∃ l, ∃ ps : List Pc, vs = [.ref l] ∧ Rd H l (.lst (ps.map (·.1))) ∧ (∀ p ∈ ps, Dp K H p.1 p.2.1) ∧ sortOk (ps.map fun p => p.2.1) = true ∧ ps.length ≤ 16777216 ∧
  ∀ a, H a = none → Q (.ref a) (upd H a (.lst ((ps.mergeSort pcLe).map (·.1))))
theorem alike_of {ds : List D} (h : allAlike ds = true) : PySem.W.AllAlike ds := fun d hd d' hd' => List.all_eq_true.mp (List.all_eq_true.mp h d hd) d' hd'
theorem sortable_of {ds : List D} (h : (ds.all notTup || ds.all headTup) = true) : PySem.W.Sortable ds := by
  rw [Bool.or_eq_true] at h
  rcases h with h | h
  · refine .inr fun d hd => ?_
    have := List.all_eq_true.mp h d hd
    cases d with
    | none => cases this
    | tuple _ => cases this
    | _ => exact ⟨(fun z => nomatch z), fun _ z => nomatch z⟩
  · refine .inl fun d hd => ?_
    have := List.all_eq_true.mp h d hd
    cases d with
    | tuple xs =>
      cases xs with
      | nil => cases this
      | cons x r => exact ⟨x, r, rfl⟩
    | _ => cases this
theorem depth_mem {ds : List D} {d : D} (h : d ∈ ds) : d.depth ≤ PyData.depthAll ds := by
  induction ds with
  | nil => cases h
  | cons x r ih =>
    rw [PyData.depthAll]
    rcases List.mem_cons.mp h with rfl | h
    · exact Nat.le_max_left _ _
    · exact Nat.le_trans (ih h) (Nat.le_max_right _ _)
theorem canLay_mem {ds : List D} {d : D} (h : d ∈ ds) (hc : PyData.canLayAll0 ds = true) : d.canLay0 = true := by
  induction ds with
  | nil => cases h
  | cons x r ih =>
    rw [PyData.canLayAll0, Bool.and_eq_true] at hc
    rcases List.mem_cons.mp h with rfl | h
    · exact hc.1
    · exact ih h hc.2
theorem each_pcs {ps : List Pc} {us : List Value} (r : Vals (ps.map (·.1)) us) : PySem.W.EachIs (fun (v : Value) (p : Pc) => RelV p.1 v) us ps := by
  induction ps generalizing us with
  | nil => cases r; exact .nil
  | cons p ps ih =>
    cases r with
    | cons a b => exact .cons a (ih b)
theorem each_vals {ps : List Pc} {us : List Value} (r : PySem.W.EachIs (fun (v : Value) (p : Pc) => RelV p.1 v) us ps) : Vals (ps.map (·.1)) us := by
  induction r with
  | nil => exact .nil
  | cons a b ih => exact .cons a ih
theorem each_reads {X : Cx} {pins : List (Addr × Obj)} {σ : Sg} {H : Hp} {s : Shared} (I : Inv X pins σ H s) {ps : List Pc} {us : List Value} (r : Vals (ps.map (·.1)) us) (h : ∀ p ∈ ps, Dp X.K H p.1 p.2.1) :
    PySem.W.EachIs (fun (v : Value) (p : Pc) => ∃ as, Reads s.heap v p.2.1 as) us ps := by
  induction ps generalizing us with
  | nil => cases r; exact .nil
  | cons p ps ih =>
    cases r with
    | cons a b => exact .cons (Dp.reads I _ _ _ (h p List.mem_cons_self) a) (ih b fun q hq => h q (List.mem_cons_of_mem _ hq))
theorem cr_sortedD {X : Cx} (hu : X.A.units + 66 < cLine) : CallR X (.builtin "sorted") (rSortedD X.K) := by
  intro pins s σ H vs us Q I r h
  obtain ⟨a, ps, rfl, hs, hd, hok, hln, q⟩ := h
  obtain ⟨its, rv, hl, hz⟩ := I.list (.inl hs)
  rw [Vals.ref1 r]
  unfold sortOk at hok
  rw [Bool.and_eq_true, Bool.and_eq_true] at hok
  obtain ⟨⟨h1, h2⟩, h3⟩ := hok
  have hdep := SeqAt.depth_of_shaped h3
  rw [PyData.depth] at hdep
  refine PySem.W.sorted_data (enc := fun p : Pc => p.2.1) (R := fun (v : Value) (p : Pc) => RelV p.1 v) hl.isList (each_pcs rv) (each_reads I rv hd) (alike_of h1) (sortable_of h2) (by rw [sizeLine_eq]; exact hln) (fun b hb => ?_) fun out ho eo => ?_
  · have := depth_mem (List.mem_map.mpr ⟨b, hb, rfl⟩ : b.2.1 ∈ ps.map fun p => p.2.1)
    show X.A.units + 2 + b.2.1.depth < cLine
    omega
  · obtain ⟨ep, he'⟩ := PyProof.Rows.sortedAll_at s.heap its out.toArray
    have hlen : ((ps.mergeSort pcLe).map (·.1)).length ≤ sizeLine := by
      rw [List.length_map, List.length_mergeSort, sizeLine_eq]
      exact hln
    exact ⟨.ref _, upd H (s.heap.objs.size + 1) (.lst ((ps.mergeSort pcLe).map (·.1))), I.laid (t' := s.toks) (fun _ _ => PyProof.Rows.sortedAll_old) (Nat.le_succ _) ⟨hlen, out, ep, each_vals eo, he'⟩, rfl, q _ (I.hok.fresh (Nat.le_succ _))⟩

section
variable {K : PySem.W.Frag} {S : List Addr} {A : Addr → Prop} {H : Hp}
theorem OwA.pieces : ∀ {k : Nat} {vs : List V} {ds : List D} {F : List Addr}, OwA K S A H k vs ds F → ∃ ps : List Pc, ps.map (·.1) = vs ∧ ps.map (fun p => p.2.1) = ds ∧ (ps.map fun p => p.2.2).flatten = F ∧ ∀ p ∈ ps, Ow K S A H k p.1 p.2.1 p.2.2
  | _, _, _, _, .nil => ⟨[], rfl, rfl, rfl, fun _ h => nomatch h⟩
  | _, _, _, _, .cons (v := v) (d := d) (F := F) a b => by
    obtain ⟨ps, e1, e2, e3, h⟩ := OwA.pieces b
    refine ⟨(v, d, F) :: ps, by rw [List.map_cons, e1], by rw [List.map_cons, e2], by rw [List.map_cons, List.flatten_cons, e3], fun p hp => ?_⟩
    rcases List.mem_cons.mp hp with rfl | hp
    · exact a
    · exact h p hp
theorem OwA.of_pieces {k : Nat} : ∀ {ps : List Pc}, (∀ p ∈ ps, Ow K S A H k p.1 p.2.1 p.2.2) → OwA K S A H k (ps.map (·.1)) (ps.map fun p => p.2.1) (ps.map fun p => p.2.2).flatten
  | [], _ => .nil
  | p :: ps, h => .cons (h p List.mem_cons_self) (OwA.of_pieces fun q hq => h q (List.mem_cons_of_mem _ hq))
/-- the owned items of a list, sorted into a new one -/
theorem OwA.sorted {k : Nat} {vs : List V} {ds : List D} {F : List Addr} (h : OwA K S A H k vs ds F) (hok : sortOk ds = true) :
    ∃ ps : List Pc, ps.map (·.1) = vs ∧ ps.map (fun p => p.2.1) = ds ∧ ((ps.mergeSort pcLe).map fun p => p.2.2).flatten.Perm F ∧ OwA K S A H k ((ps.mergeSort pcLe).map (·.1)) (srt ds) ((ps.mergeSort pcLe).map fun p => p.2.2).flatten := by
  obtain ⟨ps, e1, e2, e3, h4⟩ := h.pieces
  refine ⟨ps, e1, e2, ?_, ?_⟩
  · rw [← e3]
    exact ((List.mergeSort_perm ps pcLe).map _).flatten
  · have := OwA.of_pieces (k := k) (K := K) (S := S) (A := A) (H := H) (ps := ps.mergeSort pcLe) fun p hp => h4 p ((List.mergeSort_perm ps pcLe).mem_iff.mp hp)
    rw [pc_srt, e2] at this
    exact this
end
def dSort : D → Option D
  | .list ds => if sortOk ds = true ∧ ds.length ≤ 16777216 then some (.list (srt ds)) else none
  | _ => none
section
variable {Z : List Addr → Prop} {X : Cx} {e : Expr} {f : Ev} {k : Nat} {pos p p2 : Pos}
theorem OwA.dps {K : PySem.W.Frag} {S : List Addr} {A : Addr → Prop} {H : Hp} {k : Nat} {ps : List Pc} {F : List Addr} (h : OwA K S A H k (ps.map (·.1)) (ps.map fun p => p.2.1) F) (hok : sortOk (ps.map fun p => p.2.1) = true) (hF : ∀ a ∈ F, True) : ∀ q ∈ ps, Dp K H q.1 q.2.1 := by
  have rp : RpA K S (hid (fun _ => False) H) (ps.map (·.1)) (ps.map fun p => p.2.1) := h.rp (fun _ z => z.elim) fun _ _ z => z
  unfold sortOk at hok
  rw [Bool.and_eq_true] at hok
  have hc := SeqAt.canLay_of_shaped hok.2
  rw [PyData.canLay0] at hc
  intro q hq
  obtain ⟨i, hi, e⟩ := List.getElem_of_mem hq
  have e1 : (ps.map fun p => p.2.1)[i]? = some q.2.1 := by rw [List.getElem?_map, List.getElem?_eq_getElem hi, e]; rfl
  have e2 : (ps.map (·.1))[i]? = some q.1 := by rw [List.getElem?_map, List.getElem?_eq_getElem hi, e]; rfl
  obtain ⟨v, e3, p3⟩ := rp.get e1
  rw [e2] at e3
  cases e3
  exact p3.out.dp (canLay_mem (List.mem_of_getElem? e1) hc)
theorem dSort_some {x d : D} (h : dSort x = some d) : ∃ ds, x = .list ds ∧ sortOk ds = true ∧ ds.length ≤ 16777216 ∧ d = .list (srt ds) := by
  unfold dSort at h
  split at h
  · split at h
    · rename_i hc
      cases h
      exact ⟨_, rfl, hc.1, hc.2, rfl⟩
    · cases h
  · cases h
theorem sorted_core {A : Addr → Prop} {S : List Addr} {H H1 : Hp} {sto s1 : STO} {a : Addr} {vs : List V} {ds : List D} {F : List Addr} {Q : VK} (w : Wd X.K S A H sto) (x : Ext S H H1) (w1 : Wd X.K S (plus F A) H1 s1) (nd : F.Nodup) (fr : ∀ a ∈ F, H a = none)
    (rd : Rd H1 a (.lst vs)) (ow : OwA X.K S (plus F A) H1 k vs ds F) (hok : sortOk ds = true) (hln : ds.length ≤ 16777216) (z : ∀ v H' F, Res X.K S A H s1 (k + 1) H' v (.list (srt ds)) F → Q v H') : rSortedD X.K [.ref a] H1 Q := by
  obtain ⟨ps, e1, e2, e3, o2⟩ := ow.sorted hok
  have hl : ps.length = ds.length := by rw [← e2, List.length_map]
  refine ⟨a, ps, rfl, by rw [e1]; exact rd, OwA.dps (F := F) (by rw [e1, e2]; exact ow) (by rw [e2]; exact hok) fun _ _ => trivial, by rw [e2]; exact hok, by rw [hl]; exact hln, fun b hb => ?_⟩
  generalize ((ps.mergeSort pcLe).map fun p => p.2.2).flatten = G at e3 o2
  have hG : ∀ a ∈ G, a ∈ F := fun a ha => e3.mem_iff.mp ha
  have rs : ResA X.K S A H s1 k H1 ((ps.mergeSort pcLe).map (·.1)) (srt ds) G := ⟨x, w1.less (fun a h => h.imp (hG a) id) fun a e => .inr (w.hS a e), (e3.nodup_iff).mpr nd, fun a ha => fr a (hG a ha), o2.mv (hid_le fun a h => h.imp (hG a) id) fun a _ o q => q⟩
  exact z _ _ _ (Res.lst w rs hb)
/-- sorted(e), its items given to all -/
theorem jp_sorted0 (ha : JP X e f 0) (hu : X.A.units + 66 < cLine) (hg : Gl X "sorted") (hm : X.mg "sorted" = none) (hv : bootBuiltins "sorted" = some (.builtin "sorted") := by rfl)
    (he : starEach [e] X.env = (false, eval e X.env) :: starEach [] X.env := by rfl) (hpl : (backTo pos (starEach [] X.env)).any (·.1) = false := by rfl) : JP X (.Call (.Name "sorted" p) [e] [] pos) (eUn dSort f) 1 := fun A S σ H vw sto d sto' Q w r q z => by
  unfold eUn at q
  obtain ⟨⟨x, s1⟩, e1, q⟩ := bind_some' q
  obtain ⟨t, e2, q⟩ := map_some' q
  cases q
  obtain ⟨ds, rfl, hok, hln, rfl⟩ := dSort_some e2
  refine wpE.by (pe_callB (cr_sortedD hu) hg hm hv (pa_cons wpE_pe pa_nil he) (by decide) (by decide) he hpl) (ha.use w r e1 fun v H1 x1 w1 r1 p1 => ?_)
  obtain ⟨a, vs, rfl, r2, q2⟩ := p1.lstI
  exact sorted_core (F := []) w x1 (by rw [plus_nil]; exact w1) .nil noF r2.out (by rw [plus_nil]; exact .zero q2) hok hln z
/-- return sorted(name), the owned items handed on -/
def sRetSrt (i k : Nat) : Sv := fun env s => match env[i]? with
  | some (.ow j d) => if j = k then (dSort d).map fun t => (.rt t, env, s) else none
  | _ => none
theorem js_retSrt {i : Nat} {x : Str} (hN : X.N[i]? = some x) (hx : Vis X.env.scope x) (hu : X.A.units + 66 < cLine) (hg : Gl X "sorted") (hm : X.mg "sorted" = none) (hv : bootBuiltins "sorted" = some (.builtin "sorted") := by rfl) (hdb : (x == Str.ofString "__debug__") = false := by decide) (hcd : (x == Str.ofString "__classdict__") = false := by decide)
    (he : starEach [.Name x p2] X.env = (false, eval (.Name x p2) X.env) :: starEach [] X.env := by rfl) (hpl : (backTo pos (starEach [] X.env)).any (·.1) = false := by rfl) {pos2 : Pos} :
    JS Z X (.Return (some (.Call (.Name "sorted" p) [.Name x p2] [] pos)) pos2) (sRetSrt i (k + 1)) (k + 1) := fun C S0 S A0 H0 σ H env sto Fs o env' sto' E hZ r q z => by
  unfold sRetSrt at q
  split at q
  case h_2 => cases q
  rename_i j d he1
  split at q
  case isFalse => cases q
  rename_i hjk
  subst hjk
  obtain ⟨t, e2, q⟩ := map_some' q
  cases q
  obtain ⟨ds, rfl, hok, hln, rfl⟩ := dSort_some e2
  obtain ⟨u, e1, ow⟩ := r.sl i _ he1
  obtain ⟨a, vs, F0, rfl, eF, e3, ow0⟩ := ow.lstI
  have nd := r.nd i
  rw [eF] at nd
  -- all that the def owned is let go, but the items
  let A : Addr → Prop := fun a => A0 a ∨ a ∈ S
  have hA : ∀ b, plus F0 A b → hd S Fs A0 b := fun b h => by
    rcases h with h | h
    · exact .inl ⟨i, by rw [eF]; exact List.mem_cons_of_mem _ h⟩
    · exact .inr h
  have hin : ∀ b ∈ F0, b ∈ Fs i := fun b hb => by rw [eF]; exact List.mem_cons_of_mem _ hb
  obtain ⟨ps, g1, g2, g3, o2⟩ := ow0.sorted hok
  have hl : ps.length = ds.length := by rw [← g2, List.length_map]
  refine wpS.by (ps_ret (pe_callB (cr_sortedD hu) hg hm hv (pa_cons (pe_var hN hx hdb hcd) pa_nil he) (by decide) (by decide) he hpl)) ⟨_, e1, a, ps, rfl, by rw [g1]; exact .inl e3, OwA.dps (F := F0) (by rw [g1, g2]; exact ow0) (by rw [g2]; exact hok) fun _ _ => trivial, by rw [g2]; exact hok, by rw [hl]; exact hln, fun b hb => ?_⟩
  generalize ((ps.mergeSort pcLe).map fun p => p.2.2).flatten = G at g3 o2
  have hG : ∀ a ∈ G, a ∈ F0 := fun a ha => g3.mem_iff.mp ha
  refine z _ _ ⟨S, b :: G, r.s0, fun c o hc h => same_upd hb c o (r.ext c o hc h), r.al0, r.a0S, ?_, ?_, fun c hc => ?_, fun c hc => ?_, .lst upd_same ?_⟩
  · refine (r.wd.less (A' := fun c => c ∈ G ∨ A0 c ∨ c ∈ S) (fun c h => ?_) fun c e => .inr (.inr e)).grow (same_upd hb) (fun c h => ?_) fun c h => ?_
    · rcases h with h | h
      · exact .inl ⟨i, hin c (hG c h)⟩
      · exact .inr h
    · rcases h with h | h
      · rcases List.mem_cons.mp h with rfl | h
        · exact .inr ⟨hb, by rw [upd_same]; exact ⟨(fun z => nomatch z), fun _ z => nomatch z⟩⟩
        · exact .inl (.inl h)
      · exact .inl (.inr h)
    · exact h.imp (List.mem_cons_of_mem _) id
  · refine List.nodup_cons.mpr ⟨fun h => ?_, (g3.nodup_iff).mpr (List.nodup_cons.mp nd).2⟩
    exact r.wd.al b (.inl ⟨i, hin b (hG b h)⟩) hb
  · rcases List.mem_cons.mp hc with rfl | hc
    · exact r.old hb
    · exact r.fr i c (hin c (hG c hc))
  · rcases List.mem_cons.mp hc with rfl | hc
    · exact r.wd.live hb
    · exact r.ns i c (hin c (hG c hc))
  · refine o2.mv (hid_move (Ext.of (same_upd hb)) r.wd.hS fun c h => ?_) fun c hc o q => ?_
    · rcases h with h | h
      · rcases List.mem_cons.mp h with rfl | h
        · exact .inr hb
        · exact .inl (.inl ⟨i, hin c (hG c h)⟩)
      · exact .inl (.inr h)
    · exact same_upd hb c o q

/-! ### repr -/
def showOk (d : D) : Bool := d.showable && SeqAt.shaped d && decide (d.shown.length ≤ 16777216)
def dRepr : D → Option D
  | .bool b => some (.str (if b = true then "True" else "False"))
  | .int i => if i.natAbs < 2 ^ 1900 then some (.str (toString i)) else none
  | .list ds => if showOk (.list ds) = true then some (.str (PyData.shown (.list ds))) else none
  | .tuple ds => if showOk (.tuple ds) = true then some (.str (PyData.shown (.tuple ds))) else none
  | _ => none
theorem showOk_iff {d : D} (h : showOk d = true) : d.showable = true ∧ SeqAt.shaped d = true ∧ d.shown.length ≤ 16777216 := by
  unfold showOk at h
  rw [Bool.and_eq_true, Bool.and_eq_true] at h
  exact ⟨h.1.1, h.1.2, of_decide_eq_true h.2⟩
theorem dRepr_some {x d : D} (h : dRepr x = some d) : (∃ b : Bool, x = .bool b ∧ d = .str (if b = true then "True" else "False")) ∨ (∃ i : Int, x = .int i ∧ i.natAbs < 2 ^ 1900 ∧ d = .str (toString i)) ∨ (((∃ ds, x = .list ds) ∨ ∃ ds, x = .tuple ds) ∧ showOk x = true ∧ d = .str x.shown) := by
  unfold dRepr at h
  split at h
  · cases h; exact .inl ⟨_, rfl, rfl⟩
  · split at h
    · cases h; exact .inr (.inl ⟨_, rfl, by assumption, rfl⟩)
    · cases h
  · split at h
    · cases h; exact .inr (.inr ⟨.inl ⟨_, rfl⟩, by assumption, rfl⟩)
    · cases h
  · split at h
    · cases h; exact .inr (.inr ⟨.inr ⟨_, rfl⟩, by assumption, rfl⟩)
    · cases h
  · cases h
def rReprD (K : PySem.W.Frag) : List V → Hp → VK → Prop := fun vs H Q => ∃ a d, vs = [.ref a] ∧ Dp K H (.ref a) d ∧ d.showable = true ∧ SeqAt.shaped d = true ∧ d.shown.length ≤ 16777216 ∧ Q (.str d.shown) H
theorem noDict_of : ∀ {d : D}, d.canLay0 = true → d.hasDict = false := fun {d} h =>
  PyData.rec (motive_1 := fun d => d.canLay0 = true → d.hasDict = false) (motive_2 := fun ds => PyData.canLayAll0 ds = true → PyData.hasDictAll ds = false) (motive_3 := fun _ => True) (motive_4 := fun _ => True)
    (fun _ => rfl) (fun _ _ => rfl) (fun _ _ => rfl) (fun _ _ => rfl) (fun xs ih h => by rw [PyData.hasDict]; exact ih (by rw [PyData.canLay0] at h; exact h)) (fun xs ih h => by rw [PyData.hasDict]; exact ih (by rw [PyData.canLay0] at h; exact h))
    (fun xs _ h => absurd h (by simp [PyData.canLay0])) (fun _ => rfl) (fun x xs h1 h2 h => by rw [PyData.canLayAll0, Bool.and_eq_true] at h; rw [PyData.hasDictAll, h1 h.1, h2 h.2]; rfl) trivial (fun _ _ _ _ => trivial) (fun _ _ _ _ => trivial) d h
theorem cr_reprD {X : Cx} (hgu : X.A.guards = some []) (hu : X.A.units + 66 < cLine) : CallR X (.builtin "repr") (rReprD X.K) := by
  intro pins s σ H vs us Q I r h
  obtain ⟨a, d, rfl, hd, hs, hsh, hz, q⟩ := h
  rw [Vals.ref1 r]
  obtain ⟨as, rd⟩ := Dp.reads I d _ _ hd (show RelV (.ref a) (.ref a) from rfl)
  have hdep := SeqAt.depth_of_shaped hsh
  refine PySem.repr_of_reads' rd hs (fun e => by rw [noDict_of (SeqAt.canLay_of_shaped hsh)] at e; cases e) hgu (by omega) (fun _ _ h => h) (fun h' u tk hk => ?_) (by rw [sizeLine_eq]; exact hz)
  exact ⟨.str d.shown, H, I.kept (t' := tk) hk, ⟨u, rfl⟩, q⟩
theorem cr_reprB {X : Cx} : CallR X (.builtin "repr") (fun xs H Q => ∃ b : Bool, xs = [.bl b] ∧ Q (.str (if b = true then "True" else "False")) H) := by
  intro pins s σ H xs us Q I r h
  obtain ⟨b, rfl, q⟩ := h
  obtain ⟨u, rfl, rb⟩ := vals1 r
  cases rb
  exact PySem.P.repr_of_bool ⟨.str _, H, I.tok _, ⟨_, rfl⟩, q⟩
theorem jp_repr (ha : JP X e f 0) (hgu : X.A.guards = some []) (hu : X.A.units + 66 < cLine) (hg : Gl X "repr") (hm : X.mg "repr" = none) (hv : bootBuiltins "repr" = some (.builtin "repr") := by rfl)
    (he : starEach [e] X.env = (false, eval e X.env) :: starEach [] X.env := by rfl) (hpl : (backTo pos (starEach [] X.env)).any (·.1) = false := by rfl) : JP X (.Call (.Name "repr" p) [e] [] pos) (eUn dRepr f) k := fun A S σ H vw sto d sto' Q w r q z => by
  unfold eUn at q
  obtain ⟨⟨x, s1⟩, e1, q⟩ := bind_some' q
  obtain ⟨t, e2, q⟩ := map_some' q
  cases q
  rcases dRepr_some e2 with ⟨b, rfl, rfl⟩ | ⟨i, rfl, hc, rfl⟩ | ⟨hx, hc, rfl⟩
  · refine wpE.by (pe_callB cr_reprB hg hm hv (pa_cons wpE_pe pa_nil he) (by decide) (by decide) he hpl) (ha.use w r e1 fun v H1 x1 w1 r1 p1 => ?_)
    cases p1
    exact ⟨_, rfl, z _ H1 [] ((Res.atom w1 (atomic_str _) (.str _)).later x1 w1)⟩
  · refine wpE.by (pe_callB SkE.call_repr_int hg hm hv (pa_cons wpE_pe pa_nil he) (by decide) (by decide) he hpl) (ha.use w r e1 fun v H1 x1 w1 r1 p1 => ?_)
    obtain rfl := p1.intI
    refine ⟨_, rfl, ?_, z _ H1 [] ((Res.atom w1 (atomic_str _) (.str _)).later x1 w1)⟩
    by_cases h0 : i.natAbs = 0
    · rw [h0]; decide
    · exact Nat.lt_trans ((Nat.log2_lt h0).mpr hc) (by omega)
  · obtain ⟨h1, h2, h3⟩ := showOk_iff hc
    refine wpE.by (pe_callB (cr_reprD hgu hu) hg hm hv (pa_cons wpE_pe pa_nil he) (by decide) (by decide) he hpl) (ha.use w r e1 fun v H1 x1 w1 r1 p1 => ?_)
    have dp := p1.out.dp (SeqAt.canLay_of_shaped h2)
    rcases hx with ⟨ds, rfl⟩ | ⟨ds, rfl⟩
    · obtain ⟨a, xs, rfl, _, _⟩ := p1.lstI
      exact ⟨a, _, rfl, dp, h1, h2, h3, z _ H1 [] ((Res.atom w1 (atomic_str _) (.str _)).later x1 w1)⟩
    · obtain ⟨a, xs, rfl, _, _⟩ := p1.tupI
      exact ⟨a, _, rfl, dp, h1, h2, h3, z _ H1 [] ((Res.atom w1 (atomic_str _) (.str _)).later x1 w1)⟩
end
end J
namespace J
open PySem PySem.Spec PyProof.Rows L2

/-! ### l.index(e) -/
section
variable {X : Cx} {e a : Expr} {f g : Ev} {k : Nat} {pos apos cpos : Pos}
end

/-! ### a def by its told body -/
abbrev bodyX (P : Program) (w : World) (K : PySem.W.Frag) (mg : Str → Option Value) (base : Heap) (N : List Str) (qual : Str) (scope : Scope) (f : Addr) (cd : Value) (A : Around) (outer : List PySem.Env) (s : Shared) (H : Hp) : Cx := (cxOf CX0 P w K mg base N qual scope f cd A outer s H E0).nox
theorem fng_def {P : Program} {w : World} {K : PySem.W.Frag} {mg : Str → Option Value} {base : Heap} {k k2 : Nat} {x qual : Str} {st : Stmt} {f : Addr} {fd : FuncData} {N ps : List Str} {g : Sv}
    (F : Fun K x qual st f fd) (S : FnScope N ps (defScope st))
    (hb : ∀ (cdv : Value) (A : Around) (outer : List PySem.Env) (s : Shared) (H : Hp), Room k (A.deeper (envOfC qual (defScope st) s.heap.objs.size f cdv)) → A.guards = some [] → JSs (fun _ => True) (bodyX P w K mg base N qual (defScope st) f cdv A outer s H) (defBody st) g k2) :
    FnG P w K mg base (k + 1) f fd ps (spD K ps.length (fnD N.length g) k2) := by
  refine FnG.of F S (fun vs H Q h => ?_) fun cdv A outer s H vs Q hr hg h => ?_
  · obtain ⟨_, _, _, _, _, _, hl, _, rp, _, _⟩ := h
    rw [rp.length]; exact hl
  · exact body_of (X := bodyX P w K mg base N qual (defScope st) f cdv A outer s H) (hb cdv A outer s H hr hg) h
/-! ### the law's call -/
/-- what the law's def promises at a list of ints -/
def spLaw (K : PySem.W.Frag) (N : Nat) (g : Sv) : SpG := fun vs H Q => ∃ ds, ds.length = 1 ∧ RpA K [] H vs ds ∧ fnD N g ds [] = some (.bool true, []) ∧ ∀ H', Q (.bl true) H'
/-- the law's own def: it makes the store -/
theorem fng_law {P : Program} {w : World} {K : PySem.W.Frag} {mg : Str → Option Value} {base : Heap} {k : Nat} {x qual y : Str} {st : Stmt} {f : Addr} {fd : FuncData} {N : List Str} {g : Sv}
    (F : Fun K x qual st f fd) (S : FnScope N [y] (defScope st))
    (hb : ∀ (cdv : Value) (A : Around) (outer : List PySem.Env) (s : Shared) (H : Hp), Room k (A.deeper (envOfC qual (defScope st) s.heap.objs.size f cdv)) → A.guards = some [] → JSs (fun S0 => S0 = []) (bodyX P w K mg base N qual (defScope st) f cdv A outer s H) (defBody st) g 0) :
    FnG P w K mg base (k + 1) f fd [y] (spLaw K N.length g) := by
  refine FnG.of F S (fun vs H Q h => ?_) fun cdv A outer s H vs Q hr hg h => ?_
  · obtain ⟨_, hl, rp, _⟩ := h
    rw [rp.length]; exact hl
  · obtain ⟨ds, hl, rp, hf, z⟩ := h
    have h0 : hid (fun _ => False) H = H := by
      funext a
      unfold hid
      rw [if_neg (fun z => z)]
    refine body_core (Z := fun S0 => S0 = []) (X := bodyX P w K mg base N qual (defScope st) f cdv A outer s H) (A := fun _ => False) (S := []) (sto := []) rfl (hb cdv A outer s H hr hg) ⟨fun _ z => z.elim, fun a h => absurd h List.not_mem_nil, List.nodup_nil, rfl, fun i a c h => by simp at h⟩ (by rw [h0]; exact rp) hf fun v H' F' rs => ?_
    have p := rs.ow.scal (S' := []) (H' := H') rfl
    cases p
    exact z H'

/-- the heap in which the script's list alone is known -/
def scrH (K : PySem.W.Frag) (a : Addr) (o : Obj) (vs : List V) : Hp := fun b => if b = a ∧ K.lookup a = none then some (.frz o (.lst vs)) else none
theorem scrH_some {K : PySem.W.Frag} {a b : Addr} {o : Obj} {vs : List V} {u : HO} (h : scrH K a o vs b = some u) : b = a ∧ K.lookup a = none ∧ u = .frz o (.lst vs) := by
  unfold scrH at h
  split at h
  · rename_i c
    exact ⟨c.1, c.2, (Option.some.inj h).symm⟩
  · cases h
theorem law_g {P : Program} {w : World} {K : PySem.W.Frag} {mg mb : Str → Option Value} {k N : Nat} {g : Sv} {fa a : Addr} {fd : FuncData} {x : Str} {s₁ : Shared} {vs : List Value} {ns : List Int}
    (KX : K.In s₁.heap) (hns : s₁.heap.Ns mainGlobals mg) (hb : s₁.heap.Ns builtinsNs mb) (hbb : ∀ x : Str, x ≠ "__name__" → mb x = bootBuiltins x) (hlim : s₁.heap.NoLimit) (hg : s₁.gens = #[])
    (ha : s₁.heap.get? a = some { cls := .type "list", data := .seq vs.toArray }) (hi : IntsAre vs ns) (hl : ns.length ≤ sizeLine) (hr : Room k callerA)
    (F : ∀ base : Heap, K.In base → base.Ns mainGlobals mg → FnG P w K mg base k fa fd [x] (spLaw K N g)) (hbind : ∀ (s : Shared) (u : Value), BindsTo s fd ⟨[u], []⟩ [(x, u)])
    (hmath : fnD N g [skD (ns.map PyData.int)] [] = some (.bool true, [])) :
    codeAny (model P w) callerA (.call (.ref fa) ⟨[.ref a], []⟩) (fun r s' => r = .ok (.ret (.bool true)) ∧ OldK s₁.heap s'.heap ∧ s'.os = s₁.os ∧ AllBare s'.gens) s₁ := by
  have rv := vals_ints hi
  have hlen := hi.length
  generalize ho : ({ cls := .type "list", data := .seq vs.toArray } : Obj) = ob at ha
  let H : Hp := scrH K a ob (ns.map V.int)
  have hH : ∀ b u, H b = some u → b = a ∧ K.lookup a = none ∧ u = .frz ob (.lst (ns.map V.int)) := fun b u h => scrH_some h
  have hseq : SqL K H a (ns.map V.int) := by
    cases hk : K.lookup a with
    | none => exact .inl (.inr ⟨ob, if_pos ⟨rfl, hk⟩⟩)
    | some o =>
      have e := KX a o hk
      rw [ha] at e
      cases e
      subst ho
      exact .inr ⟨_, vs.toArray, _, hk, rfl, rfl, rfl, by rw [List.size_toArray, hlen]; exact hl, by simpa using rv⟩
  have hok : HOk P w H s₁.heap := fun b u h => by
    obtain ⟨rfl, _, rfl⟩ := hH b u h
    subst ho
    exact ⟨ha, by rw [List.length_map]; exact hl, vs, _, rv, ha⟩
  have free : ∀ {b : Addr} {o : Obj} {es : Array DictEntry} {ep : Nat}, s₁.heap.get? b = some o → o.data = .dict es ep → H b = none := fun {b o es ep} e d => by
    cases q : H b with
    | none => rfl
    | some u =>
      obtain ⟨rfl, _, _⟩ := hH b u q
      rw [ha] at e
      cases e
      subst ho
      cases d
  have hns' : ∀ {b : Addr} {m : Str → Option Value}, s₁.heap.Ns b m → (hidT s₁.heap H).Ns b m := fun {b m} ⟨o, es, ep, e, d, r⟩ => ⟨o, es, ep, hidT_get e (free e d), d, r⟩
  have hK : K.In (hidT s₁.heap H) := fun b o e => hidT_get (KX b o e) (by
    cases q : H b with
    | none => rfl
    | some u =>
      obtain ⟨rfl, h2, _⟩ := hH b u q
      rw [h2] at e; cases e)
  have hM : Mod K mg (hidT s₁.heap H) := ⟨hK, hns' hns, ⟨mb, hns' hb, hbb⟩, let ⟨mc, h1, h2⟩ := hlim; ⟨mc, hns' h1, h2⟩⟩
  have e0 : Env0 P w K mg (hidT s₁.heap H) callerA [] s₁ H := ⟨rfl, hM, fun b o e => of_hidT e, Nat.le_of_eq (hidT_size _ _), trivial, (fun b hb => nomatch hb), hok, .of_eq hg⟩
  have hargs : RpA K [] H [.ref a] [skD (ns.map PyData.int)] := .cons (.sk hseq (RpA.of_ints ns)) .nil
  refine codeAny_mono ((F _ hK (hns' hns)).run callerA [] s₁ H ⟨[.ref a], []⟩ [.ref a] [.ref a] (fun v _ => v = .bl true) hr rfl e0 (hbind s₁ (.ref a)) (.cons rfl .nil) ⟨_, rfl, hargs, hmath, fun _ => rfl⟩) fun r s' h => ?_
  match r, h with
  | .error e, h => exact False.elim h
  | .ok .next, h => exact False.elim h
  | .ok .brk, h => exact False.elim h
  | .ok .cont, h => exact False.elim h
  | .ok (.ret u), h =>
    obtain ⟨v, H', os, bare, un, hok', r', q⟩ := h
    obtain rfl : v = .bl true := q
    obtain rfl : u = Value.bool true := r'
    refine ⟨rfl, OldK.of_keep fun b o e => ?_, os, bare⟩
    cases q : H b with
    | none => exact un.keep b o e q (fun z => nomatch z) (by simp)
    | some u =>
      obtain ⟨rfl, _, rfl⟩ := hH b u q
      have z2 := un.frzs b ob _ q
      rw [ha] at e
      cases e
      exact (hok' b _ z2).1
/-- the goal that is left of a law by its head -/
theorem walk_g {l : PySem.W.OpenLaw} {n k N : Nat} {g : Sv} {q : Program} {loose : List Str} {XP : (Str → Option Value) → Heap → Prop} {YP : World → Heap → Prop} {d : DefRec} {K : Params → PySem.W.Frag} {x : Str}
    (hn : l.most = some n) (hn2 : n ≤ sizeLine) (hdf : d.params.defaults = []) (hr : Room k callerA)
    (hY : ∀ (w : World) (h : Heap), YP w h → (K w.params).In h)
    (F : ∀ (w : World) (mg : Str → Option Value) (fa : Addr) (h : Heap), (K w.params).In h → h.Ns mainGlobals mg → mg d.name = some (.ref fa) →
      ∃ fd : FuncData, (∀ (s : Shared) (u : Value), BindsTo s fd ⟨[u], []⟩ [(x, u)]) ∧
        ∀ base : Heap, (K w.params).In base → base.Ns mainGlobals mg → FnG l.prog w (K w.params) mg base k fa fd [x] (spLaw (K w.params) N g))
    (hmath : ∀ ns : List Int, ns.length ≤ n → fnD N g [skD (ns.map PyData.int)] [] = some (.bool true, [])) :
    PySem.W.WalkO q loose XP YP l.row.toRowW d [] (fun f vs => PySem.call f vs) := by
  refine Att.attach_call hn hdf fun w s₀ s₁ mg mb fa o pm cd doc a vs ns G Y ho hd hcd hmg hobj hints hlen hg => ?_
  have KX := hY w _ Y
  obtain ⟨fd, hb, hF⟩ := F w mg fa _ KX G.T.g hmg
  exact law_g KX G.T.g G.T.b G.T.builtins G.T.nolimit hg hobj hints (Nat.le_trans hlen hn2) hr hF hb (hmath ns hlen)
end J
namespace J
open PySem PySem.Spec PyProof.Rows L2

theorem ho_n {i : Nat} : ∀ d l, bN i d = some l → ∀ p ∈ l, p.1 ∈ [i] := fun d l h p hp => by
  cases h
  have := List.mem_singleton.mp hp
  rw [this]
  exact List.mem_singleton.mpr rfl
theorem ho_t {i j : Nat} : ∀ d l, bT2 i j d = some l → ∀ p ∈ l, p.1 ∈ [i, j] := fun d l h p hp => by
  unfold bT2 at h
  split at h
  · cases h
    rcases List.mem_cons.mp hp with rfl | hp
    · exact List.mem_cons_self
    · have := List.mem_singleton.mp hp
      rw [this]
      exact List.mem_cons_of_mem _ (List.mem_singleton.mpr rfl)
  · cases h
abbrev LocB (X : Cx) (scope : Scope) (x : Str) : Prop := ∀ (s : Shared) (H : Hp) (C : Addr) (cl : List (Str × Addr)) (fp : List Addr), Loc (X.blk s H scope (compEnvC scope cl C X.env) fp).env.scope x
abbrev FnB (X : Cx) (scope : Scope) (x : Str) : Prop := ∀ (s : Shared) (H : Hp) (C : Addr) (cl : List (Str × Addr)) (fp : List Addr), (X.blk s H scope (compEnvC scope cl C X.env) fp).fn x = true ∨ (X.blk s H scope (compEnvC scope cl C X.env) fp).env.scope.names.lookup x = some .local
theorem jg_n {X : Cx} {scope : Scope} {i : Nat} {x : Str} {pos : Pos} (hN : X.N.Nodup) (hi : X.N[i]? = some x) (hx : LocB X scope x) (hf : FnB X scope x := by first | exact fun _ _ _ _ _ => .inl rfl | exact fun _ _ _ _ _ => .inr rfl) : JG X scope (.Name x pos) (bN i) :=
  ⟨_, fun s H C cl fp => pg_name hN hi (hx s H C cl fp) (hf s H C cl fp), gspec_name⟩
theorem jg_t {X : Cx} {scope : Scope} {i j : Nat} {x y : Str} {p1 p2 pos : Pos} {kk : Nat} (hN : X.N.Nodup) (hi : X.N[i]? = some x) (hj : X.N[j]? = some y) (hx : LocB X scope x) (hy : LocB X scope y) (hf : FnB X scope x := by first | exact fun _ _ _ _ _ => .inl rfl | exact fun _ _ _ _ _ => .inr rfl) (hf2 : FnB X scope y := by first | exact fun _ _ _ _ _ => .inl rfl | exact fun _ _ _ _ _ => .inr rfl) (hc : X.calm = true := by rfl) :
    JG X scope (.Tuple [.Name x p1, .Name y p2] kk pos) (bT2 i j) := ⟨_, fun s H C cl fp => by
    have a1 := pg_name (X := X.blk s H scope (compEnvC scope cl C X.env) fp) (pos := p1) hN hi (hx s H C cl fp) (hf s H C cl fp)
    have a2 := pg_name (X := X.blk s H scope (compEnvC scope cl C X.env) fp) (pos := p2) hN hj (hy s H C cl fp) (hf2 s H C cl fp)
    exact pg_tup hc (pgs_cons a1 (pgs_cons a2 pgs_nil)), gspec_tup2⟩
theorem u64 {k : Nat} {A : Around} (h : Room k A) : A.units + 64 < cLine := by have := h.un; omega
theorem u65 {k : Nat} {A : Around} (h : Room k A) : A.units + 65 < cLine := by have := h.un; omega
theorem u66 {k : Nat} {A : Around} (h : Room k A) : A.units + 66 < cLine := by have := h.un; omega
/-- a def that stands in the module -/
def Dfn (K : PySem.W.Frag) (mg : Str → Option Value) (x : Str) (st : Stmt) : Prop := ∃ fa fd, Fun K x x st fa fd ∧ mg x = some (.ref fa)
/-- a def whose promise is known -/
def Cal (P : Program) (w : World) (K : PySem.W.Frag) (mg : Str → Option Value) (base : Heap) (x : Str) (st : Stmt) (ps : List Str) (j : Nat) (F : FnD) (k : Nat) : Prop :=
  ∃ fa fd, Fun K x x st fa fd ∧ mg x = some (.ref fa) ∧ FnG P w K mg base j fa fd ps (spD K ps.length F k)
theorem dfn_of {K : PySem.W.Frag} {mg : Str → Option Value} {h : Heap} (X : K.In h) (G : h.Ns mainGlobals mg) {x : Str} {st : Stmt} {f : Addr} {oc : Value} {od an : Option Addr} {osl : Array (Option Value)} {kV doc pm cdv ct : Value}
    (a : PySem.W.nsIn K mainGlobals x = some (some (.ref f))) (l : K.lookup f = some ⟨oc, od, .func (PySem.W.fnOf x x (defArgs st) (defBody st) (defScope st) .none kV doc pm an cdv ct), osl⟩) (c : PySem.W.codeIn K cdv x = true) (k : PySem.W.keepIn K (.ref f) = true) : Dfn K mg x st :=
  ⟨f, _, fun_mk l c k, PySem.W.mg_of X G a⟩
theorem fng_none {P : Program} {w : World} {K : PySem.W.Frag} {mg : Str → Option Value} {base : Heap} {n k j : Nat} {f : Addr} {fd : FuncData} {ps : List Str} : FnG P w K mg base j f fd ps (spD K n (fun _ _ => none) k) :=
  ⟨(fun _ _ _ h => by obtain ⟨_, _, _, _, _, _, _, _, _, h, _⟩ := h; cases h), fun A outer s H args us vs Q _ _ _ _ _ h => by obtain ⟨_, _, _, _, _, _, _, _, _, h, _⟩ := h; cases h⟩
section
variable {P : Program} {w : World} {K : PySem.W.Frag} {mg : Str → Option Value} {base : Heap} {x : Str} {st : Stmt} {ps : List Str} {j k : Nat} {F : FnD}
theorem Cal.mono (h : Cal P w K mg base x st ps j F k) {l : Nat} (hl : j ≤ l) : Cal P w K mg base x st ps l F k := by
  obtain ⟨fa, fd, h1, h2, h3⟩ := h
  exact ⟨fa, fd, h1, h2, h3.mono hl⟩
theorem cal_none (D : Dfn K mg x st) : Cal P w K mg base x st ps j (fun _ _ => none) k := by
  obtain ⟨fa, fd, h1, h2⟩ := D
  exact ⟨fa, fd, h1, h2, fng_none⟩
theorem cal_def {N : List Str} {g : Sv} (D : Dfn K mg x st) (S : FnScope N ps (defScope st))
    (hb : ∀ (f : Addr) (cdv : Value) (A : Around) (outer : List PySem.Env) (s : Shared) (H : Hp), Room j (A.deeper (envOfC x (defScope st) s.heap.objs.size f cdv)) → A.guards = some [] → JSs (fun _ => True) (bodyX P w K mg base N x (defScope st) f cdv A outer s H) (defBody st) g k) :
    Cal P w K mg base x st ps (j + 1) (fnD N.length g) k := by
  obtain ⟨fa, fd, h1, h2⟩ := D
  exact ⟨fa, fd, h1, h2, fng_def h1 S (hb fa)⟩
end
section
variable {X : Cx} {e a b c : Expr} {es rest : List Expr} {f g h : Ev} {fs gs : EvA} {k j n : Nat} {pos p : Pos} {kws : List Keyword} {i : Nat} {x : Str}
theorem jv (i : Nat) {x : Str} {pos : Pos} (hN : X.N[i]? = some x := by rfl) (hv : Vis X.env.scope x := by first | exact Or.inl rfl | exact Or.inr (Or.inl rfl) | exact Or.inr (Or.inr rfl)) (hdb : (x == ("__debug__" : Str)) = false := by decide)
    (hcd : (x == ("__classdict__" : Str)) = false := by decide) : JP X (.Name x pos) (eVar i) 0 := jp_var hN hv hdb hcd
theorem jp_cal {x : Str} {st : Stmt} {ps ks : List Str} {F : FnD} {perm : List Nat} {l : Nat} (C : Cal X.prog X.w X.K X.mg X.base x st ps j F k) (hj : j ≤ l) (hr : Room l X.A) (hgu : X.A.guards = some [])
    (hb : ∀ (kV doc pm : Value) (an : Option Addr) (cdv ct : Value) (us ws : List Value), us.length = n → ws.length = ks.length → bindArgs (PySem.W.fnOf x x (defArgs st) (defBody st) (defScope st) .none kV doc pm an cdv ct) ⟨us, ks.zip ws⟩ = pure (ps.zip (pick Value.none perm (us ++ ws))))
    (ha : JA X (e :: es) fs 0) (hfl : ∀ vw s d s', fs vw s = some (d, s') → d.length = n) (hkw : JK X kws gs) (hgl : ∀ vw s d s', gs vw s = some (d, s') → d.length = ks.length) (hg : Gl X x := by rfl)
    (hn : (e :: es).length = n := by rfl) (hkn : kws.length = ks.length := by rfl) (hpl' : perm.length = ps.length := by rfl)
    (hall : (backToKw pos (keywordEach kws X.env)).all (·.1.isSome) = true := by rfl) (hks : (backToKw pos (keywordEach kws X.env)).filterMap (·.1) = ks := by rfl)
    (hdb : (x == ("__debug__" : Str)) = false := by decide) (he : starEach (e :: es) X.env = (false, eval e X.env) :: starEach es X.env := by rfl)
    (hpl : ((backTo pos (starEach (e :: es) X.env)).any (·.1) || (backToKw pos (keywordEach kws X.env)).any (·.1.isNone)) = false := by rfl) :
    JP X (.Call (.Name x p) (e :: es) kws pos) (eCall F perm (aApp fs gs)) k := by
  obtain ⟨fa, fd, h1, h2, h3⟩ := C
  exact jp_call h3 (hr.mono hj) hgu hg h2 h1.kp (kbn_of perm h1 hb) hn hkn hpl' ha hkw hfl hgl hall hks hdb he hpl
theorem jp_cal0 {x : Str} {st : Stmt} {ps ks : List Str} {F : FnD} {perm : List Nat} {l : Nat} (C : Cal X.prog X.w X.K X.mg X.base x st ps j F k) (hj : j ≤ l) (hr : Room l X.A) (hgu : X.A.guards = some [])
    (hb : ∀ (kV doc pm : Value) (an : Option Addr) (cdv ct : Value) (us ws : List Value), us.length = 0 → ws.length = ks.length → bindArgs (PySem.W.fnOf x x (defArgs st) (defBody st) (defScope st) .none kV doc pm an cdv ct) ⟨us, ks.zip ws⟩ = pure (ps.zip (pick Value.none perm (us ++ ws))))
    (hkw : JK X kws gs) (hgl : ∀ vw s d s', gs vw s = some (d, s') → d.length = ks.length) (hg : Gl X x := by rfl)
    (hkn : kws.length = ks.length := by rfl) (hpl' : perm.length = ps.length := by rfl)
    (hall : (backToKw pos (keywordEach kws X.env)).all (·.1.isSome) = true := by rfl) (hks : (backToKw pos (keywordEach kws X.env)).filterMap (·.1) = ks := by rfl)
    (hdb : (x == ("__debug__" : Str)) = false := by decide)
    (hpl : ((backTo pos (starEach [] X.env)).any (·.1) || (backToKw pos (keywordEach kws X.env)).any (·.1.isNone)) = false := by rfl) :
    JP X (.Call (.Name x p) [] kws pos) (eCall F perm gs) k := by
  obtain ⟨fa, fd, h1, h2, h3⟩ := C
  exact jp_call0 h3 (hr.mono hj) hgu hg h2 h1.kp (kbn_of perm h1 hb) hkn hpl' hkw hgl hall hks hdb hpl
end
end J
namespace J
open PySem PySem.Spec PyProof.Rows L2
section
variable {X : Cx} {k' : Nat}
variable {i l : Nat}
variable {Z : List Addr → Prop} {e : Expr} {f : Ev} {k : Nat} {pos p apos cpos : Pos} {x y : Str}
end
end J
namespace J
open PySem PySem.Spec PyProof.Rows L2
section
variable {X : Cx} {a b c e o i : Expr} {f g h : Ev} {k : Nat} {pos p p1 p2 p3 apos cpos : Pos} {x : Str}
/-! ### xs[::-1] -/
/-! ### a cell's list: its length, its item taken out -/
/-! ### what was made is never changed -/
theorem wpE.lock {σ : Sg} {H : Hp} {Q : VK} (h : wpE X e σ H fun v H1 => ∃ d u, H1 d = some u ∧ Mut (some u) ∧ ∀ od, Q v (upd H1 d (.frz od u))) : wpE X e σ H Q := fun pins s I => by
  refine thn (h pins s I) fun v s1 ⟨x, H1, I1, r1, d, u, hd, mu, q⟩ => ?_
  obtain ⟨od, I2⟩ := I1.lock hd mu
  exact ⟨x, _, I2, r1, q od⟩
/-- {} -/
theorem jp_dict0 : JP X (.Dict [] [] pos) (eC (.dict [])) 0 := fun A S σ H vw sto d sto' Q w r q z => by
  cases q
  refine wpE.lock (wpE.by pe_dnewK fun b hb => ⟨b, .dK [], upd_same, trivial, fun od => ?_⟩)
  have e : upd (upd H b (.dK [])) b (.frz od (.dK [])) = upd H b (.frz od (.dK [])) := by
    funext c
    by_cases hc : c = b
    · rw [hc, upd_same, upd_same]
    · rw [upd_ne hc, upd_ne hc, upd_ne hc]
  rw [e]
  have sm := same_upd (o := .frz od (.dK [])) hb
  have w1 : Wd X.K S A (upd H b (.frz od (.dK []))) sto := w.grow sm (fun a h => .inl h) fun a h => h
  refine z _ _ [] ((Res.shared w1 (.dK (o := od) (kvs := []) (hid_eq.mpr ⟨w.notA hb, upd_same⟩) .nil)).after (Ext.of sm) noF)
end
end J
namespace J
open PySem PySem.Spec PyProof.Rows L2
/-! ### repr of lists that may hold small dicts -/
def isKy : D → Bool
  | .int _ => true
  | .str _ => true
  | _ => false
mutual
def pln : D → Bool
  | .list ds => plnA ds
  | .tuple ds => plnA ds
  | .dict es => es.all fun p => isKy p.1 && isScal p.2
  | _ => true
def plnA : List D → Bool
  | [] => true
  | d :: r => pln d && plnA r
end
section
variable {X : Cx} {pins : List (Addr × Obj)} {σ : Sg} {H : Hp} {s : Shared}
theorem scal_read {K : PySem.W.Frag} {S : List Addr} {v : V} {d : D} {u : Value} (h : isScal d = true) (p : Rp K S H v d) (r : L2.RelV v u) : Reads s.heap u d [] := by
  cases p with
  | non => cases r; exact .none
  | bl b => cases r; exact .bool b
  | int i => obtain ⟨t, rfl⟩ := r; exact .int i t
  | str x => obtain ⟨t, rfl⟩ := r; exact .str x t
  | _ => exact absurd h (by simp [isScal, tokD, skD, exD, obD, exiD])
theorem scal_ents {P : Program} {w : World} {K : PySem.W.Frag} {S : List Addr} : ∀ {kvs : List (Key × V)} {es : List (D × D)}, RpK K S H kvs es → ∀ {vs : List (Key × Value)} {ents : List DictEntry}, (es.all fun p => isKy p.1 && isScal p.2) = true → KV kvs vs → PySem.Pairs (L2.mixKind P w) ents vs →
    ReadsAll s.heap (ents.map (·.key)) (es.map (·.1)) [] ∧ ReadsAll s.heap (ents.map (·.val)) (es.map (·.2)) []
  | _, _, .nil, _, _, _, .nil, .nil => ⟨.nil, .nil⟩
  | _, _, .cons (k := k) a b, _, _, h, .cons ra rb, .cons (e := en) p1 p2 p3 => by
    rw [List.all_cons, Bool.and_eq_true, Bool.and_eq_true] at h
    obtain ⟨h1, h2⟩ := scal_ents b h.2 rb p3
    have hv := scal_read (s := s) h.1.2 a ra.2
    rw [← p2] at hv
    have hk : Reads s.heap en.key (kD k) [] := by
      have q := ra.1
      simp only at q
      rcases keyIs_shape p1 with ⟨i, t, e1, e2⟩ | ⟨x, t, e1, e2⟩
      · rw [e2, q, e1]; exact .int i t
      · rw [e2, q, e1]; exact .str x t
    exact ⟨ReadsAll.cons hk h1, ReadsAll.cons hv h2⟩
abbrev RpD (X : Cx) (s : Shared) (u : Value) (d : D) : Prop := d.showable = true → d.shown.length ≤ sizeLine → ∃ as bs, Reads s.heap u d as ∧ ReadAtMost s.heap d.depth bs ∧ ReprK X.prog X.w bs s.heap d.depth u d.shown
abbrev RpDs (X : Cx) (s : Shared) (us : List Value) (ds : List D) : Prop := PyData.showableAll ds = true → (∀ t ∈ PyData.shownAll ds, t.length ≤ sizeLine) → ∃ as bs, ReadsAll s.heap us ds as ∧ ReadAtMost s.heap (PyData.depthAll ds) bs ∧ ReprAllK X.prog X.w bs s.heap (PyData.depthAll ds) us (PyData.shownAll ds)
theorem rpD_plain {u : Value} {d : D} {as : List Addr} (r : Reads s.heap u d as) (hn : sysModules ∉ as) : RpD X s u d := fun hs hz => by
  obtain ⟨bs, h1, h2⟩ := ReprK.of_reads (prog := X.prog) (w := X.w) r hs (fun _ => hn) hz
  exact ⟨as, bs, r, h1, h2⟩
theorem rpD_list {a : Addr} {its : List Value} {n : Nat} {ds : List D} (g : s.heap.get? a = some { cls := .type "list", data := .seq its.toArray n }) (h : RpDs X s its ds) : RpD X s (.ref a) (.list ds) := fun hs hz => by
  have hz' : (listText (PyData.shownAll ds)).length ≤ sizeLine := by simpa only [PyData.shown] using hz
  obtain ⟨as, bs, h4, hb, hk⟩ := h (by simpa [PyData.showable] using hs) (fun t ht => Nat.le_trans (listText_mem_le ht) hz')
  have r : Reads s.heap (.ref a) (.list ds) _ := .list g rfl rfl (by simpa using h4)
  have hna : a ∉ bs := not_mem_of_deeper r (by simp only [PyData.depth]; omega) hb
  refine ⟨_, a :: bs, r, ReadAtMost.cons r (by simp only [PyData.depth]; omega) hb, ?_⟩
  simp only [PyData.depth, PyData.shown]
  cases its with
  | nil =>
    cases h4
    simp only [PyData.shownAll, listText_nil]
    exact ReprK.listEmpty g rfl rfl
  | cons x l => exact ReprK.list g rfl rfl hna (by simpa using hk.length_eq) (fun i y e => hk.item i y (by simpa using e))
theorem rpD_tuple {a : Addr} {its : List Value} {ds : List D} (g : PyProof.Rows.IsTup s.heap a its.toArray) (h : RpDs X s its ds) : RpD X s (.ref a) (.tuple ds) := fun hs hz => by
  have hz' : (tupleText (PyData.shownAll ds)).length ≤ sizeLine := by simpa only [PyData.shown] using hz
  obtain ⟨as, bs, h4, hb, hk⟩ := h (by simpa [PyData.showable] using hs) (fun t ht => Nat.le_trans (tupleText_mem_le ht) hz')
  obtain ⟨o, h1, h2, n, h3⟩ := g
  have r : Reads s.heap (.ref a) (.tuple ds) _ := .tuple h1 h2 h3 (by simpa using h4)
  have hna : a ∉ bs := not_mem_of_deeper r (by simp only [PyData.depth]; omega) hb
  refine ⟨_, a :: bs, r, ReadAtMost.cons r (by simp only [PyData.depth]; omega) hb, ?_⟩
  simp only [PyData.depth, PyData.shown]
  exact ReprK.tuple h1 h2 h3 hna (by simpa using hk)
theorem rpDs_cons {u : Value} {us : List Value} {d : D} {ds : List D} (h1 : RpD X s u d) (h2 : RpDs X s us ds) : RpDs X s (u :: us) (d :: ds) := fun hs hz => by
  have hs' : d.showable = true ∧ PyData.showableAll ds = true := by simpa [PyData.showableAll] using hs
  obtain ⟨a1, b1, r1, hb1, k1⟩ := h1 hs'.1 (hz _ (by simp only [PyData.shownAll]; exact List.mem_cons_self ..))
  obtain ⟨a2, b2, r2, hb2, k2⟩ := h2 hs'.2 (fun t ht => hz t (by simp only [PyData.shownAll]; exact List.mem_cons_of_mem _ ht))
  refine ⟨_, b1 ++ b2, .cons r1 r2, ?_, ?_⟩
  · simp only [PyData.depthAll]
    exact (hb1.mono (Nat.le_max_left _ _)).append (hb2.mono (Nat.le_max_right _ _))
  · simp only [PyData.depthAll, PyData.shownAll]
    exact .cons ((k1.more fun b hb => List.mem_append_left _ hb).level_le (Nat.le_max_left _ _)) (k2.more_le (fun b hb => List.mem_append_right _ hb) (Nat.le_max_right _ _))
theorem Rp.shows (I : L2.Inv X pins σ H s) {S : List Addr} {v : V} {d : D} (h : Rp X.K S H v d) : pln d = true → ∀ u, L2.RelV v u → RpD X s u d :=
  Rp.rec (motive_1 := fun v d _ => pln d = true → ∀ u, L2.RelV v u → RpD X s u d) (motive_2 := fun vs ds _ => plnA ds = true → ∀ us, Vals vs us → RpDs X s us ds) (motive_3 := fun _ _ _ => True) (motive_4 := fun _ _ _ => True)
    (fun _ u r => rpD_plain (scal_read (K := X.K) (S := S) (H := H) rfl .non r) List.not_mem_nil)
    (fun b _ u r => rpD_plain (scal_read (K := X.K) (S := S) (H := H) rfl (.bl b) r) List.not_mem_nil)
    (fun i _ u r => rpD_plain (scal_read (K := X.K) (S := S) (H := H) rfl (.int i) r) List.not_mem_nil)
    (fun x _ u r => rpD_plain (scal_read (K := X.K) (S := S) (H := H) rfl (.str x) r) List.not_mem_nil)
    (fun {a xs ds} hr _ ih e u r => by
      cases r
      obtain ⟨_, its, n, rv, g⟩ := Rd.ok hr I.hok
      exact rpD_list g (ih (by rw [pln] at e; exact e) its rv))
    (fun {a xs ds} hr _ ih e u r => by
      cases r
      obtain ⟨_, its, rv, g⟩ := I.hok _ _ hr
      exact rpD_tuple g (ih (by rw [pln] at e; exact e) its rv))
    (fun {a o kvs es} hr hk _ e u r => by
      cases r
      obtain ⟨_, _, hsy, vs, kv, ob, ents, ep, g, ⟨hc, _⟩, hd, _, pr, _⟩ := I.hok _ _ hr
      rw [pln] at e
      obtain ⟨h1, h2⟩ := scal_ents (s := s) hk e kv pr
      refine rpD_plain (.dict g hc hd h1 h2) fun z => ?_
      rcases List.mem_cons.mp z with z | z
      · rw [← z] at hsy; exact absurd hsy (by decide)
      · exact absurd z (by simp))
    (fun {a o p kvs es} hr hk _ e u r => by
      cases hk with
      | cons _ _ => rw [pln, List.all_cons] at e; exact absurd e (by simp [isKy]))
    (fun {a i} _ e => by unfold tokD at e; rw [pln, List.all_cons] at e; exact absurd e (by simp [isKy]))
    (fun {a xs ds} _ _ _ e => by unfold skD at e; rw [pln, List.all_cons] at e; exact absurd e (by simp [isKy]))
    (fun {a o kvs es} _ _ _ e => by rw [pln, List.all_cons] at e; exact absurd e (by simp [isKy]))
    (fun {a o kvs es} _ _ _ e => by rw [pln, List.all_cons] at e; exact absurd e (by simp [isKy]))
    (fun {a} e => by unfold exD at e; rw [pln, List.all_cons] at e; exact absurd e (by simp [isKy]))
    (fun {a C dx fs} _ _ e => by unfold obD at e; rw [pln, List.all_cons] at e; exact absurd e (by simp [isKy])) (fun {a c fs} _ e => by unfold exiD at e; rw [pln, List.all_cons] at e; exact absurd e (by simp [isKy]))
    (fun _ us r => by cases r; exact fun _ _ => ⟨[], [], .nil, (fun _ h => nomatch h), by simp only [PyData.shownAll]; exact .nil⟩)
    (fun {v vs d ds} _ _ ih1 ih2 e us r => by
      rw [plnA, Bool.and_eq_true] at e
      cases r with
      | cons ra rb => exact rpDs_cons (ih1 e.1 _ ra) (ih2 e.2 _ rb))
    trivial (fun _ _ _ _ => trivial) trivial (fun _ _ _ _ => trivial) h
end
theorem RpA.shows {X : Cx} {pins : List (Addr × Obj)} {σ : Sg} {H : Hp} {s : Shared} (I : L2.Inv X pins σ H s) {S : List Addr} : ∀ {vs : List V} {ds : List D} {us : List Value}, RpA X.K S H vs ds → Vals vs us → plnA ds = true → RpDs X s us ds
  | _, _, _, .nil, .nil, _ => fun _ _ => ⟨[], [], .nil, (fun _ h => nomatch h), by simp only [PyData.shownAll]; exact .nil⟩
  | _, _, _, .cons a b, .cons ra rb, e => by
    rw [plnA, Bool.and_eq_true] at e
    exact rpDs_cons (Rp.shows I a e.1 _ ra) (RpA.shows I b rb e.2)
section
variable {X : Cx} {e : Expr} {f : Ev} {k : Nat} {pos p : Pos}
end
end J
namespace J
open PySem PySem.Spec PyProof.Rows L2
section
variable {Z : List Addr → Prop} {X : Cx} {st : Stmt} {rest body orelse : List Stmt} {tg it e a b c : Expr} {f g : Ev} {gb : Sv} {gt : TG} {bd : Bd} {fi : EvI} {t : EvT} {j k n i l : Nat} {pos p p2 apos cpos : Pos} {x y : Str} {M : List Nat}
/-- name.extend(e) -/
def sExt (i : Nat) (M : List Nat) (k : Nat) (g : Ev) : Sv := fun env s => (g (see M env) s).bind fun p => match p.1, (fzIf (k + 1) p.1 M p.2 env)[i]? with
  | .list es, some (.ow (k' + 1) (.list ds)) => if k' = k ∧ ds.length + es.length ≤ 16777216 then some (.nx, (fzIf (k + 1) p.1 M p.2 env).set i (.ow (k + 1) (.list (ds ++ es))), p.2) else none
  | _, _ => none
end
end J
namespace J
open PySem PySem.Spec PyProof.Rows L2
/-! ### sorted(set(xs)), xs a list of ints -/
section
variable {P : Program} {w : World} {A : Around} {E : Value → Shared → Prop} {s : Shared}
end
def isIntsD : List D → Option (List Int)
  | [] => some []
  | .int i :: r => (isIntsD r).map (i :: ·)
  | _ => none
section
variable {X : Cx} {e : Expr} {f : Ev} {k : Nat} {pos p p2 q2 : Pos}
end
end J
namespace J
open PySem PySem.Spec PyProof.Rows L2
/-! ### written data -/
def mapO {α β : Type} (f : α → Option β) : List α → Option (List β)
  | [] => some []
  | a :: r => (f a).bind fun b => (mapO f r).map (b :: ·)
def constD : Nat → Expr → Option D
  | n + 1, .Constant .none _ _ => some .none
  | n + 1, .Constant (.bool b) _ _ => some (.bool b)
  | n + 1, .Constant (.int i) _ _ => some (.int i)
  | n + 1, .Constant (.str x) _ _ => some (.str x)
  | n + 1, .List es _ => (mapO (constD n) es).bind fun ds => if ds.length ≤ 16777216 then some (.list ds) else none
  | n + 1, .Tuple es _ _ => (mapO (constD n) es).bind fun ds => if ds.length ≤ 16777216 then some (.tuple ds) else none
  | n + 1, .UnaryOp .USub a _ => (constD n a).bind dNeg
  | n + 1, .BinOp a .Pow b _ => (constD n a).bind fun x => (constD n b).bind fun y => dPow x y
  | n + 1, .Dict [] [] _ => some (.dict [])
  | _, _ => none
section
variable {X : Cx}
theorem JP.congr {e : Expr} {f g : Ev} {k : Nat} (h : JP X e f k) (q : ∀ vw s, f vw s = g vw s) : JP X e g k := by
  have : f = g := funext fun vw => funext fun s => q vw s
  rw [← this]; exact h
theorem JA.congr {es : List Expr} {f g : EvA} {k : Nat} (h : JA X es f k) (q : ∀ vw s, f vw s = g vw s) : JA X es g k := by
  have : f = g := funext fun vw => funext fun s => q vw s
  rw [← this]; exact h
theorem constD_star {n : Nat} {a : Expr} {d : D} (h : constD n a = some d) (es : List Expr) : starEach (a :: es) X.env = (false, eval a X.env) :: starEach es X.env := by
  cases n with
  | zero => cases h
  | succ n => cases a <;> first | rfl | (simp [constD] at h)
def eCs (ds : List D) : EvA := fun _ s => some (ds, s)
theorem ja_const {n : Nat} (ih : ∀ (e : Expr) (d : D), constD n e = some d → JP X e (eC d) 0) : ∀ (es : List Expr) (ds : List D), mapO (constD n) es = some ds → JA X es (eCs ds) 0
  | [], _, h => by cases h; exact ja_nil
  | e :: r, ds, h => by
    unfold mapO at h
    obtain ⟨d, e1, h⟩ := bind_some' h
    obtain ⟨xs, e2, e3⟩ := map_some' h
    subst e3
    exact (ja_cons (ih e d e1) (ja_const ih r xs e2) (constD_star e1 r)).congr fun _ _ => rfl
theorem jp_constN : ∀ (n : Nat) (e : Expr) (d : D), constD n e = some d → JP X e (eC d) 0
  | 0, _, _, h => by cases h
  | n + 1, e, d, h => by
    unfold constD at h
    split at h
    · rename_i hh; cases hh; cases h; exact jp_non
    · rename_i hh; cases hh; cases h; exact jp_bl
    · rename_i hh; cases hh; cases h; exact jp_int
    · rename_i hh; cases hh; cases h; exact jp_str
    · rename_i hh; cases hh
      obtain ⟨ds, e1, h⟩ := bind_some' h
      split at h
      · rename_i hl
        cases h
        exact (jp_lst (ja_const (jp_constN n) _ ds e1)).zero.congr fun _ _ => by unfold eLst eCs; simp only [Option.bind_some, if_pos hl]; rfl
      · cases h
    · rename_i hh; cases hh
      obtain ⟨ds, e1, h⟩ := bind_some' h
      split at h
      · rename_i hl
        cases h
        exact (jp_tup (ja_const (jp_constN n) _ ds e1)).congr fun _ _ => by unfold eTup eCs; simp only [Option.bind_some, if_pos hl]; rfl
      · cases h
    · rename_i hh; cases hh
      obtain ⟨x, e1, h⟩ := bind_some' h
      exact (jp_un uj_neg (jp_constN n _ x e1)).congr fun _ _ => by unfold eUn eC; simp only [Option.bind_some, h]; rfl
    · rename_i hh; cases hh
      obtain ⟨x, e1, h⟩ := bind_some' h
      obtain ⟨y, e2, h⟩ := bind_some' h
      exact (jp_bin oj_pow (jp_constN n _ x e1) (jp_constN n _ y e2)).congr fun _ _ => by unfold eBin eC; simp only [Option.bind_some, h]; rfl
    · rename_i hh; cases hh; cases h; exact jp_dict0
    · cases h
theorem jp_const {e : Expr} {d : D} (h : constD 9 e = some d) : JP X e (eC d) 0 := jp_constN 9 e d h
end
end J
namespace J
open PySem PySem.Spec PyProof.Rows L2
/-! ### keys, entries -/
def isKD : D → Option Key
  | .int i => some (.inl i)
  | .str x => some (.inr x)
  | _ => none
def isKDs : List D → Option (List Key)
  | [] => some []
  | d :: r => (isKD d).bind fun k => (isKDs r).map (k :: ·)
def isKT : D → Option (List Key)
  | .tuple ds => isKDs ds
  | _ => none
theorem isKD_kD : ∀ k : Key, isKD (kD k) = some k
  | .inl _ => rfl
  | .inr _ => rfl
theorem isKD_some {d : D} {k : Key} (h : isKD d = some k) : d = kD k := by
  unfold isKD at h
  split at h
  · cases h; rfl
  · cases h; rfl
  · cases h
theorem isKDs_map : ∀ k : List Key, isKDs (k.map kD) = some k
  | [] => rfl
  | x :: r => by rw [List.map_cons, isKDs, isKD_kD, Option.bind_some, isKDs_map r]; rfl
theorem isKDs_some : ∀ {ds : List D} {k : List Key}, isKDs ds = some k → ds = k.map kD
  | [], k, h => by cases h; rfl
  | d :: r, k, h => by
    unfold isKDs at h
    obtain ⟨x, e1, h⟩ := bind_some' h
    obtain ⟨y, e2, h⟩ := map_some' h
    subst h
    rw [isKD_some e1, isKDs_some e2]
    rfl
theorem isKT_some {d : D} {k : List Key} (h : isKT d = some k) : d = .tuple (k.map kD) := by
  unfold isKT at h
  split at h
  · rw [isKDs_some h]
  · cases h
theorem isKT_t (k : List Key) : isKT (.tuple (k.map kD)) = some k := isKDs_map k
def getK (es : List (D × D)) (k : Key) : Option D := (es.find? fun p => decide (isKD p.1 = some k)).map (·.2)
def getT (es : List (D × D)) (k : List Key) : Option D := (es.find? fun p => decide (isKT p.1 = some k)).map (·.2)
def putKD (es : List (D × D)) (k : Key) (d : D) : List (D × D) := if (es.any fun p => decide (isKD p.1 = some k)) = true then es.map (fun p => if isKD p.1 = some k then (p.1, d) else p) else es ++ [(kD k, d)]
def putTD (es : List (D × D)) (k : List Key) (d : D) : List (D × D) := if (es.any fun p => decide (isKT p.1 = some k)) = true then es.map (fun p => if isKT p.1 = some k then (p.1, d) else p) else es ++ [(.tuple (k.map kD), d)]
/-- an entry of a dict whose keys are ints and texts (tuples of them where t) -/
def getE (t : Bool) (es : List (D × D)) (k : D) : Option (Option D) := if t = true then (isKT k).map (getT es) else (isKD k).map (getK es)
section
variable {K : PySem.W.Frag} {S : List Addr} {H : Hp}
theorem RpK.find : ∀ {kvs : List (Key × V)} {es : List (D × D)} (k : Key), RpK K S H kvs es → (∃ v d, valV kvs k = some v ∧ getK es k = some d ∧ Rp K S H v d) ∨ (valV kvs k = none ∧ getK es k = none)
  | _, _, k, .nil => .inr ⟨rfl, rfl⟩
  | _, _, k, .cons (k := k1) (v := v) (r := r) (d := d) (es := es) a b => by
    by_cases e : k1 = k
    · subst e
      refine .inl ⟨v, d, valV_pos rfl, ?_, a⟩
      unfold getK
      rw [List.find?_cons_of_pos (p := fun p : D × D => decide (isKD p.1 = some k1)) (a := (kD k1, d)) (decide_eq_true (isKD_kD k1))]
      rfl
    · have h1 : valV ((k1, v) :: r) k = valV r k := valV_neg e
      have h2 : getK ((kD k1, d) :: es) k = getK es k := by
        unfold getK
        rw [List.find?_cons_of_neg (by rw [isKD_kD]; simpa using e)]
      rw [h1, h2]
      exact b.find k
theorem RpT.find : ∀ {kvs : List (List Key × V)} {es : List (D × D)} (k : List Key), RpT K S H kvs es → (∃ v d, valV kvs k = some v ∧ getT es k = some d ∧ Rp K S H v d) ∨ (valV kvs k = none ∧ getT es k = none)
  | _, _, k, .nil => .inr ⟨rfl, rfl⟩
  | _, _, k, .cons (k := k1) (v := v) (r := r) (d := d) (es := es) a b => by
    by_cases e : k1 = k
    · subst e
      refine .inl ⟨v, d, valV_pos rfl, ?_, a⟩
      unfold getT
      rw [List.find?_cons_of_pos (p := fun p : D × D => decide (isKT p.1 = some k1)) (a := (.tuple (k1.map kD), d)) (decide_eq_true (isKT_t k1))]
      rfl
    · have h1 : valV ((k1, v) :: r) k = valV r k := valV_neg e
      have h2 : getT ((.tuple (k1.map kD), d) :: es) k = getT es k := by
        unfold getT
        rw [List.find?_cons_of_neg (by rw [isKT_t]; simpa using e)]
      rw [h1, h2]
      exact b.find k
theorem RpK.any (k : Key) : ∀ {kvs : List (Key × V)} {es : List (D × D)}, RpK K S H kvs es → (kvs.any fun kv => decide (kv.1 = k)) = es.any fun p => decide (isKD p.1 = some k)
  | _, _, .nil => rfl
  | _, _, .cons (k := k1) a b => by
    rw [List.any_cons, List.any_cons, b.any k, isKD_kD]
    congr 1
    exact decide_eq_decide.mpr (by simp)
theorem RpT.any (k : List Key) : ∀ {kvs : List (List Key × V)} {es : List (D × D)}, RpT K S H kvs es → (kvs.any fun kv => decide (kv.1 = k)) = es.any fun p => decide (isKT p.1 = some k)
  | _, _, .nil => rfl
  | _, _, .cons (k := k1) a b => by
    rw [List.any_cons, List.any_cons, b.any k, isKT_t]
    congr 1
    exact decide_eq_decide.mpr (by simp)
theorem RpK.snoc : ∀ {kvs : List (Key × V)} {es : List (D × D)} {k : Key} {v : V} {d : D}, RpK K S H kvs es → Rp K S H v d → RpK K S H (kvs ++ [(k, v)]) (es ++ [(kD k, d)])
  | _, _, _, _, _, .nil, p => .cons p .nil
  | _, _, _, _, _, .cons a b, p => .cons a (b.snoc p)
theorem RpT.snoc : ∀ {kvs : List (List Key × V)} {es : List (D × D)} {k : List Key} {v : V} {d : D}, RpT K S H kvs es → Rp K S H v d → RpT K S H (kvs ++ [(k, v)]) (es ++ [(.tuple (k.map kD), d)])
  | _, _, _, _, _, .nil, p => .cons p .nil
  | _, _, _, _, _, .cons a b, p => .cons a (b.snoc p)
theorem RpK.repl {k : Key} {v : V} {d : D} (p : Rp K S H v d) : ∀ {kvs : List (Key × V)} {es : List (D × D)}, RpK K S H kvs es → RpK K S H (kvs.map fun kv => if kv.1 = k then (kv.1, v) else kv) (es.map fun p => if isKD p.1 = some k then (p.1, d) else p)
  | _, _, .nil => .nil
  | _, _, .cons (k := k1) a b => by
    rw [List.map_cons, List.map_cons]
    by_cases e : k1 = k
    · rw [if_pos e, if_pos (by rw [isKD_kD, e])]
      exact .cons p (b.repl p)
    · rw [if_neg e, if_neg (by rw [isKD_kD]; simpa using e)]
      exact .cons a (b.repl p)
theorem RpT.repl {k : List Key} {v : V} {d : D} (p : Rp K S H v d) : ∀ {kvs : List (List Key × V)} {es : List (D × D)}, RpT K S H kvs es → RpT K S H (kvs.map fun kv => if kv.1 = k then (kv.1, v) else kv) (es.map fun p => if isKT p.1 = some k then (p.1, d) else p)
  | _, _, .nil => .nil
  | _, _, .cons (k := k1) a b => by
    rw [List.map_cons, List.map_cons]
    by_cases e : k1 = k
    · rw [if_pos e, if_pos (by rw [isKT_t, e])]
      exact .cons p (b.repl p)
    · rw [if_neg e, if_neg (by rw [isKT_t]; simpa using e)]
      exact .cons a (b.repl p)
theorem RpK.put {kvs : List (Key × V)} {es : List (D × D)} {k : Key} {v : V} {d : D} (r : RpK K S H kvs es) (p : Rp K S H v d) : RpK K S H (putK kvs k v) (putKD es k d) := by
  unfold putK putKD
  rw [r.any k]
  split
  · exact r.repl p
  · exact r.snoc p
theorem RpT.put {kvs : List (List Key × V)} {es : List (D × D)} {k : List Key} {v : V} {d : D} (r : RpT K S H kvs es) (p : Rp K S H v d) : RpT K S H (putK kvs k v) (putTD es k d) := by
  unfold putK putTD
  rw [r.any k]
  split
  · exact r.repl p
  · exact r.snoc p
theorem RpK.len : ∀ {kvs : List (Key × V)} {es : List (D × D)}, RpK K S H kvs es → kvs.length = es.length
  | _, _, .nil => rfl
  | _, _, .cons _ b => congrArg (· + 1) b.len
theorem RpT.len : ∀ {kvs : List (List Key × V)} {es : List (D × D)}, RpT K S H kvs es → kvs.length = es.length
  | _, _, .nil => rfl
  | _, _, .cons _ b => congrArg (· + 1) b.len
theorem Rp.keyI {y : V} {k : Key} (p : Rp K S H y (kD k)) : y = kV k := by
  cases k with
  | inl i => exact p.intI
  | inr x => exact p.strI
theorem RpA.keys : ∀ {vs : List V} {k : List Key}, RpA K S H vs (k.map kD) → vs = k.map kV
  | _, [], .nil => rfl
  | _, x :: r, .cons a b => by rw [a.keyI, b.keys]; rfl
theorem Rp.keyT {y : V} {k : List Key} (p : Rp K S H y (.tuple (k.map kD))) : ∃ b, y = .ref b ∧ H b = some (.tup (k.map kV)) := by
  obtain ⟨b, xs, rfl, h1, h2⟩ := p.tupI'
  rw [h2.keys] at h1
  exact ⟨b, rfl, h1⟩
end
/-- the entries of a dict, in a cell or written once for all -/
def dEnt (s : STO) (d : D) : Option (Bool × List (D × D)) := match isTok d with
  | some j => (match s[j]? with
    | some (.dct t es) => some (t, es)
    | some (.fdc t es) => some (t, es)
    | _ => none)
  | none => match d with
    | .dict [] => some (false, [])
    | .dict ((.none, .bool t) :: r) => some (t, r)
    | _ => none
/-- where such a dict stands -/
def DAt (K : PySem.W.Frag) (S : List Addr) (A : Addr → Prop) (H : Hp) (a : Addr) (t : Bool) (es : List (D × D)) : Prop :=
  (t = false ∧ ∃ kvs, Rd H a (.dK kvs) ∧ RpK K S (hid A H) kvs es) ∨ (t = true ∧ ∃ kvs, Rd H a (.dT kvs) ∧ RpT K S (hid A H) kvs es)
section
variable {K : PySem.W.Frag} {S : List Addr} {A : Addr → Prop} {H : Hp} {sto : STO}
theorem DAt.get {a : Addr} {t : Bool} {es : List (D × D)} {y : V} {kd : D} {od : Option D} (h : DAt K S A H a t es) (p : Rp K S (hid A H) y kd) (g : getE t es kd = some od) :
    ∃ ov, DGet H a y ov ∧ ((∃ v d, ov = some v ∧ od = some d ∧ Rp K S (hid A H) v d) ∨ (ov = none ∧ od = none)) := by
  unfold getE at g
  rcases h with ⟨rfl, kvs, h1, h2⟩ | ⟨rfl, kvs, h1, h2⟩
  · rw [if_neg Bool.false_ne_true] at g
    obtain ⟨k, e1, e2⟩ := map_some' g
    rw [isKD_some e1] at p
    have := p.keyI
    subst this
    subst e2
    refine ⟨valV kvs k, .inl ⟨kvs, k, h1, rfl, rfl⟩, ?_⟩
    exact h2.find k
  · rw [if_pos rfl] at g
    obtain ⟨k, e1, e2⟩ := map_some' g
    rw [isKT_some e1] at p
    obtain ⟨b, rfl, hb⟩ := p.keyT
    subst e2
    refine ⟨valV kvs k, .inr ⟨kvs, k, b, h1, rfl, (hid_eq.mp hb).2, rfl⟩, ?_⟩
    exact h2.find k
end
/-! ### reading -/
/-- d[k] -/
def eDGet (f g : Ev) : Ev := fun vw s => (f vw s).bind fun p => (g vw p.2).bind fun q => (dEnt q.2 p.1).bind fun es => (getE es.1 es.2 q.1).bind fun o => o.map fun r => (r, q.2)
/-- k in d -/
def eDIn (b : Bool) (g f : Ev) : Ev := fun vw s => (g vw s).bind fun q => (f vw q.2).bind fun p => (dEnt p.2 p.1).bind fun es => (getE es.1 es.2 q.1).map fun o => (.bool (o.isSome == b), p.2)
section
variable {X : Cx} {a b c e o i : Expr} {f g h : Ev} {k : Nat} {pos p2 apos cpos : Pos}
end
end J
namespace J
open PySem PySem.Spec PyProof.Rows L2
/-! ### a new dict -/
section
variable {Z : List Addr → Prop} {X : Cx} {a e : Expr} {f : Ev} {k i : Nat} {pos p dpos : Pos} {x : Str}
end
/-! ### d[k] = v -/
section
variable {Z : List Addr → Prop} {X : Cx} {a e io : Expr} {fp f fv : Ev} {k : Nat} {pos p tpos : Pos} {M : List Nat}
end
/-! ### a dict changes no more -/
section
variable {X : Cx} {a e b c : Expr} {f : Ev} {k : Nat} {pos p p2 apos mpos cpos : Pos}
/-! ### list(d), len(d) -/
end
end J
namespace J
open PySem PySem.Spec PyProof.Rows L2
/-! ### d.items(), the keys tuples -/
section
variable {X : Cx} {pins : List (Addr × Obj)} {σ : Sg} {H : Hp} {s : Shared} {d : Addr} {o : Obj}
end
/-! ### told -/
section
variable {K : PySem.W.Frag} {S : List Addr} {A : Addr → Prop} {H : Hp}
theorem RpK.get : ∀ {kvs : List (Key × V)} {es : List (D × D)} {i : Nat} {k : Key} {v : V}, RpK K S H kvs es → kvs[i]? = some (k, v) → ∃ d, es[i]? = some (kD k, d) ∧ Rp K S H v d
  | _, _, _, _, _, .nil, h => by simp at h
  | _, _, 0, _, _, .cons a b, h => by simp at h; obtain ⟨rfl, rfl⟩ := h; exact ⟨_, rfl, a⟩
  | _, _, i + 1, _, _, .cons a b, h => by
    obtain ⟨d, e, r⟩ := RpK.get (i := i) b (by simpa using h)
    exact ⟨d, by simpa using e, r⟩
theorem RpT.get : ∀ {kvs : List (List Key × V)} {es : List (D × D)} {i : Nat} {k : List Key} {v : V}, RpT K S H kvs es → kvs[i]? = some (k, v) → ∃ d, es[i]? = some (.tuple (k.map kD), d) ∧ Rp K S H v d
  | _, _, _, _, _, .nil, h => by simp at h
  | _, _, 0, _, _, .cons a b, h => by simp at h; obtain ⟨rfl, rfl⟩ := h; exact ⟨_, rfl, a⟩
  | _, _, i + 1, _, _, .cons a b, h => by
    obtain ⟨d, e, r⟩ := RpT.get (i := i) b (by simpa using h)
    exact ⟨d, by simpa using e, r⟩
end
section
variable {X : Cx} {a e : Expr} {f : Ev} {apos cpos tpos p pos : Pos} {elts : List Expr} {kk : Nat}
end
end J
namespace J
open PySem PySem.Spec PyProof.Rows L2
/-! ### sorted(d.values()) -/
mutual
theorem reads_live {h : Heap} : ∀ {v : Value} {d : PyData} {as : List Addr}, Reads h v d as → ∀ x ∈ as, ∃ o, h.get? x = some o
  | _, _, _, .none, _, hx => nomatch hx
  | _, _, _, .bool b, _, hx => nomatch hx
  | _, _, _, .int i t, _, hx => nomatch hx
  | _, _, _, .str x t, _, hx => nomatch hx
  | _, _, _, .list h1 _ _ h4, x, hx => by
    rcases List.mem_cons.mp hx with rfl | hx
    · exact ⟨_, h1⟩
    · exact readsAll_live h4 x hx
  | _, _, _, .tuple h1 _ _ h4, x, hx => readsAll_live h4 x hx
  | _, _, _, .dict h1 _ _ h4 h5, x, hx => by
    rcases List.mem_append.mp hx with hx | hx
    · rcases List.mem_cons.mp hx with rfl | hx
      · exact ⟨_, h1⟩
      · exact readsAll_live h4 x hx
    · exact readsAll_live h5 x hx
theorem readsAll_live {h : Heap} : ∀ {vs : List Value} {ds : List PyData} {as : List Addr}, ReadsAll h vs ds as → ∀ x ∈ as, ∃ o, h.get? x = some o
  | _, _, _, .nil, _, hx => nomatch hx
  | _, _, _, .cons h1 h2, x, hx => (List.mem_append.mp hx).elim (reads_live h1 x) (readsAll_live h2 x)
end
section
variable {X : Cx} {e : Expr} {f : Ev} {k : Nat} {pos p apos mpos : Pos} {td : TE}
end
end J
namespace J
open PySem PySem.Spec PyProof.Rows L2
/-! ### xs[i] = e, xs an own list -/
section
variable {Z : List Addr → Prop} {X : Cx} {e io : Expr} {f fv : Ev} {k i : Nat} {pos p p2 tpos : Pos} {M : List Nat} {x : Str}
def sStoS (i : Nat) (M : List Nat) (fi fv : Ev) : Sv := fun env s => (fv (see M env) s).bind fun p => (fi (see M env) p.2).bind fun u => match (fzIf 0 p.1 M u.2 env)[i]?, u.1 with
  | some (.ow 1 (.list ds)), .int n => (ixN ds.length n).map fun m => (.nx, (fzIf 0 p.1 M u.2 env).set i (.ow 1 (.list (ds.set m p.1))), u.2)
  | _, _ => none
end
end J
namespace J
open PySem PySem.Spec PyProof.Rows L2
end J
namespace J
open PySem PySem.Spec PyProof.Rows L2
/-! ### starred items of a display -/
section
variable {K : PySem.W.Frag} {S : List Addr} {A : Addr → Prop} {H H1 H2 : Hp} {sto sto1 sto2 : STO} {k : Nat} {vs ws : List V} {ds es : List D} {F G : List Addr}
/-- the items of a new list, the list itself left -/
theorem Res.items {a : Addr} {d : D} (h : d = .list ds) (w : Wd K S A H sto) {v : V} (r : Res K S A H sto1 (k + 1) H1 v d F) : ∃ a vs G, v = .ref a ∧ H1 a = some (.lst vs) ∧ ResA K S A H sto1 k H1 vs ds G := by
  subst h
  obtain ⟨a, vs, F0, rfl, rfl, e3, ow⟩ := r.ow.lstI
  have hsub : ∀ b, plus F0 A b → plus (a :: F0) A b := fun b h => h.imp (List.mem_cons_of_mem _) id
  exact ⟨a, vs, F0, rfl, e3, r.ext, r.wd.less hsub fun a e => .inr (w.hS a e), (List.nodup_cons.mp r.nd).2, fun b hb => r.fr b (List.mem_cons_of_mem _ hb), ow.mv (hid_le hsub) fun a _ o q => q⟩
end
def aStar (f : Ev) (g : EvA) : EvA := fun vw s => (f vw s).bind fun p => match p.1 with
  | .list ds => (g vw p.2).map fun q => (ds ++ q.1, q.2)
  | _ => none
section
variable {X : Cx} {a e : Expr} {es : List Expr} {f : Ev} {gs : EvA} {k : Nat} {pos p q1 : Pos}
end
/-! ### min and max of a list of data -/
section
variable {X : Cx}
variable {e : Expr} {f : Ev} {pos p : Pos}
end
end J
namespace J
open PySem PySem.Spec PyProof.Rows L2
/-! ### {k: v for x in e}, the keys of either kind -/
section
variable {X : Cx}
/-- the empty dict -/
def d0 (t : Bool) : HO := if t = true then .dT [] else .dK []
end
end J
namespace J
open PySem PySem.Spec PyProof.Rows L2
/-! ### name = {k: v for x in e}, a cell -/
section
variable {K : PySem.W.Frag} {S : List Addr} {A : Addr → Prop} {H : Hp} {sto : STO}
end
section
variable {Z : List Addr → Prop} {X : Cx} {k i : Nat} {pos p : Pos} {x : Str}
end
end J
namespace J
open PySem PySem.Spec PyProof.Rows L2
/-! ### list(range(a, b, c)) -/
def eLRg3 (fa : EvA) : Ev := fun vw s => (fa vw s).bind fun p => match p.1 with
  | [.int i, .int j, .int c] => if (c ≠ 0 ∧ c.natAbs < 1073741824) ∧ Builtin.Range.small i j c = true ∧ Builtin.Range.rangeSize i j c = ((Builtin.Range.rangeSize i j c).toNat : Nat) ∧ (Builtin.Range.rangeSize i j c).toNat ≤ 16777216 then some (.list (rgD i c (Builtin.Range.rangeSize i j c).toNat), p.2) else none
  | _ => none
section
variable {X : Cx} {a b c : Expr} {fa : EvA} {p p2 pos pos2 : Pos}
end
end J
namespace J
open PySem PySem.Spec PyProof.Rows L2
/-! ### min(e, key=lambda x: ..) -/
section
variable {X : Cx} {pins : List (Addr × Obj)} {σ : Sg} {H : Hp} {s : Shared}
end
/-! a list walked, its items read anew -/
/-! the lambda's call -/
end J
namespace J
open PySem PySem.Spec PyProof.Rows L2
def isList : D → Bool
  | .list _ => true
  | _ => false
section
variable {X : Cx} {pins : List (Addr × Obj)} {σ : Sg} {H : Hp} {s : Shared} {A : Addr → Prop} {S : List Addr} {sto : STO}
end
end J
namespace J
open PySem PySem.Spec PyProof.Rows L2
section
variable {X : Cx} {pins : List (Addr × Obj)} {σ : Sg} {H : Hp} {s : Shared}
end
section
variable {X : Cx}
end
end J
namespace J
open PySem PySem.Spec PyProof.Rows L2
/-! ### a def whose code object is known -/
section
variable {P : Program} {w : World} {K : PySem.W.Frag} {mg : Str → Option Value} {base : Heap}
/-! ### the law's call, tables of code objects beside -/
end
end J
namespace J
open PySem PySem.Spec PyProof.Rows L2
end J
namespace J
open PySem PySem.Spec PyProof.Rows L2
/-! ### d.values() of a dict handed back -/
section
variable {K : PySem.W.Frag} {S : List Addr} {A : Addr → Prop} {H : Hp}
end
section
variable {X : Cx} {a e tg : Expr} {f : Ev} {apos cpos tpos p pos : Pos} {k : Nat}
/-! ### a list of no lists, one deeper -/
def noL : D → Bool
  | .list _ => false
  | _ => true
def upOk : D → Bool
  | .list ds => ds.all noL
  | _ => true
def eUp (f : Ev) : Ev := fun vw s => (f vw s).bind fun p => if upOk p.1 = true then some p else none
theorem OwA.up {K : PySem.W.Frag} {S : List Addr} {A : Addr → Prop} {H : Hp} {k j : Nat} : ∀ {vs : List V} {ds : List D} {F : List Addr}, OwA K S A H k vs ds F → (∀ a, A a → A a) → ds.all noL = true → OwA K S A H (j + 1) vs ds F
  | _, _, _, .nil, _, _ => .nil
  | _, _, _, .cons a b, h, q => by
    rw [List.all_cons, Bool.and_eq_true] at q
    have hb := b.up (j := j) h q.2
    cases a with
    | sh r => exact .cons (.at (fun ds e => by subst e; exact absurd q.1 (by simp [noL])) trivial r) hb
    | «at» h1 h2 r => exact .cons (.at h1 h2 r) hb
    | lst e t => exact absurd q.1 (by simp [noL])
theorem jp_up (ha : JP X e f 1) : JP X e (eUp f) (k + 1) := fun A S σ H vw sto d sto' Q w r q z => by
  unfold eUp at q
  obtain ⟨⟨y, s1⟩, e1, q⟩ := bind_some' q
  simp only at q
  split at q
  case isFalse => cases q
  rename_i hok
  cases q
  refine ha A S σ H vw sto _ _ Q w r e1 fun v H' F rs => z v H' F ⟨rs.ext, rs.wd, rs.nd, rs.fr, ?_⟩
  have o := rs.ow
  cases o with
  | «at» h1 h2 r => exact .at h1 h2 r
  | lst e t => 
    cases k with
    | zero => exact .lst e t
    | succ k => exact .lst e (t.up (fun _ h => h) hok)
end
end J
namespace J
open PySem PySem.Spec PyProof.Rows L2
/-! a loop that appends to each list of a list within an own one -/
section
variable {K : PySem.W.Frag} {S : List Addr} {A : Addr → Prop} {H : Hp}
end
section
variable {X : Cx} {k : Nat} {i l : Nat}
variable {Z : List Addr → Prop} {e b : Expr} {f g : Ev} {k' : Nat} {pos p apos cpos : Pos} {x y : Str}
end
end J
namespace J
open PySem PySem.Spec PyProof.Rows L2
/-! ### while -/
def whileL (M : List Nat) (t : EvT) (body : Sv) : Nat → Sv
  | 0 => fun _ _ => none
  | n + 1 => fun env s => (t (see M env) s).bind fun p => if p.1 = true then (body (fzT M p.2 env) p.2).bind fun q => match q.1 with
      | .nx => whileL M t body n q.2.1 q.2.2
      | .ct => whileL M t body n q.2.1 q.2.2
      | .bk => some (.nx, q.2)
      | .rt d => some (.rt d, q.2)
    else some (.nx, fzT M p.2 env, p.2)
/-- told up to so many turns -/
def sWhile (n : Nat) (M : List Nat) (t : EvT) (body : Sv) : Sv := whileL M t body n
section
variable {Z : List Addr → Prop} {X : Cx} {body : List Stmt} {c e a : Expr} {f g : Ev} {gb : Sv} {t : EvT} {k n i : Nat} {pos p apos cpos : Pos} {x : Str} {M : List Nat}
/-! ### name *= e -/
def sAugM (i : Nat) (M : List Nat) (f : Ev) : Sv := fun env s => match env[i]? with
  | some (.sh (.int m)) => (f (see M env) s).bind fun p => match p.1 with
    | .int n => if small m = true ∧ small n = true then some (.nx, (fzT M p.2 env).set i (.sh (.int (m * n))), p.2) else none
    | _ => none
  | _ => none
/-! ### l.count(e) -/
/-! ### len(set(xs)), xs a list of tuples of ints -/
end
end J
namespace J
open PySem PySem.Spec PyProof.Rows L2
/-! ### repr of anything that can be shown -/
section
variable {X : Cx} {e : Expr} {f : Ev} {k : Nat} {pos p : Pos}
end
end J
namespace J
open PySem PySem.Spec PyProof.Rows L2
/-! ### what does not look at the store: told at the empty store, it is told at each store of plain cells -/
abbrev Scal (s : STO) : Prop := s.all scalCell = true
def SF {α : Type} (f : VW → STO → Option (α × STO)) : Prop := ∀ vw a u, f vw [] = some (a, u) → u = [] ∧ ∀ s, Scal s → f vw s = some (a, s)
class SFc {α : Type} (f : VW → STO → Option (α × STO)) : Prop where
  h : SF f
class SFs (g : Sv) : Prop where
  h : ∀ env o env' u, g env [] = some (o, env', u) → u = [] ∧ ∀ s, Scal s → g env s = some (o, env', s)
class SFd (F : FnD) : Prop where
  h : ∀ ds d u, F ds [] = some (d, u) → u = [] ∧ ∀ s, Scal s → F ds s = some (d, s)
section
variable {α β : Type}
theorem SF.bind {f : VW → STO → Option (α × STO)} {g : α → VW → STO → Option (β × STO)} (hf : SF f) (hg : ∀ a, SF (g a)) : SF (fun vw s => (f vw s).bind fun p => g p.1 vw p.2) := fun vw b u h => by
  obtain ⟨⟨a, s1⟩, e1, h⟩ := bind_some' h
  obtain ⟨rfl, k1⟩ := hf _ _ _ e1
  obtain ⟨e2, k2⟩ := hg a _ _ _ h
  exact ⟨e2, fun s hs => by show (f vw s).bind _ = _; rw [k1 s hs, Option.bind_some]; exact k2 s hs⟩
theorem SF.opt {o : Option α} : SF (fun _ s => o.map fun r => (r, s)) := fun vw a u h => by
  obtain ⟨r, e1, h⟩ := map_some' h
  cases h
  exact ⟨rfl, fun s _ => by show o.map _ = _; rw [e1]; rfl⟩
theorem SF.val {a : α} : SF (fun _ s => some (a, s)) := fun vw b u h => by
  cases h
  exact ⟨rfl, fun s _ => rfl⟩
theorem SF.no : SF (fun _ _ => (none : Option (α × STO))) := fun vw b u h => by cases h
theorem SF.ite {p : Prop} [Decidable p] {f g : VW → STO → Option (α × STO)} (hf : SF f) (hg : SF g) : SF (fun vw s => if p then f vw s else g vw s) := by
  by_cases h : p
  · simp only [if_pos h]; exact hf
  · simp only [if_neg h]; exact hg
theorem SF.map {f : VW → STO → Option (α × STO)} {k : α → β} (hf : SF f) : SF (fun vw s => (f vw s).map fun p => (k p.1, p.2)) := fun vw b u h => by
  obtain ⟨⟨a, s1⟩, e1, h⟩ := map_some' h
  obtain ⟨rfl, k1⟩ := hf _ _ _ e1
  cases h
  exact ⟨rfl, fun s hs => by show (f vw s).map _ = _; rw [k1 s hs]; rfl⟩
end
section
variable {op : D → D → Option D} {o1 o2 : D → D → Option D} {f g h : Ev} {t u : EvT} {fs gs : EvA} {fi : EvI} {F : FnD}
instance {i : Nat} : SFc (eVar i) := ⟨fun vw d u h => by
  unfold eVar at h ⊢
  cases e : vw[i]? with
  | none => rw [e] at h; cases h
  | some x =>
    cases x with
    | none => rw [e] at h; cases h
    | some d' => rw [e] at h; cases h; exact ⟨rfl, fun s _ => rfl⟩⟩
instance {d : D} : SFc (eC d) := ⟨SF.val⟩
instance [SFc f] [SFc g] : SFc (eBin op f g) := ⟨SF.bind SFc.h fun _ => SF.bind SFc.h fun _ => SF.opt⟩
instance {op : D → Option D} [SFc f] : SFc (eUn op f) := ⟨SF.bind SFc.h fun _ => SF.opt⟩
theorem SF.bool {x : D} {f g : VW → STO → Option (D × STO)} (hf : SF f) (hg : SF g) : SF (fun vw s => match x with | .bool true => f vw s | .bool false => g vw s | _ => none) := by
  cases x with
  | bool b => cases b with
    | true => exact hf
    | false => exact hg
  | _ => exact SF.no
instance [SFc f] [SFc g] [SFc h] : SFc (eChain o1 o2 f g h) := ⟨SF.bind (f := f) (g := fun a vw s => (g vw s).bind fun q => (o1 a q.1).bind fun c => match c with
      | .bool true => (h vw q.2).bind fun r => (o2 q.1 r.1).map fun z => (z, r.2)
      | .bool false => some (.bool false, q.2)
      | _ => none) SFc.h fun a => SF.bind (f := g) (g := fun b vw s => (o1 a b).bind fun c => match c with
      | .bool true => (h vw s).bind fun r => (o2 b r.1).map fun z => (z, r.2)
      | .bool false => some (.bool false, s)
      | _ => none) SFc.h fun b => by
  cases e : o1 a b with
  | none => exact SF.no
  | some c => exact SF.bool (x := c) (f := fun vw s => (h vw s).bind fun r => (o2 b r.1).map fun z => (z, r.2)) (g := fun _ s => some (.bool false, s)) (SF.bind SFc.h fun _ => SF.opt) SF.val⟩
instance [SFc f] [SFc g] : SFc (eAnd f g) := ⟨SF.bind (f := f) (g := fun a vw s => match a with | .bool true => g vw s | .bool false => some (.bool false, s) | _ => none) SFc.h fun a => SF.bool (x := a) (f := g) (g := fun _ s => some (.bool false, s)) SFc.h SF.val⟩
instance [SFc f] [SFc g] : SFc (eOr f g) := ⟨SF.bind (f := f) (g := fun a vw s => match a with | .bool true => some (.bool true, s) | .bool false => g vw s | _ => none) SFc.h fun a => SF.bool (x := a) (g := g) (f := fun _ s => some (.bool true, s)) SF.val SFc.h⟩
instance [SFc f] : SFc (bT f) := ⟨SF.bind (f := f) (g := fun a _ s => match a with | .bool b => some (b, s) | _ => none) SFc.h fun a => by
  cases a with
  | bool b => exact SF.val
  | _ => exact SF.no⟩
instance [SFc t] [SFc u] : SFc (aT t u) := ⟨SF.bind (f := t) (g := fun a vw s => if a = true then u vw s else some (false, s)) SFc.h fun a => SF.ite (p := a = true) SFc.h SF.val⟩
instance [SFc t] [SFc u] : SFc (oT t u) := ⟨SF.bind (f := t) (g := fun a vw s => if a = true then some (true, s) else u vw s) SFc.h fun a => SF.ite (p := a = true) SF.val SFc.h⟩
instance [SFc t] : SFc (nT t) := ⟨SF.map SFc.h⟩
instance [SFc t] [SFc f] [SFc g] : SFc (eIf t f g) := ⟨SF.bind (f := t) (g := fun a vw s => if a = true then f vw s else g vw s) SFc.h fun a => SF.ite (p := a = true) SFc.h SFc.h⟩
instance : SFc aN := ⟨SF.val⟩
instance [SFc f] [SFc fs] : SFc (aC f fs) := ⟨SF.bind SFc.h fun a => SF.map (k := fun q => a :: q) SFc.h⟩
instance [SFc fs] : SFc (eLst fs) := ⟨SF.bind (f := fs) (g := fun a _ s => if a.length ≤ 16777216 then some (PyData.list a, s) else none) SFc.h fun a => SF.ite (p := a.length ≤ 16777216) SF.val SF.no⟩
instance [SFc fs] : SFc (eTup fs) := ⟨SF.bind (f := fs) (g := fun a _ s => if a.length ≤ 16777216 then some (PyData.tuple a, s) else none) SFc.h fun a => SF.ite (p := a.length ≤ 16777216) SF.val SF.no⟩
theorem cellL_nil (i : Nat) : cellL [] i = none := rfl
theorem dIdx_nil {x y r : D} (h : dIdx [] x y = some r) (s : STO) : dIdx s x y = some r := by
  unfold dIdx at h ⊢
  split at h
  · exact h
  · exact h
  · exact h
  · rename_i j i
    cases e : isTok (.dict [(.none, .int j)]) with
    | none => rw [e] at h; cases h
    | some k => rw [e, Option.bind_some, cellL_nil] at h; cases h
  · exact h
  · cases h
instance [SFc f] [SFc g] : SFc (eIdx f g) := ⟨SF.bind (f := f) (g := fun a vw s => (g vw s).bind fun q => (dIdx q.2 a q.1).map fun r => (r, q.2)) SFc.h fun a => SF.bind (f := g) (g := fun b _ s => (dIdx s a b).map fun r => (r, s)) SFc.h fun b => fun vw d u h => by
  obtain ⟨r, e1, h⟩ := map_some' h
  cases h
  exact ⟨rfl, fun s _ => by show (dIdx s a b).map _ = _; rw [dIdx_nil e1]; rfl⟩⟩
instance : SFc oN := ⟨SF.val⟩
instance [SFc f] : SFc (oS f) := ⟨SF.bind (f := f) (g := fun a _ s => match a with | .int i => some (some i, s) | _ => none) SFc.h fun a => by
  cases a with
  | int i => exact SF.val
  | _ => exact SF.no⟩
instance {lo hi : VW → STO → Option (Option Int × STO)} [SFc f] [SFc lo] [SFc hi] : SFc (eSl f lo hi) := ⟨SF.bind SFc.h fun _ => SF.bind SFc.h fun _ => SF.bind SFc.h fun _ => SF.opt⟩
instance {op : List D → Option D} [SFc fs] : SFc (eOp op fs) := ⟨SF.bind SFc.h fun _ => SF.opt⟩
instance [SFc f] : SFc (iVal f) := ⟨SF.bind (f := f) (g := fun a _ s => match a with | .list ds => some (ds, s) | .tuple ds => some (ds, s) | .str z => some (chD z, s) | _ => none) SFc.h fun a => by
  cases a with
  | list ds => exact SF.val
  | tuple ds => exact SF.val
  | str z => exact SF.val
  | _ => exact SF.no⟩
instance {op : D → Option (List D)} [SFc f] : SFc (iU op f) := ⟨SF.bind SFc.h fun _ => SF.opt⟩
instance {op : D → D → Option (List D)} [SFc f] [SFc g] : SFc (iB op f g) := ⟨SF.bind SFc.h fun _ => SF.bind SFc.h fun _ => SF.opt⟩
instance [SFc f] : SFc (r1 f) := ⟨SF.bind (f := f) (g := fun a _ s => match a with | .int j => if inRg j = true then some (((0 : Int), j), s) else none | _ => none) SFc.h fun a => by
  cases a with
  | int j => exact SF.ite SF.val SF.no
  | _ => exact SF.no⟩
instance [SFc f] [SFc g] : SFc (r2 f g) := ⟨SF.bind (f := f) (g := fun a vw s => (g vw s).bind fun q => match a, q.1 with | .int i, .int j => if inRg i = true ∧ inRg j = true then some ((i, j), q.2) else none | _, _ => none) SFc.h fun a => SF.bind (f := g) (g := fun b _ s => match a, b with | .int i, .int j => if inRg i = true ∧ inRg j = true then some ((i, j), s) else none | _, _ => none) SFc.h fun b => by
  cases a with
  | int i =>
    cases b with
    | int j => exact SF.ite SF.val SF.no
    | _ => exact SF.no
  | _ => exact SF.no⟩
instance {fr : VW → STO → Option ((Int × Int) × STO)} [SFc fr] : SFc (eLRg fr) := ⟨SF.bind (f := fr) (g := fun a _ s => if -16777216 ≤ a.1 ∧ a.1 ≤ 16777216 ∧ -16777216 ≤ a.2 ∧ a.2 ≤ 16777216 ∧ (a.2 - a.1).toNat ≤ 16777216 then some (PyData.list (rgD a.1 1 (a.2 - a.1).toNat), s) else none) SFc.h fun _ => SF.ite SF.val SF.no⟩
instance {fr : VW → STO → Option ((Int × Int) × STO)} [SFc fr] : SFc (eTRg fr) := ⟨SF.bind (f := fr) (g := fun a _ s => if -16777216 ≤ a.1 ∧ a.1 ≤ 16777216 ∧ -16777216 ≤ a.2 ∧ a.2 ≤ 16777216 ∧ (a.2 - a.1).toNat ≤ 16777216 then some (PyData.tuple (rgD a.1 1 (a.2 - a.1).toNat), s) else none) SFc.h fun _ => SF.ite SF.val SF.no⟩
instance {fr : VW → STO → Option ((Int × Int) × STO)} [SFc fr] : SFc (iRevRg fr) := ⟨SF.bind (f := fr) (g := fun a _ s => if inRg a.1 = true ∧ inRg a.2 = true then some (rgD (a.1 + (((a.2 - a.1).toNat : Nat) : Int) - 1) (-1) (a.2 - a.1).toNat, s) else none) SFc.h fun _ => SF.ite SF.val SF.no⟩
instance : SFc tY := ⟨SF.val⟩
theorem sf_compL {bd : Bd} {fc : EvT} {fe : Ev} {own : List Nat} {vw : VW} (hc : SF fc) (he : SF fe) : ∀ (ds : List D) (l : List D) (u : STO), compL bd fc fe own vw ds [] = some (l, u) → u = [] ∧ ∀ s, Scal s → compL bd fc fe own vw ds s = some (l, s)
  | [], l, u, h => by cases h; exact ⟨rfl, fun s _ => rfl⟩
  | d :: r, l, u, h => by
    unfold compL at h
    obtain ⟨b, e1, h⟩ := bind_some' h
    obtain ⟨⟨c, s1⟩, e2, h⟩ := bind_some' h
    obtain ⟨rfl, k2⟩ := hc _ _ _ e2
    cases c with
    | true =>
      simp only [if_true] at h
      obtain ⟨⟨y, s2⟩, e3, h⟩ := bind_some' h
      obtain ⟨rfl, k3⟩ := he _ _ _ e3
      obtain ⟨⟨m, s3⟩, e4, h⟩ := map_some' h
      cases h
      obtain ⟨e5, k4⟩ := sf_compL hc he r m _ e4
      refine ⟨e5, fun s hs => ?_⟩
      unfold compL
      rw [e1, Option.bind_some, k2 s hs, Option.bind_some]
      simp only [if_true]
      rw [k3 s hs, Option.bind_some]
      simp only
      rw [k4 s hs]
      rfl
    | false =>
      simp only [Bool.false_eq_true, if_false] at h
      obtain ⟨e5, k4⟩ := sf_compL hc he r l u h
      refine ⟨e5, fun s hs => ?_⟩
      unfold compL
      rw [e1, Option.bind_some, k2 s hs, Option.bind_some]
      simp only [Bool.false_eq_true, if_false]
      exact k4 s hs
instance {bd : Bd} {fc : EvT} {fe : Ev} {own : List Nat} [SFc fi] [SFc fc] [SFc fe] : SFc (eComp fi bd fc fe own) := ⟨fun vw => SF.bind (f := fi) (g := fun ds vw s => if ds.length ≤ 16777216 then (compL bd fc fe own vw ds s).map fun (q : List D × STO) => (PyData.list q.1, q.2) else none) SFc.h (fun ds => SF.ite (p := ds.length ≤ 16777216) (fun vw d u h => by
  obtain ⟨⟨l, s1⟩, e1, h⟩ := map_some' h
  cases h
  obtain ⟨e2, k⟩ := sf_compL SFc.h SFc.h ds l _ e1
  exact ⟨e2, fun s hs => by show (compL bd fc fe own vw ds s).map _ = _; rw [k s hs]; rfl⟩) SF.no) vw⟩
instance {perm : List Nat} [SFd F] [SFc fs] : SFc (eCall F perm fs) := ⟨SF.bind (f := fs) (g := fun a _ s => F (pick PyData.none perm a) s) SFc.h fun a => fun vw d u h => SFd.h _ _ _ h⟩
instance [SFc fs] [SFc gs] : SFc (aApp fs gs) := ⟨SF.bind SFc.h fun a => SF.map (k := fun q => a ++ q) SFc.h⟩
theorem dEnt_nil {d : D} {x : Bool × List (D × D)} (h : dEnt [] d = some x) (s : STO) : dEnt s d = some x := by
  unfold dEnt at h ⊢
  cases e : isTok d with
  | some j => rw [e] at h; cases h
  | none => rw [e] at h; exact h
instance [SFc f] [SFc g] : SFc (eDGet f g) := ⟨SF.bind (f := f) (g := fun a vw s => (g vw s).bind fun q => (dEnt q.2 a).bind fun es => (getE es.1 es.2 q.1).bind fun o => o.map fun r => (r, q.2)) SFc.h fun a => SF.bind (f := g) (g := fun b _ s => (dEnt s a).bind fun es => (getE es.1 es.2 b).bind fun o => o.map fun r => (r, s)) SFc.h fun b => fun vw d u h => by
  obtain ⟨x, e1, h⟩ := bind_some' h
  obtain ⟨o, e2, h⟩ := bind_some' h
  obtain ⟨r, e3, h⟩ := map_some' h
  cases h
  exact ⟨rfl, fun s _ => by show ((dEnt s a).bind _) = _; rw [dEnt_nil e1, Option.bind_some, e2, Option.bind_some, e3]; rfl⟩⟩
instance {b : Bool} [SFc f] [SFc g] : SFc (eDIn b g f) := ⟨SF.bind (f := g) (g := fun a vw s => (f vw s).bind fun p => (dEnt p.2 p.1).bind fun es => (getE es.1 es.2 a).map fun (o : Option D) => (PyData.bool (o.isSome == b), p.2)) SFc.h fun a => SF.bind (f := f) (g := fun c _ s => (dEnt s c).bind fun es => (getE es.1 es.2 a).map fun (o : Option D) => (PyData.bool (o.isSome == b), s)) SFc.h fun c => fun vw d u h => by
  obtain ⟨x, e1, h⟩ := bind_some' h
  obtain ⟨o, e2, h⟩ := map_some' h
  cases h
  exact ⟨rfl, fun s _ => by show ((dEnt s c).bind _) = _; rw [dEnt_nil e1, Option.bind_some, e2]; rfl⟩⟩
instance [SFc f] [SFc fs] : SFc (aStar f fs) := ⟨SF.bind (f := f) (g := fun a vw s => match a with | .list ds => (fs vw s).map fun q => (ds ++ q.1, q.2) | _ => none) SFc.h fun a => by
  cases a with
  | list ds => exact SF.map (k := fun q => ds ++ q) SFc.h
  | _ => exact SF.no⟩
instance [SFc f] : SFc (eUp f) := ⟨SF.bind (f := f) (g := fun a _ s => if upOk a = true then some (a, s) else none) SFc.h fun a => SF.ite SF.val SF.no⟩
instance {k : Nat} [SFc f] : SFc (iVal0 k f) := ⟨SF.bind (f := f) (g := fun a _ s => match a with | .list ds => if full k (.list ds) = true then some (ds, s) else none | _ => none) SFc.h fun a => by
  cases a with
  | list ds => exact SF.ite SF.val SF.no
  | _ => exact SF.no⟩
instance [SFc fs] : SFc (eLRg3 fs) := ⟨SF.bind (f := fs) (g := fun a _ s => match a with
    | [.int i, .int j, .int c] => if (c ≠ 0 ∧ c.natAbs < 1073741824) ∧ Builtin.Range.small i j c = true ∧ Builtin.Range.rangeSize i j c = ((Builtin.Range.rangeSize i j c).toNat : Nat) ∧ (Builtin.Range.rangeSize i j c).toNat ≤ 16777216 then some (PyData.list (rgD i c (Builtin.Range.rangeSize i j c).toNat), s) else none
    | _ => none) SFc.h fun a => by
  show SF fun vw s => match a with
    | [.int i, .int j, .int c] => if (c ≠ 0 ∧ c.natAbs < 1073741824) ∧ Builtin.Range.small i j c = true ∧ Builtin.Range.rangeSize i j c = ((Builtin.Range.rangeSize i j c).toNat : Nat) ∧ (Builtin.Range.rangeSize i j c).toNat ≤ 16777216 then some (PyData.list (rgD i c (Builtin.Range.rangeSize i j c).toNat), s) else none
    | _ => none
  split
  · exact SF.ite SF.val SF.no
  · exact SF.no⟩
end
/-! statements -/
theorem okM_sc {M : List Nat} {s : STO} (h : Scal s) : okM M s = true := by
  unfold okM
  rw [h, Bool.or_true]
theorem fzIf_sc {k : Nat} {d : D} {M : List Nat} {s : STO} {env : Env} (h : Scal s) : fzIf k d M s env = fzIf k d M [] env := by
  unfold fzIf
  rw [okM_sc h, okM_sc (s := []) rfl]
theorem fzT_sc {M : List Nat} {s : STO} {env : Env} (h : Scal s) : fzT M s env = env := by
  unfold fzT
  rw [if_pos (okM_sc h)]
section
variable {f g : Ev} {t : EvT} {fi : EvI} {gb hb : Sv} {M M1 M2 : List Nat} {bd : Bd}
instance : SFs sNil := ⟨fun env o env' u h => by cases h; exact ⟨rfl, fun s _ => rfl⟩⟩
instance : SFs sNever := ⟨fun env o env' u h => by cases h⟩
instance : SFs sBrk := ⟨fun env o env' u h => by cases h; exact ⟨rfl, fun s _ => rfl⟩⟩
instance : SFs sCnt := ⟨fun env o env' u h => by cases h; exact ⟨rfl, fun s _ => rfl⟩⟩
instance : SFs sRetN := ⟨fun env o env' u h => by cases h; exact ⟨rfl, fun s _ => rfl⟩⟩
instance [SFs gb] [SFs hb] : SFs (sSeq gb hb) := ⟨fun env o env' u h => by
  unfold sSeq at h
  obtain ⟨⟨o1, e1, s1⟩, e2, h⟩ := bind_some' h
  obtain ⟨rfl, k1⟩ := SFs.h _ _ _ _ e2
  cases o1 with
  | nx =>
    obtain ⟨e3, k2⟩ := SFs.h _ _ _ _ h
    exact ⟨e3, fun s hs => by unfold sSeq; rw [k1 s hs]; exact k2 s hs⟩
  | _ => cases h; exact ⟨rfl, fun s hs => by unfold sSeq; rw [k1 s hs]; rfl⟩⟩
instance {i k : Nat} [SFc f] : SFs (sSet i k M f) := ⟨fun env o env' u h => by
  unfold sSet at h
  split at h
  case isFalse => cases h
  rename_i hi
  obtain ⟨⟨d, s1⟩, e1, h⟩ := map_some' h
  cases h
  obtain ⟨rfl, k1⟩ := SFc.h _ _ _ e1
  exact ⟨rfl, fun s hs => by unfold sSet; rw [if_pos hi, k1 s hs, Option.map_some, fzIf_sc hs]⟩⟩
instance [SFc f] : SFs (sEx M f) := ⟨fun env o env' u h => by
  unfold sEx at h
  obtain ⟨⟨d, s1⟩, e1, h⟩ := map_some' h
  cases h
  obtain ⟨rfl, k1⟩ := SFc.h _ _ _ e1
  exact ⟨rfl, fun s hs => by unfold sEx; rw [k1 s hs, Option.map_some, fzT_sc hs, fzT_sc (s := []) rfl]⟩⟩
instance [SFc f] : SFs (sRet M f) := ⟨fun env o env' u h => by
  unfold sRet at h
  obtain ⟨⟨d, s1⟩, e1, h⟩ := map_some' h
  cases h
  obtain ⟨rfl, k1⟩ := SFc.h _ _ _ e1
  exact ⟨rfl, fun s hs => by unfold sRet; rw [k1 s hs]; rfl⟩⟩
instance {i k : Nat} : SFs (sRetM i k) := ⟨fun env o env' u h => by
  unfold sRetM at h ⊢
  split at h
  case h_2 => cases h
  split at h
  case isFalse => cases h
  rename_i h1 h2
  cases h
  exact ⟨rfl, fun s hs => by rw [if_pos h2]⟩⟩
instance {i k : Nat} : SFs (sRetSrt i k) := ⟨fun env o env' u h => by
  unfold sRetSrt at h ⊢
  split at h
  case h_2 => cases h
  split at h
  case isFalse => cases h
  rename_i h1 h2
  obtain ⟨r, e1, h⟩ := map_some' h
  cases h
  exact ⟨rfl, fun s hs => by rw [if_pos h2, e1]; rfl⟩⟩
instance [SFc t] [SFs gb] [SFs hb] : SFs (sIf M t gb hb) := ⟨fun env o env' u h => by
  unfold sIf at h
  obtain ⟨⟨b, s1⟩, e1, h⟩ := bind_some' h
  obtain ⟨rfl, k1⟩ := SFc.h _ _ _ e1
  rw [fzT_sc (s := []) rfl] at h
  cases b with
  | true =>
    obtain ⟨e3, k2⟩ := SFs.h (g := gb) _ _ _ _ h
    exact ⟨e3, fun s hs => by unfold sIf; rw [k1 s hs, Option.bind_some, fzT_sc hs]; exact k2 s hs⟩
  | false =>
    obtain ⟨e3, k2⟩ := SFs.h (g := hb) _ _ _ _ h
    exact ⟨e3, fun s hs => by unfold sIf; rw [k1 s hs, Option.bind_some, fzT_sc hs]; exact k2 s hs⟩⟩
theorem sf_forL (hb : ∀ env o env' u, gb env [] = some (o, env', u) → u = [] ∧ ∀ s, Scal s → gb env s = some (o, env', s)) : ∀ (ds : List D) (env : Env) (o : Out) (env' : Env) (u : STO), forL bd gb ds env [] = some (o, env', u) → u = [] ∧ ∀ s, Scal s → forL bd gb ds env s = some (o, env', s)
  | [], env, o, env', u, h => by cases h; exact ⟨rfl, fun s _ => rfl⟩
  | d :: r, env, o, env', u, h => by
    unfold forL at h
    obtain ⟨l, e1, h⟩ := bind_some' h
    split at h
    case isFalse => cases h
    rename_i hc
    obtain ⟨⟨o1, en1, s1⟩, e2, h⟩ := bind_some' h
    obtain ⟨rfl, k1⟩ := hb _ _ _ _ e2
    cases o1 with
    | nx =>
      obtain ⟨e3, k2⟩ := sf_forL hb r en1 o env' u h
      exact ⟨e3, fun s hs => by unfold forL; rw [e1, Option.bind_some, if_pos hc, k1 s hs]; exact k2 s hs⟩
    | ct =>
      obtain ⟨e3, k2⟩ := sf_forL hb r en1 o env' u h
      exact ⟨e3, fun s hs => by unfold forL; rw [e1, Option.bind_some, if_pos hc, k1 s hs]; exact k2 s hs⟩
    | bk => cases h; exact ⟨rfl, fun s hs => by unfold forL; rw [e1, Option.bind_some, if_pos hc, k1 s hs]; rfl⟩
    | rt d => cases h; exact ⟨rfl, fun s hs => by unfold forL; rw [e1, Option.bind_some, if_pos hc, k1 s hs]; rfl⟩
instance [SFc fi] [SFs gb] : SFs (sFor M fi bd gb) := ⟨fun env o env' u h => by
  unfold sFor at h
  obtain ⟨⟨ds, s1⟩, e1, h⟩ := bind_some' h
  obtain ⟨rfl, k1⟩ := SFc.h _ _ _ e1
  obtain ⟨e3, k2⟩ := sf_forL SFs.h ds _ _ _ _ h
  exact ⟨e3, fun s hs => by unfold sFor; rw [k1 s hs]; exact k2 s hs⟩⟩
instance [SFc fi] [SFs gb] : SFs (sFor0 M fi bd gb) := ⟨fun env o env' u h => by
  unfold sFor0 at h
  obtain ⟨⟨ds, s1⟩, e1, h⟩ := bind_some' h
  obtain ⟨rfl, k1⟩ := SFc.h _ _ _ e1
  simp only [okM_sc (s := []) rfl, if_true] at h
  obtain ⟨e3, k2⟩ := sf_forL SFs.h ds _ _ _ _ h
  exact ⟨e3, fun s hs => by unfold sFor0; rw [k1 s hs, Option.bind_some]; simp only [okM_sc hs, if_true]; exact k2 s hs⟩⟩
instance {i j k1 k2 : Nat} [SFc f] [SFc g] : SFs (sPar i j k1 k2 M1 M2 f g) := ⟨fun env o env' u h => by
  unfold sPar at h
  split at h
  case isFalse => cases h
  rename_i hi
  obtain ⟨⟨d, s1⟩, e1, h⟩ := bind_some' h
  obtain ⟨rfl, k1⟩ := SFc.h _ _ _ e1
  obtain ⟨⟨d2, s2⟩, e2, h⟩ := map_some' h
  obtain ⟨rfl, k2⟩ := SFc.h _ _ _ e2
  cases h
  refine ⟨rfl, fun s hs => ?_⟩
  unfold sPar
  rw [if_pos hi, k1 s hs, Option.bind_some]
  simp only [fzIf_sc hs]
  rw [k2 s hs]
  simp only [Option.map_some, fzIf_sc hs]⟩
instance [SFc f] : SFs (sBind M bd f) := ⟨fun env o env' u h => by
  unfold sBind at h
  obtain ⟨⟨d, s1⟩, e1, h⟩ := bind_some' h
  obtain ⟨rfl, k1⟩ := SFc.h _ _ _ e1
  obtain ⟨l, e2, h⟩ := bind_some' h
  split at h
  case isFalse => cases h
  rename_i hl
  cases h
  exact ⟨rfl, fun s hs => by unfold sBind; rw [k1 s hs, Option.bind_some]; simp only; rw [e2, Option.bind_some, if_pos hl]⟩⟩
instance {i : Nat} {op : Int → Int → Int} [SFc f] : SFs (sAug i M op f) := ⟨fun env o env' u h => by
  unfold sAug at h
  split at h
  case h_2 => cases h
  rename_i m hm
  obtain ⟨⟨d, s1⟩, e1, h⟩ := bind_some' h
  obtain ⟨rfl, k1⟩ := SFc.h _ _ _ e1
  simp only at h
  split at h
  case h_2 => cases h
  cases h
  exact ⟨rfl, fun s hs => by unfold sAug; rw [hm]; simp only; rw [k1 s hs, Option.bind_some]; simp only [fzT_sc hs, fzT_sc (s := []) rfl]⟩⟩
instance {i : Nat} [SFc f] : SFs (sAugM i M f) := ⟨fun env o env' u h => by
  unfold sAugM at h
  split at h
  case h_2 => cases h
  rename_i m hm
  obtain ⟨⟨d, s1⟩, e1, h⟩ := bind_some' h
  obtain ⟨rfl, k1⟩ := SFc.h _ _ _ e1
  simp only at h
  split at h
  case h_2 => cases h
  split at h
  case isFalse => cases h
  rename_i hs0
  cases h
  exact ⟨rfl, fun s hs => by unfold sAugM; rw [hm]; simp only; rw [k1 s hs, Option.bind_some]; simp only [fzT_sc hs, fzT_sc (s := []) rfl]; rw [if_pos hs0]⟩⟩
instance {i k : Nat} [SFc f] : SFs (sApp i M k f) := ⟨fun env o env' u h => by
  unfold sApp at h
  obtain ⟨⟨d, s1⟩, e1, h⟩ := bind_some' h
  obtain ⟨rfl, k1⟩ := SFc.h _ _ _ e1
  simp only at h
  split at h
  case h_2 => cases h
  rename_i hm
  split at h
  case isFalse => cases h
  rename_i hc
  cases h
  refine ⟨rfl, fun s hs => ?_⟩
  unfold sApp
  rw [k1 s hs, Option.bind_some]
  simp only [fzIf_sc hs]
  rw [hm]
  simp only
  rw [if_pos hc]⟩
instance {i k : Nat} [SFc f] : SFs (sExt i M k f) := ⟨fun env o env' u h => by
  unfold sExt at h
  obtain ⟨⟨d, s1⟩, e1, h⟩ := bind_some' h
  obtain ⟨rfl, k1⟩ := SFc.h _ _ _ e1
  simp only at h
  split at h
  case h_2 => cases h
  rename_i hm
  split at h
  case isFalse => cases h
  rename_i hc
  cases h
  refine ⟨rfl, fun s hs => ?_⟩
  unfold sExt
  rw [k1 s hs, Option.bind_some]
  simp only [fzIf_sc hs]
  rw [hm]
  simp only
  rw [if_pos hc]⟩
instance {i l k : Nat} : SFs (sAppM i l k) := ⟨fun env o env' u h => by
  unfold sAppM at h ⊢
  split at h
  case h_2 => cases h
  rename_i h1 h2
  split at h
  case isFalse => cases h
  rename_i hc
  cases h
  exact ⟨rfl, fun s hs => by rw [if_pos hc]⟩⟩
instance {i : Nat} [SFc f] [SFc g] : SFs (sStoS i M f g) := ⟨fun env o env' u h => by
  unfold sStoS at h
  obtain ⟨⟨d, s1⟩, e1, h⟩ := bind_some' h
  obtain ⟨rfl, k1⟩ := SFc.h _ _ _ e1
  obtain ⟨⟨d2, s2⟩, e2, h⟩ := bind_some' h
  obtain ⟨rfl, k2⟩ := SFc.h _ _ _ e2
  simp only at h
  split at h
  case h_2 => cases h
  rename_i h1
  obtain ⟨m, e3, h⟩ := map_some' h
  cases h
  refine ⟨rfl, fun s hs => ?_⟩
  unfold sStoS
  rw [k1 s hs, Option.bind_some, k2 s hs, Option.bind_some]
  simp only [fzIf_sc hs]
  rw [h1]
  simp only
  rw [e3]
  rfl⟩
theorem sf_whileL (ht : SF t) (hb : ∀ env o env' u, gb env [] = some (o, env', u) → u = [] ∧ ∀ s, Scal s → gb env s = some (o, env', s)) : ∀ (n : Nat) (env : Env) (o : Out) (env' : Env) (u : STO), whileL M t gb n env [] = some (o, env', u) → u = [] ∧ ∀ s, Scal s → whileL M t gb n env s = some (o, env', s)
  | 0, env, o, env', u, h => by cases h
  | n + 1, env, o, env', u, h => by
    unfold whileL at h
    obtain ⟨⟨b, s1⟩, e1, h⟩ := bind_some' h
    obtain ⟨rfl, k1⟩ := ht _ _ _ e1
    rw [fzT_sc (s := []) rfl] at h
    cases b with
    | false =>
      simp only [Bool.false_eq_true, if_false] at h
      cases h
      exact ⟨rfl, fun s hs => by unfold whileL; rw [k1 s hs, Option.bind_some]; simp only [Bool.false_eq_true, if_false, fzT_sc hs]⟩
    | true =>
      simp only [if_true] at h
      obtain ⟨⟨o1, en1, s2⟩, e2, h⟩ := bind_some' h
      obtain ⟨rfl, k2⟩ := hb _ _ _ _ e2
      cases o1 with
      | nx =>
        obtain ⟨e3, k3⟩ := sf_whileL ht hb n en1 o env' u h
        exact ⟨e3, fun s hs => by unfold whileL; rw [k1 s hs, Option.bind_some]; simp only [if_true, fzT_sc hs]; rw [k2 s hs]; exact k3 s hs⟩
      | ct =>
        obtain ⟨e3, k3⟩ := sf_whileL ht hb n en1 o env' u h
        exact ⟨e3, fun s hs => by unfold whileL; rw [k1 s hs, Option.bind_some]; simp only [if_true, fzT_sc hs]; rw [k2 s hs]; exact k3 s hs⟩
      | bk => cases h; exact ⟨rfl, fun s hs => by unfold whileL; rw [k1 s hs, Option.bind_some]; simp only [if_true, fzT_sc hs]; rw [k2 s hs]; rfl⟩
      | rt d => cases h; exact ⟨rfl, fun s hs => by unfold whileL; rw [k1 s hs, Option.bind_some]; simp only [if_true, fzT_sc hs]; rw [k2 s hs]; rfl⟩
instance {n : Nat} [SFc t] [SFs gb] : SFs (sWhile n M t gb) := ⟨fun env o env' u h => sf_whileL SFc.h SFs.h n env o env' u h⟩
theorem fin_selfS (s : STO) (d : D) : fin s d s = some (d, s) := by unfold fin; rw [if_pos rfl]
instance {N : Nat} [SFs gb] : SFd (fnD N gb) := ⟨fun ds d u h => by
  unfold fnD at h
  obtain ⟨⟨o, env', s1⟩, e1, h⟩ := bind_some' h
  obtain ⟨rfl, k1⟩ := SFs.h _ _ _ _ e1
  cases o with
  | rt x =>
    simp only [fin_selfS] at h
    cases h
    exact ⟨rfl, fun s hs => by unfold fnD; rw [k1 s hs, Option.bind_some]; exact fin_selfS s _⟩
  | nx =>
    simp only [fin_selfS] at h
    cases h
    exact ⟨rfl, fun s hs => by unfold fnD; rw [k1 s hs, Option.bind_some]; exact fin_selfS s _⟩
  | bk => cases h
  | ct => cases h⟩
instance : SFd (fun _ _ => none) := ⟨fun ds d u h => by cases h⟩
end
/-! ### run at the empty store by the kernel -/
mutual
def eqD : D → D → Bool
  | .none, .none => true
  | .bool a, .bool b => a == b
  | .int a, .int b => a == b
  | .str a, .str b => decide (a = b)
  | .list a, .list b => eqDs a b
  | .tuple a, .tuple b => eqDs a b
  | .dict [], .dict [] => true
  | _, _ => false
def eqDs : List D → List D → Bool
  | [], [] => true
  | a :: r, b :: t => eqD a b && eqDs r t
  | _, _ => false
end
mutual
theorem eqD_eq : ∀ {a b : D}, eqD a b = true → a = b
  | .none, b, h => by cases b <;> first | rfl | (simp [eqD] at h)
  | .bool x, b, h => by cases b <;> simp [eqD] at h; subst h; rfl
  | .int x, b, h => by cases b <;> simp [eqD] at h; subst h; rfl
  | .str x, b, h => by cases b <;> simp [eqD] at h; subst h; rfl
  | .list x, b, h => by
    cases b with
    | list y => simp only [eqD] at h; rw [eqDs_eq h]
    | _ => simp [eqD] at h
  | .tuple x, b, h => by
    cases b with
    | tuple y => simp only [eqD] at h; rw [eqDs_eq h]
    | _ => simp [eqD] at h
  | .dict [], b, h => by
    cases b with
    | dict y =>
      cases y with
      | nil => rfl
      | cons _ _ => simp [eqD] at h
    | _ => simp [eqD] at h
  | .dict (p :: r), b, h => by
    cases b <;> simp [eqD] at h
theorem eqDs_eq : ∀ {a b : List D}, eqDs a b = true → a = b
  | [], [], _ => rfl
  | [], _ :: _, h => by simp [eqDs] at h
  | _ :: _, [], h => by simp [eqDs] at h
  | x :: r, y :: t, h => by
    simp only [eqDs, Bool.and_eq_true] at h
    rw [eqD_eq h.1, eqDs_eq h.2]
end
/-- F gives d at the empty store -/
def gives (F : FnD) (ds : List D) (d : D) : Bool := match F ds [] with
  | some (x, []) => eqD x d
  | _ => false
theorem gives_nil {F : FnD} {ds : List D} {d : D} (h : gives F ds d = true) : F ds [] = some (d, []) := by
  unfold gives at h
  split at h
  · rename_i x e
    rw [eqD_eq h] at e
    exact e
  · cases h
end J
namespace J
open PySem PySem.Spec PyProof.Rows L2
/-! ### for x in range(a, b, c) -/
section
variable {X : Cx} {tg a b c : Expr} {fa : EvA} {p pos : Pos}
end
/-! ### for k in d, d a dict that is data -/
section
variable {K : PySem.W.Frag} {S : List Addr} {A : Addr → Prop} {H : Hp}
end
section
variable {X : Cx} {a e tg : Expr} {f : Ev} {apos cpos tpos p pos : Pos} {k : Nat}
end
/-! ### an expression that walks a dict of this def: it stands locked for so long -/
mutual
def noDi : D → Bool
  | .list ds => noDiA ds
  | .tuple ds => noDiA ds
  | .dict _ => false
  | _ => true
def noDiA : List D → Bool
  | [] => true
  | d :: r => noDi d && noDiA r
end
theorem Rp.noDi {K : PySem.W.Frag} {S S' : List Addr} {H H' : Hp} (hl : ∀ a xs, Rd H a (.lst xs) → Rd H' a (.lst xs)) (ht : ∀ a xs, H a = some (.tup xs) → H' a = some (.tup xs)) {v : V} {d : D} (h : Rp K S H v d) : noDi d = true → Rp K S' H' v d :=
  Rp.rec (motive_1 := fun v d _ => J.noDi d = true → Rp K S' H' v d) (motive_2 := fun v d _ => noDiA d = true → RpA K S' H' v d) (motive_3 := fun v d _ => True) (motive_4 := fun v d _ => True)
    (fun _ => .non) (fun b _ => .bl b) (fun i _ => .int i) (fun x _ => .str x) (fun s _ h e => .lst (hl _ _ s) (h (by rw [J.noDi] at e; exact e))) (fun s _ h e => .tup (ht _ _ s) (h (by rw [J.noDi] at e; exact e)))
    (fun s _ h e => nomatch e) (fun s _ h e => nomatch e) (fun s e => nomatch e) (fun s _ h e => nomatch e) (fun s _ h e => nomatch e) (fun s _ h e => nomatch e) (fun e => nomatch e) (fun _ _ e => nomatch e) (fun _ e => nomatch e)
    (fun _ => .nil) (fun _ _ a b e => by rw [noDiA, Bool.and_eq_true] at e; exact .cons (a e.1) (b e.2)) trivial (fun _ _ _ _ => trivial) trivial (fun _ _ _ _ => trivial) h
/-- the slots that name no cell -/
def noTk (d : Option D) : Option D := d.bind fun x => if tokLt 0 x = true then some x else none
theorem noTk_some {vw : VW} {i : Nat} {d : D} (h : (vw.map noTk)[i]? = some (some d)) : vw[i]? = some (some d) ∧ tokLt 0 d = true := by
  rw [List.getElem?_map] at h
  cases e : vw[i]? with
  | none => rw [e] at h; cases h
  | some x =>
    rw [e] at h
    cases x with
    | none => cases h
    | some y =>
      have h : noTk (some y) = some d := Option.some.inj h
      unfold noTk at h
      rw [Option.bind_some] at h
      split at h
      · rename_i ht; cases h; exact ⟨rfl, ht⟩
      · cases h
section
variable {X : Cx} {e : Expr} {f : Ev} {i : Nat}
end
/-! ### sum of a tuple -/
section
variable {X : Cx} {k : Nat}
end
/-! ### a, d = value, {} -/
section
variable {Z : List Addr → Prop} {X : Cx} {a : Expr} {f : Ev} {k i j : Nat} {pos dpos : Pos} {x y : Str} {M : List Nat}
end
end J
namespace J
open PySem PySem.Spec PyProof.Rows L2
/-! ### dict(pairs) with tuple keys -/
section
variable {X : Cx}
theorem KT.mem {H : Hp} : ∀ {l : List (List Key × V)} {m : List (List Key × Addr × Value)}, KT H l m → ∀ x ∈ m, H x.2.1 = some (.tup (x.1.map kV)) := by
  intro l m q
  induction q with
  | nil => intro x hx; exact nomatch hx
  | @cons p q ps qs hq t ih =>
    intro x hx
    rcases List.mem_cons.mp hx with e | hx
    · subst e
      rw [← hq.1]; exact hq.2.1
    · exact ih x hx
end

section
variable {K : PySem.W.Frag} {S : List Addr} {A : Addr → Prop} {H : Hp}
end
section
variable {X : Cx} {e : Expr} {f : Ev} {p pos : Pos} {k : Nat}
end
end J
namespace J
open PySem PySem.Spec PyProof.Rows L2
/-! ### a written dict with tuple keys -/
section
variable {X : Cx} {pins : List (Addr × Obj)} {σ : Sg} {E : Value → Shared → Prop}
end
/-! ### told -/
abbrev EvP := VW → STO → Option (List (List Key × D) × STO)
def PrR (K : PySem.W.Frag) (S : List Addr) (A : Addr → Prop) (H : Hp) : List (V × V) → List (List Key × D) → Prop := Paired fun (a : V × V) (b : List Key × D) => ∃ q, a.1 = .ref q ∧ ¬ A q ∧ H q = some (.tup (b.1.map kV)) ∧ Rp K S (hid A H) a.2 b.2
section
variable {X : Cx} {pos : Pos} {k v : Expr} {ks : List (Option Expr)} {vs : List Expr} {fk fv : Ev} {g : EvP}
theorem PrR.split {K : PySem.W.Frag} {S : List Addr} {A : Addr → Prop} {H : Hp} : ∀ {us : List (V × V)} {ps : List (List Key × D)}, PrR K S A H us ps →
    ∃ kvs : List (List Key × V), Paired (fun (a : V × V) (b : List Key × V) => ∃ q, a.1 = .ref q ∧ H q = some (.tup (b.1.map kV)) ∧ a.2 = b.2) us kvs ∧ Paired (fun (a : List Key × V) (b : List Key × D) => a.1 = b.1 ∧ Rp K S (hid A H) a.2 b.2) kvs ps ∧ kvs.length = ps.length
  | _, _, .nil => ⟨[], .nil, .nil, rfl⟩
  | _, _, .cons h t => by
    obtain ⟨kvs, h1, h2, h3⟩ := PrR.split t
    obtain ⟨q, e1, _, e2, e3⟩ := h
    exact ⟨(_, _) :: kvs, .cons ⟨q, e1, e2, rfl⟩ h1, .cons ⟨rfl, e3⟩ h2, by rw [List.length_cons, List.length_cons, h3]⟩
end

section
variable {Z : List Addr → Prop} {X : Cx} {k i : Nat} {pos p dpos : Pos} {x : Str} {g : EvP}
end

section
variable {Z : List Addr → Prop} {X : Cx} {a : Expr} {f : Ev} {k i j : Nat} {pos dpos : Pos} {tg : Expr} {M : List Nat}
end
end J
namespace J
open PySem PySem.Spec PyProof.Rows L2
/-! ### a slice of the script -/
section
variable {X : Cx} {a b e : Expr} {f g : Ev} {k : Nat} {pos p p2 cpos apos : Pos}
def dSlSk : D → Option Int → Option Int → Option D
  | .dict [(.none, .list ds)], lo, hi => some (.list (cutL ds lo hi))
  | _, _, _ => none
def eSlSk (f : Ev) (lo hi : VW → STO → Option (Option Int × STO)) : Ev := fun vw s => (f vw s).bind fun p => (lo vw p.2).bind fun q => (hi vw q.2).bind fun u => (dSlSk p.1 q.1 u.1).map fun d => (d, u.2)
theorem jp_sliceSk {lo hi : Option Expr} {fl fh : VW → STO → Option (Option Int × STO)} (ha : JP X a f 0) (hl : JO X lo fl) (hh : JO X hi fh) : JP X (.Subscript a (.Slice lo hi none p2) pos) (eSlSk f fl fh) 1 := fun A S σ H vw sto d sto' Q w r q z => by
  unfold eSlSk at q
  obtain ⟨⟨x, s1⟩, e1, q⟩ := bind_some' q
  obtain ⟨⟨o1, s2⟩, e2, q⟩ := bind_some' q
  obtain ⟨⟨o2, s3⟩, e3, q⟩ := bind_some' q
  obtain ⟨t, e4, q⟩ := map_some' q
  cases q
  simp only at e2 e3 e4
  obtain ⟨tl, hl, jl⟩ := hl
  obtain ⟨th, hh, jh⟩ := hh
  unfold dSlSk at e4
  split at e4
  case h_2 => cases e4
  cases e4
  refine wpE.by (pe_slice sl_list wpE_pe hl hh) (ha.use w r e1 fun v H1 x1 w1 r1 p1 => jl A S σ H1 vw s1 o1 s2 _ w1 r1 e2 fun H2 x2 w2 r2 => jh A S σ H2 vw s2 o2 s3 _ w2 r2 e3 fun H3 x3 w3 r3 => ?_)
  have p3 := p1.le (hid_move (x2.trans x3) w1.hS (A' := A) fun a h => .inl h)
  obtain ⟨l, xs, rfl, r4, q4⟩ := p3.skI
  have r5 : SqL X.K H3 l xs := by
    rcases r4 with r4 | r4
    · exact .inl r4.out
    · exact .inr r4
  exact ⟨l, xs, rfl, r5, fun p hp => z _ _ [p] ((Res.lst w3 (.shared w3 (q4.cut _ _)) hp).later (x1.trans (x2.trans x3)) w3)⟩
/-! ### x.bit_length() -/
def dBits : D → Option D
  | .int i => some (.int (Builtin.Int.intBits i : Nat))
  | _ => none
theorem jp_bits (ha : JP X a f 0) (hbase : attributeBase a "bit_length" X.env (eval a X.env) = eval a X.env := by rfl) (hline : (apos.endLine == cpos.line) = true := by rfl) : JP X (.Call (.Attribute a "bit_length" apos) [] [] cpos) (eUn dBits f) k := fun A S σ H vw sto d sto' Q w r q z => by
  unfold eUn at q
  obtain ⟨⟨x, s1⟩, e1, q⟩ := bind_some' q
  obtain ⟨t, e3, q⟩ := map_some' q
  cases q
  simp only at e3
  unfold dBits at e3
  split at e3
  case h_2 => cases e3
  cases e3
  refine wpE.by (pe_bits wpE_pe hbase hline) (ha.use w r e1 fun v H1 x1 w1 r1 p1 => ?_)
  exact ⟨_, p1.intI, z _ H1 [] ((Res.atom w1 (atomic_int _) (.int _)).later x1 w1)⟩
/-! ### texts -/
theorem strs_rp {K : PySem.W.Frag} {S : List Addr} {H : Hp} : ∀ ys : List Str, RpA K S H (ys.map V.str) (ys.map PyData.str)
  | [] => .nil
  | y :: r => .cons (.str y) (strs_rp r)
/-- t.split(sep) -/
def dSplit : D → D → Option D
  | .str x, .str y => if (y.length == 0) = false ∧ x.length + 2 ≤ 16777216 then some (.list ((Txt.split x y).map PyData.str)) else none
  | _, _ => none
theorem jp_split (ha : JP X a f 0) (he : JP X e g 0)
    (hbase : attributeBase a "split" X.env (eval a X.env) = eval a X.env := by rfl)
    (hfew : ((backTo cpos (starEach [e] X.env)).all (fun x => !x.1) && (backToKw cpos (keywordEach [] X.env)).all (fun x => x.1.isSome) && decide ([e].length + ([] : List Keyword).length + (if ([] : List Keyword).isEmpty then 0 else 1) < 30)) = true := by rfl)
    (hline : (apos.endLine == cpos.line) = true := by rfl) (hs : starEach [e] X.env = (false, eval e X.env) :: starEach [] X.env := by rfl) :
    JP X (.Call (.Attribute a "split" apos) [e] [] cpos) (eBin dSplit f g) 1 := fun A S σ H vw sto d sto' Q w r q z => by
  unfold eBin at q
  obtain ⟨⟨x, s1⟩, e1, q⟩ := bind_some' q
  obtain ⟨⟨y, s2⟩, e2, q⟩ := bind_some' q
  obtain ⟨t, e3, q⟩ := map_some' q
  cases q
  simp only at e2 e3
  unfold dSplit at e3
  split at e3
  case h_2 => cases e3
  split at e3
  case isFalse => cases e3
  rename_i hsh
  cases e3
  refine wpE.by (pe_bm PySem.F.plainAttrs_str PySem.F.slot_str_split rfl mt_split wpE_pe (pa_cons wpE_pe pa_nil hs) hbase hfew hline hs rfl) (ha.use w r e1 fun v H1 x1 w1 r1 p1 => ?_)
  have ev := p1.strI
  subst ev
  refine ⟨rfl, he.use w1 r1 e2 fun u H2 x2 w2 r3 p3 => ?_⟩
  have eu := p3.strI
  subst eu
  exact ⟨_, _, rfl, rfl, hsh.1, by rw [sizeLine_eq]; exact hsh.2, fun p hp => z _ _ [p] ((Res.lst w2 (.shared w2 (strs_rp _)) hp).later (x1.trans x2) w2)⟩
/-- t.split() -/
def dWords : D → Option D
  | .str x => if x.length + 2 ≤ 16777216 then some (.list ((Txt.words x).map PyData.str)) else none
  | _ => none
/-- sep.join(a list of texts) -/
def isStrs : List D → Option (List Str)
  | [] => some []
  | .str x :: r => (isStrs r).map (x :: ·)
  | _ => none
theorem isStrs_some : ∀ {ds : List D} {ys : List Str}, isStrs ds = some ys → ds = ys.map PyData.str
  | [], _, h => by cases h; rfl
  | .str x :: r, _, h => by
    rw [isStrs] at h
    obtain ⟨m, e, q⟩ := map_some' h
    subst q
    rw [isStrs_some e]
    rfl
  | .none :: _, _, h => by cases h
  | .bool _ :: _, _, h => by cases h
  | .int _ :: _, _, h => by cases h
  | .list _ :: _, _, h => by cases h
  | .tuple _ :: _, _, h => by cases h
  | .dict _ :: _, _, h => by cases h
theorem RpA.strs {K : PySem.W.Frag} {S : List Addr} {H : Hp} : ∀ {vs : List V} {ys : List Str}, RpA K S H vs (ys.map PyData.str) → vs = ys.map V.str
  | _, [], .nil => rfl
  | _, y :: ys, .cons a b => by rw [a.strI, b.strs]; rfl
def dJoin : D → D → Option D
  | .str x, .list ds => (isStrs ds).bind fun ys => if (ys.map (·.length)).sum + ys.length * x.length ≤ 16777216 then some (.str (Txt.join x ys)) else none
  | _, _ => none
theorem jp_join (ha : JP X a f 0) (he : JP X e g 0)
    (hbase : attributeBase a "join" X.env (eval a X.env) = eval a X.env := by rfl)
    (hfew : ((backTo cpos (starEach [e] X.env)).all (fun x => !x.1) && (backToKw cpos (keywordEach [] X.env)).all (fun x => x.1.isSome) && decide ([e].length + ([] : List Keyword).length + (if ([] : List Keyword).isEmpty then 0 else 1) < 30)) = true := by rfl)
    (hline : (apos.endLine == cpos.line) = true := by rfl) (hs : starEach [e] X.env = (false, eval e X.env) :: starEach [] X.env := by rfl) :
    JP X (.Call (.Attribute a "join" apos) [e] [] cpos) (eBin dJoin f g) k := fun A S σ H vw sto d sto' Q w r q z => by
  unfold eBin at q
  obtain ⟨⟨x, s1⟩, e1, q⟩ := bind_some' q
  obtain ⟨⟨y, s2⟩, e2, q⟩ := bind_some' q
  obtain ⟨t, e3, q⟩ := map_some' q
  cases q
  simp only at e2 e3
  unfold dJoin at e3
  split at e3
  case h_2 => cases e3
  obtain ⟨ys, e4, e3⟩ := bind_some' e3
  split at e3
  case isFalse => cases e3
  rename_i hsh
  cases e3
  have e5 := isStrs_some e4
  subst e5
  refine wpE.by (pe_bm PySem.F.plainAttrs_str PySem.F.slot_str_join rfl mt_join wpE_pe (pa_cons wpE_pe pa_nil hs) hbase hfew hline hs rfl) (ha.use w r e1 fun v H1 x1 w1 r1 p1 => ?_)
  have ev := p1.strI
  subst ev
  refine ⟨rfl, he.use w1 r1 e2 fun u H2 x2 w2 r3 p3 => ?_⟩
  obtain ⟨l, xs, rfl, r4, q4⟩ := p3.lstI
  rw [q4.strs] at r4
  exact ⟨_, l, ys, rfl, rfl, .inl (.inl r4.out), hsh, z _ H2 [] ((Res.atom w2 (atomic_str _) (.str _)).later (x1.trans x2) w2)⟩
/-- str(an int), str(a text) -/
def cStr : List D → Option D
  | [.int i] => if i.natAbs.log2 < 1920 then some (.str (toString i)) else none
  | _ => none
theorem cj_str : CallJ X (.type "str") cStr k := fun ds d h => by
  unfold cStr at h
  split at h
  · split at h
    · rename_i hl
      cases h
      refine ⟨_, call_str_int, fun A S H sto vs Q w p z => ?_⟩
      obtain ⟨v, ev, p1⟩ := p.one; subst ev
      exact ⟨_, by rw [p1.intI], hl, z _ _ [] (.atom w (atomic_str _) (.str _))⟩
    · cases h
  · cases h
/-- int(text) -/
def cIntS : List D → Option D
  | [.str x] => (PySem.intText? x).bind fun n => if x.length ≤ 640 then some (.int n) else none
  | _ => none
theorem cj_intS : CallJ X (.type "int") cIntS k := fun ds d h => by
  unfold cIntS at h
  split at h
  · obtain ⟨n, e1, h⟩ := bind_some' h
    split at h
    · rename_i hl
      cases h
      refine ⟨_, call_int_str, fun A S H sto vs Q w p z => ?_⟩
      obtain ⟨v, ev, p1⟩ := p.one; subst ev
      exact ⟨_, n, by rw [p1.strI], e1, hl, z _ _ [] (.atom w (atomic_int _) (.int _))⟩
    · cases h
  · cases h
end
end J
namespace J
open PySem PySem.Spec PyProof.Rows L2
/-! ### xs[i] op= e, xs an own list of ints -/
section
variable {Z : List Addr → Prop} {X : Cx} {e io : Expr} {f fv : Ev} {k i : Nat} {pos p p2 tpos : Pos} {M : List Nat} {x : Str}
end
end J
namespace J
open PySem PySem.Spec PyProof.Rows L2
section
variable {Z : List Addr → Prop} {X : Cx} {a b c : Expr} {k i j l : Nat} {pos p dpos : Pos} {x y u : Str} {M : List Nat}
/-! ### three values into three names -/
/-! ### {k: v}, k an int or a text -/
end

/-! ### a tuple of three into names -/
end J
namespace J
open PySem PySem.Spec PyProof.Rows L2
/-! ### states compared by the kernel -/
end J
namespace J
open PySem PySem.Spec PyProof.Rows L2
/-! ### a test over own slots, told in a world without store: the slots stay owned whatever the cells bear -/
def sIfP (M : List Nat) (t : EvT) (g h : Sv) : Sv := fun env s => (t ((see M env).map noTk) []).bind fun p => match p.2 with
  | [] => if p.1 = true then g env s else h env s
  | _ :: _ => none
section
variable {X : Cx} {Z : List Addr → Prop} {k : Nat} {c : Expr} {t : EvT} {body orelse : List Stmt} {g h : Sv} {pos : Pos}
theorem js_ifP {M : List Nat} (hc : JT X c t) (ha : JSs Z X body g k) (hb : JSs Z X orelse h k) : JS Z X (.If c body orelse pos) (sIfP M t g h) k := fun C S0 S A0 H0 σ H env sto Fs o env' sto' E hZ r q z => by
  unfold sIfP at q
  obtain ⟨⟨b, s1⟩, q1, q⟩ := bind_some' q
  cases s1 with
  | cons _ _ => cases q
  | nil =>
    have w := r.wdM M
    have rd := r.rdM M
    have w1 : Wd X.K [] (hdM S M Fs A0) H [] := ⟨w.alt, (fun a h => absurd h List.not_mem_nil), .nil, rfl, fun m a c h1 _ => by simp at h1⟩
    have r1 : RdV X.K [] (hdM S M Fs A0) σ H ((see M env).map noTk) := by
      refine ⟨by rw [List.length_map]; exact rd.1, fun m dm hm => ?_⟩
      obtain ⟨h1, h2⟩ := noTk_some hm
      obtain ⟨v, hv, p⟩ := rd.2 m dm h1
      exact ⟨v, hv, Rp.shrink (S := []) (T := S) p h2⟩
    refine wpS.by (ps_if wpT_pt wpSs_pss wpSs_pss) (hc _ [] σ H _ [] b [] _ w1 r1 q1 fun H' x w2 => ?_)
    have sm : Same H H' := fun a o h => x a o List.not_mem_nil h
    have r2 : Sr X.K C S0 S A0 H0 σ H' env sto Fs := r.go (Ext.of sm) (r.wd.grow sm (fun a h => .inl h) fun a h => h)
    cases b with
    | true =>
      rw [if_pos rfl]
      exact ha C S0 S A0 H0 σ H' env sto Fs o env' sto' E hZ r2 (by simpa using q) z
    | false =>
      rw [if_neg Bool.false_ne_true]
      exact hb C S0 S A0 H0 σ H' env sto Fs o env' sto' E hZ r2 (by simpa using q) z
/-- step by step -/
theorem sIfP_t {M : List Nat} {env : Env} {s : STO} {R : Option (Out × Env × STO)} (h1 : t ((see M env).map noTk) [] = some (true, [])) (h2 : g env s = R) : sIfP M t g h env s = R := by unfold sIfP; rw [h1, Option.bind_some]; exact h2
theorem sIfP_f {M : List Nat} {env : Env} {s : STO} {R : Option (Out × Env × STO)} (h1 : t ((see M env).map noTk) [] = some (false, [])) (h2 : h env s = R) : sIfP M t g h env s = R := by unfold sIfP; rw [h1, Option.bind_some]; exact h2
end
end J
namespace J
open PySem PySem.Spec PyProof.Rows L2
/-! ### a block whose one new dict changes no more: it is data from then on -/
def popS (n : Nat) (m : D) : Slot → Option Slot
  | .no => some .no
  | .sh d => if isTok d = some n then some (.sh m) else if tokLt n d = true then some (.sh d) else none
  | .ow k d => if tokLt n d = true then some (.ow k d) else none
def popE (n : Nat) (m : D) : Env → Option Env
  | [] => some []
  | x :: r => (popS n m x).bind fun y => (popE n m r).map fun q => y :: q
theorem popE_get {n : Nat} {m : D} : ∀ {env env' : Env}, popE n m env = some env' → env'.length = env.length ∧ ∀ (i : Nat) (x' : Slot), env'[i]? = some x' → ∃ x, env[i]? = some x ∧ popS n m x = some x'
  | [], env', h => by cases h; exact ⟨rfl, fun i x' h => by simp at h⟩
  | x :: r, env', h => by
    unfold popE at h
    obtain ⟨y, h1, h⟩ := bind_some' h
    obtain ⟨q, h2, h⟩ := map_some' h
    subst h
    obtain ⟨l1, l2⟩ := popE_get h2
    refine ⟨congrArg (· + 1) l1, fun i x' h => ?_⟩
    cases i with
    | zero => simp at h; subst h; exact ⟨x, rfl, h1⟩
    | succ i => exact l2 i x' (by simpa using h)
section
variable {K : PySem.W.Frag} {C : Hp} {S0 S : List Addr} {A0 : Addr → Prop} {H0 H : Hp} {σ : Sg} {env env' : Env} {sto : STO} {Fs : Nat → List Addr}
theorem Sr.pop {S2 : List Addr} {l : Addr} (r : Sr K C S0 (S2 ++ [l]) A0 H0 σ H env sto Fs) {t : Bool} {es : List (D × D)} (hn : S0.length ≤ S2.length) (hc : sto[S2.length]? = some (.fdc t es)) (hes : tokLtE S2.length es = true) (hcl : (sto.take S2.length).all (cellLt S2.length) = true)
    (he : popE S2.length (.dict ((.none, .bool t) :: es)) env = some env') : Sr K C S0 S2 A0 H0 σ H env' (sto.take S2.length) Fs := by
  have hSn : (S2 ++ [l])[S2.length]? = some l := by rw [List.getElem?_append_right (Nat.le_refl _), Nat.sub_self]; rfl
  have hlS : l ∈ S2 ++ [l] := by simp
  have nds := r.wd.nds
  have hlo : l ∉ S2 := fun z => (List.nodup_append.mp nds).2.2 l z l (by simp) rfl
  obtain ⟨S1, hs, hs1⟩ := r.s0
  have hl0 : H0 l = none := by
    refine hs1 l ?_
    rw [hs] at hSn
    rw [List.getElem?_append_right hn] at hSn
    exact List.mem_of_getElem? hSn
  have hnA0 : ¬ A0 l := fun z => r.al0 l z hl0
  have sub : ∀ a, hd S2 Fs A0 a → hd (S2 ++ [l]) Fs A0 a := fun a h => by
    rcases h with h | h | h
    · exact .inl h
    · exact .inr (.inl h)
    · exact .inr (.inr (List.mem_append_left _ h))
  have nA : ¬ hd S2 Fs A0 l := fun z => by
    rcases z with ⟨i, h⟩ | h | h
    · exact r.ns i l h hlS
    · exact hnA0 h
    · exact hlo h
  have ok := r.wd.st S2.length l _ hSn hc
  have hm : Rp K S2 (hid (hd S2 Fs A0) H) (.ref l) (.dict ((.none, .bool t) :: es)) := by
    cases t with
    | false =>
      obtain ⟨o, kvs, h1, h2⟩ := ok
      exact .rK (hid_eq.mpr ⟨nA, h1⟩) ((h2.le (hid_le sub)).shrink hes)
    | true =>
      obtain ⟨o, kvs, h1, h2⟩ := ok
      exact .rT (hid_eq.mpr ⟨nA, h1⟩) ((h2.le (hid_le sub)).shrink hes)
  obtain ⟨g1, g2⟩ := popE_get he
  have hlen := r.wd.len
  rw [List.length_append] at hlen
  have hlen : S2.length + 1 = sto.length := hlen
  refine ⟨by rw [g1]; exact r.len, ⟨S1.take (S2.length - S0.length), ?_, fun a ha => hs1 a (List.mem_of_mem_take ha)⟩, r.al0, r.a0S, r.ext, ⟨fun a h => r.wd.alt a (sub a h), fun a h => .inr (.inr h), (List.nodup_append.mp nds).1, by rw [List.length_take]; omega, fun i a c h1 h2 => ?_⟩, r.nd, r.dj, r.fr, fun i a h z => r.ns i a h (List.mem_append_left _ z), fun i x h => ?_, fun i h => ?_, fun a o h => hid_le sub a o (r.pub a o h)⟩
  · have h5 := congrArg (List.take S2.length) hs
    rw [List.take_left' rfl, List.take_append, List.take_of_length_le hn] at h5
    exact h5
  · have hi := (List.getElem?_eq_some_iff.mp h1).1
    have hb := List.all_eq_true.mp hcl c (List.mem_of_getElem? h2)
    rw [List.getElem?_take, if_pos hi] at h2
    have ok2 := (r.wd.st i a c (by rw [List.getElem?_append_left hi]; exact h1) h2).keep (A' := hd S2 Fs A0) (hid_le sub) (fun _ h => h) fun _ _ h => h
    exact ok2.shrink hb
  · obtain ⟨y, e1, e2⟩ := g2 i x h
    have q := r.sl i y e1
    cases y with
    | no => cases e2; exact trivial
    | sh d =>
      have e2 : (if isTok d = some S2.length then some (Slot.sh (.dict ((.none, .bool t) :: es))) else if tokLt S2.length d = true then some (.sh d) else none) = some x := e2
      obtain ⟨q1, u, q2, q3⟩ := q
      split at e2
      · rename_i ht
        cases e2
        refine ⟨q1, u, q2, ?_⟩
        rw [isTok_eq ht] at q3
        obtain ⟨l', rfl, h4⟩ := q3.tokI
        rw [hSn] at h4
        cases h4
        exact hm
      · split at e2
        · rename_i _ hd
          cases e2
          exact ⟨q1, u, q2, (q3.le (hid_le sub)).shrink hd⟩
        · cases e2
    | ow k d =>
      have e2 : (if tokLt S2.length d = true then some (Slot.ow k d) else none) = some x := e2
      split at e2
      · rename_i hd
        cases e2
        obtain ⟨u, q1, q2⟩ := q
        exact ⟨u, q1, (q2.mv (hid_le sub) fun a _ o q => q).shrink hd⟩
      · cases e2
  · refine r.out i ?_
    rw [List.getElem?_eq_none_iff] at h ⊢
    omega
end
section
variable {X : Cx} {Z : List Addr → Prop} {k : Nat} {sts : List Stmt} {g : Sv}
end
end J
namespace J
open PySem PySem.Spec PyProof.Rows L2
/-! ### defs that may raise -/
inductive ResX where
  | ok (d : D)
  | ex (c : Str)
  | exf (c : Str) (fs : List (Str × D))
abbrev FnDX := List D → STO → Option (ResX × STO)
structure FnX (P : Program) (w : World) (K : PySem.W.Frag) (mg : Str → Option Value) (base : Heap) (k : Nat) (f : Addr) (fd : FuncData) (ps : List Str) (sp : Sp) : Prop where
  len : ∀ vs H Q E, sp vs H Q E → vs.length = ps.length
  run : ∀ (A : Around) (outer : List PySem.Env) (s : Shared) (H : Hp) (args : Args) (us : List Value) (vs : List V) (Q : VK) (E : XK), Room k A → A.guards = some [] → Env0 P w K mg base A outer s H → BindsTo s fd args (ps.zip us) → Vals vs us → sp vs H Q E →
    codeAny (model P w) A (.call (.ref f) args) (CR (L2N.CX P w) outer P w H s Q E) s
theorem FnX.mono {P : Program} {w : World} {K : PySem.W.Frag} {mg : Str → Option Value} {base : Heap} {j k : Nat} {f : Addr} {fd : FuncData} {ps : List Str} {sp : Sp} (F : FnX P w K mg base j f fd ps sp) (h : j ≤ k) : FnX P w K mg base k f fd ps sp :=
  ⟨F.len, fun A outer s H args us vs Q E hr => F.run A outer s H args us vs Q E (hr.mono h)⟩
/-- a def by its body -/
theorem FnX.of {P : Program} {w : World} {K : PySem.W.Frag} {mg : Str → Option Value} {base : Heap} {k : Nat} {x qual : Str} {st : Stmt} {f : Addr} {fd : FuncData} {N ps : List Str} {sp : Sp}
    (F : Fun K x qual st f fd) (S : FnScope N ps (defScope st)) (len : ∀ vs H Q E, sp vs H Q E → vs.length = ps.length)
    (hbody : ∀ (cdv : Value) (A : Around) (outer : List PySem.Env) (s : Shared) (H : Hp) (vs : List V) (Q : VK) (E : XK), Room k (A.deeper (envOfC qual (defScope st) s.heap.objs.size f cdv)) → A.guards = some [] → sp vs H Q E →
      L2N.Takes (cxOf (L2N.CX P w) P w K mg base N qual (defScope st) f cdv A outer s H E) (fun cls d _ H => E cls d H) →
      wpSs (cxOf (L2N.CX P w) P w K mg base N qual (defScope st) f cdv A outer s H E) (defBody st) { nx := fun _ H' => Q .non H', rt := Q } (start N vs) H) :
    FnX P w K mg base (k + 1) f fd ps sp := by
  obtain ⟨oc, od, kV, doc, pm, an, cdv, ct, osl, rfl, lk, hcd⟩ := F.ex
  refine ⟨len, fun A outer s H args us vs Q E hr hg e0 hb r hsp => ?_⟩
  have hl := len _ _ _ _ hsp
  have KX : K.In s.heap := e0.mod.kin.keeps fun b o e => (e0.bs b o e).1
  have lim : s.heap.NoLimit := e0.mod.nolimit.keeps fun b o e => (e0.bs b o e).1
  have places : ∀ y ∈ ps.zip us, (defScope st).names.lookup y.1 = some .local ∨ ((defScope st).names.lookup y.1 = some .cell ∧ ((cellsFrom (s.heap.objs.size + 1) (defScope st).names []).lookup y.1).isSome = true) := by
    rintro ⟨n, v⟩ hy
    exact (S.par n (List.of_mem_zip hy).1).imp id fun q => ⟨q, PySem.W.cellsFrom_some _ _ _ (.inl q)⟩
  refine codeAny_call_function hr.depth (KX _ _ lk) rfl S.co S.gen rfl (PySem.W.codeRec_of KX hcd) (hb _ _ _ _ (wpAny_newFunctionEnv_cells S.kind places fun env he s1 x => ?_))
  subst he
  refine ⟨lim.keeps x.toInCall.keep, codeAny_func ?_⟩
  have I := inv_start (CX := L2N.CX P w) (E := E) S hr.hd e0 hl r x
  have tk : L2N.Takes (cxOf (L2N.CX P w) P w K mg base N qual (defScope st) f cdv A outer s H E) (fun cls d _ H => E cls d H) := L2N.takes_of rfl rfl rfl rfl
  have q := hbody cdv A outer s H vs Q E (hr.deeper _) hg hsp tk [] s1 I
  refine wpAny_mono q (fun fl s' hs => ?_) fun e s' hs => hs
  cases fl with
  | ret u =>
    obtain ⟨v, σ', H', J, rv, q⟩ := hs
    exact ⟨v, H', J.os, J.bare, J.base, J.hok, rv, q⟩
  | next =>
    obtain ⟨σ', H', J, q⟩ := hs
    exact ⟨.non, H', J.os, J.bare, J.base, J.hok, rfl, q⟩
  | brk =>
    obtain ⟨_, _, _, q⟩ := hs
    exact False.elim q
  | cont =>
    obtain ⟨_, _, _, q⟩ := hs
    exact False.elim q
/-- the dict of an error that is in the air -/
def XdAt (H : Hp) (d : Addr) (fs : List (Str × D)) : Prop := ∃ vs, H d = some (.xd vs) ∧ ∀ f x, fs.lookup f = some x → ∃ v, scV x = some v ∧ vs.lookup f = some v
/-- how a call may end -/
def XEnd (K : PySem.W.Frag) (mg : Str → Option Value) (S : List Addr) (A : Addr → Prop) (H : Hp) (sto' : STO) (k : Nat) (Q : VK) (E : XK) : ResX → Prop
  | .ok d => ∀ v H' F', Res K S A H sto' k H' v d F' → Q v H'
  | .ex c => ∀ H' C, mg c = some (.ref C) → Ext S H H' → Wd K S A H' sto' → E (.ref C) none H'
  | .exf c fs => ∀ H' C d, mg c = some (.ref C) → Ext S H H' → Wd K S A H' sto' → XdAt H' d fs → E (.ref C) (some d) H'
def spX (K : PySem.W.Frag) (mg : Str → Option Value) (n : Nat) (F : FnDX) (k : Nat) : Sp := fun vs H Q E => ∃ A S ds sto r sto', ds.length = n ∧ Wd K S A H sto ∧ RpA K S (hid A H) vs ds ∧ F ds sto = some (r, sto') ∧ XEnd K mg S A H sto' k Q E r
end J
namespace J
open PySem PySem.Spec PyProof.Rows L2
/-! ### statements that may raise -/
inductive OutX where
  | o (x : Out)
  | ex (c : Str)
  | exf (c : Str) (fs : List (Str × D))
abbrev Sx := Env → STO → Option (OutX × Env × STO)
/-- an expression that may raise -/
abbrev EvX := VW → STO → Option (ResX × STO)
section
variable {Z : List Addr → Prop} {X : Cx} {st : Stmt} {rest body orelse : List Stmt} {e c : Expr} {f : EvX} {g h : Sx} {t : EvT} {j k n i : Nat} {pos p p2 : Pos} {x : Str}
theorem wpS.nox {E : Ends} {σ : Sg} {H : Hp} (h : wpS X.nox st E σ H) : wpS X st E σ H := fun pins s I =>
  wpAny_mono (h pins s (I.wish _)) (fun _ _ q => q.unwish) fun _ _ z => False.elim z
theorem wpSs.nox {E : Ends} {σ : Sg} {H : Hp} {sts : List Stmt} (h : wpSs X.nox sts E σ H) : wpSs X sts E σ H := fun pins s I =>
  wpAny_mono (h pins s (I.wish _)) (fun _ _ q => q.unwish) fun _ _ z => False.elim z
/-- a class of errors that is raised with a text -/
structure Ecl (X : Cx) (c : Str) : Prop where
  ex : ∃ (D : Addr) (bmB : List Value) (B newId initId : String), ExcBaseFacts B newId initId bmB ∧ PySem.W.excIn X.K D bmB newId = true ∧ X.mg c = some (.ref D) ∧ PySem.W.keepIn X.K (.ref D) = true ∧ Raises X (.ref D)
end
/-! ### a def by its body -/
end J
namespace J
open PySem PySem.Spec PyProof.Rows L2
/-- a def whose promise is known, that may raise -/
def CalX (P : Program) (w : World) (K : PySem.W.Frag) (mg : Str → Option Value) (base : Heap) (x : Str) (st : Stmt) (ps : List Str) (j : Nat) (F : FnDX) (k : Nat) : Prop :=
  ∃ fa fd, Fun K x x st fa fd ∧ mg x = some (.ref fa) ∧ FnX P w K mg base j fa fd ps (spX K mg ps.length F k)
section
variable {P : Program} {w : World} {K : PySem.W.Frag} {mg : Str → Option Value} {base : Heap} {x : Str} {st : Stmt} {ps : List Str} {j k : Nat} {F : FnDX}
theorem CalX.mono (h : CalX P w K mg base x st ps j F k) {l : Nat} (hl : j ≤ l) : CalX P w K mg base x st ps l F k := by
  obtain ⟨fa, fd, h1, h2, h3⟩ := h
  exact ⟨fa, fd, h1, h2, h3.mono hl⟩
end
/-! ### calls -/
section
variable {X : Cx} {e a b c : Expr} {es rest : List Expr} {f g h : Ev} {fs gs : EvA} {k j n : Nat} {pos p : Pos} {kws : List Keyword}
end
end J
namespace J
open PySem PySem.Spec PyProof.Rows L2 L2H HotX
/-! ### defs that are called where an exception is in hand -/
structure FnHE (P : Program) (w : World) (K : PySem.W.Frag) (mg : Str → Option Value) (base : Heap) (k : Nat) (f : Addr) (fd : FuncData) (ps : List Str) (D : Addr) (sp : Addr → SpG) : Prop where
  len : ∀ a vs H Q, sp a vs H Q → vs.length = ps.length
  run : ∀ (A : Around) (outer : List PySem.Env) (s : Shared) (H : Hp) (args : Args) (us : List Value) (vs : List V) (Q : VK) (p : Addr × Obj), RoomH k A → A.guards = some [] → Hot1 A p → L2N.Zn (.ref D) none p.2 → PinOk outer H s p → Env0 P w K mg base A outer s H → BindsTo s fd args (ps.zip us) → Vals vs us → sp p.1 vs H Q →
    codeAny (model P w) A (.call (.ref f) args) (CR CX0 outer P w H s Q E0) s
/-- the context of such a body -/
abbrev cxHn (P : Program) (w : World) (K : PySem.W.Frag) (mg : Str → Option Value) (base : Heap) (N : List Str) (qual : Str) (scope : Scope) (f : Addr) (cd : Value) (A : Around) (outer : List PySem.Env) (s : Shared) (H : Hp) (p : Addr × Obj) : Cx := (cxH CX0 P w K mg base N qual scope f cd A outer s H E0 p).nox
theorem FnHE.of {P : Program} {w : World} {K : PySem.W.Frag} {mg : Str → Option Value} {base : Heap} {k : Nat} {x qual : Str} {st : Stmt} {f : Addr} {fd : FuncData} {N ps : List Str} {D : Addr} {sp : Addr → SpG}
    (F : Fun K x qual st f fd) (S : FnScope N ps (defScope st)) (len : ∀ a vs H Q, sp a vs H Q → vs.length = ps.length)
    (hbody : ∀ (cdv : Value) (A : Around) (outer : List PySem.Env) (s : Shared) (H : Hp) (vs : List V) (Q : VK) (p : Addr × Obj), RoomH k (A.deeper (envOfC qual (defScope st) s.heap.objs.size f cdv)) → A.guards = some [] → Hot1 A p → L2N.Zn (.ref D) none p.2 → sp p.1 vs H Q →
      wpSs (cxHn P w K mg base N qual (defScope st) f cdv A outer s H p) (defBody st) { nx := fun _ H' => Q .non H', rt := Q } (start N vs) H) :
    FnHE P w K mg base (k + 1) f fd ps D sp := by
  obtain ⟨oc, od, kV, doc, pm, an, cdv, ct, osl, rfl, lk, hcd⟩ := F.ex
  refine ⟨len, fun A outer s H args us vs Q p hr hg hot hz hpin e0 hb r hsp => ?_⟩
  have hl := len _ _ _ _ hsp
  have KX : K.In s.heap := e0.mod.kin.keeps fun b o e => (e0.bs b o e).1
  have lim : s.heap.NoLimit := e0.mod.nolimit.keeps fun b o e => (e0.bs b o e).1
  have places : ∀ y ∈ ps.zip us, (defScope st).names.lookup y.1 = some .local ∨ ((defScope st).names.lookup y.1 = some .cell ∧ ((cellsFrom (s.heap.objs.size + 1) (defScope st).names []).lookup y.1).isSome = true) := by
    rintro ⟨n, v⟩ hy
    exact (S.par n (List.of_mem_zip hy).1).imp id fun q => ⟨q, PySem.W.cellsFrom_some _ _ _ (.inl q)⟩
  refine codeAny_call_function hr.depth (KX _ _ lk) rfl S.co S.gen rfl (PySem.W.codeRec_of KX hcd) (hb _ _ _ _ (wpAny_newFunctionEnv_cells S.kind places fun env he s1 x => ?_))
  subst he
  refine ⟨lim.keeps x.toInCall.keep, codeAny_func ?_⟩
  have I : Inv (cxH CX0 P w K mg base N qual (defScope st) f cdv A outer s H E0 p) [] (L2.start N vs) H s1 := inv_startH S hpin e0 hl r x
  have q := hbody cdv A outer s H vs Q p (hr.deeper _) hg hot hz hsp [] s1 (I.wish _)
  refine wpAny_mono q (fun fl s' hs => ?_) fun e s' hs => False.elim hs
  have hs := SP.unwish hs
  cases fl with
  | ret u =>
    obtain ⟨v, σ', H', J, rv, q⟩ := hs
    exact ⟨v, H', J.os, J.bare, J.base, J.hok, rv, q⟩
  | next =>
    obtain ⟨σ', H', J, q⟩ := hs
    exact ⟨.non, H', J.os, J.bare, J.base, J.hok, rfl, q⟩
  | brk =>
    obtain ⟨_, _, _, q⟩ := hs
    exact False.elim q
  | cont =>
    obtain ⟨_, _, _, q⟩ := hs
    exact False.elim q
/-! ### isinstance of the exception in hand -/
/-- the class c, and what its instances are: the names of the classes asked -/
structure ExcK (K : PySem.W.Frag) (mg : Str → Option Value) (c : Str) : Prop where
  cls : ∀ D, mg c = some (.ref D) → ExcC K D
section
variable {X : Cx} {a : Expr} {f : Ev} {k : Nat} {pos p0 q1 : Pos}
end
/-! ### except suites -/
end J
namespace J
open PySem PySem.Spec PyProof.Rows L2 L2H HotX
section
variable {Z : List Addr → Prop} {X : Cx} {i j l k m : Nat} {x n y t c : Str} {st : Stmt} {ws : List (Str × D)} {q pe pos p1 p2 : Pos}
end
end J
namespace J
open PySem PySem.Spec PyProof.Rows L2 L2H HotX
/-! ### [f, g, ..][i](e, ..) -/
inductive FnsX (X : Cx) (m n k : Nat) (perm : List Nat) : List Expr → List FnDX → List Addr → Prop
  | nil : FnsX X m n k perm [] [] []
  | cons {x : Str} {p : Pos} {fa : Addr} {fd : FuncData} {ps : List Str} {F : FnDX} {es : List Expr} {Fs : List FnDX} {as : List Addr} (hF : FnX X.prog X.w X.K X.mg X.base m fa fd ps (spX X.K X.mg ps.length F k)) (hm : X.mg x = some (.ref fa)) (hg : Gl X x) (hd : (x == ("__debug__" : Str)) = false)
      (hk : PySem.W.keepIn X.K (.ref fa) = true) (hb : KBn X.K fd ps n [] (fun us ws => pick Value.none perm (us ++ ws)) (fun vs zs => pick V.non perm (vs ++ zs))) (hl : perm.length = ps.length)
      (hs : starEach (.Name x p :: es) X.env = (false, eval (.Name x p) X.env) :: starEach es X.env) (r : FnsX X m n k perm es Fs as) : FnsX X m n k perm (.Name x p :: es) (F :: Fs) (fa :: as)
theorem FnsX.ja {X : Cx} {m n k : Nat} {perm : List Nat} : ∀ {es : List Expr} {Fs : List FnDX} {as : List Addr}, FnsX X m n k perm es Fs as → JA X es (fun _ s => some (as.map exD, s)) 0
  | _, _, _, .nil => ja_nil
  | _, _, _, .cons (x := x) (p := p) (fa := fa) hF hm hg hd hk hb hl hs r => fun A S σ H vw sto d sto' Q w rd q z => by
    cases q
    have h1 : JP X (.Name x p) (fun _ s => some (exD fa, s)) 0 := fun A S σ H vw sto d sto' Q w rd q z => by
      cases q
      exact wpE.by (pe_glob (v := .ref fa) hg hm rfl hd) (z _ H [] ⟨Ext.refl, by rw [plus_nil]; exact w, .nil, noF, .sh (by rw [plus_nil]; exact .ex)⟩)
    exact ja_cons h1 r.ja hs A S σ H vw sto _ _ Q w rd rfl z
theorem FnsX.at {X : Cx} {m n k : Nat} {perm : List Nat} : ∀ {es : List Expr} {Fs : List FnDX} {as : List Addr} {j : Nat} {F : FnDX}, FnsX X m n k perm es Fs as → Fs[j]? = some F → ∃ fa fd ps, as[j]? = some fa ∧ FnX X.prog X.w X.K X.mg X.base m fa fd ps (spX X.K X.mg ps.length F k) ∧ PySem.W.keepIn X.K (.ref fa) = true ∧ KBn X.K fd ps n [] (fun us ws => pick Value.none perm (us ++ ws)) (fun vs zs => pick V.non perm (vs ++ zs)) ∧ perm.length = ps.length
  | _, _, _, 0, _, .cons hF hm hg hd hk hb hl hs r, e => by
    cases e
    exact ⟨_, _, _, rfl, hF, hk, hb, hl⟩
  | _, _, _, j + 1, _, .cons hF hm hg hd hk hb hl hs r, e => r.at (j := j) e
theorem FnsX.len {X : Cx} {m n k : Nat} {perm : List Nat} : ∀ {es : List Expr} {Fs : List FnDX} {as : List Addr}, FnsX X m n k perm es Fs as → as.length = Fs.length
  | _, _, _, .nil => rfl
  | _, _, _, .cons hF hm hg hd hk hb hl hs r => congrArg (· + 1) r.len
end J
namespace J
open PySem PySem.Spec PyProof.Rows L2
/-! ### instances of an own class as data -/
section
variable {X : Cx} {e a b c : Expr} {es rest : List Expr} {f g h : Ev} {fs : EvA} {k j : Nat} {pos p q1 : Pos}
end
end J
namespace J
open PySem PySem.Spec PyProof.Rows L2 L2H HotX
/-! ### classes of errors by what stands of them -/
/-! ### a new instance, of which no more is told -/
end J
namespace J
open PySem PySem.Spec PyProof.Rows L2 L2H HotX
/-! ### for the printer -/
end J
namespace J
open PySem PySem.Spec PyProof.Rows L2
/-! ### many written things ahead -/
end J
namespace J
open PySem PySem.Spec PyProof.Rows L2
/-! ### what does not look at the store at all: told at the empty store, it is told at each store -/
abbrev AnyS (_ : STO) : Prop := True
def SG {α : Type} (f : VW → STO → Option (α × STO)) : Prop := ∀ vw a u, f vw [] = some (a, u) → u = [] ∧ ∀ s, AnyS s → f vw s = some (a, s)
class SGc {α : Type} (f : VW → STO → Option (α × STO)) : Prop where
  h : SG f
class SGs (g : Sv) : Prop where
  h : ∀ env o env' u, g env [] = some (o, env', u) → u = [] ∧ ∀ s, AnyS s → g env s = some (o, env', s)
class SGd (F : FnD) : Prop where
  h : ∀ ds d u, F ds [] = some (d, u) → u = [] ∧ ∀ s, AnyS s → F ds s = some (d, s)
section
variable {α β : Type}
theorem SG.bind {f : VW → STO → Option (α × STO)} {g : α → VW → STO → Option (β × STO)} (hf : SG f) (hg : ∀ a, SG (g a)) : SG (fun vw s => (f vw s).bind fun p => g p.1 vw p.2) := fun vw b u h => by
  obtain ⟨⟨a, s1⟩, e1, h⟩ := bind_some' h
  obtain ⟨rfl, k1⟩ := hf _ _ _ e1
  obtain ⟨e2, k2⟩ := hg a _ _ _ h
  exact ⟨e2, fun s hs => by show (f vw s).bind _ = _; rw [k1 s hs, Option.bind_some]; exact k2 s hs⟩
theorem SG.opt {o : Option α} : SG (fun _ s => o.map fun r => (r, s)) := fun vw a u h => by
  obtain ⟨r, e1, h⟩ := map_some' h
  cases h
  exact ⟨rfl, fun s _ => by show o.map _ = _; rw [e1]; rfl⟩
theorem SG.val {a : α} : SG (fun _ s => some (a, s)) := fun vw b u h => by
  cases h
  exact ⟨rfl, fun s _ => rfl⟩
theorem SG.no : SG (fun _ _ => (none : Option (α × STO))) := fun vw b u h => by cases h
theorem SG.ite {p : Prop} [Decidable p] {f g : VW → STO → Option (α × STO)} (hf : SG f) (hg : SG g) : SG (fun vw s => if p then f vw s else g vw s) := by
  by_cases h : p
  · simp only [if_pos h]; exact hf
  · simp only [if_neg h]; exact hg
theorem SG.map {f : VW → STO → Option (α × STO)} {k : α → β} (hf : SG f) : SG (fun vw s => (f vw s).map fun p => (k p.1, p.2)) := fun vw b u h => by
  obtain ⟨⟨a, s1⟩, e1, h⟩ := map_some' h
  obtain ⟨rfl, k1⟩ := hf _ _ _ e1
  cases h
  exact ⟨rfl, fun s hs => by show (f vw s).map _ = _; rw [k1 s hs]; rfl⟩
end
section
variable {op : D → D → Option D} {o1 o2 : D → D → Option D} {f g h : Ev} {t u : EvT} {fs gs : EvA} {fi : EvI} {F : FnD}
instance {i : Nat} : SGc (eVar i) := ⟨fun vw d u h => by
  unfold eVar at h ⊢
  cases e : vw[i]? with
  | none => rw [e] at h; cases h
  | some x =>
    cases x with
    | none => rw [e] at h; cases h
    | some d' => rw [e] at h; cases h; exact ⟨rfl, fun s _ => rfl⟩⟩
instance {d : D} : SGc (eC d) := ⟨SG.val⟩
instance [SGc f] [SGc g] : SGc (eBin op f g) := ⟨SG.bind SGc.h fun _ => SG.bind SGc.h fun _ => SG.opt⟩
instance {op : D → Option D} [SGc f] : SGc (eUn op f) := ⟨SG.bind SGc.h fun _ => SG.opt⟩
theorem SG.bool {x : D} {f g : VW → STO → Option (D × STO)} (hf : SG f) (hg : SG g) : SG (fun vw s => match x with | .bool true => f vw s | .bool false => g vw s | _ => none) := by
  cases x with
  | bool b => cases b with
    | true => exact hf
    | false => exact hg
  | _ => exact SG.no
instance [SGc f] [SGc g] [SGc h] : SGc (eChain o1 o2 f g h) := ⟨SG.bind (f := f) (g := fun a vw s => (g vw s).bind fun q => (o1 a q.1).bind fun c => match c with
      | .bool true => (h vw q.2).bind fun r => (o2 q.1 r.1).map fun z => (z, r.2)
      | .bool false => some (.bool false, q.2)
      | _ => none) SGc.h fun a => SG.bind (f := g) (g := fun b vw s => (o1 a b).bind fun c => match c with
      | .bool true => (h vw s).bind fun r => (o2 b r.1).map fun z => (z, r.2)
      | .bool false => some (.bool false, s)
      | _ => none) SGc.h fun b => by
  cases e : o1 a b with
  | none => exact SG.no
  | some c => exact SG.bool (x := c) (f := fun vw s => (h vw s).bind fun r => (o2 b r.1).map fun z => (z, r.2)) (g := fun _ s => some (.bool false, s)) (SG.bind SGc.h fun _ => SG.opt) SG.val⟩
instance [SGc f] [SGc g] : SGc (eAnd f g) := ⟨SG.bind (f := f) (g := fun a vw s => match a with | .bool true => g vw s | .bool false => some (.bool false, s) | _ => none) SGc.h fun a => SG.bool (x := a) (f := g) (g := fun _ s => some (.bool false, s)) SGc.h SG.val⟩
instance [SGc f] [SGc g] : SGc (eOr f g) := ⟨SG.bind (f := f) (g := fun a vw s => match a with | .bool true => some (.bool true, s) | .bool false => g vw s | _ => none) SGc.h fun a => SG.bool (x := a) (g := g) (f := fun _ s => some (.bool true, s)) SG.val SGc.h⟩
instance [SGc f] : SGc (bT f) := ⟨SG.bind (f := f) (g := fun a _ s => match a with | .bool b => some (b, s) | _ => none) SGc.h fun a => by
  cases a with
  | bool b => exact SG.val
  | _ => exact SG.no⟩
instance [SGc t] [SGc u] : SGc (aT t u) := ⟨SG.bind (f := t) (g := fun a vw s => if a = true then u vw s else some (false, s)) SGc.h fun a => SG.ite (p := a = true) SGc.h SG.val⟩
instance [SGc t] [SGc u] : SGc (oT t u) := ⟨SG.bind (f := t) (g := fun a vw s => if a = true then some (true, s) else u vw s) SGc.h fun a => SG.ite (p := a = true) SG.val SGc.h⟩
instance [SGc t] : SGc (nT t) := ⟨SG.map SGc.h⟩
instance [SGc t] [SGc f] [SGc g] : SGc (eIf t f g) := ⟨SG.bind (f := t) (g := fun a vw s => if a = true then f vw s else g vw s) SGc.h fun a => SG.ite (p := a = true) SGc.h SGc.h⟩
instance : SGc aN := ⟨SG.val⟩
instance [SGc f] [SGc fs] : SGc (aC f fs) := ⟨SG.bind SGc.h fun a => SG.map (k := fun q => a :: q) SGc.h⟩
instance [SGc fs] : SGc (eLst fs) := ⟨SG.bind (f := fs) (g := fun a _ s => if a.length ≤ 16777216 then some (PyData.list a, s) else none) SGc.h fun a => SG.ite (p := a.length ≤ 16777216) SG.val SG.no⟩
instance [SGc fs] : SGc (eTup fs) := ⟨SG.bind (f := fs) (g := fun a _ s => if a.length ≤ 16777216 then some (PyData.tuple a, s) else none) SGc.h fun a => SG.ite (p := a.length ≤ 16777216) SG.val SG.no⟩
instance [SGc f] [SGc g] : SGc (eIdx f g) := ⟨SG.bind (f := f) (g := fun a vw s => (g vw s).bind fun q => (dIdx q.2 a q.1).map fun r => (r, q.2)) SGc.h fun a => SG.bind (f := g) (g := fun b _ s => (dIdx s a b).map fun r => (r, s)) SGc.h fun b => fun vw d u h => by
  obtain ⟨r, e1, h⟩ := map_some' h
  cases h
  exact ⟨rfl, fun s _ => by show (dIdx s a b).map _ = _; rw [dIdx_nil e1]; rfl⟩⟩
instance : SGc oN := ⟨SG.val⟩
instance [SGc f] : SGc (oS f) := ⟨SG.bind (f := f) (g := fun a _ s => match a with | .int i => some (some i, s) | _ => none) SGc.h fun a => by
  cases a with
  | int i => exact SG.val
  | _ => exact SG.no⟩
instance {lo hi : VW → STO → Option (Option Int × STO)} [SGc f] [SGc lo] [SGc hi] : SGc (eSl f lo hi) := ⟨SG.bind SGc.h fun _ => SG.bind SGc.h fun _ => SG.bind SGc.h fun _ => SG.opt⟩
instance {op : List D → Option D} [SGc fs] : SGc (eOp op fs) := ⟨SG.bind SGc.h fun _ => SG.opt⟩
instance [SGc f] : SGc (iVal f) := ⟨SG.bind (f := f) (g := fun a _ s => match a with | .list ds => some (ds, s) | .tuple ds => some (ds, s) | .str z => some (chD z, s) | _ => none) SGc.h fun a => by
  cases a with
  | list ds => exact SG.val
  | tuple ds => exact SG.val
  | str z => exact SG.val
  | _ => exact SG.no⟩
instance {op : D → Option (List D)} [SGc f] : SGc (iU op f) := ⟨SG.bind SGc.h fun _ => SG.opt⟩
instance {op : D → D → Option (List D)} [SGc f] [SGc g] : SGc (iB op f g) := ⟨SG.bind SGc.h fun _ => SG.bind SGc.h fun _ => SG.opt⟩
instance [SGc f] : SGc (r1 f) := ⟨SG.bind (f := f) (g := fun a _ s => match a with | .int j => if inRg j = true then some (((0 : Int), j), s) else none | _ => none) SGc.h fun a => by
  cases a with
  | int j => exact SG.ite SG.val SG.no
  | _ => exact SG.no⟩
instance [SGc f] [SGc g] : SGc (r2 f g) := ⟨SG.bind (f := f) (g := fun a vw s => (g vw s).bind fun q => match a, q.1 with | .int i, .int j => if inRg i = true ∧ inRg j = true then some ((i, j), q.2) else none | _, _ => none) SGc.h fun a => SG.bind (f := g) (g := fun b _ s => match a, b with | .int i, .int j => if inRg i = true ∧ inRg j = true then some ((i, j), s) else none | _, _ => none) SGc.h fun b => by
  cases a with
  | int i =>
    cases b with
    | int j => exact SG.ite SG.val SG.no
    | _ => exact SG.no
  | _ => exact SG.no⟩
instance {fr : VW → STO → Option ((Int × Int) × STO)} [SGc fr] : SGc (eLRg fr) := ⟨SG.bind (f := fr) (g := fun a _ s => if -16777216 ≤ a.1 ∧ a.1 ≤ 16777216 ∧ -16777216 ≤ a.2 ∧ a.2 ≤ 16777216 ∧ (a.2 - a.1).toNat ≤ 16777216 then some (PyData.list (rgD a.1 1 (a.2 - a.1).toNat), s) else none) SGc.h fun _ => SG.ite SG.val SG.no⟩
instance {fr : VW → STO → Option ((Int × Int) × STO)} [SGc fr] : SGc (eTRg fr) := ⟨SG.bind (f := fr) (g := fun a _ s => if -16777216 ≤ a.1 ∧ a.1 ≤ 16777216 ∧ -16777216 ≤ a.2 ∧ a.2 ≤ 16777216 ∧ (a.2 - a.1).toNat ≤ 16777216 then some (PyData.tuple (rgD a.1 1 (a.2 - a.1).toNat), s) else none) SGc.h fun _ => SG.ite SG.val SG.no⟩
instance {fr : VW → STO → Option ((Int × Int) × STO)} [SGc fr] : SGc (iRevRg fr) := ⟨SG.bind (f := fr) (g := fun a _ s => if inRg a.1 = true ∧ inRg a.2 = true then some (rgD (a.1 + (((a.2 - a.1).toNat : Nat) : Int) - 1) (-1) (a.2 - a.1).toNat, s) else none) SGc.h fun _ => SG.ite SG.val SG.no⟩
instance : SGc tY := ⟨SG.val⟩
theorem sg_compL {bd : Bd} {fc : EvT} {fe : Ev} {own : List Nat} {vw : VW} (hc : SG fc) (he : SG fe) : ∀ (ds : List D) (l : List D) (u : STO), compL bd fc fe own vw ds [] = some (l, u) → u = [] ∧ ∀ s, AnyS s → compL bd fc fe own vw ds s = some (l, s)
  | [], l, u, h => by cases h; exact ⟨rfl, fun s _ => rfl⟩
  | d :: r, l, u, h => by
    unfold compL at h
    obtain ⟨b, e1, h⟩ := bind_some' h
    obtain ⟨⟨c, s1⟩, e2, h⟩ := bind_some' h
    obtain ⟨rfl, k2⟩ := hc _ _ _ e2
    cases c with
    | true =>
      simp only [if_true] at h
      obtain ⟨⟨y, s2⟩, e3, h⟩ := bind_some' h
      obtain ⟨rfl, k3⟩ := he _ _ _ e3
      obtain ⟨⟨m, s3⟩, e4, h⟩ := map_some' h
      cases h
      obtain ⟨e5, k4⟩ := sg_compL hc he r m _ e4
      refine ⟨e5, fun s hs => ?_⟩
      unfold compL
      rw [e1, Option.bind_some, k2 s hs, Option.bind_some]
      simp only [if_true]
      rw [k3 s hs, Option.bind_some]
      simp only
      rw [k4 s hs]
      rfl
    | false =>
      simp only [Bool.false_eq_true, if_false] at h
      obtain ⟨e5, k4⟩ := sg_compL hc he r l u h
      refine ⟨e5, fun s hs => ?_⟩
      unfold compL
      rw [e1, Option.bind_some, k2 s hs, Option.bind_some]
      simp only [Bool.false_eq_true, if_false]
      exact k4 s hs
instance {bd : Bd} {fc : EvT} {fe : Ev} {own : List Nat} [SGc fi] [SGc fc] [SGc fe] : SGc (eComp fi bd fc fe own) := ⟨fun vw => SG.bind (f := fi) (g := fun ds vw s => if ds.length ≤ 16777216 then (compL bd fc fe own vw ds s).map fun (q : List D × STO) => (PyData.list q.1, q.2) else none) SGc.h (fun ds => SG.ite (p := ds.length ≤ 16777216) (fun vw d u h => by
  obtain ⟨⟨l, s1⟩, e1, h⟩ := map_some' h
  cases h
  obtain ⟨e2, k⟩ := sg_compL SGc.h SGc.h ds l _ e1
  exact ⟨e2, fun s hs => by show (compL bd fc fe own vw ds s).map _ = _; rw [k s hs]; rfl⟩) SG.no) vw⟩
instance {perm : List Nat} [SGd F] [SGc fs] : SGc (eCall F perm fs) := ⟨SG.bind (f := fs) (g := fun a _ s => F (pick PyData.none perm a) s) SGc.h fun a => fun vw d u h => SGd.h _ _ _ h⟩
instance [SGc fs] [SGc gs] : SGc (aApp fs gs) := ⟨SG.bind SGc.h fun a => SG.map (k := fun q => a ++ q) SGc.h⟩
instance [SGc f] [SGc g] : SGc (eDGet f g) := ⟨SG.bind (f := f) (g := fun a vw s => (g vw s).bind fun q => (dEnt q.2 a).bind fun es => (getE es.1 es.2 q.1).bind fun o => o.map fun r => (r, q.2)) SGc.h fun a => SG.bind (f := g) (g := fun b _ s => (dEnt s a).bind fun es => (getE es.1 es.2 b).bind fun o => o.map fun r => (r, s)) SGc.h fun b => fun vw d u h => by
  obtain ⟨x, e1, h⟩ := bind_some' h
  obtain ⟨o, e2, h⟩ := bind_some' h
  obtain ⟨r, e3, h⟩ := map_some' h
  cases h
  exact ⟨rfl, fun s _ => by show ((dEnt s a).bind _) = _; rw [dEnt_nil e1, Option.bind_some, e2, Option.bind_some, e3]; rfl⟩⟩
instance {b : Bool} [SGc f] [SGc g] : SGc (eDIn b g f) := ⟨SG.bind (f := g) (g := fun a vw s => (f vw s).bind fun p => (dEnt p.2 p.1).bind fun es => (getE es.1 es.2 a).map fun (o : Option D) => (PyData.bool (o.isSome == b), p.2)) SGc.h fun a => SG.bind (f := f) (g := fun c _ s => (dEnt s c).bind fun es => (getE es.1 es.2 a).map fun (o : Option D) => (PyData.bool (o.isSome == b), s)) SGc.h fun c => fun vw d u h => by
  obtain ⟨x, e1, h⟩ := bind_some' h
  obtain ⟨o, e2, h⟩ := map_some' h
  cases h
  exact ⟨rfl, fun s _ => by show ((dEnt s c).bind _) = _; rw [dEnt_nil e1, Option.bind_some, e2]; rfl⟩⟩
instance [SGc f] [SGc fs] : SGc (aStar f fs) := ⟨SG.bind (f := f) (g := fun a vw s => match a with | .list ds => (fs vw s).map fun q => (ds ++ q.1, q.2) | _ => none) SGc.h fun a => by
  cases a with
  | list ds => exact SG.map (k := fun q => ds ++ q) SGc.h
  | _ => exact SG.no⟩
instance [SGc f] : SGc (eUp f) := ⟨SG.bind (f := f) (g := fun a _ s => if upOk a = true then some (a, s) else none) SGc.h fun a => SG.ite SG.val SG.no⟩
instance {k : Nat} [SGc f] : SGc (iVal0 k f) := ⟨SG.bind (f := f) (g := fun a _ s => match a with | .list ds => if full k (.list ds) = true then some (ds, s) else none | _ => none) SGc.h fun a => by
  cases a with
  | list ds => exact SG.ite SG.val SG.no
  | _ => exact SG.no⟩
instance [SGc fs] : SGc (eLRg3 fs) := ⟨SG.bind (f := fs) (g := fun a _ s => match a with
    | [.int i, .int j, .int c] => if (c ≠ 0 ∧ c.natAbs < 1073741824) ∧ Builtin.Range.small i j c = true ∧ Builtin.Range.rangeSize i j c = ((Builtin.Range.rangeSize i j c).toNat : Nat) ∧ (Builtin.Range.rangeSize i j c).toNat ≤ 16777216 then some (PyData.list (rgD i c (Builtin.Range.rangeSize i j c).toNat), s) else none
    | _ => none) SGc.h fun a => by
  show SG fun vw s => match a with
    | [.int i, .int j, .int c] => if (c ≠ 0 ∧ c.natAbs < 1073741824) ∧ Builtin.Range.small i j c = true ∧ Builtin.Range.rangeSize i j c = ((Builtin.Range.rangeSize i j c).toNat : Nat) ∧ (Builtin.Range.rangeSize i j c).toNat ≤ 16777216 then some (PyData.list (rgD i c (Builtin.Range.rangeSize i j c).toNat), s) else none
    | _ => none
  split
  · exact SG.ite SG.val SG.no
  · exact SG.no⟩
end
/-! statements -/
theorem fzIf_any {k : Nat} {d : D} {s : STO} {env : Env} : fzIf k d [] s env = fzIf k d [] [] env := rfl
theorem fzT_any {s : STO} {env : Env} : fzT [] s env = env := rfl
section
variable {f g : Ev} {t : EvT} {fi : EvI} {gb hb : Sv} {bd : Bd}
instance : SGs sNil := ⟨fun env o env' u h => by cases h; exact ⟨rfl, fun s _ => rfl⟩⟩
instance : SGs sNever := ⟨fun env o env' u h => by cases h⟩
instance : SGs sBrk := ⟨fun env o env' u h => by cases h; exact ⟨rfl, fun s _ => rfl⟩⟩
instance : SGs sCnt := ⟨fun env o env' u h => by cases h; exact ⟨rfl, fun s _ => rfl⟩⟩
instance : SGs sRetN := ⟨fun env o env' u h => by cases h; exact ⟨rfl, fun s _ => rfl⟩⟩
instance [SGs gb] [SGs hb] : SGs (sSeq gb hb) := ⟨fun env o env' u h => by
  unfold sSeq at h
  obtain ⟨⟨o1, e1, s1⟩, e2, h⟩ := bind_some' h
  obtain ⟨rfl, k1⟩ := SGs.h _ _ _ _ e2
  cases o1 with
  | nx =>
    obtain ⟨e3, k2⟩ := SGs.h _ _ _ _ h
    exact ⟨e3, fun s hs => by unfold sSeq; rw [k1 s hs]; exact k2 s hs⟩
  | _ => cases h; exact ⟨rfl, fun s hs => by unfold sSeq; rw [k1 s hs]; rfl⟩⟩
instance {i k : Nat} [SGc f] : SGs (sSet i k [] f) := ⟨fun env o env' u h => by
  unfold sSet at h
  split at h
  case isFalse => cases h
  rename_i hi
  obtain ⟨⟨d, s1⟩, e1, h⟩ := map_some' h
  cases h
  obtain ⟨rfl, k1⟩ := SGc.h _ _ _ e1
  exact ⟨rfl, fun s hs => by unfold sSet; rw [if_pos hi, k1 s hs, Option.map_some, fzIf_any]⟩⟩
instance [SGc f] : SGs (sEx [] f) := ⟨fun env o env' u h => by
  unfold sEx at h
  obtain ⟨⟨d, s1⟩, e1, h⟩ := map_some' h
  cases h
  obtain ⟨rfl, k1⟩ := SGc.h _ _ _ e1
  exact ⟨rfl, fun s hs => by unfold sEx; rw [k1 s hs, Option.map_some, fzT_any, fzT_any (s := [])]⟩⟩
instance [SGc f] : SGs (sRet [] f) := ⟨fun env o env' u h => by
  unfold sRet at h
  obtain ⟨⟨d, s1⟩, e1, h⟩ := map_some' h
  cases h
  obtain ⟨rfl, k1⟩ := SGc.h _ _ _ e1
  exact ⟨rfl, fun s hs => by unfold sRet; rw [k1 s hs]; rfl⟩⟩
instance {i k : Nat} : SGs (sRetM i k) := ⟨fun env o env' u h => by
  unfold sRetM at h ⊢
  split at h
  case h_2 => cases h
  split at h
  case isFalse => cases h
  rename_i h1 h2
  cases h
  exact ⟨rfl, fun s hs => by rw [if_pos h2]⟩⟩
instance {i k : Nat} : SGs (sRetSrt i k) := ⟨fun env o env' u h => by
  unfold sRetSrt at h ⊢
  split at h
  case h_2 => cases h
  split at h
  case isFalse => cases h
  rename_i h1 h2
  obtain ⟨r, e1, h⟩ := map_some' h
  cases h
  exact ⟨rfl, fun s hs => by rw [if_pos h2, e1]; rfl⟩⟩
instance [SGc t] [SGs gb] [SGs hb] : SGs (sIf [] t gb hb) := ⟨fun env o env' u h => by
  unfold sIf at h
  obtain ⟨⟨b, s1⟩, e1, h⟩ := bind_some' h
  obtain ⟨rfl, k1⟩ := SGc.h _ _ _ e1
  rw [fzT_any (s := [])] at h
  cases b with
  | true =>
    obtain ⟨e3, k2⟩ := SGs.h (g := gb) _ _ _ _ h
    exact ⟨e3, fun s hs => by unfold sIf; rw [k1 s hs, Option.bind_some, fzT_any]; exact k2 s hs⟩
  | false =>
    obtain ⟨e3, k2⟩ := SGs.h (g := hb) _ _ _ _ h
    exact ⟨e3, fun s hs => by unfold sIf; rw [k1 s hs, Option.bind_some, fzT_any]; exact k2 s hs⟩⟩
theorem sg_forL (hb : ∀ env o env' u, gb env [] = some (o, env', u) → u = [] ∧ ∀ s, AnyS s → gb env s = some (o, env', s)) : ∀ (ds : List D) (env : Env) (o : Out) (env' : Env) (u : STO), forL bd gb ds env [] = some (o, env', u) → u = [] ∧ ∀ s, AnyS s → forL bd gb ds env s = some (o, env', s)
  | [], env, o, env', u, h => by cases h; exact ⟨rfl, fun s _ => rfl⟩
  | d :: r, env, o, env', u, h => by
    unfold forL at h
    obtain ⟨l, e1, h⟩ := bind_some' h
    split at h
    case isFalse => cases h
    rename_i hc
    obtain ⟨⟨o1, en1, s1⟩, e2, h⟩ := bind_some' h
    obtain ⟨rfl, k1⟩ := hb _ _ _ _ e2
    cases o1 with
    | nx =>
      obtain ⟨e3, k2⟩ := sg_forL hb r en1 o env' u h
      exact ⟨e3, fun s hs => by unfold forL; rw [e1, Option.bind_some, if_pos hc, k1 s hs]; exact k2 s hs⟩
    | ct =>
      obtain ⟨e3, k2⟩ := sg_forL hb r en1 o env' u h
      exact ⟨e3, fun s hs => by unfold forL; rw [e1, Option.bind_some, if_pos hc, k1 s hs]; exact k2 s hs⟩
    | bk => cases h; exact ⟨rfl, fun s hs => by unfold forL; rw [e1, Option.bind_some, if_pos hc, k1 s hs]; rfl⟩
    | rt d => cases h; exact ⟨rfl, fun s hs => by unfold forL; rw [e1, Option.bind_some, if_pos hc, k1 s hs]; rfl⟩
instance [SGc fi] [SGs gb] : SGs (sFor [] fi bd gb) := ⟨fun env o env' u h => by
  unfold sFor at h
  obtain ⟨⟨ds, s1⟩, e1, h⟩ := bind_some' h
  obtain ⟨rfl, k1⟩ := SGc.h _ _ _ e1
  obtain ⟨e3, k2⟩ := sg_forL SGs.h ds _ _ _ _ h
  exact ⟨e3, fun s hs => by unfold sFor; rw [k1 s hs]; exact k2 s hs⟩⟩
instance [SGc fi] [SGs gb] : SGs (sFor0 [] fi bd gb) := ⟨fun env o env' u h => by
  unfold sFor0 at h
  obtain ⟨⟨ds, s1⟩, e1, h⟩ := bind_some' h
  obtain ⟨rfl, k1⟩ := SGc.h _ _ _ e1
  simp only [okM_nil [], if_true] at h
  obtain ⟨e3, k2⟩ := sg_forL SGs.h ds _ _ _ _ h
  exact ⟨e3, fun s hs => by unfold sFor0; rw [k1 s hs, Option.bind_some]; simp only [okM_nil _, if_true]; exact k2 s hs⟩⟩
instance {i j k1 k2 : Nat} [SGc f] [SGc g] : SGs (sPar i j k1 k2 [] [] f g) := ⟨fun env o env' u h => by
  unfold sPar at h
  split at h
  case isFalse => cases h
  rename_i hi
  obtain ⟨⟨d, s1⟩, e1, h⟩ := bind_some' h
  obtain ⟨rfl, k1⟩ := SGc.h _ _ _ e1
  obtain ⟨⟨d2, s2⟩, e2, h⟩ := map_some' h
  obtain ⟨rfl, k2⟩ := SGc.h _ _ _ e2
  cases h
  refine ⟨rfl, fun s hs => ?_⟩
  unfold sPar
  rw [if_pos hi, k1 s hs, Option.bind_some]
  simp only [fzIf_any]
  rw [k2 s hs]
  simp only [Option.map_some, fzIf_any]⟩
instance [SGc f] : SGs (sBind [] bd f) := ⟨fun env o env' u h => by
  unfold sBind at h
  obtain ⟨⟨d, s1⟩, e1, h⟩ := bind_some' h
  obtain ⟨rfl, k1⟩ := SGc.h _ _ _ e1
  obtain ⟨l, e2, h⟩ := bind_some' h
  split at h
  case isFalse => cases h
  rename_i hl
  cases h
  exact ⟨rfl, fun s hs => by unfold sBind; rw [k1 s hs, Option.bind_some]; simp only; rw [e2, Option.bind_some, if_pos hl]⟩⟩
instance {i : Nat} {op : Int → Int → Int} [SGc f] : SGs (sAug i [] op f) := ⟨fun env o env' u h => by
  unfold sAug at h
  split at h
  case h_2 => cases h
  rename_i m hm
  obtain ⟨⟨d, s1⟩, e1, h⟩ := bind_some' h
  obtain ⟨rfl, k1⟩ := SGc.h _ _ _ e1
  simp only at h
  split at h
  case h_2 => cases h
  cases h
  exact ⟨rfl, fun s hs => by unfold sAug; rw [hm]; simp only; rw [k1 s hs, Option.bind_some]; simp only [fzT_any, fzT_any (s := [])]⟩⟩
instance {i : Nat} [SGc f] : SGs (sAugM i [] f) := ⟨fun env o env' u h => by
  unfold sAugM at h
  split at h
  case h_2 => cases h
  rename_i m hm
  obtain ⟨⟨d, s1⟩, e1, h⟩ := bind_some' h
  obtain ⟨rfl, k1⟩ := SGc.h _ _ _ e1
  simp only at h
  split at h
  case h_2 => cases h
  split at h
  case isFalse => cases h
  rename_i hs0
  cases h
  exact ⟨rfl, fun s hs => by unfold sAugM; rw [hm]; simp only; rw [k1 s hs, Option.bind_some]; simp only [fzT_any, fzT_any (s := [])]; rw [if_pos hs0]⟩⟩
instance {i k : Nat} [SGc f] : SGs (sApp i [] k f) := ⟨fun env o env' u h => by
  unfold sApp at h
  obtain ⟨⟨d, s1⟩, e1, h⟩ := bind_some' h
  obtain ⟨rfl, k1⟩ := SGc.h _ _ _ e1
  simp only at h
  split at h
  case h_2 => cases h
  rename_i hm
  split at h
  case isFalse => cases h
  rename_i hc
  cases h
  refine ⟨rfl, fun s hs => ?_⟩
  unfold sApp
  rw [k1 s hs, Option.bind_some]
  simp only [fzIf_any]
  rw [hm]
  simp only
  rw [if_pos hc]⟩
instance {i k : Nat} [SGc f] : SGs (sExt i [] k f) := ⟨fun env o env' u h => by
  unfold sExt at h
  obtain ⟨⟨d, s1⟩, e1, h⟩ := bind_some' h
  obtain ⟨rfl, k1⟩ := SGc.h _ _ _ e1
  simp only at h
  split at h
  case h_2 => cases h
  rename_i hm
  split at h
  case isFalse => cases h
  rename_i hc
  cases h
  refine ⟨rfl, fun s hs => ?_⟩
  unfold sExt
  rw [k1 s hs, Option.bind_some]
  simp only [fzIf_any]
  rw [hm]
  simp only
  rw [if_pos hc]⟩
instance {i l k : Nat} : SGs (sAppM i l k) := ⟨fun env o env' u h => by
  unfold sAppM at h ⊢
  split at h
  case h_2 => cases h
  rename_i h1 h2
  split at h
  case isFalse => cases h
  rename_i hc
  cases h
  exact ⟨rfl, fun s hs => by rw [if_pos hc]⟩⟩
instance {i : Nat} [SGc f] [SGc g] : SGs (sStoS i [] f g) := ⟨fun env o env' u h => by
  unfold sStoS at h
  obtain ⟨⟨d, s1⟩, e1, h⟩ := bind_some' h
  obtain ⟨rfl, k1⟩ := SGc.h _ _ _ e1
  obtain ⟨⟨d2, s2⟩, e2, h⟩ := bind_some' h
  obtain ⟨rfl, k2⟩ := SGc.h _ _ _ e2
  simp only at h
  split at h
  case h_2 => cases h
  rename_i h1
  obtain ⟨m, e3, h⟩ := map_some' h
  cases h
  refine ⟨rfl, fun s hs => ?_⟩
  unfold sStoS
  rw [k1 s hs, Option.bind_some, k2 s hs, Option.bind_some]
  simp only [fzIf_any]
  rw [h1]
  simp only
  rw [e3]
  rfl⟩
theorem sg_whileL (ht : SG t) (hb : ∀ env o env' u, gb env [] = some (o, env', u) → u = [] ∧ ∀ s, AnyS s → gb env s = some (o, env', s)) : ∀ (n : Nat) (env : Env) (o : Out) (env' : Env) (u : STO), whileL [] t gb n env [] = some (o, env', u) → u = [] ∧ ∀ s, AnyS s → whileL [] t gb n env s = some (o, env', s)
  | 0, env, o, env', u, h => by cases h
  | n + 1, env, o, env', u, h => by
    unfold whileL at h
    obtain ⟨⟨b, s1⟩, e1, h⟩ := bind_some' h
    obtain ⟨rfl, k1⟩ := ht _ _ _ e1
    rw [fzT_any (s := [])] at h
    cases b with
    | false =>
      simp only [Bool.false_eq_true, if_false] at h
      cases h
      exact ⟨rfl, fun s hs => by unfold whileL; rw [k1 s hs, Option.bind_some]; simp only [Bool.false_eq_true, if_false, fzT_any]⟩
    | true =>
      simp only [if_true] at h
      obtain ⟨⟨o1, en1, s2⟩, e2, h⟩ := bind_some' h
      obtain ⟨rfl, k2⟩ := hb _ _ _ _ e2
      cases o1 with
      | nx =>
        obtain ⟨e3, k3⟩ := sg_whileL ht hb n en1 o env' u h
        exact ⟨e3, fun s hs => by unfold whileL; rw [k1 s hs, Option.bind_some]; simp only [if_true, fzT_any]; rw [k2 s hs]; exact k3 s hs⟩
      | ct =>
        obtain ⟨e3, k3⟩ := sg_whileL ht hb n en1 o env' u h
        exact ⟨e3, fun s hs => by unfold whileL; rw [k1 s hs, Option.bind_some]; simp only [if_true, fzT_any]; rw [k2 s hs]; exact k3 s hs⟩
      | bk => cases h; exact ⟨rfl, fun s hs => by unfold whileL; rw [k1 s hs, Option.bind_some]; simp only [if_true, fzT_any]; rw [k2 s hs]; rfl⟩
      | rt d => cases h; exact ⟨rfl, fun s hs => by unfold whileL; rw [k1 s hs, Option.bind_some]; simp only [if_true, fzT_any]; rw [k2 s hs]; rfl⟩
instance {n : Nat} [SGc t] [SGs gb] : SGs (sWhile n [] t gb) := ⟨fun env o env' u h => sg_whileL SGc.h SGs.h n env o env' u h⟩
instance {N : Nat} [SGs gb] : SGd (fnD N gb) := ⟨fun ds d u h => by
  unfold fnD at h
  obtain ⟨⟨o, env', s1⟩, e1, h⟩ := bind_some' h
  obtain ⟨rfl, k1⟩ := SGs.h _ _ _ _ e1
  cases o with
  | rt x =>
    simp only [fin_selfS] at h
    cases h
    exact ⟨rfl, fun s hs => by unfold fnD; rw [k1 s hs, Option.bind_some]; exact fin_selfS s _⟩
  | nx =>
    simp only [fin_selfS] at h
    cases h
    exact ⟨rfl, fun s hs => by unfold fnD; rw [k1 s hs, Option.bind_some]; exact fin_selfS s _⟩
  | bk => cases h
  | ct => cases h⟩
instance : SGd (fun _ _ => none) := ⟨fun ds d u h => by cases h⟩
end
theorem gives_any {F : FnD} [SGd F] {ds : List D} {d : D} (h : gives F ds d = true) {s : STO} : F ds s = some (d, s) := (SGd.h _ _ _ (gives_nil h)).2 s trivial
end J
/-! ### an own class of errors called with keywords too -/
namespace PySem
namespace HandSPX
open PySem.W PySem.Calls PyProof.Rows
section
variable {M : Model} {A : Around} {E : Value → Shared → Prop} {h : Heap} {g : Array GenState} {d : Drawn} {t : Nat} {os : OsState}
variable {nm q : Str} {C N : Addr} {bs bm bmB : List Value} {hdct : Bool} {sn : List Str} {sub : List Value} {ab : Bool} {col : Option Bool} {dd : Option Addr} {k0 k1 k2 k3 k5 : Option Value} {B newId initId : String}
end
section
variable {prog : Program} {w : World} {A : Around} {E : Value → Shared → Prop} {R : Result → Shared → Prop} {h : Heap} {g : Array GenState} {d : Drawn} {t : Nat} {os : OsState}
variable {nm q : Str} {C N : Addr} {bs bm bmB : List Value} {hdct : Bool} {sn : List Str} {sub : List Value} {ab : Bool} {col : Option Bool} {dd : Option Addr} {k0 k1 k2 k3 k5 : Option Value} {B newId initId : String}
end
end HandSPX
end PySem
namespace J
open PySem PySem.Spec PyProof.Rows L2
/-! ### exceptions as data: what the datum says -/
/-! ### isinstance -/
def subX (c T : Str) : Bool := c == T || T == "PartError" || T == "ValueError"
/-- what stands of the classes cs -/
structure XTab (K : PySem.W.Frag) (cs : List Str) : Prop where
  exc : ∀ c ∈ cs, ∃ C, PySem.W.nsIn K mainGlobals c = some (some (.ref C)) ∧ ExcC K C ∧ PySem.W.kitOne K (.ref C) (.type "ValueError") = some true ∧ XfC K C
  sub : ∀ c ∈ cs, ∀ T ∈ cs, ∀ C T', PySem.W.nsIn K mainGlobals c = some (some (.ref C)) → PySem.W.nsIn K mainGlobals T = some (some (.ref T')) → PySem.W.kitOne K (.ref C) (.ref T') = some (subX c T)
section
variable {X : Cx} {a e : Expr} {f : Ev} {k : Nat} {pos p p0 q1 : Pos} {cs : List Str} {T : Str}
/-! ### e.f -/
/-! ### C(e), C without own __init__ -/
structure EclX (X : Cx) (x : Str) : Prop where
  ex : ∃ (C : Addr) (bmB : List Value) (B newId initId : String), ExcBaseFacts B newId initId bmB ∧ PySem.W.excIn X.K C bmB newId = true ∧ X.mg x = some (.ref C) ∧ PySem.W.keepIn X.K (.ref C) = true ∧ PySem.W.nsIn X.K mainGlobals x = some (some (.ref C))
end
end J
namespace J
open PySem PySem.Spec PyProof.Rows L2
/-! ### own classes of errors with an own __init__ -/
section
variable {X : Cx} {o e : Expr} {es : List Expr} {to te : TE} {ta : TA} {f : Str} {p p' p1 p2 pos : Pos}
end
section
variable {P : Program} {w : World} {K : PySem.W.Frag} {mg : Str → Option Value} {base : Heap} {x px qual s n1 n2 m : Str} {st : Stmt} {C PC fI : Addr} {fd : FuncData} {q1 : Nat} {p1 p2 p3 p4 p5 p6 p7 p8 p9 p10 p11 p12 p13 p14 : Pos}
end
/-! ### such an error made as a value -/
section
variable {X : Cx} {e : Expr} {es : List Expr} {fs : EvA} {kws : List Keyword} {j l : Nat} {pos p : Pos}
end
end J
namespace J
open PySem PySem.Spec PyProof.Rows L2
/-! ### what stands of the classes, as one test -/
theorem XTab.less {K : PySem.W.Frag} {cs ds : List Str} (h : XTab K cs) (hl : ∀ c ∈ ds, c ∈ cs) : XTab K ds := ⟨fun c hc => h.exc c (hl c hc), fun c hc T hT => h.sub c (hl c hc) T (hl T hT)⟩
end J
namespace J
open PySem PySem.Spec PyProof.Rows L2
/-! ### a text times a number -/
section
variable {X : Cx}
end
end J
namespace J
open PySem PySem.Spec PyProof.Rows L2
/-! ### errors with fields raised and caught -/
/-! ### except C as n: with the fields in hand -/
end J
namespace J
open PySem PySem.Spec PyProof.Rows L2
/-! ### name.insert(i, e) on an own list -/
theorem RpA.ins {K : PySem.W.Frag} {S : List Addr} {H : Hp} {vs : List V} {ds : List D} {v : V} {d : D} (n : Nat) (h : RpA K S H vs ds) (r : Rp K S H v d) : RpA K S H (vs.take n ++ [v] ++ vs.drop n) (ds.take n ++ [d] ++ ds.drop n) := by
  have ht : ∀ (n : Nat) {vs : List V} {ds : List D}, RpA K S H vs ds → RpA K S H (vs.take n) (ds.take n) ∧ RpA K S H (vs.drop n) (ds.drop n) := by
    intro n
    induction n with
    | zero => intro vs ds h; simp only [List.take_zero, List.drop_zero]; exact ⟨.nil, h⟩
    | succ n ih =>
      intro vs ds h
      cases h with
      | nil => simp only [List.take_nil, List.drop_nil]; exact ⟨.nil, .nil⟩
      | cons a b => simp only [List.take_succ_cons, List.drop_succ_cons]; exact ⟨.cons a (ih b).1, (ih b).2⟩
  exact ((ht n h).1.append (.cons r .nil)).append (ht n h).2
section
variable {Z : List Addr → Prop} {X : Cx} {e a b : Expr} {fs : EvA} {k i : Nat} {pos p apos cpos : Pos} {x : Str} {M : List Nat}
end
end J
namespace J
open PySem PySem.Spec PyProof.Rows L2
/-! ### what the printer asks -/
end J
namespace J
open PySem PySem.Spec PyProof.Rows L2
/-! ### name.insert(i, e) where only i reads the own list -/
section
variable {Z : List Addr → Prop} {X : Cx} {e a b : Expr} {f g : Ev} {k i : Nat} {pos p apos cpos : Pos} {x : Str} {M : List Nat}
end
end J
namespace J
open PySem PySem.Spec PyProof.Rows L2 HotX L2H
/-! ### the ends of walks while an exception is handled -/
section
variable {prog : Program} {w : World} {A : Around} {E : Value → Shared → Prop} {s : Shared}
end
section
variable {X : Cx}
end
end J
namespace J
open PySem PySem.Spec PyProof.Rows L2 HotX
open L2H (HotC TurnH PIH PIEH)
/-! ### list comprehensions while an exception is handled -/
section
variable {X : Cx} {pins : List (Addr × Obj)} {σ : L2.St} {H H0 : Hp} {s s0 : Shared} {scope : Scope} {cenv : PySem.Env} {fp : List Addr}
end
section
variable {X : Cx}
end
end J
namespace J
open PySem PySem.Spec PyProof.Rows L2 HotX
open L2H (HotC TurnH PIH PIEH)
/-! ### comprehensions of defs that are called while an exception is handled -/
end J
namespace J
open PySem PySem.Spec PyProof.Rows L2 HotX
open L2H (Hot1)
/-! ### isinstance(e, (A, B, ..)) of the exception in hand -/
end J
namespace J
open PySem PySem.Spec PyProof.Rows L2
/-! ### repr of lists that may hold dicts of data -/
mutual
def pl2 : D → Bool
  | .list ds => pl2A ds
  | .tuple ds => pl2A ds
  | .dict es => pl2K es
  | _ => true
def pl2A : List D → Bool
  | [] => true
  | d :: r => pl2 d && pl2A r
def pl2K : List (D × D) → Bool
  | [] => true
  | p :: r => isKy p.1 && pl2 p.2 && pl2K r
end
section
variable {X : Cx} {pins : List (Addr × Obj)} {σ : Sg} {H : Hp} {s : Shared}
theorem rpD_dict {a : Addr} {o : Obj} {ents : Array DictEntry} {n : Nat} {es : List (D × D)} (h1 : s.heap.get? a = some o) (h2 : o.cls = .type "dict") (h3 : o.data = .dict ents n) (hsys : (a == sysModules) = false)
    (h4 : ReadsAll s.heap (ents.toList.map (·.key)) (es.map (·.1)) []) (h5 : RpDs X s (ents.toList.map (·.val)) (es.map (·.2))) : RpD X s (.ref a) (.dict es) := fun hs hz => by
  have hz' : (dictText (PyData.shownKv es)).length ≤ sizeLine := by simpa only [PyData.shown] using hz
  obtain ⟨hs1, hs2⟩ := PyData.showableKv_split es (by simpa [PyData.showable] using hs)
  obtain ⟨b1, hb1, k1⟩ := ReprAllK.of_readsAll (prog := X.prog) (w := X.w) h4 hs1 (fun _ hm => nomatch hm) (fun t ht => let ⟨p, hp, hl⟩ := PyData.shownKv_key_le es t ht; Nat.le_trans hl (Nat.le_trans (dictText_mem_le hp) hz'))
  obtain ⟨a2, b2, r2, hb2, k2⟩ := h5 hs2 (fun t ht => let ⟨p, hp, hl⟩ := PyData.shownKv_val_le es t ht; Nat.le_trans hl (Nat.le_trans (dictText_mem_le hp) hz'))
  have r : Reads s.heap (.ref a) (.dict es) _ := .dict h1 h2 h3 h4 r2
  have hb : ReadAtMost s.heap (PyData.depthKv es) (b1 ++ b2) := (hb1.mono (PyData.depthAll_keys_le es)).append (hb2.mono (PyData.depthAll_vals_le es))
  have hna : a ∉ b1 ++ b2 := not_mem_of_deeper r (by simp only [PyData.depth]; omega) hb
  refine ⟨_, a :: (b1 ++ b2), r, ReadAtMost.cons r (by simp only [PyData.depth]; omega) hb, ?_⟩
  simp only [PyData.depth, PyData.shown, PyData.shownKv_eq]
  exact ReprK.dict h1 h2 h3 hsys hna (ReprEntriesK.of_two ents.toList _ _
    (k1.more_le (fun b hb => List.mem_append_left _ hb) (PyData.depthAll_keys_le es)) (k2.more_le (fun b hb => List.mem_append_right _ hb) (PyData.depthAll_vals_le es)))
abbrev EntsOk (X : Cx) (s : Shared) (kvs : List (Key × V)) (es : List (D × D)) : Prop := pl2K es = true → ∀ {vs : List (Key × Value)} {ents : List DictEntry}, KV kvs vs → PySem.Pairs (L2.mixKind X.prog X.w) ents vs →
    ReadsAll s.heap (ents.map (·.key)) (es.map (·.1)) [] ∧ RpDs X s (ents.map (·.val)) (es.map (·.2))
theorem ents_nil : EntsOk X s [] [] := fun _ vs ents kv pr => by
  cases kv
  cases pr
  exact ⟨.nil, fun _ _ => ⟨[], [], .nil, (fun _ h => nomatch h), by simp only [PyData.shownAll, List.map_nil]; exact .nil⟩⟩
theorem ents_cons {k : Key} {v : V} {d : D} {kvs : List (Key × V)} {es : List (D × D)} (a : pl2 d = true → ∀ u, L2.RelV v u → RpD X s u d) (b : EntsOk X s kvs es) : EntsOk X s ((k, v) :: kvs) ((kD k, d) :: es) := fun h vs ents kv pr => by
  cases kv with
  | cons ra rb =>
    cases pr with
    | cons p1 p2 p3 =>
      rename_i en _
      rw [pl2K, Bool.and_eq_true, Bool.and_eq_true] at h
      obtain ⟨h1, h2⟩ := b h.2 rb p3
      have hv := a h.1.2 _ ra.2
      rw [← p2] at hv
      have hk : Reads s.heap en.key (kD k) [] := by
        have q := ra.1
        simp only at q
        rcases keyIs_shape p1 with ⟨i, t, e1, e2⟩ | ⟨x, t, e1, e2⟩
        · rw [e2, q, e1]; exact .int i t
        · rw [e2, q, e1]; exact .str x t
      exact ⟨ReadsAll.cons hk h1, rpDs_cons hv h2⟩
theorem Rp.shows2 (I : L2.Inv X pins σ H s) {S : List Addr} {v : V} {d : D} (h : Rp X.K S H v d) : pl2 d = true → ∀ u, L2.RelV v u → RpD X s u d :=
  Rp.rec (motive_1 := fun v d _ => pl2 d = true → ∀ u, L2.RelV v u → RpD X s u d) (motive_2 := fun vs ds _ => pl2A ds = true → ∀ us, Vals vs us → RpDs X s us ds) (motive_3 := fun kvs es _ => EntsOk X s kvs es) (motive_4 := fun _ _ _ => True)
    (fun _ u r => rpD_plain (scal_read (K := X.K) (S := S) (H := H) rfl .non r) List.not_mem_nil)
    (fun b _ u r => rpD_plain (scal_read (K := X.K) (S := S) (H := H) rfl (.bl b) r) List.not_mem_nil)
    (fun i _ u r => rpD_plain (scal_read (K := X.K) (S := S) (H := H) rfl (.int i) r) List.not_mem_nil)
    (fun x _ u r => rpD_plain (scal_read (K := X.K) (S := S) (H := H) rfl (.str x) r) List.not_mem_nil)
    (fun {a xs ds} hr _ ih e u r => by
      cases r
      obtain ⟨_, its, n, rv, g⟩ := Rd.ok hr I.hok
      exact rpD_list g (ih (by rw [pl2] at e; exact e) its rv))
    (fun {a xs ds} hr _ ih e u r => by
      cases r
      obtain ⟨_, its, rv, g⟩ := I.hok _ _ hr
      exact rpD_tuple g (ih (by rw [pl2] at e; exact e) its rv))
    (fun {a o kvs es} hr hk ih e u r => by
      cases r
      obtain ⟨_, _, hsy, vs, kv, ob, ents, ep, g, ⟨hc, _⟩, hd, _, pr, _⟩ := I.hok _ _ hr
      rw [pl2] at e
      obtain ⟨h1, h2⟩ := ih e kv pr
      exact rpD_dict g hc hd hsy h1 h2)
    (fun {a o p kvs es} hr hk _ e u r => by
      cases hk with
      | cons _ _ => rw [pl2, pl2K] at e; exact absurd e (by simp [isKy]))
    (fun {a i} _ e => by unfold tokD at e; rw [pl2, pl2K] at e; exact absurd e (by simp [isKy]))
    (fun {a xs ds} _ _ _ e => by unfold skD at e; rw [pl2, pl2K] at e; exact absurd e (by simp [isKy]))
    (fun {a o kvs es} _ _ _ e => by rw [pl2, pl2K] at e; exact absurd e (by simp [isKy]))
    (fun {a o kvs es} _ _ _ e => by rw [pl2, pl2K] at e; exact absurd e (by simp [isKy]))
    (fun {a} e => by unfold exD at e; rw [pl2, pl2K] at e; exact absurd e (by simp [isKy]))
    (fun {a C dx fs} _ _ e => by unfold obD at e; rw [pl2, pl2K] at e; exact absurd e (by simp [isKy])) (fun {a c fs} _ e => by unfold exiD at e; rw [pl2, pl2K] at e; exact absurd e (by simp [isKy]))
    (fun _ us r => by cases r; exact fun _ _ => ⟨[], [], .nil, (fun _ h => nomatch h), by simp only [PyData.shownAll]; exact .nil⟩)
    (fun {v vs d ds} _ _ ih1 ih2 e us r => by
      rw [pl2A, Bool.and_eq_true] at e
      cases r with
      | cons ra rb => exact rpDs_cons (ih1 e.1 _ ra) (ih2 e.2 _ rb))
    (@ents_nil X s) (fun a b ih1 ih2 => ents_cons ih1 ih2) trivial (fun _ _ _ _ => trivial) h
end
theorem RpA.shows2 {X : Cx} {pins : List (Addr × Obj)} {σ : Sg} {H : Hp} {s : Shared} (I : L2.Inv X pins σ H s) {S : List Addr} : ∀ {vs : List V} {ds : List D} {us : List Value}, RpA X.K S H vs ds → Vals vs us → pl2A ds = true → RpDs X s us ds
  | _, _, _, .nil, .nil, _ => fun _ _ => ⟨[], [], .nil, (fun _ h => nomatch h), by simp only [PyData.shownAll]; exact .nil⟩
  | _, _, _, .cons a b, .cons ra rb, e => by
    rw [pl2A, Bool.and_eq_true] at e
    exact rpDs_cons (Rp.shows2 I a e.1 _ ra) (RpA.shows2 I b rb e.2)
section
variable {X : Cx} {e : Expr} {f : Ev} {k : Nat} {pos p : Pos}
end
end J
namespace J
open PySem PySem.Spec PyProof.Rows L2 HotX
open L2H (HotC TurnH PIH PIEH)
/-! ### name = [..] while an exception is handled -/
section
variable {X : Cx}
end
end J
namespace PySem.SeqAt
open AutoSeq1 (wpAny_loadPart')
open MeetsSeq MeetsSeq2 MeetsSeq3
section
variable {A : Around} {s : Shared}
end
end PySem.SeqAt
namespace J
open PySem PySem.Spec PyProof.Rows L2
section
variable {Z : List Addr → Prop} {X : Cx} {a b c : Expr} {k i j l : Nat} {pos p dpos : Pos} {x y u : Str} {M : List Nat}
/-! ### x != y, where x may be a dict of data and y a list -/
/-! ### {k: v}, told as data -/
end
end J
namespace J
open PySem PySem.Spec PyProof.Rows L2
/-! ### xs[i][j] op= e, xs an own list of own lists of ints -/
section
variable {Z : List Addr → Prop} {X : Cx} {e io jo : Expr} {f1 f2 fv : Ev} {k i : Nat} {pos p p2 tpos spos : Pos} {M : List Nat} {x : Str}
end
end J
namespace J
open PySem PySem.Spec PyProof.Rows L2 L2H HotX
/-! ### a function under a name: for x in (f, g, ..): .. x(e, ..) .. -/
/-- the functions that the name may stand for -/
inductive FnsN (X : Cx) : List Expr → List (Addr × FnD) → Prop
  | nil : FnsN X [] []
  | cons {x : Str} {p : Pos} {fa : Addr} {F : FnD} {es : List Expr} {Fs : List (Addr × FnD)} (hm : X.mg x = some (.ref fa)) (hg : Gl X x) (hd : (x == ("__debug__" : Str)) = false)
      (hs : starEach (.Name x p :: es) X.env = (false, eval (.Name x p) X.env) :: starEach es X.env) (r : FnsN X es Fs) : FnsN X (.Name x p :: es) ((fa, F) :: Fs)
theorem FnsN.ja {X : Cx} : ∀ {es : List Expr} {Fs : List (Addr × FnD)}, FnsN X es Fs → JA X es (fun _ s => some (Fs.map fun q => exD q.1, s)) 0
  | _, _, .nil => ja_nil
  | _, _, .cons (x := x) (p := p) (fa := fa) hm hg hd hs r => fun A S σ H vw sto d sto' Q w rd q z => by
    cases q
    have h1 : JP X (.Name x p) (fun _ s => some (exD fa, s)) 0 := fun A S σ H vw sto d sto' Q w rd q z => by
      cases q
      exact wpE.by (pe_glob (v := .ref fa) hg hm rfl hd) (z _ H [] ⟨Ext.refl, by rw [plus_nil]; exact w, .nil, noF, .sh (by rw [plus_nil]; exact .ex)⟩)
    exact ja_cons h1 r.ja hs A S σ H vw sto _ _ Q w rd rfl z
/-- a def whose address is known -/
def CalA (P : Program) (w : World) (K : PySem.W.Frag) (mg : Str → Option Value) (base : Heap) (x : Str) (st : Stmt) (ps : List Str) (j : Nat) (F : FnD) (k : Nat) (fa : Addr) : Prop :=
  ∃ fd, Fun K x x st fa fd ∧ mg x = some (.ref fa) ∧ FnG P w K mg base j fa fd ps (spD K ps.length F k)
theorem Cal.at {P : Program} {w : World} {K : PySem.W.Frag} {mg : Str → Option Value} {base : Heap} {x : Str} {st : Stmt} {ps : List Str} {j : Nat} {F : FnD} {k : Nat} {fa : Addr} (C : Cal P w K mg base x st ps j F k) (h : mg x = some (.ref fa)) : CalA P w K mg base x st ps j F k fa := by
  obtain ⟨fb, fd, h1, h2, h3⟩ := C
  rw [h] at h2
  cases h2
  exact ⟨fd, h1, h, h3⟩
end J
namespace J
open PySem PySem.Spec PyProof.Rows L2
section
variable {Z : List Addr → Prop} {X : Cx} {tg a b : Expr} {f g : Ev} {k i j : Nat} {pos : Pos}
/-! ### x, y = a, b by way of a tuple (a name that a comprehension within reads) -/
end
end J
namespace PySem
open Sem (wp)
open SeqAt
section
variable {prog : Program} {w : World} {K : Type} [DecidableEq K] {knd : HeapKind prog w K} {A : Around} {E : Value → Shared → Prop} {s : Shared}
end
end PySem
namespace J
open PySem PySem.Spec PyProof.Rows L2
/-! ### x = dict(d), the keys of d are tuples of ints -/
section
variable {X : Cx}
end
section
variable {Z : List Addr → Prop} {X : Cx} {e : Expr} {f : Ev} {k i : Nat} {pos p p2 cpos : Pos} {x : Str}
end
end J
namespace J
open PySem PySem.Spec PyProof.Rows L2
section
variable {Z : List Addr → Prop} {X : Cx} {tg e : Expr} {f : Ev} {k : Nat} {pos : Pos} {M : List Nat} {gt : TG} {bd : Bd}
/-! ### x, y = xs[i], xs an own list that stays own: the values are scalars -/
end
section
variable {X : Cx} {tg a b c : Expr} {fa : EvA} {p pos : Pos}
/-! ### range of three over what stays own -/
end
end J
namespace J
open PySem PySem.Spec PyProof.Rows L2
/-! ### len(set(a list of ints)) -/
section
variable {X : Cx} {e : Expr} {f : Ev} {k : Nat}
end
end J
namespace J
open PySem PySem.Spec PyProof.Rows L2
/-! `xs[i] = f(xs[j], ..)` where the value is a tuple of scalars: nothing of the own list is in it -/
section
variable {Z : List Addr → Prop} {X : Cx} {e io : Expr} {f fv : Ev} {k i : Nat} {pos p p2 tpos : Pos} {M : List Nat} {x : Str}
end
end J
namespace J
open PySem PySem.Spec PyProof.Rows L2 PySem.W
/-! ### a list of three into names -/
end J
namespace J
open PySem PySem.Spec PyProof.Rows L2
section
variable {Z : List Addr → Prop} {X : Cx} {rest : List Stmt} {e a b c : Expr} {f g : Ev} {h : Sv} {j k i l m : Nat} {n : Int} {pos p p2 p3 p4 p5 apos cpos spos : Pos} {x y w : Str}
/-- y = sorted(w.pop()), both own lists -/
def sSrtPop (m l : Nat) : Sv := fun env s => match env[m]? with
  | some (.ow 2 (.list gs)) => match gs[gs.length - 1]? with
    | some (.list es) => if l ≠ m ∧ l < env.length ∧ sortOk es = true ∧ es.length ≤ 16777216 ∧ es.all isScal = true then some (.nx, (env.set m (.ow 2 (.list gs.dropLast))).set l (.ow 1 (.list (srt es))), s) else none
    | _ => none
  | _ => none
theorem js_srtPop (hN : X.N.Nodup) (hm : X.N[m]? = some w) (hw : Vis X.env.scope w) (hl : X.N[l]? = some y) (hy : Loc X.env.scope y) (hu : X.A.units + 66 < cLine) (hg : Gl X "sorted") (hmg : X.mg "sorted" = none) (hv : bootBuiltins "sorted" = some (.builtin "sorted") := by rfl)
    (hdb : (w == Str.ofString "__debug__") = false := by decide) (hcd : (w == Str.ofString "__classdict__") = false := by decide)
    (hbase : attributeBase (.Name w p) "pop" X.env (eval (.Name w p) X.env) = eval (.Name w p) X.env := by rfl) (hline : (apos.endLine == cpos.line) = true := by rfl)
    (he : starEach [.Call (.Attribute (.Name w p) "pop" apos) [] [] cpos] X.env = (false, eval (.Call (.Attribute (.Name w p) "pop" apos) [] [] cpos) X.env) :: starEach [] X.env := by rfl) (hpl : (backTo p2 (starEach [] X.env)).any (·.1) = false := by rfl)
    (hs : swapsWith (.Call (.Name "sorted" p3) [.Call (.Attribute (.Name w p) "pop" apos) [] [] cpos] [] p2) (some (.Name y p4)) pos.line X.env = pure false := by rfl) (hf : X.fn y = true ∨ X.env.scope.names.lookup y = some .local := by first | exact .inl rfl | exact .inr rfl | assumption) :
    JS Z X (.Assign [.Name y p4] (.Call (.Name "sorted" p3) [.Call (.Attribute (.Name w p) "pop" apos) [] [] cpos] [] p2) pos) (sSrtPop m l) k := fun C S0 S A0 H0 σ H env sto Fs o env' sto' E hZ r q z => by
  unfold sSrtPop at q
  split at q
  case h_2 => cases q
  rename_i gs hsl
  split at q
  case h_2 => cases q
  rename_i es hes
  split at q
  case isFalse => cases q
  rename_i hk
  obtain ⟨hlm, hll, hok, hln, hsc⟩ := hk
  cases q
  have hml : m < env.length := (List.getElem?_eq_some_iff.mp hsl).1
  obtain ⟨u, e2, ow⟩ := r.sl m _ hsl
  obtain ⟨c0, us, F0, rfl, eF, e3, ow0⟩ := ow.lstI
  obtain ⟨vm, F1, Fj, F2, g1, g2, g3, g4, g5⟩ := ow0.split hes
  obtain ⟨c1, ws, Fb, rfl, rfl, e5, ow2⟩ := g4.lstI
  have hul := ow0.length
  have hc0 : c0 ∈ Fs m := by rw [eF]; exact List.mem_cons_self
  have hc1 : c1 ∈ Fs m := by rw [eF, g2]; exact List.mem_cons_of_mem _ (List.mem_append_right _ (List.mem_append_left _ List.mem_cons_self))
  have nd0 := r.nd m
  rw [eF] at nd0
  have h01 : c1 ≠ c0 := fun c => (List.nodup_cons.mp nd0).1 (by rw [← c, g2]; exact List.mem_append_right _ (List.mem_append_left _ List.mem_cons_self))
  have hA : hd S Fs A0 c0 := .inl ⟨m, hc0⟩
  have sc : ∀ d ∈ es, isScal d = true := fun d hd => List.all_eq_true.mp hsc d hd
  obtain ⟨ps, s1, s2, s3, o2⟩ := ow2.sorted hok
  have hpl2 : ps.length = es.length := by rw [← s2, List.length_map]
  refine wpS.by (ps_set hN hl hy (pe_callB (cr_sortedD hu) hg hmg hv (pa_cons (pe_bm0 PySem.F.plainAttrs_list PySem.F.slot_list_pop rfl mt_pop (pe_var hm hw hdb hcd) hbase hline) pa_nil he) (by decide) (by decide) he hpl) hs hf) ?_
  refine ⟨_, e2, .inl ⟨rfl, us, .of e3⟩, c0, us, .ref c1, rfl, rfl, e3, by rw [hul]; exact g1, ?_⟩
  have hws : (upd H c0 (.lst us.dropLast)) c1 = some (.lst ws) := by rw [upd_ne h01]; exact e5
  have scv : RpA X.K S (hid (fun _ => False) (upd H c0 (.lst us.dropLast))) (ps.map (·.1)) (ps.map fun p => p.2.1) := by
    rw [s1, s2]
    exact OwA.scal ow2 sc
  refine ⟨c1, ps, rfl, by rw [s1]; exact .inl hws, OwA.dps (F := []) (A := fun _ => False) (S := S) (k := 0) (.zero scv) (by rw [s2]; exact hok) fun _ _ => trivial, by rw [s2]; exact hok, by rw [hpl2]; exact hln, fun b hb => ?_⟩
  -- the list without its last
  have hsub : ∀ c, c ∈ c0 :: F1 → c ∈ Fs m := fun c hc => by
    rw [eF, g2]
    rcases List.mem_cons.mp hc with rfl | hc
    · exact List.mem_cons_self
    · exact List.mem_cons_of_mem _ (List.mem_append_left _ hc)
  have nd1 : (F1 ++ (c1 :: Fb ++ F2)).Nodup := by rw [← g2]; exact (List.nodup_cons.mp nd0).2
  have n01 : c0 ∉ F1 := fun c => (List.nodup_cons.mp nd0).1 (by rw [g2]; exact List.mem_append_left _ c)
  have r1 := r.mut (i := m) (F := c0 :: F1) (ov := some (.ref c0)) (s := .ow 2 (.list gs.dropLast)) (H' := upd H c0 (.lst us.dropLast)) (sto' := sto) hml ?_ ?_ ?_ ?_ ?_
  · rw [set_same e2] at r1
    -- the new list
    have hb' : (upd H c0 (.lst us.dropLast)) b = none := hb
    have scs : ∀ d ∈ srt es, isScal d = true := fun d hd => by
      rw [← s2, ← pc_srt] at hd
      obtain ⟨q, hq, rfl⟩ := List.mem_map.mp hd
      exact sc _ (by rw [← s2]; exact List.mem_map.mpr ⟨q, (List.mergeSort_perm ps pcLe).mem_iff.mp hq, rfl⟩)
    have o3 : RpA X.K S (hid (hd S (setF Fs m (c0 :: F1)) A0) (upd H c0 (.lst us.dropLast))) ((ps.mergeSort pcLe).map (·.1)) (srt es) := OwA.scal o2 scs
    have rs := Res.lst r1.wd (ResA.shared r1.wd o3) hb'
    have r2 := r1.put (i := l) (by rw [List.length_set]; exact hll) rs
    exact z S _ _ _ r2
  · intro c o hcS hn hc
    rw [upd_ne (fun q : c = c0 => hn (q ▸ hc0))]
    exact hc
  · have w1 := r.wd.upd (o := .lst us.dropLast) hA (r.ns m c0 hc0) ⟨_, e3⟩
    refine w1.less (fun c h => ?_) (fun a e => Or.inr (Or.inr (Or.inr e)))
    rcases h with h | h
    · exact .inl ⟨m, hsub c h⟩
    · exact h
  · exact List.nodup_cons.mpr ⟨n01, (List.nodup_append.mp nd1).1⟩
  · exact fun c hc => .inr (hsub c hc)
  · refine ⟨.ref c0, rfl, .lst upd_same ?_⟩
    have sub : ∀ c, hd S (setF Fs m (c0 :: F1)) A0 c → hd S Fs A0 c := fun c h => by
      rcases hd_set r c h with h | h
      · exact .inl ⟨m, hsub c h⟩
      · exact h
    have hu2 : hid (hd S Fs A0) (upd H c0 (.lst us.dropLast)) = hid (hd S Fs A0) H := hid_upd hA
    have s4 : Same (hid (hd S Fs A0) H) (hid (hd S (setF Fs m (c0 :: F1)) A0) (upd H c0 (.lst us.dropLast))) := fun c o q => by rw [← hu2] at q; exact hid_le sub c o q
    have e6 : us.dropLast = us.take (gs.length - 1) := by rw [List.dropLast_eq_take, hul]
    have e7 : gs.dropLast = gs.take (gs.length - 1) := List.dropLast_eq_take
    have := g3.mv s4 fun c hc o q => by
      rw [upd_ne (fun e : c = c0 => n01 (e ▸ hc))]
      exact q
    rw [← e6, ← e7] at this
    exact this
end
end J
namespace J
open PySem PySem.Spec PyProof.Rows L2
section
variable {Z : List Addr → Prop} {X : Cx} {rest : List Stmt} {e a b c : Expr} {f g : Ev} {h : Sv} {j k i l m : Nat} {n : Int} {pos pos2 p p2 p3 p4 p5 apos cpos apos2 cpos2 spos : Pos} {x y w : Str}
/-- x.append(y); w[n].extend(y), all own -/
def sAppExt (i l m : Nat) (n : Int) : Sv := fun env s => match env[i]?, env[l]?, env[m]? with
  | some (.ow 2 (.list ds)), some (.ow 1 (.list es)), some (.ow 2 (.list gs)) => if i ≠ l ∧ i ≠ m ∧ l ≠ m ∧ ds.length < 16777216 ∧ es.all isScal = true then (ixN gs.length n).bind fun j => match gs[j]? with
    | some (.list qs) => if qs.length + es.length ≤ 16777216 then some (.nx, ((env.set i (.ow 2 (.list (ds ++ [.list es])))).set l .no).set m (.ow 2 (.list (gs.set j (.list (qs ++ es))))), s) else none
    | _ => none
    else none
  | _, _, _ => none
theorem jss_appExt {t : Sv} {px py : Pos} (hix : JP X b f 0) (hfc : ∀ vw s, f vw s = some (.int n, s)) (hr : JSs Z X rest t k) (hi : X.N[i]? = some x) (hx : Vis X.env.scope x) (hly : X.N[l]? = some y) (hy : Vis X.env.scope y) (hm : X.N[m]? = some w) (hw : Vis X.env.scope w) (hsx : PlainIx b)
    (hdb : (x == Str.ofString "__debug__") = false := by decide) (hcd : (x == Str.ofString "__classdict__") = false := by decide) (hdb2 : (y == Str.ofString "__debug__") = false := by decide) (hcd2 : (y == Str.ofString "__classdict__") = false := by decide) (hdb3 : (w == Str.ofString "__debug__") = false := by decide) (hcd3 : (w == Str.ofString "__classdict__") = false := by decide)
    (hbase : attributeBase (.Name x p) "append" X.env (eval (.Name x p) X.env) = eval (.Name x p) X.env := by rfl)
    (hfew : ((backTo cpos (starEach [.Name y px] X.env)).all (fun x => !x.1) && (backToKw cpos (keywordEach [] X.env)).all (fun x => x.1.isSome) && decide ([Expr.Name y px].length + ([] : List Keyword).length + (if ([] : List Keyword).isEmpty then 0 else 1) < 30)) = true := by rfl)
    (hline : (apos.endLine == cpos.line) = true := by rfl) (hs : starEach [.Name y px] X.env = (false, eval (.Name y px) X.env) :: starEach [] X.env := by rfl) (hsw : swapsWith (.Call (.Attribute (.Name x p) "append" apos) [.Name y px] [] cpos) none pos.line X.env = pure false := by rfl)
    (hbase2 : attributeBase (.Subscript (.Name w p2) b spos) "extend" X.env (eval (.Subscript (.Name w p2) b spos) X.env) = eval (.Subscript (.Name w p2) b spos) X.env := by rfl)
    (hfew2 : ((backTo cpos2 (starEach [.Name y py] X.env)).all (fun x => !x.1) && (backToKw cpos2 (keywordEach [] X.env)).all (fun x => x.1.isSome) && decide ([Expr.Name y py].length + ([] : List Keyword).length + (if ([] : List Keyword).isEmpty then 0 else 1) < 30)) = true := by rfl)
    (hline2 : (apos2.endLine == cpos2.line) = true := by rfl) (hs2 : starEach [.Name y py] X.env = (false, eval (.Name y py) X.env) :: starEach [] X.env := by rfl) (hsw2 : swapsWith (.Call (.Attribute (.Subscript (.Name w p2) b spos) "extend" apos2) [.Name y py] [] cpos2) none pos2.line X.env = pure false := by rfl) :
    JSs Z X (.Expr (.Call (.Attribute (.Name x p) "append" apos) [.Name y px] [] cpos) pos :: .Expr (.Call (.Attribute (.Subscript (.Name w p2) b spos) "extend" apos2) [.Name y py] [] cpos2) pos2 :: rest) (sSeq (sAppExt i l m n) t) k := fun C S0 S A0 H0 σ H env sto Fs o env' sto' E hZ r q z => by
  unfold sSeq at q
  obtain ⟨⟨o1, env1, sto1⟩, q1, q⟩ := bind_some' q
  unfold sAppExt at q1
  split at q1
  case h_2 => cases q1
  rename_i ds es gs hsl hsy hsm
  split at q1
  case isFalse => cases q1
  rename_i hk
  obtain ⟨hil, him, hlm, hlen, hsc⟩ := hk
  obtain ⟨jx, hjx, q1⟩ := bind_some' q1
  split at q1
  case h_2 => cases q1
  rename_i qs hqs
  split at q1
  case isFalse => cases q1
  rename_i hlen2
  cases q1
  simp only at q
  have hlt : i < env.length := (List.getElem?_eq_some_iff.mp hsl).1
  have hll : l < env.length := (List.getElem?_eq_some_iff.mp hsy).1
  have hmm : m < env.length := (List.getElem?_eq_some_iff.mp hsm).1
  have sc : ∀ d ∈ es, isScal d = true := fun d hd => List.all_eq_true.mp hsc d hd
  obtain ⟨u, e2, ow⟩ := r.sl i _ hsl
  obtain ⟨a0, vs, F0, rfl, eF, e3, ow0⟩ := ow.lstI
  obtain ⟨v, e4, owy⟩ := r.sl l _ hsy
  have owy' := owy
  obtain ⟨b0, ws, Fy, rfl, eFy, e5, owb⟩ := owy'.lstI
  have hb0 : b0 ∈ Fs l := by rw [eFy]; exact List.mem_cons_self
  have hwl := owb.length
  refine wpSs.by (pss_cons (ps_expr (pe_bm PySem.F.plainAttrs_list PySem.F.slot_list_append rfl mt_append (pe_var hi hx hdb hcd) (pa_cons (pe_var hly hy hdb2 hcd2) pa_nil hs) hbase hfew hline hs rfl) hsw) (pss_cons (ps_expr (pe_bm PySem.F.plainAttrs_list PySem.F.slot_list_extend rfl mt_extend (pe_ix ix_list (pe_var hm hw hdb3 hcd3) wpE_pe hsx) (pa_cons (pe_var hly hy hdb2 hcd2) pa_nil hs2) hbase2 hfew2 hline2 hs2 rfl) hsw2) wpSs_pss)) ?_
  have hvl := ow0.length
  refine ⟨_, e2, .inl ⟨rfl, vs, .of e3⟩, _, e4, a0, vs, _, rfl, rfl, e3, by rw [sizeLine_eq]; omega, ?_⟩
  have ha : a0 ∈ Fs i := by rw [eF]; exact List.mem_cons_self
  have nd0 := r.nd i
  rw [eF] at nd0
  have hF0 : ∀ b ∈ F0, b ∈ Fs i := fun b hb => by rw [eF]; exact List.mem_cons_of_mem _ hb
  have hA : hd S Fs A0 a0 := .inl ⟨i, ha⟩
  have hdis : ∀ b, b ∈ Fs i → b ∈ Fs l → False := fun b h1 h2 => hil (r.dj i l b h1 h2)
  have r3 := r.mut2 (i := i) (l := l) (F := a0 :: (F0 ++ Fs l)) (ov := some (.ref a0)) (s := .ow 2 (.list (ds ++ [.list es]))) (H' := upd H a0 (.lst (vs ++ [.ref b0]))) (sto' := sto) hlt hll hil ?_ ?_ ?_ ?_ ?_
  · rw [set_same e2] at r3
    have hab : b0 ≠ a0 := fun c => hdis a0 ha (c ▸ hb0)
    have hsm3 : ((env.set i (.ow 2 (.list (ds ++ [.list es])))).set l .no)[m]? = some (.ow 2 (.list gs)) := by
      rw [List.getElem?_set, if_neg hlm, List.getElem?_set, if_neg him]
      exact hsm
    generalize hF3 : setF (setF Fs l []) i (a0 :: (F0 ++ Fs l)) = F3 at r3
    generalize henv3 : (env.set i (.ow 2 (.list (ds ++ [.list es])))).set l .no = env3 at r3 hsm3 q
    have hmm3 : m < env3.length := (List.getElem?_eq_some_iff.mp hsm3).1
    have e5' : (upd H a0 (.lst (vs ++ [.ref b0]))) b0 = some (.lst ws) := by rw [upd_ne hab]; exact e5
    have hb3 : b0 ∈ F3 i := by
      rw [← hF3]
      unfold setF
      rw [if_pos rfl]
      exact List.mem_cons_of_mem _ (List.mem_append_right _ hb0)
    generalize upd H a0 (.lst (vs ++ [.ref b0])) = H3 at r3 e5'
    obtain ⟨u3, e6, ow3⟩ := r3.sl m _ hsm3
    obtain ⟨c0, us, G0, rfl, eG, e7, ow4⟩ := ow3.lstI
    refine ⟨_, e6, hix.use (vw := []) r3.wd ⟨Nat.zero_le _, fun i d h => nomatch h⟩ (hfc [] sto) fun vi H1 x1 w1 rd1 p1 => ?_⟩
    have rr : Sr X.K C S0 S A0 H0 σ H1 env3 sto F3 := r3.go x1 w1
    obtain ⟨vm, G1, Gj, G2, g1, g2, g3, g4, g5⟩ := ow4.split hqs
    obtain ⟨c1, ws2, Gb, rfl, rfl, e8, ow5⟩ := g4.lstI
    have hul := ow4.length
    have hc0 : c0 ∈ F3 m := by rw [eG]; exact List.mem_cons_self
    have hin : ∀ c ∈ G1 ++ ((c1 :: Gb) ++ G2), c ∈ F3 m := fun c hc => by rw [eG, g2]; exact List.mem_cons_of_mem _ hc
    have hc1 : c1 ∈ F3 m := hin c1 (List.mem_append_right _ (List.mem_append_left _ List.mem_cons_self))
    have e7' : H1 c0 = some (.lst us) := x1 c0 _ (r3.ns m c0 hc0) e7
    have e8' : H1 c1 = some (.lst ws2) := x1 c1 _ (r3.ns m c1 hc1) e8
    have e5'' : H1 b0 = some (.lst ws) := x1 b0 _ (r3.ns i b0 hb3) e5'
    have hat : atI us n = some (.ref c1) := by unfold atI; rw [hul, hjx]; exact g1
    have hwl2 := ow5.length
    refine ⟨c0, us, n, .ref c1, rfl, p1.intI, .of e7', hat, .inl ⟨rfl, ws2, .of e8'⟩, _, e4, c1, b0, ws2, ws, rfl, rfl, e8', e5'', by rw [sizeLine_eq]; omega, ?_⟩
    have nd1 := r3.nd m
    rw [eG, g2] at nd1
    obtain ⟨nda, nd2⟩ := List.nodup_cons.mp nd1
    obtain ⟨ndG1, ndR, ndx⟩ := List.nodup_append.mp nd2
    obtain ⟨ndb, ndG2, ndy⟩ := List.nodup_append.mp ndR
    obtain ⟨nbG, ndGb⟩ := List.nodup_cons.mp ndb
    have h01 : c0 ≠ c1 := fun c => nda (by rw [c]; exact List.mem_append_right _ (List.mem_append_left _ List.mem_cons_self))
    have hB : hd S F3 A0 c1 := .inl ⟨m, hc1⟩
    obtain ⟨u3', e6', ow3'⟩ := rr.sl m _ hsm3
    have r4 := rr.mut (i := m) (F := F3 m) (ov := some (.ref c0)) (s := .ow 2 (.list (gs.set jx (.list (qs ++ es))))) (H' := upd H1 c1 (.lst (ws2 ++ ws))) (sto' := sto) hmm3 ?_ ?_ ?_ ?_ ?_
    · rw [set_same e6] at r4
      exact hr C S0 S A0 H0 σ _ _ _ _ o env' sto' E hZ r4 q z
    · intro c o hcS hn hc
      rw [upd_ne (fun q : c = c1 => hn (q ▸ hc1))]
      exact hc
    · have w2 := rr.wd.upd (o := .lst (ws2 ++ ws)) hB (rr.ns m c1 hc1) ⟨_, e8'⟩
      refine w2.less (fun c h => ?_) (fun a e => Or.inr (Or.inr (Or.inr e)))
      rcases h with h | h
      · exact .inl ⟨m, h⟩
      · exact h
    · exact rr.nd m
    · exact fun c hc => .inr hc
    · refine ⟨.ref c0, rfl, ?_⟩
      have sub : ∀ c, hd S (setF F3 m (F3 m)) A0 c → hd S F3 A0 c := fun c h => by
        rcases hd_set rr c h with h | h
        · exact .inl ⟨m, h⟩
        · exact h
      have hu : hid (hd S F3 A0) (upd H1 c1 (.lst (ws2 ++ ws))) = hid (hd S F3 A0) H1 := hid_upd hB
      have s1 : Same (hid (hd S F3 A0) H3) (hid (hd S F3 A0) H1) := hid_move x1 r3.wd.hS fun c h => .inl h
      have s2 : Same (hid (hd S F3 A0) H3) (hid (hd S (setF F3 m (F3 m)) A0) (upd H1 c1 (.lst (ws2 ++ ws)))) := fun c o q => hid_le sub c o (by rw [hu]; exact s1 c o q)
      have keep : ∀ c ∈ F3 m, c ≠ c1 → ∀ o, H3 c = some o → upd H1 c1 (.lst (ws2 ++ ws)) c = some o := fun c hc hn o q => by
        rw [upd_ne hn]
        exact x1 c o (r3.ns m c hc) q
      have o1 := g3.mv s2 fun c hc o q => keep c (hin c (List.mem_append_left _ hc)) (fun e => ndx c hc c1 (List.mem_append_left _ List.mem_cons_self) e) o q
      have o3 := g5.mv s2 fun c hc o q => keep c (hin c (List.mem_append_right _ (List.mem_append_right _ hc))) (fun e => ndy c1 List.mem_cons_self c hc e.symm) o q
      have o2 := ow5.mv s2 fun c hc o q => keep c (hin c (List.mem_append_right _ (List.mem_append_left _ (List.mem_cons_of_mem _ hc)))) (fun e => nbG (e ▸ hc)) o q
      have o4 : OwA X.K S (hd S (setF F3 m (F3 m)) A0) (upd H1 c1 (.lst (ws2 ++ ws))) 0 ws es [] := .zero (OwA.scal owb sc)
      have o5 := o2.append o4
      rw [List.append_nil] at o5
      have o6 := o1.append (.cons (.lst upd_same o5) o3)
      have hml : jx < gs.length := (List.getElem?_eq_some_iff.mp hqs).1
      have ev : us = us.take jx ++ (.ref c1 :: us.drop (jx + 1)) := by
        have := set_split us jx (.ref c1) (by omega)
        rw [← this]
        apply List.ext_getElem?
        intro l
        rw [List.getElem?_set]
        by_cases c : jx = l
        · subst c
          rw [if_pos rfl, g1, if_pos (by omega)]
        · rw [if_neg c]
      rw [← ev] at o6
      rw [set_split gs jx _ hml]
      generalize hFm : setF F3 m (F3 m) = F4 at o6 sub hu s2 keep o1 o2 o3 o4 o5
      rw [eG, g2]
      exact .lst (by rw [upd_ne h01]; exact e7') o6
  · intro b o hb hn h
    rw [upd_ne (fun c : b = a0 => hn (c ▸ ha))]
    exact h
  · exact r.wd.upd hA (r.ns i a0 ha) ⟨_, e3⟩
  · refine List.nodup_cons.mpr ⟨fun h => ?_, List.nodup_append.mpr ⟨(List.nodup_cons.mp nd0).2, r.nd l, fun b hb c hc e => hdis b (hF0 b hb) (e ▸ hc)⟩⟩
    rcases List.mem_append.mp h with h | h
    · exact (List.nodup_cons.mp nd0).1 h
    · exact hdis a0 ha h
  · intro b h
    rcases List.mem_cons.mp h with rfl | h
    · exact .inl ha
    · rcases List.mem_append.mp h with h | h
      · exact .inl (hF0 b h)
      · exact .inr h
  · refine ⟨.ref a0, rfl, .lst upd_same ?_⟩
    generalize hF3 : a0 :: (F0 ++ Fs l) = F3
    have sub : ∀ b, hd S (setF (setF Fs l []) i F3) A0 b → hd S Fs A0 b := fun b h => by
      rcases h with ⟨m, h⟩ | h
      · have h' : b ∈ (if m = i then F3 else if m = l then [] else Fs m) := h
        split at h'
        · rw [← hF3] at h'
          rcases List.mem_cons.mp h' with rfl | h'
          · exact hA
          · rcases List.mem_append.mp h' with h' | h'
            · exact .inl ⟨i, hF0 b h'⟩
            · exact .inl ⟨l, h'⟩
        · split at h'
          · exact nomatch h'
          · exact .inl ⟨m, h'⟩
      · exact .inr h
    have hu : hid (hd S Fs A0) (upd H a0 (.lst (vs ++ [.ref b0]))) = hid (hd S Fs A0) H := hid_upd hA
    have s2 : Same (hid (hd S Fs A0) H) (hid (hd S (setF (setF Fs l []) i F3) A0) (upd H a0 (.lst (vs ++ [.ref b0])))) := fun b o q => by rw [← hu] at q; exact hid_le sub b o q
    have o1 := ow0.mv s2 fun b hb o q => by
      rw [upd_ne (fun c : b = a0 => (List.nodup_cons.mp nd0).1 (c ▸ hb))]
      exact q
    have o2 := owy.mv s2 fun b hb o q => by
      rw [upd_ne (fun c : b = a0 => hdis a0 ha (c ▸ hb))]
      exact q
    have := o1.append (.cons o2 .nil)
    rwa [List.append_nil] at this
end
end J
namespace J
open PySem PySem.Spec PyProof.Rows L2 CwR
/-! ### where a token is out -/
def wpET (X : Cx) (e : Expr) : TE := fun σ H Q => ∀ pins s, 1 ≤ s.toks → Inv X pins σ H s → wpAny (model X.prog X.w) X.A (eval e X.env) (EP X pins σ Q) X.xe s
theorem wpET_pet {X : Cx} {e : Expr} : PET X e (wpET X e) := fun pins s σ H Q h0 I h => h pins s h0 I
theorem wpET.by {X : Cx} {e : Expr} {t : TE} (h : PET X e t) {σ : Sg} {H : Hp} {Q : VK} (q : t σ H Q) : wpET X e σ H Q := fun pins s h0 I => h pins s σ H Q h0 I q
def wpST (X : Cx) (st : Stmt) : TS := fun D σ H => ∀ pins s, 1 ≤ s.toks → Inv X pins σ H s → wpAny (model X.prog X.w) X.A (exec st X.env) (SP X pins D) X.xe s
theorem wpST_pst {X : Cx} {st : Stmt} : PST X st (wpST X st) := fun pins s σ H D h0 I h => h pins s h0 I
theorem wpST.by {X : Cx} {e : Stmt} {t : TS} (h : PST X e t) {σ : Sg} {H : Hp} {D : Ends} (q : t D σ H) : wpST X e D σ H := fun pins s h0 I => h pins s σ H D h0 I q
def wpSsT (X : Cx) (st : List Stmt) : TS := fun D σ H => ∀ pins s, 1 ≤ s.toks → Inv X pins σ H s → wpAny (model X.prog X.w) X.A (execs st X.env) (SP X pins D) X.xe s
theorem wpSsT_psst {X : Cx} {st : List Stmt} : PSsT X st (wpSsT X st) := fun pins s σ H D h0 I h => h pins s h0 I
theorem wpSsT.by {X : Cx} {e : List Stmt} {t : TS} (h : PSsT X e t) {σ : Sg} {H : Hp} {D : Ends} (q : t D σ H) : wpSsT X e D σ H := fun pins s h0 I => h pins s σ H D h0 I q
def JPT (X : Cx) (e : Expr) (f : Ev) (k : Nat) : Prop := ∀ A S σ H vw sto d sto' (Q : VK), Wd X.K S A H sto → RdV X.K S A σ H vw → f vw sto = some (d, sto') →
  (∀ v H' F, Res X.K S A H sto' k H' v d F → Q v H') → wpET X e σ H Q
def JST (Z : List Addr → Prop) (X : Cx) (st : Stmt) (g : Sv) (k : Nat) : Prop := ∀ C S0 S A0 H0 σ H env sto Fs o env' sto' (E : Ends), Z S0 → Sr X.K C S0 S A0 H0 σ H env sto Fs → g env sto = some (o, env', sto') → OutOk X.K C S0 A0 H0 k E o env' sto' → wpST X st E σ H
def JSsT (Z : List Addr → Prop) (X : Cx) (sts : List Stmt) (g : Sv) (k : Nat) : Prop := ∀ C S0 S A0 H0 σ H env sto Fs o env' sto' (E : Ends), Z S0 → Sr X.K C S0 S A0 H0 σ H env sto Fs → g env sto = some (o, env', sto') → OutOk X.K C S0 A0 H0 k E o env' sto' → wpSsT X sts E σ H
section
variable {Z : List Addr → Prop} {X : Cx} {st : Stmt} {rest body : List Stmt} {tg e a b : Expr} {f : Ev} {g h gb : Sv} {gt : TG} {bd : Bd} {j k n i : Nat} {pos p p2 apos cpos : Pos} {x : Str} {M : List Nat}
theorem jst_of (hs : JS Z X st g k) : JST Z X st g k := fun C S0 S A0 H0 σ H env sto Fs o env' sto' E hZ r q z pins s _ I => hs C S0 S A0 H0 σ H env sto Fs o env' sto' E hZ r q z pins s I
theorem jsst_of (hs : JSs Z X rest g k) : JSsT Z X rest g k := fun C S0 S A0 H0 σ H env sto Fs o env' sto' E hZ r q z pins s _ I => hs C S0 S A0 H0 σ H env sto Fs o env' sto' E hZ r q z pins s I
theorem jsst_cons (h1 : JST Z X st g k) (h2 : JSsT Z X rest h k) : JSsT Z X (st :: rest) (sSeq g h) k := fun C S0 S A0 H0 σ H env sto Fs o env' sto' E hZ r q z => by
  unfold sSeq at q
  obtain ⟨⟨o1, e1, s1⟩, q1, q⟩ := bind_some' q
  refine wpSsT.by (psst_cons wpST_pst wpSsT_psst) (h1 C S0 S A0 H0 σ H env sto Fs o1 e1 s1 _ hZ r q1 ?_)
  cases o1 with
  | nx => exact fun S' σ' H' Fs' r' => h2 C S0 S' A0 H0 σ' H' e1 s1 Fs' o env' sto' E hZ r' q z
  | rt d => cases q; exact z
  | bk => cases q; exact z
  | ct => cases q; exact z
/-- name = e, one token out -/
theorem jst_set {M : List Nat} (he : JPT X e f j) (hN : X.N.Nodup) (hi : X.N[i]? = some x) (hx : Loc X.env.scope x) (hs : swapsWith e (some (.Name x p)) pos.line X.env = pure false := by rfl) (hf : X.fn x = true ∨ X.env.scope.names.lookup x = some .local := by first | exact .inl rfl | exact .inr rfl | assumption) :
    JST Z X (.Assign [.Name x p] e pos) (sSet i j M f) k := fun C S0 S A0 H0 σ H env sto Fs o env' sto' E hZ r q z => by
  unfold sSet at q
  split at q
  case isFalse => cases q
  rename_i hlt
  obtain ⟨⟨d, s1⟩, q1, q⟩ := map_some' q
  simp only [Option.some.injEq, Prod.mk.injEq] at q
  obtain ⟨rfl, rfl, rfl⟩ := q
  intro pins s h0 I
  refine wpAny_Assign_Name (thn (he _ S σ H _ sto d s1 (fun v H' => ∃ F Fs', Sr X.K C S0 S A0 H0 σ H (fzIf j d M s1 env) sto Fs' ∧ Res X.K S (hd S Fs' A0) H s1 j H' v d F) (r.wdM M) (r.rdM M) q1 (fun v H' F rs => ?_) pins s h0 I) fun v s1 ⟨y, H1, I1, r1, F, Fs', r2, rs⟩ => ?_) hs
  · obtain ⟨Fs', r2, rs2⟩ := r.evalR rs
    exact ⟨F, Fs', r2, rs2⟩
  · exact store_ok I1 hN hi hx r1 (fun s2 I2 => ⟨_, H1, I2, z S _ _ _ (r2.put (by rw [fzIf_len]; exact hlt) rs)⟩) hf
/-- for over a new list of plain things -/
theorem jst_for0 (hp : PassesOwn (model X.prog X.w) X.A X.env X.xe) (hc : X.calm = true) (ha : JPT X a f j) (hg : PG X tg gt) (hgs : gSpec X.K gt bd) (hb : JSs Z X body gb k) (hs : ∀ x, foldedSetIterable a X.env x = pure x := by intro _; rfl) :
    JST Z X (.For tg a body [] pos) (sFor0 M (iVal0 j f) bd gb) k := fun C S0 S A0 H0 σ H env sto Fs o env' sto' E hZ r q z => by
  unfold sFor0 at q
  obtain ⟨⟨ds, s1⟩, q1, q⟩ := bind_some' q
  simp only at q
  split at q
  case isFalse => cases q
  rename_i hok
  unfold iVal0 at q1
  obtain ⟨⟨x, s2⟩, e1, q1⟩ := bind_some' q1
  simp only at q1
  split at q1
  case h_2 => cases q1
  rename_i ds0
  split at q1
  case isFalse => cases q1
  rename_i hf
  cases q1
  refine wpST.by (pst_for hp hc (pit_list wpET_pet) hg wpSs_pss hs) ?_
  have w2 := r.wd
  refine ha _ S σ H _ sto _ _ _ (r.wdM M) (r.rdM M) e1 fun v H1 F rs => ?_
  have rs2 := rs.full hf w2 (okM_g hok)
  have p1 := rs2.rp w2
  obtain ⟨l, xs, rfl, r2, q2⟩ := p1.lstI
  exact ⟨l, rfl, ⟨xs, .inl r2.out⟩, forL_walk hZ (r.go rs2.ext (rs2.wd.less (fun a h => .inr h) w2.hS)) (walk_dl r2 q2) hgs hb q z⟩
/-! ### t.replace(a, b).replace(c, d).split() -/
def dRepl (y z : Str) : D → Option D
  | .str x => if x.length + (x.length + 1) * z.length ≤ 16777216 then some (.str (Txt.replace x y z)) else none
  | _ => none
theorem pet_bm0 {o : Expr} {to : TE} {name : Str} {T id : String} {r : V → List V → Hp → VK → Prop} (pa : PlainAttrs T) (slot : PySem.Slot T name id) (hty : typeOf (.builtin id) = pure (.type "method_descriptor")) (hm : MtR X id r) (ho : PET X o to)
    (hbase : attributeBase o name X.env (eval o X.env) = eval o X.env := by rfl) (hline : (apos.endLine == cpos.line) = true := by rfl) : PET X (.Call (.Attribute o name apos) [] [] cpos) (tBM0 X.K T r to) := by
  intro pins s σ H Q h0 I h
  refine wpAny_Call_method0_late hbase hline (thn (ho pins s σ H _ h0 I h) fun v s1 ⟨x, H1, I1, r1, ty, q1⟩ => ?_)
  obtain ⟨h1, h2⟩ := tyV_is I1 r1 ty
  exact ⟨T, id, pa, slot, hty, h1, h2, Calls.callWith_builtin rfl (PySem.evalArgs_none (hm pins s1 σ H1 x [] v [] Q I1 r1 .nil q1))⟩
theorem jpt_rrs {y1 z1 y2 z2 : Str} {j1 j2 j3 j4 : Nat} {c1 c2 c3 c4 ap1 ap2 cp1 cp2 : Pos} (ha : JP X a f 0) (h1 : (y1 == z1) = false := by decide) (h2 : (y2 == z2) = false := by decide)
    (s1 : starEach [.Constant (.str y1) j1 c1, .Constant (.str z1) j2 c2] X.env = [(false, eval (.Constant (.str y1) j1 c1) X.env), (false, eval (.Constant (.str z1) j2 c2) X.env)] := by rfl)
    (b1 : attributeBase a "replace" X.env (eval a X.env) = eval a X.env := by rfl) (l1 : (ap1.endLine == cp1.line) = true := by rfl)
    (s2 : starEach [.Constant (.str y2) j3 c3, .Constant (.str z2) j4 c4] X.env = [(false, eval (.Constant (.str y2) j3 c3) X.env), (false, eval (.Constant (.str z2) j4 c4) X.env)] := by rfl)
    (b2 : attributeBase (.Call (.Attribute a "replace" ap1) [.Constant (.str y1) j1 c1, .Constant (.str z1) j2 c2] [] cp1) "replace" X.env (eval (.Call (.Attribute a "replace" ap1) [.Constant (.str y1) j1 c1, .Constant (.str z1) j2 c2] [] cp1) X.env) = eval (.Call (.Attribute a "replace" ap1) [.Constant (.str y1) j1 c1, .Constant (.str z1) j2 c2] [] cp1) X.env := by rfl) (l2 : (ap2.endLine == cp2.line) = true := by rfl)
    (b3 : attributeBase (.Call (.Attribute (.Call (.Attribute a "replace" ap1) [.Constant (.str y1) j1 c1, .Constant (.str z1) j2 c2] [] cp1) "replace" ap2) [.Constant (.str y2) j3 c3, .Constant (.str z2) j4 c4] [] cp2) "split" X.env (eval (.Call (.Attribute (.Call (.Attribute a "replace" ap1) [.Constant (.str y1) j1 c1, .Constant (.str z1) j2 c2] [] cp1) "replace" ap2) [.Constant (.str y2) j3 c3, .Constant (.str z2) j4 c4] [] cp2) X.env) = eval (.Call (.Attribute (.Call (.Attribute a "replace" ap1) [.Constant (.str y1) j1 c1, .Constant (.str z1) j2 c2] [] cp1) "replace" ap2) [.Constant (.str y2) j3 c3, .Constant (.str z2) j4 c4] [] cp2) X.env := by rfl) (l3 : (apos.endLine == cpos.line) = true := by rfl) :
    JPT X (.Call (.Attribute (.Call (.Attribute (.Call (.Attribute a "replace" ap1) [.Constant (.str y1) j1 c1, .Constant (.str z1) j2 c2] [] cp1) "replace" ap2) [.Constant (.str y2) j3 c3, .Constant (.str z2) j4 c4] [] cp2) "split" apos) [] [] cpos)
      (eUn dWords (eUn (dRepl y2 z2) (eUn (dRepl y1 z1) f))) 1 := fun A S σ H vw sto d sto' Q w r q z => by
  unfold eUn at q
  obtain ⟨⟨x3, s3⟩, e3, q⟩ := bind_some' q
  obtain ⟨t3, g3, q⟩ := map_some' q
  cases q
  obtain ⟨⟨x2, s4⟩, e2, q⟩ := bind_some' e3
  obtain ⟨t2, g2, q⟩ := map_some' q
  cases q
  obtain ⟨⟨x1, s5⟩, e1, q⟩ := bind_some' e2
  obtain ⟨t1, g1, q⟩ := map_some' q
  cases q
  simp only at g1 g2 g3
  unfold dRepl at g1
  split at g1
  case h_2 => cases g1
  split at g1
  case isFalse => cases g1
  rename_i k1
  cases g1
  unfold dRepl at g2
  simp only at g2
  split at g2
  case isFalse => cases g2
  rename_i k2
  cases g2
  unfold dWords at g3
  simp only at g3
  split at g3
  case isFalse => cases g3
  rename_i k3
  cases g3
  refine wpET.by (pet_bm0 PySem.F.plainAttrs_str PySem.F.slot_str_split rfl mt_words (pet_replT (pet_replC wpE_pe h1 s1 b1 l1) h2 s2 b2 l2) b3 l3) (ha.use w r e1 fun v H1 x1 w1 r1 p1 => ?_)
  have ev := p1.strI
  subst ev
  exact ⟨_, rfl, k1, _, rfl, k2, rfl, _, rfl, rfl, by rw [sizeLine_eq]; exact k3, fun p hp => z _ _ [p] ((Res.lst w1 (.shared w1 (strs_rp _)) hp).later x1 w1)⟩
end
/-! ### a def that is called where a token is out -/
structure FnT (P : Program) (w : World) (K : PySem.W.Frag) (mg : Str → Option Value) (base : Heap) (k : Nat) (f : Addr) (fd : FuncData) (ps : List Str) (sp : SpG) : Prop where
  len : ∀ vs H Q, sp vs H Q → vs.length = ps.length
  run : ∀ (A : Around) (outer : List PySem.Env) (s : Shared) (H : Hp) (args : Args) (us : List Value) (vs : List V) (Q : VK), Room k A → A.guards = some [] → Env0 P w K mg base A outer s H → BindsTo s fd args (ps.zip us) → Vals vs us → 1 ≤ s.toks → sp vs H Q →
    codeAny (model P w) A (.call (.ref f) args) (CR CX0 outer P w H s Q E0) s
theorem FnT.mono {P : Program} {w : World} {K : PySem.W.Frag} {mg : Str → Option Value} {base : Heap} {j k : Nat} {f : Addr} {fd : FuncData} {ps : List Str} {sp : SpG} (F : FnT P w K mg base j f fd ps sp) (h : j ≤ k) : FnT P w K mg base k f fd ps sp :=
  ⟨F.len, fun A outer s H args us vs Q hr => F.run A outer s H args us vs Q (hr.mono h)⟩
/-- a def by its body -/
theorem FnT.of {P : Program} {w : World} {K : PySem.W.Frag} {mg : Str → Option Value} {base : Heap} {k : Nat} {x qual : Str} {st : Stmt} {f : Addr} {fd : FuncData} {N ps : List Str} {sp : SpG}
    (F : Fun K x qual st f fd) (S : FnScope N ps (defScope st)) (len : ∀ vs H Q, sp vs H Q → vs.length = ps.length)
    (hbody : ∀ (cdv : Value) (A : Around) (outer : List PySem.Env) (s : Shared) (H : Hp) (vs : List V) (Q : VK), Room k (A.deeper (envOfC qual (defScope st) s.heap.objs.size f cdv)) → A.guards = some [] → sp vs H Q →
      wpSsT (cxOf CX0 P w K mg base N qual (defScope st) f cdv A outer s H E0).nox (defBody st) { nx := fun _ H' => Q .non H', rt := Q } (start N vs) H) :
    FnT P w K mg base (k + 1) f fd ps sp := by
  obtain ⟨oc, od, kV, doc, pm, an, cdv, ct, osl, rfl, lk, hcd⟩ := F.ex
  refine ⟨len, fun A outer s H args us vs Q hr hg e0 hb r ht hsp => ?_⟩
  have hl := len _ _ _ hsp
  have KX : K.In s.heap := e0.mod.kin.keeps fun b o e => (e0.bs b o e).1
  have lim : s.heap.NoLimit := e0.mod.nolimit.keeps fun b o e => (e0.bs b o e).1
  have places : ∀ y ∈ ps.zip us, (defScope st).names.lookup y.1 = some .local ∨ ((defScope st).names.lookup y.1 = some .cell ∧ ((cellsFrom (s.heap.objs.size + 1) (defScope st).names []).lookup y.1).isSome = true) := by
    rintro ⟨n, v⟩ hy
    exact (S.par n (List.of_mem_zip hy).1).imp id fun q => ⟨q, PySem.W.cellsFrom_some _ _ _ (.inl q)⟩
  refine codeAny_call_function hr.depth (KX _ _ lk) rfl S.co S.gen rfl (PySem.W.codeRec_of KX hcd) (hb _ _ _ _ (PySem.wpAny_with_toks ht (wpAny_newFunctionEnv_cells S.kind places fun env he s1 x ht1 => ?_)))
  subst he
  refine ⟨lim.keeps x.toInCall.keep, codeAny_func ?_⟩
  have I := inv_start (CX := CX0) (E := E0) S hr.hd e0 hl r x
  have q := hbody cdv A outer s H vs Q (hr.deeper _) hg hsp [] s1 ht1 (I.wish _)
  refine wpAny_mono q (fun fl s' hs => ?_) fun e s' hs => False.elim hs
  have hs := SP.unwish hs
  cases fl with
  | ret u =>
    obtain ⟨v, σ', H', J, rv, q⟩ := hs
    exact ⟨v, H', J.os, J.bare, J.base, J.hok, rv, q⟩
  | next =>
    obtain ⟨σ', H', J, q⟩ := hs
    exact ⟨.non, H', J.os, J.bare, J.base, J.hok, rfl, q⟩
  | brk =>
    obtain ⟨_, _, _, q⟩ := hs
    exact False.elim q
  | cont =>
    obtain ⟨_, _, _, q⟩ := hs
    exact False.elim q

/-- a body from its entry on -/
theorem body_coreT {X : Cx} {Z : List Addr → Prop} {sts : List Stmt} {g : Sv} {k : Nat} {N : List Str} {vs : List V} {H : Hp} {Q : VK} {A : Addr → Prop} {S : List Addr} {ds : List D} {sto sto' : STO} {d : D} (hZ : Z S) (hb : JSsT Z X sts g k)
    (w : Wd X.K S A H sto) (rp : RpA X.K S (hid A H) vs ds) (hf : fnD N.length g ds sto = some (d, sto')) (z : ∀ v H' F', Res X.K S A H sto' k H' v d F' → Q v H') :
    wpSsT X sts { nx := fun _ H' => Q .non H', rt := Q } (L2.start N vs) H := by
  unfold fnD at hf
  obtain ⟨⟨o, env', s1⟩, q1, q⟩ := bind_some' hf
  have hvl := rp.length
  have hA : hd S (fun _ => []) A = A := by
    funext a
    simp only [eq_iff_iff]
    constructor
    · rintro (⟨_, h⟩ | h | h)
      · exact nomatch h
      · exact h
      · exact w.hS a h
    · exact fun h => .inr (.inl h)
  have r : Sr X.K (fun _ => none) S S A H (L2.start N vs) H (ds.map .sh ++ List.replicate (N.length - ds.length) .no) sto (fun _ => []) := by
    refine ⟨?_, ⟨[], by simp, fun a h => absurd h List.not_mem_nil⟩, w.al, w.hS, Ext.refl, by rw [hA]; exact w, fun _ => .nil, (fun _ _ _ h => nomatch h), (fun _ _ h => nomatch h), (fun _ _ h => nomatch h), fun i s h => ?_, fun _ _ => rfl, fun _ _ h => nomatch h⟩
    · unfold L2.start
      rw [List.length_append, List.length_append, List.length_map, List.length_map, List.length_replicate, List.length_replicate, hvl]
    · rw [hA]
      unfold L2.start
      by_cases c : i < ds.length
      · rw [List.getElem?_append_left (by rw [List.length_map]; exact c), List.getElem?_map] at h
        rw [List.getElem?_append_left (by rw [List.length_map, hvl]; exact c), List.getElem?_map]
        cases e : ds[i]? with
        | none => rw [e] at h; cases h
        | some d' =>
          rw [e] at h
          cases h
          obtain ⟨v, e1, e2⟩ := rp.get e
          rw [e1]
          exact ⟨rfl, v, rfl, e2⟩
      · rw [List.getElem?_append_right (by rw [List.length_map]; omega)] at h
        have := List.mem_of_getElem? h
        rw [List.eq_of_mem_replicate this]
        exact trivial
  have fin' : ∀ d1, fin sto d1 s1 = some (d, sto') → ∀ v H', RtR X.K S A H H' k v d1 s1 → Q v H' := fun d1 hfin v H' hr => by
    obtain ⟨S', F, ⟨S1, hs, hs1⟩, x, al0, a0S, w', nd, fr, ns, ow⟩ := hr
    subst hs
    have hlS := w.len
    have hlS' := w'.len
    rw [List.length_append] at hlS'
    have hsub : ∀ a, plus F A a → (a ∈ F ∨ A a ∨ a ∈ S ++ S1) := fun a h => h.imp id .inl
    unfold fin at hfin
    split at hfin
    · rename_i hl
      cases hfin
      have : S1 = [] := List.eq_nil_of_length_eq_zero (by omega)
      subst this
      rw [List.append_nil] at *
      have hP : (fun a => a ∈ F ∨ A a ∨ a ∈ S) = plus F A := by
        funext a
        simp only [plus, eq_iff_iff]
        exact ⟨fun h => h.imp id fun h => h.elim id (w.hS a), fun h => h.imp id .inl⟩
      rw [hP] at w' ow
      exact z v H' F ⟨x, w', nd, fr, ow⟩
    · split at hfin
      case isFalse => cases hfin
      rename_i hc
      cases hfin
      obtain ⟨c1, c2⟩ := hc
      rw [← hlS] at c2
      refine z v H' F ⟨x, ⟨fun a h => w'.alt a (hsub a h), fun a h => .inr (w.hS a h), (List.nodup_append.mp w'.nds).1, by rw [List.length_take]; omega, fun i a c h1 h2 => ?_⟩, nd, fr, thaw_ow hlS w' (fun a h => w.notA (hs1 a h)) ow c1⟩
      have hi := (List.getElem?_eq_some_iff.mp h1).1
      have hcl := List.all_eq_true.mp c2 c (by rw [hlS]; exact List.mem_of_getElem? h2)
      rw [List.getElem?_take, if_pos (by omega)] at h2
      have ok := w'.st i a c (by rw [List.getElem?_append_left hi]; exact h1) h2
      exact (ok.keep (hid_le hsub) (fun _ h => h) fun _ _ h => h).shrink hcl
  refine hb (fun _ => none) S S A H (L2.start N vs) H _ sto (fun _ => []) o env' s1 _ hZ r q1 ?_
  cases o with
  | nx =>
    intro S' σ' H' Fs' r'
    refine fin' .none q .non H' ?_
    have le : ∀ a, (a ∈ ([] : List Addr) ∨ A a ∨ a ∈ S') → hd S' Fs' A a := fun a h => by
      rcases h with h | h
      · exact nomatch h
      · exact .inr h
    exact ⟨S', [], r'.s0, r'.ext, r'.al0, r'.a0S, r'.wd.less le fun a e => .inr (.inr e), .nil, noF, noF, .atom atomic_none .non⟩
  | rt d1 => exact fun v H' hr => fin' d1 q v H' hr
  | bk => cases q
  | ct => cases q

theorem body_ofT {X : Cx} {sts : List Stmt} {g : Sv} {n k : Nat} {N : List Str} {vs : List V} {H : Hp} {Q : VK} (hb : JSsT (fun _ => True) X sts g k) (h : spD X.K n (fnD N.length g) k vs H Q) :
    wpSsT X sts { nx := fun _ H' => Q .non H', rt := Q } (L2.start N vs) H := by
  obtain ⟨A, S, ds, sto, d, sto', hl, w, rp, hf, z⟩ := h
  exact body_coreT trivial hb w rp hf z
end J
namespace J
open PySem PySem.Spec PyProof.Rows L2
/-! ### trees that give a token out -/
def Tk {α : Type} (M : Model) (t : Sem α) : Prop := ∀ Γ Q E p s, Sem.wp M Γ t Q E p s → Sem.wp M Γ t (fun a p' s' => 1 ≤ s'.toks ∧ Q a p' s') E p s
theorem Tk.any {α : Type} {M : Model} {t : Sem α} (h : Tk M t) {A : Around} {Q : α → Shared → Prop} {E : Value → Shared → Prop} {s : Shared} (q : wpAny M A t Q E s) : wpAny M A t (fun a s' => 1 ≤ s'.toks ∧ Q a s') E s :=
  fun Γ p hΓ => h Γ _ _ p s (q Γ p hΓ)
theorem tk_left {α β : Type} {M : Model} {m : Sem α} {f : α → Sem β} (h : Tk M m) : Tk M (m >>= f) := fun Γ Q E p s q => by
  rw [Sem.wp_bind'] at q ⊢
  refine Sem.wp_mono M Γ m (fun a p' s' h2 => ?_) (fun _ _ _ h => h) p s (h Γ _ E p s q)
  exact Sem.wp_mono M Γ (f a) (fun _ _ _ h => h) (fun _ _ _ h => h.2) p' s' (Sem.wp_toks M Γ 1 (f a) Q E p' s' h2.1 h2.2)
theorem tk_right {α β : Type} {M : Model} {m : Sem α} {f : α → Sem β} (h : ∀ a, Tk M (f a)) : Tk M (m >>= f) := fun Γ Q E p s q => by
  rw [Sem.wp_bind'] at q ⊢
  exact Sem.wp_mono M Γ m (fun a p' s' h2 => h a Γ Q E p' s' h2) (fun _ _ _ h => h) p s q
theorem tk_hold {α : Type} {M : Model} {t : Sem α} {vs : List Value} (h : Tk M t) : Tk M (holding vs t) := fun Γ Q E p s q => by
  rw [Sem.wp_holding] at q ⊢
  exact h Γ Q E p s q
theorem tk_str {M : Model} {x : Str} {k : Nat} {pos : Pos} {env : PySem.Env} : Tk M (eval (.Constant (.str x) k pos) env) := fun Γ Q E p s q => ⟨by show 1 ≤ s.toks + 1; omega, q⟩
theorem tk_int {M : Model} {x : Int} {k : Nat} {pos : Pos} {env : PySem.Env} : Tk M (eval (.Constant (.int x) k pos) env) := fun Γ Q E p s q => ⟨by show 1 ≤ s.toks + 1; omega, q⟩
theorem tk_ix {M : Model} {a b : Expr} {pos : Pos} {env : PySem.Env} (h : Tk M (eval b env)) : Tk M (eval (.Subscript a b pos) env) := by
  rw [eval_Subscript]
  exact tk_right fun o => tk_left (tk_hold h)
theorem tk_arg {M : Model} {e : Expr} {pos : Pos} {env : PySem.Env} (h : Tk M (eval e env)) (he : starEach [e] env = (false, eval e env) :: starEach [] env := by rfl) : Tk M (spliced (backTo pos (starEach [e] env))) := by
  rw [he]
  show Tk M (spliced [(false, eval e env)])
  rw [spliced]
  exact tk_left h
theorem tk_kw {M : Model} {nm : Option Str} {e : Expr} {kp pos : Pos} {env : PySem.Env} (h : Tk M (eval e env)) : Tk M (evalAll ((backToKw pos (keywordEach [⟨nm, e, kp⟩] env)).map (·.2))) := by
  show Tk M (evalAll [do let v ← eval e env; standAt pos; pure v])
  rw [evalAll]
  exact tk_left (tk_left h)
theorem thnT {α : Type} {M : Model} {A : Around} {t : Sem α} {Q R : α → Shared → Prop} {E : Value → Shared → Prop} {s : Shared} (h0 : 1 ≤ s.toks) (h : wpAny M A t Q E s) (k : ∀ v s', 1 ≤ s'.toks → Q v s' → R v s') : wpAny M A t R E s :=
  wpAny_mono (PySem.wpAny_toks_of h0 h) (fun v s' q => k v s' q.1 q.2) fun _ _ q => q.2
/-! ### calls -/
theorem run_ft {X : Cx} {k : Nat} {f : Addr} {fd : FuncData} {ps ks : List Str} {sp : SpG} {pins : List (Addr × Obj)} {σ : Sg} {H : Hp} {s : Shared} {Q : VK} {us ws : List Value} {vs zs : List V} {n : Nat} {g : List Value → List Value → List Value} {gV : List V → List V → List V}
    (F : FnT X.prog X.w X.K X.mg X.base k f fd ps sp) (ht : 1 ≤ s.toks) (hr : Room k X.A) (hg : X.A.guards = some []) (hb : KBn X.K fd ps n ks g gV) (I : Inv X pins σ H s) (r : Vals vs us) (rz : Vals zs ws) (l1 : vs.length = n) (l2 : zs.length = ks.length) (h : sp (gV vs zs) H Q) :
    wpAny (model X.prog X.w) X.A (call (.ref f) us (ks.zip ws)) (EP X pins σ Q) X.xe s := by
  refine wpAny_call (codeAny_mono (F.run X.A X.stack s H ⟨us, ks.zip ws⟩ (g us ws) (gV vs zs) Q hr hg I.env0 (hb.to s us ws I.kIn (r.length.symm.trans l1) (rz.length.symm.trans l2)) (hb.rel r rz) ht h) fun res s' hq => ?_)
  cases res with
  | error e => exact False.elim hq
  | ok fl =>
    cases fl with
    | ret u => exact I.after hq
    | next => exact False.elim hq
    | brk => exact False.elim hq
    | cont => exact False.elim hq
def CalT (P : Program) (w : World) (K : PySem.W.Frag) (mg : Str → Option Value) (base : Heap) (x : Str) (st : Stmt) (ps : List Str) (j : Nat) (F : FnD) (k : Nat) : Prop :=
  ∃ fa fd, Fun K x x st fa fd ∧ mg x = some (.ref fa) ∧ FnT P w K mg base j fa fd ps (spD K ps.length F k)
section
variable {P : Program} {w : World} {K : PySem.W.Frag} {mg : Str → Option Value} {base : Heap} {x : Str} {st : Stmt} {ps : List Str} {j k : Nat} {F : FnD}
theorem CalT.mono (h : CalT P w K mg base x st ps j F k) {l : Nat} (hl : j ≤ l) : CalT P w K mg base x st ps l F k := by
  obtain ⟨fa, fd, h1, h2, h3⟩ := h
  exact ⟨fa, fd, h1, h2, h3.mono hl⟩
theorem calT_def {N : List Str} {g : Sv} (D : Dfn K mg x st) (S : FnScope N ps (defScope st))
    (hb : ∀ (f : Addr) (cdv : Value) (A : Around) (outer : List PySem.Env) (s : Shared) (H : Hp), Room j (A.deeper (envOfC x (defScope st) s.heap.objs.size f cdv)) → A.guards = some [] → JSsT (fun _ => True) (bodyX P w K mg base N x (defScope st) f cdv A outer s H) (defBody st) g k) :
    CalT P w K mg base x st ps (j + 1) (fnD N.length g) k := by
  obtain ⟨fa, fd, h1, h2⟩ := D
  refine ⟨fa, fd, h1, h2, FnT.of h1 S (fun vs H Q h => ?_) fun cdv A outer s H vs Q hr hg h => ?_⟩
  · obtain ⟨_, _, _, _, _, _, hl, _, rp, _, _⟩ := h
    rw [rp.length]; exact hl
  · exact body_ofT (X := bodyX P w K mg base N x (defScope st) fa cdv A outer s H) (hb fa cdv A outer s H hr hg) h
end
section
variable {X : Cx} {e a b c : Expr} {es rest : List Expr} {f g h : Ev} {fs gs : EvA} {k j n : Nat} {pos p : Pos} {kws : List Keyword} {i : Nat} {x : Str}
/-- a call where a token is out -/
theorem jpt_cal {x : Str} {st : Stmt} {ps : List Str} {F : FnD} {perm : List Nat} {l : Nat} (C : CalT X.prog X.w X.K X.mg X.base x st ps j F k) (hj : j ≤ l) (hr : Room l X.A) (hgu : X.A.guards = some [])
    (hb : ∀ (kV doc pm : Value) (an : Option Addr) (cdv ct : Value) (us ws : List Value), us.length = n → ws.length = ([] : List Str).length → bindArgs (PySem.W.fnOf x x (defArgs st) (defBody st) (defScope st) .none kV doc pm an cdv ct) ⟨us, ([] : List Str).zip ws⟩ = pure (ps.zip (pick Value.none perm (us ++ ws))))
    (ha : JA X (e :: es) fs 0) (hfl : ∀ vw s d s', fs vw s = some (d, s') → d.length = n) (hg : Gl X x := by rfl)
    (hn : (e :: es).length = n := by rfl) (hpl' : perm.length = ps.length := by rfl)
    (hdb : (x == ("__debug__" : Str)) = false := by decide) (he : starEach (e :: es) X.env = (false, eval e X.env) :: starEach es X.env := by rfl)
    (hpl : ((backTo pos (starEach (e :: es) X.env)).any (·.1) || (backToKw pos (keywordEach [] X.env)).any (·.1.isNone)) = false := by rfl) :
    JPT X (.Call (.Name x p) (e :: es) [] pos) (eCall F perm (aApp fs aN)) k := fun A S σ H vw sto d sto' Q w r q z => by
  obtain ⟨fa, fd, h1, h2, h3⟩ := C
  unfold eCall aApp at q
  obtain ⟨⟨xs, s1⟩, e1, q⟩ := bind_some' q
  obtain ⟨⟨x1, s2⟩, e2, e1⟩ := bind_some' e1
  obtain ⟨⟨x2, s3⟩, e3, e1⟩ := map_some' e1
  cases e1
  intro pins s h0 I
  refine wpAny_Call_Name_kw (ld_glob I hg h2 ?_ hdb)
  refine PySem.W.callWith_KW (h₀ := X.base) I.ok.mod.kin h1.kp (by rfl) (thnT h0 (ha.use (Q := fun vs H1 => Ext S H H1 ∧ Wd X.K S A H1 s2 ∧ RdV X.K S A σ H1 vw ∧ RpA X.K S (hid A H1) vs x1) w r e2 (fun vs H1 x1 w1 r1 p1 => ⟨x1, w1, r1, p1⟩) pos pins s I) fun us t1 ht1 hq => ?_) hpl he
  obtain ⟨vs, H1, I1, rv, y1, w1, r1, p1⟩ := hq
  refine thnT ht1 (jk_nil A S σ H1 vw s2 x2 _ (fun zs H2 => Ext S H1 H2 ∧ Wd X.K S A H2 s3 ∧ RpA X.K S (hid A H2) zs x2) w1 r1 e3 (fun zs H2 y2 w2 p2 => ⟨y2, w2, p2⟩) pos pins t1 I1) fun ws t2 ht2 hq => ?_
  obtain ⟨zs, H2, I2, rz, y2, w2, p2⟩ := hq
  refine ⟨I2.kIn, ?_⟩
  have l1 : vs.length = n := by rw [p1.length]; exact hfl _ _ _ _ e2
  have l2 : zs.length = ([] : List Str).length := by rw [p2.length]; exact len_aN _ _ _ _ e3
  have pp : RpA X.K S (hid A H2) (vs ++ zs) (x1 ++ x2) := (p1.le (hid_move y2 w1.hS fun a h => .inl h)).append p2
  exact run_ft (h3.mono hj) ht2 hr hgu (kbn_of perm h1 hb) I2 rv rz l1 l2 ⟨A, S, _, s3, d, sto', by unfold pick; rw [List.length_map]; exact hpl', w2, rpa_pick pp perm, q, fun v H' F' rs => z v H' F' (rs.later (y1.trans y2) w2)⟩
/-- f(e), e gives a token out -/
theorem jp_calQ {x : Str} {st : Stmt} {ps : List Str} {F : FnD} {perm : List Nat} {l : Nat} (C : CalT X.prog X.w X.K X.mg X.base x st ps j F k) (hj : j ≤ l) (hr : Room l X.A) (hgu : X.A.guards = some [])
    (hb : ∀ (kV doc pm : Value) (an : Option Addr) (cdv ct : Value) (us ws : List Value), us.length = 1 → ws.length = ([] : List Str).length → bindArgs (PySem.W.fnOf x x (defArgs st) (defBody st) (defScope st) .none kV doc pm an cdv ct) ⟨us, ([] : List Str).zip ws⟩ = pure (ps.zip (pick Value.none perm (us ++ ws))))
    (ha : JA X [e] fs 0) (tk : Tk (model X.prog X.w) (eval e X.env)) (hfl : ∀ vw s d s', fs vw s = some (d, s') → d.length = 1) (hg : Gl X x := by rfl)
    (hpl' : perm.length = ps.length := by rfl)
    (hdb : (x == ("__debug__" : Str)) = false := by decide) (he : starEach [e] X.env = (false, eval e X.env) :: starEach [] X.env := by rfl)
    (hpl : ((backTo pos (starEach [e] X.env)).any (·.1) || (backToKw pos (keywordEach [] X.env)).any (·.1.isNone)) = false := by rfl) :
    JP X (.Call (.Name x p) [e] [] pos) (eCall F perm (aApp fs aN)) k := fun A S σ H vw sto d sto' Q w r q z => by
  obtain ⟨fa, fd, h1, h2, h3⟩ := C
  unfold eCall aApp at q
  obtain ⟨⟨xs, s1⟩, e1, q⟩ := bind_some' q
  obtain ⟨⟨x1, s2⟩, e2, e1⟩ := bind_some' e1
  obtain ⟨⟨x2, s3⟩, e3, e1⟩ := map_some' e1
  cases e1
  intro pins s I
  refine wpAny_Call_Name_kw (ld_glob I hg h2 ?_ hdb)
  refine PySem.W.callWith_KW (h₀ := X.base) I.ok.mod.kin h1.kp (by rfl) (thn ((tk_arg tk he).any (ha.use (Q := fun vs H1 => Ext S H H1 ∧ Wd X.K S A H1 s2 ∧ RdV X.K S A σ H1 vw ∧ RpA X.K S (hid A H1) vs x1) w r e2 (fun vs H1 x1 w1 r1 p1 => ⟨x1, w1, r1, p1⟩) pos pins s I)) fun us t1 hq => ?_) hpl he
  obtain ⟨ht1, vs, H1, I1, rv, y1, w1, r1, p1⟩ := hq
  refine thnT ht1 (jk_nil A S σ H1 vw s2 x2 _ (fun zs H2 => Ext S H1 H2 ∧ Wd X.K S A H2 s3 ∧ RpA X.K S (hid A H2) zs x2) w1 r1 e3 (fun zs H2 y2 w2 p2 => ⟨y2, w2, p2⟩) pos pins t1 I1) fun ws t2 ht2 hq => ?_
  obtain ⟨zs, H2, I2, rz, y2, w2, p2⟩ := hq
  refine ⟨I2.kIn, ?_⟩
  have l1 : vs.length = 1 := by rw [p1.length]; exact hfl _ _ _ _ e2
  have l2 : zs.length = ([] : List Str).length := by rw [p2.length]; exact len_aN _ _ _ _ e3
  have pp : RpA X.K S (hid A H2) (vs ++ zs) (x1 ++ x2) := (p1.le (hid_move y2 w1.hS fun a h => .inl h)).append p2
  exact run_ft (h3.mono hj) ht2 hr hgu (kbn_of perm h1 hb) I2 rv rz l1 l2 ⟨A, S, _, s3, d, sto', by unfold pick; rw [List.length_map]; exact hpl', w2, rpa_pick pp perm, q, fun v H' F' rs => z v H' F' (rs.later (y1.trans y2) w2)⟩
/-- f(k = e), e gives a token out -/
theorem jp_calQ0 {x : Str} {st : Stmt} {ps ks : List Str} {F : FnD} {perm : List Nat} {l : Nat} {nm : Option Str} {kp : Pos} (C : CalT X.prog X.w X.K X.mg X.base x st ps j F k) (hj : j ≤ l) (hr : Room l X.A) (hgu : X.A.guards = some [])
    (hb : ∀ (kV doc pm : Value) (an : Option Addr) (cdv ct : Value) (us ws : List Value), us.length = 0 → ws.length = ks.length → bindArgs (PySem.W.fnOf x x (defArgs st) (defBody st) (defScope st) .none kV doc pm an cdv ct) ⟨us, ks.zip ws⟩ = pure (ps.zip (pick Value.none perm (us ++ ws))))
    (hkw : JK X [⟨nm, e, kp⟩] gs) (tk : Tk (model X.prog X.w) (eval e X.env)) (hgl : ∀ vw s d s', gs vw s = some (d, s') → d.length = ks.length) (hg : Gl X x := by rfl)
    (hpl' : perm.length = ps.length := by rfl)
    (hall : (backToKw pos (keywordEach [⟨nm, e, kp⟩] X.env)).all (·.1.isSome) = true := by rfl) (hks : (backToKw pos (keywordEach [⟨nm, e, kp⟩] X.env)).filterMap (·.1) = ks := by rfl)
    (hdb : (x == ("__debug__" : Str)) = false := by decide)
    (hpl : ((backTo pos (starEach [] X.env)).any (·.1) || (backToKw pos (keywordEach [⟨nm, e, kp⟩] X.env)).any (·.1.isNone)) = false := by rfl) :
    JP X (.Call (.Name x p) [] [⟨nm, e, kp⟩] pos) (eCall F perm gs) k := fun A S σ H vw sto d sto' Q w r q z => by
  obtain ⟨fa, fd, h1, h2, h3⟩ := C
  unfold eCall at q
  obtain ⟨⟨x2, s3⟩, e3, q⟩ := bind_some' q
  intro pins s I
  refine wpAny_Call_Name_kw (ld_glob I hg h2 ?_ hdb)
  refine PySem.W.callWith_KW0 (h₀ := X.base) I.ok.mod.kin h1.kp hall ?_ hpl
  refine thn ((tk_kw tk).any (hkw A S σ H vw sto x2 _ (fun zs H2 => Ext S H H2 ∧ Wd X.K S A H2 s3 ∧ RpA X.K S (hid A H2) zs x2) w r e3 (fun zs H2 y2 w2 p2 => ⟨y2, w2, p2⟩) pos pins s I)) fun ws t2 hq => ?_
  obtain ⟨ht2, zs, H2, I2, rz, y2, w2, p2⟩ := hq
  refine ⟨I2.kIn, ?_⟩
  rw [hks]
  have l2 : zs.length = ks.length := by rw [p2.length]; exact hgl _ _ _ _ e3
  exact run_ft (vs := []) (us := []) (h3.mono hj) ht2 hr hgu (kbn_of perm h1 hb) I2 .nil rz rfl l2 ⟨A, S, _, s3, d, sto', by unfold pick; rw [List.length_map]; exact hpl', w2, rpa_pick (by rw [List.nil_append]; exact p2) perm, q, fun v H' F' rs => z v H' F' (rs.later y2 w2)⟩
end
end J
namespace J
open PySem PySem.Spec PyProof.Rows L2
section
variable {Z : List Addr → Prop} {X : Cx} {e a b c b1 b2 : Expr} {f g f1 f2 : Ev} {ga gb : Sv} {t : EvT} {j k i : Nat} {n1 n2 : Int} {d : D} {pos p apos cpos sp1 sp2 : Pos} {x : Str} {M : List Nat}
/-! ### return a if c else b -/
theorem ret_inv {M : Model} {A : Around} {env : PySem.Env} {Q : Flow → Shared → Prop} {E : Value → Shared → Prop} {s : Shared} (h : ∀ pos, wpAny M A (exec (.Return (some a) pos) env) Q E s) : wpAny M A (eval a env) (fun v => Q (.ret v)) E s := fun Γ p hΓ => by
  have := h p Γ p hΓ
  simp only [exec_Return_some, Sem.wp_bind', Sem.wp_cmd_standAt, Sem.wp_pure'] at this
  exact this
/-! ### x[n1][n2].append(d), written things -/
def sAppC2 (i : Nat) (n1 n2 : Int) (d : D) : Sv := fun env s => match env[i]? with
  | some (.ow 3 (.list ds)) => (ixN ds.length n1).bind fun m1 => match ds[m1]? with
    | some (.list es) => (ixN es.length n2).bind fun m2 => match es[m2]? with
      | some (.list qs) => if qs.length < 16777216 ∧ isScal d = true then some (.nx, env.set i (.ow 3 (.list (ds.set m1 (.list (es.set m2 (.list (qs ++ [d]))))))), s) else none
      | _ => none
    | _ => none
  | _ => none
theorem ev_split {α : Type} {us : List α} {m : Nat} {x : α} (h : us[m]? = some x) : us = us.take m ++ (x :: us.drop (m + 1)) := by
  have hm := (List.getElem?_eq_some_iff.mp h).1
  have := set_split us m x hm
  rw [← this]
  apply List.ext_getElem?
  intro l
  rw [List.getElem?_set]
  by_cases c : m = l
  · subst c
    rw [if_pos rfl, h, if_pos hm]
  · rw [if_neg c]
theorem js_appC2 (h1 : JP X b1 f1 0) (c1 : ∀ vw s, f1 vw s = some (.int n1, s)) (h2 : JP X b2 f2 0) (c2 : ∀ vw s, f2 vw s = some (.int n2, s)) (he : JP X e g 0) (c3 : ∀ vw s, g vw s = some (d, s)) (hi : X.N[i]? = some x) (hx : Vis X.env.scope x) (hs1 : PlainIx b1) (hs2 : PlainIx b2) (hdb : (x == Str.ofString "__debug__") = false := by decide) (hcd : (x == Str.ofString "__classdict__") = false := by decide)
    (hbase : attributeBase (.Subscript (.Subscript (.Name x p) b1 sp1) b2 sp2) "append" X.env (eval (.Subscript (.Subscript (.Name x p) b1 sp1) b2 sp2) X.env) = eval (.Subscript (.Subscript (.Name x p) b1 sp1) b2 sp2) X.env := by rfl)
    (hfew : ((backTo cpos (starEach [e] X.env)).all (fun x => !x.1) && (backToKw cpos (keywordEach [] X.env)).all (fun x => x.1.isSome) && decide ([e].length + ([] : List Keyword).length + (if ([] : List Keyword).isEmpty then 0 else 1) < 30)) = true := by rfl)
    (hline : (apos.endLine == cpos.line) = true := by rfl) (hs : starEach [e] X.env = (false, eval e X.env) :: starEach [] X.env := by rfl) (hsw : swapsWith (.Call (.Attribute (.Subscript (.Subscript (.Name x p) b1 sp1) b2 sp2) "append" apos) [e] [] cpos) none pos.line X.env = pure false := by rfl) :
    JS Z X (.Expr (.Call (.Attribute (.Subscript (.Subscript (.Name x p) b1 sp1) b2 sp2) "append" apos) [e] [] cpos) pos) (sAppC2 i n1 n2 d) k := fun C S0 S A0 H0 σ H env sto Fs o env' sto' E hZ r q z => by
  unfold sAppC2 at q
  split at q
  case h_2 => cases q
  rename_i ds hsl
  obtain ⟨m1, hm1, q⟩ := bind_some' q
  split at q
  case h_2 => cases q
  rename_i es hes
  obtain ⟨m2, hm2, q⟩ := bind_some' q
  split at q
  case h_2 => cases q
  rename_i qs hqs
  split at q
  case isFalse => cases q
  rename_i hlen
  obtain ⟨hlen, hsc⟩ := hlen
  cases q
  have hlt : i < env.length := (List.getElem?_eq_some_iff.mp hsl).1
  have nil : ∀ {H1 : Hp}, RdV X.K S (hd S Fs A0) σ H1 [] := fun {H1} => ⟨Nat.zero_le _, fun i d h => nomatch h⟩
  obtain ⟨u, e2, ow⟩ := r.sl i _ hsl
  obtain ⟨a0, vs, F0, rfl, eF, e3, ow0⟩ := ow.lstI
  obtain ⟨v1, G1, Gj, G2, g1, g2, g3, g4, g5⟩ := ow0.split hes
  obtain ⟨a1, us, K0, rfl, rfl, e4, ow1⟩ := g4.lstI
  obtain ⟨v2, L1, Lj, L2, l1, l2, l3, l4, l5⟩ := ow1.split hqs
  obtain ⟨a2, ws, K1, rfl, rfl, e5, ow2⟩ := l4.lstI
  have hvl := ow0.length
  have hul := ow1.length
  have hwl := ow2.length
  have nd0 := r.nd i
  have i0 : a0 ∈ Fs i := by rw [eF]; exact List.mem_cons_self
  have i1 : a1 ∈ Fs i := by rw [eF, g2]; exact List.mem_cons_of_mem _ (List.mem_append_right _ (List.mem_append_left _ List.mem_cons_self))
  have i2 : a2 ∈ Fs i := by rw [eF, g2, l2]; exact List.mem_cons_of_mem _ (List.mem_append_right _ (List.mem_append_left _ (List.mem_cons_of_mem _ (List.mem_append_right _ (List.mem_append_left _ List.mem_cons_self)))))
  refine wpS.by (ps_expr (pe_bm PySem.F.plainAttrs_list PySem.F.slot_list_append rfl mt_append (pe_ix ix_list (pe_ix ix_list (pe_var hi hx hdb hcd) wpE_pe hs1) wpE_pe hs2) (pa_cons wpE_pe pa_nil hs) hbase hfew hline hs rfl) hsw) ?_
  refine ⟨_, e2, h1.use (vw := []) r.wd nil (c1 [] sto) fun vi H1 x1 w1 _ p1 => ?_⟩
  have at1 : atI vs n1 = some (.ref a1) := by unfold atI; rw [hvl, hm1]; exact g1
  have at2 : atI us n2 = some (.ref a2) := by unfold atI; rw [hul, hm2]; exact l1
  refine ⟨a0, vs, n1, .ref a1, rfl, p1.intI, .of (x1 a0 _ (r.ns i a0 i0) e3), at1, h2.use (vw := []) w1 nil (c2 [] sto) fun vj H2 x2 w2 _ p2 => ?_⟩
  have x12 := x1.trans x2
  refine ⟨a1, us, n2, .ref a2, rfl, p2.intI, .of (x12 a1 _ (r.ns i a1 i1) e4), at2, .inl ⟨rfl, ws, .of (x12 a2 _ (r.ns i a2 i2) e5)⟩, he.use (vw := []) w2 nil (c3 [] sto) fun v H3 x3 w3 _ p3 => ?_⟩
  have x13 := x12.trans x3
  have rr : Sr X.K C S0 S A0 H0 σ H3 env sto Fs := r.go x13 w3
  have e5' : H3 a2 = some (.lst ws) := x13 a2 _ (r.ns i a2 i2) e5
  refine ⟨a2, ws, v, rfl, rfl, e5', by rw [sizeLine_eq]; omega, ?_⟩
  have hB : hd S Fs A0 a2 := .inl ⟨i, i2⟩
  have r4 := rr.mut (i := i) (F := Fs i) (ov := some (.ref a0)) (s := .ow 3 (.list (ds.set m1 (.list (es.set m2 (.list (qs ++ [d]))))))) (H' := upd H3 a2 (.lst (ws ++ [v]))) (sto' := sto) hlt ?_ ?_ ?_ ?_ ?_
  · rw [set_same e2] at r4
    exact z S _ _ _ r4
  · intro c o hcS hn hc
    rw [upd_ne (fun q : c = a2 => hn (q ▸ i2))]
    exact hc
  · have w4 := rr.wd.upd (o := .lst (ws ++ [v])) hB (rr.ns i a2 i2) ⟨_, e5'⟩
    refine w4.less (fun c h => ?_) (fun a e => Or.inr (Or.inr (Or.inr e)))
    rcases h with h | h
    · exact .inl ⟨i, h⟩
    · exact h
  · exact rr.nd i
  · exact fun c hc => .inr hc
  · refine ⟨.ref a0, rfl, ?_⟩
    have sub : ∀ c, hd S (setF Fs i (Fs i)) A0 c → hd S Fs A0 c := fun c h => by
      rcases hd_set rr c h with h | h
      · exact .inl ⟨i, h⟩
      · exact h
    have hu : hid (hd S Fs A0) (upd H3 a2 (.lst (ws ++ [v]))) = hid (hd S Fs A0) H3 := hid_upd hB
    have s1 : Same (hid (hd S Fs A0) H) (hid (hd S Fs A0) H3) := hid_move x13 r.wd.hS fun c h => .inl h
    have s2 : Same (hid (hd S Fs A0) H) (hid (hd S (setF Fs i (Fs i)) A0) (upd H3 a2 (.lst (ws ++ [v])))) := fun c o q => hid_le sub c o (by rw [hu]; exact s1 c o q)
    have keep : ∀ c ∈ Fs i, c ≠ a2 → ∀ o, H c = some o → upd H3 a2 (.lst (ws ++ [v])) c = some o := fun c hc hn o q => by
      rw [upd_ne hn]
      exact x13 c o (r.ns i c hc) q
    rw [eF, g2, l2] at nd0
    have inn : ∀ c ∈ a0 :: (G1 ++ ((a1 :: (L1 ++ ((a2 :: K1) ++ L2))) ++ G2)), c ∈ Fs i := fun c hc => by rw [eF, g2, l2]; exact hc
    obtain ⟨na0, nd1⟩ := List.nodup_cons.mp nd0
    obtain ⟨_, nd2, ndx⟩ := List.nodup_append.mp nd1
    obtain ⟨nd3, _, ndy⟩ := List.nodup_append.mp nd2
    obtain ⟨na1, nd4⟩ := List.nodup_cons.mp nd3
    obtain ⟨_, nd5, ndz⟩ := List.nodup_append.mp nd4
    obtain ⟨nd6, _, ndw⟩ := List.nodup_append.mp nd5
    obtain ⟨na2, _⟩ := List.nodup_cons.mp nd6
    have m2a : a2 ∈ (a2 :: K1) ++ L2 := List.mem_append_left _ List.mem_cons_self
    have m2b : a2 ∈ a1 :: (L1 ++ ((a2 :: K1) ++ L2)) := List.mem_cons_of_mem _ (List.mem_append_right _ m2a)
    have n02 : a0 ≠ a2 := fun c => na0 (by rw [c]; exact List.mem_append_right _ (List.mem_append_left _ m2b))
    have n12 : a1 ≠ a2 := fun c => na1 (by rw [c]; exact List.mem_append_right _ m2a)
    have o1 := g3.mv s2 fun c hc o q => keep c (inn c (List.mem_cons_of_mem _ (List.mem_append_left _ hc))) (fun e => ndx c hc a2 (List.mem_append_left _ m2b) e) o q
    have o2 := g5.mv s2 fun c hc o q => keep c (inn c (List.mem_cons_of_mem _ (List.mem_append_right _ (List.mem_append_right _ hc)))) (fun e => ndy a2 m2b c hc e.symm) o q
    have o3 := l3.mv s2 fun c hc o q => keep c (inn c (List.mem_cons_of_mem _ (List.mem_append_right _ (List.mem_append_left _ (List.mem_cons_of_mem _ (List.mem_append_left _ hc)))))) (fun e => ndz c hc a2 m2a e) o q
    have o4 := l5.mv s2 fun c hc o q => keep c (inn c (List.mem_cons_of_mem _ (List.mem_append_right _ (List.mem_append_left _ (List.mem_cons_of_mem _ (List.mem_append_right _ (List.mem_append_right _ hc))))))) (fun e => ndw a2 List.mem_cons_self c hc e.symm) o q
    have o5 := ow2.mv s2 fun c hc o q => keep c (inn c (List.mem_cons_of_mem _ (List.mem_append_right _ (List.mem_append_left _ (List.mem_cons_of_mem _ (List.mem_append_right _ (List.mem_append_left _ (List.mem_cons_of_mem _ hc)))))))) (fun e => na2 (e ▸ hc)) o q
    have o6 : OwA X.K S (hd S (setF Fs i (Fs i)) A0) (upd H3 a2 (.lst (ws ++ [v]))) 0 [v] [d] [] := .zero (.cons (scal_rp hsc p3) .nil)
    have o7 := o5.append o6
    rw [List.append_nil] at o7
    have o8 := o3.append (.cons (.lst upd_same o7) o4)
    rw [← ev_split l1] at o8
    have o9 := o1.append (.cons (.lst (by rw [upd_ne n12]; exact x13 a1 _ (r.ns i a1 i1) e4) o8) o2)
    rw [← ev_split g1] at o9
    rw [set_split ds m1 _ (List.getElem?_eq_some_iff.mp hes).1, set_split es m2 _ (List.getElem?_eq_some_iff.mp hqs).1]
    generalize setF Fs i (Fs i) = F4 at o9
    rw [eF, g2, l2]
    exact .lst (by rw [upd_ne n02]; exact x13 a0 _ (r.ns i a0 i0) e3) o9
end
end J
namespace J
open PySem PySem.Spec PyProof.Rows L2
section
variable {Z : List Addr → Prop} {X : Cx} {a b c : Expr} {ga gb : Sv} {t : EvT} {k : Nat} {pos p : Pos}
/-- return a if c else b, the test told in a world without store -/
theorem js_retIfP {M : List Nat} (hc : JT X c t) (ha : ∀ pos, JS Z X (.Return (some a) pos) ga k) (hb : ∀ pos, JS Z X (.Return (some b) pos) gb k) : JS Z X (.Return (some (.IfExp c a b p)) pos) (sIfP M t ga gb) k := fun C S0 S A0 H0 σ H env sto Fs o env' sto' E hZ r q z => by
  unfold sIfP at q
  obtain ⟨⟨bb, s1⟩, q1, q⟩ := bind_some' q
  cases s1 with
  | cons _ _ => cases q
  | nil =>
    have w := r.wdM M
    have rd := r.rdM M
    have w1 : Wd X.K [] (hdM S M Fs A0) H [] := ⟨w.alt, (fun a h => absurd h List.not_mem_nil), .nil, rfl, fun m a c h1 _ => by simp at h1⟩
    have r1 : RdV X.K [] (hdM S M Fs A0) σ H ((see M env).map noTk) := by
      refine ⟨by rw [List.length_map]; exact rd.1, fun m dm hm => ?_⟩
      obtain ⟨h1, h2⟩ := noTk_some hm
      obtain ⟨v, hv, p⟩ := rd.2 m dm h1
      exact ⟨v, hv, Rp.shrink (S := []) (T := S) p h2⟩
    intro pins s I
    refine wpAny_Return_some (wpAny_IfExp (thn (hc _ [] σ H _ [] bb [] (fun b' H' => b' = bb ∧ Sr X.K C S0 S A0 H0 σ H' env sto Fs) w1 r1 q1 (fun H' x w2 => ⟨rfl, ?_⟩) pins s I) fun b' t1 hq => ?_))
    · have sm : Same H H' := fun a o h => x a o List.not_mem_nil h
      exact r.go (Ext.of sm) (r.wd.grow sm (fun a h => .inl h) fun a h => h)
    · obtain ⟨H1, I1, e1, r1⟩ := hq
      subst e1
      cases b' with
      | true => exact ret_inv fun pos => ha pos C S0 S A0 H0 σ H1 _ sto Fs o env' sto' E hZ r1 (by simpa using q) z pins t1 I1
      | false => exact ret_inv fun pos => hb pos C S0 S A0 H0 σ H1 _ sto Fs o env' sto' E hZ r1 (by simpa using q) z pins t1 I1
end
end J
namespace J
open PySem PySem.Spec PyProof.Rows L2
section
variable {X : Cx} {a b : Expr} {rest : List Expr} {f g : Ev} {k : Nat} {pos : Pos}
/-! ### one text within another -/
def dNotInS : D → D → Option D
  | .str i, .str j => some (.bool (!(!(Builtin.Str.occurrences j i 0 j.length 1).isEmpty)))
  | _, _ => none
theorem oj_notInS : OpJ X (compareOp .NotIn) dNotInS k := fun d1 d2 d h => by
  unfold dNotInS at h
  split at h
  · cases h
    exact ⟨_, op_notin_str, fun A S H sto x y Q w p1 p2 z => ⟨_, _, p1.strI, p2.strI, z _ _ [] (.atom w (atomic_bool _) (.bl _))⟩⟩
  · cases h
/-! ### a or b, where a is a list -/
def eOrL (f g : Ev) : Ev := fun vw s => (f vw s).bind fun p => match p.1 with
  | .list [] => g vw p.2
  | .list (d :: ds) => some (.list (d :: ds), p.2)
  | _ => none
theorem jp_orL (ha : JP X a f 0) (hb : JP X (.BoolOp .Or (b :: rest) pos) g 0) : JP X (.BoolOp .Or (a :: b :: rest) pos) (eOrL f g) 0 := fun A S σ H vw sto d sto' Q w r q z => by
  unfold eOrL at q
  obtain ⟨⟨x, s1⟩, e1, q⟩ := bind_some' q
  refine wpE.by (pe_orT wpE_pe wpE_pe) (ha.use w r e1 fun v H1 x1 w1 r1 p1 => ?_)
  simp only at q
  split at q
  · obtain ⟨l, xs, rfl, r2, q2⟩ := p1.lstI
    refine ⟨false, .inl ⟨xs, .inl r2.out, ?_⟩, ?_⟩
    · cases q2
      rfl
    · rw [if_neg Bool.false_ne_true]
      exact hb A S σ H1 vw s1 d sto' Q w1 r1 q fun v' H' F rs => z v' H' F (rs.later x1 w1)
  · cases q
    have p2 := p1
    obtain ⟨l, xs, rfl, r2, q2⟩ := p1.lstI
    refine ⟨true, .inl ⟨xs, .inl r2.out, ?_⟩, ?_⟩
    · cases q2
      rfl
    · rw [if_pos rfl]
      exact z _ _ [] ((Res.shared w1 p2).after x1 noF)
  · cases q
end
end J
namespace K50
open PySem PySem.Spec PyProof.Rows L2 J
def topS (i : Nat) : Stmt := PySem.Challenge.pw_twopartings_k50_texts_written_and_read.main.body.getD i (.Pass ⟨0, 0, 0, 0⟩)
abbrev s_is_integer : Stmt := topS 5
theorem sc_is_integer : FnScope ["thing"] ["thing"] (defScope s_is_integer) := ⟨rfl, rfl, rfl, by decide +kernel, rfl, by decide +kernel, by decide +kernel⟩
def b_is_integer : Sv := (sSeq (sRet [] (eAnd (eUn (dIsi "int") (eVar 0)) (eUn dNot (eUn (dIsi "bool") (eVar 0)))))
    sNil)
def F_is_integer : FnD := fnD 1 b_is_integer
theorem ok_is_integer {P : Program} {w : World} {K : PySem.W.Frag} {mg : Str → Option Value} {base : Heap} (D : Dfn K mg "is_integer" s_is_integer)
    (z_bool : mg "bool" = none)
    (z_int : mg "int" = none)
    (z_isinstance : mg "isinstance" = none) :
    Cal P w K mg base "is_integer" s_is_integer ["thing"] 1 F_is_integer 0 := by
    refine cal_def D sc_is_integer fun f cdv A outer s H hr hg => ?_
    unfold b_is_integer
    refine jss_cons ?_ jss_nil
    refine js_ret (M := []) ?_
    refine jp_and ?_ ?_
    · refine jp_isi ist_int (jv 0) ?_ ?_ ?_ ?_ ?_
      · rfl
      · exact z_isinstance
      · rfl
      · exact z_int
      · decide +kernel
    · refine jp_one ?_
      refine jp_not ?_
      refine jp_isi ist_bool (jv 0) ?_ ?_ ?_ ?_ ?_
      · rfl
      · exact z_isinstance
      · rfl
      · exact z_bool
      · decide +kernel
abbrev s_is_row : Stmt := topS 6
theorem sc_is_row : FnScope ["many", "thing", "one", "other", "item"] ["many", "thing"] (defScope s_is_row) := ⟨rfl, rfl, rfl, by decide +kernel, rfl, by decide +kernel, by decide +kernel⟩
def c_is_row_1 : Ev := (eComp (iVal (eVar 1)) (bN 4) tY (eAnd (eCall F_is_integer [0] (aApp (aC (eVar 4) aN) aN)) (eChain dLe dLt (eC (.int 0)) (eVar 4) (eVar 0))) [4])
def c_is_row_2 : Ev := (eComp (iB (fun x y => (isLst x).bind fun ds => (isLst y).map fun es => ziD ds es) (eVar 1) (eSl (eVar 1) (oS (eC (.int 1))) oN)) (bT2 2 3) tY (eBin dLt (eVar 2) (eVar 3)) [2, 3])
def b_is_row : Sv := (sSeq (sIf [] (oT (nT (bT (eUn (dIsi "list") (eVar 1)))) (nT (bT (eOp cAll (aC c_is_row_1 aN)))))
    (sSeq (sRet [] (eC (.bool false)))
    sNil)
    sNil)
    (sSeq (sRet [] (eOp cAll (aC c_is_row_2 aN)))
    sNil))
def F_is_row : FnD := fnD 5 b_is_row
theorem ok_is_row {P : Program} {w : World} {K : PySem.W.Frag} {mg : Str → Option Value} {base : Heap} (D : Dfn K mg "is_row" s_is_row)
    (q_is_integer : Cal P w K mg base "is_integer" s_is_integer ["thing"] 1 F_is_integer 0)
    (z_all : mg "all" = none)
    (z_isinstance : mg "isinstance" = none)
    (z_list : mg "list" = none)
    (z_zip : mg "zip" = none) :
    Cal P w K mg base "is_row" s_is_row ["many", "thing"] 2 F_is_row 0 := by
    refine cal_def D sc_is_row fun f cdv A outer s H hr hg => ?_
    unfold b_is_row
    refine jss_cons ?_ ?_
    · refine js_if (M := []) ?_ ?_ jss_nil
      · refine jt_pw ?_
        refine jw_or ?_ ?_
        · refine jt_not ?_
          refine jt_val ?_ ?_
          · refine jp_isi ist_list (jv 1) ?_ ?_ ?_ ?_ ?_
            · rfl
            · exact z_isinstance
            · rfl
            · exact z_list
            · decide +kernel
          · exact fun _ => rfl
        · refine jw_or1 ?_
          refine jt_not ?_
          refine jt_val ?_ ?_
          · refine jp_callB (cj_all ?_) ?_ ?_ ?_ ?_
            · rfl
            · rfl
            · exact z_all
            · decide +kernel
            · refine ja_cons ?_ ja_nil
              refine @JP.zero _ _ _ 1 ?_
              refine jp_comp (own := [("item", 4)]) ?_ ?_ ?_ ?_ ?_ jts_nil (fun _ _ _ _ _ => ?_) ho_n ?_
              · rfl
              · exact sc_is_row.nd
              · exact ji_val (jv 1)
              · refine blkOk_by (N := ["many", "thing", "one", "other", "item"]) (sc := defScope s_is_row) ?_
                decide +kernel
              · refine jg_n ?_ ?_ ?_
                · exact sc_is_row.nd
                · rfl
                · exact fun _ _ _ _ _ => .inl rfl
              · refine jp_and ?_ ?_
                · refine jp_cal (st := s_is_integer) (ps := ["thing"]) (n := 1) (ks := []) (perm := [0]) (j := 1) (l := 1) ?_ ?_ ?_ ?_ ?_ ?_ (len_aC len_aN) jk_nil len_aN
                  · exact q_is_integer
                  · omega
                  · exact hr
                  · exact hg
                  · exact fun _ _ _ _ _ _ us ws h1 h2 => match us, ws, h1, h2 with | [_], [], _, _ => rfl
                  · exact ja_cons (jv 4) ja_nil
                · refine jp_one ?_
                  refine jp_chain oj_le (oj_lt ?_) jp_int (jv 4) (jv 0) ?_
                  · exact u64 hr
                  · rfl
              · exact fun _ => rfl
          · exact fun _ => rfl
      · refine jss_cons ?_ jss_nil
        exact js_ret (M := []) jp_bl
    · refine jss_cons ?_ jss_nil
      refine js_ret (M := []) ?_
      refine jp_callB (cj_all ?_) ?_ ?_ ?_ ?_
      · rfl
      · rfl
      · exact z_all
      · decide +kernel
      · refine ja_cons ?_ ja_nil
        refine @JP.zero _ _ _ 1 ?_
        refine jp_comp (own := [("one", 2), ("other", 3)]) ?_ ?_ ?_ ?_ ?_ jts_nil (fun _ _ _ _ _ => ?_) ho_t ?_
        · rfl
        · exact sc_is_row.nd
        · refine ji_zip (jv 1) ?_ ?_ ?_
          · refine @JP.zero _ _ _ 1 ?_
            refine jp_slice (jv 1) ?_ jo_none
            exact jo_some jp_int
          · rfl
          · exact z_zip
        · refine blkOk_by (N := ["many", "thing", "one", "other", "item"]) (sc := defScope s_is_row) ?_
          decide +kernel
        · refine jg_t ?_ ?_ ?_ ?_ ?_
          · exact sc_is_row.nd
          · rfl
          · rfl
          · exact fun _ _ _ _ _ => .inl rfl
          · exact fun _ _ _ _ _ => .inl rfl
        · refine jp_cmp (oj_lt ?_) (jv 2) (jv 3) (nomark _)
          exact u64 hr
        · exact fun _ => rfl
abbrev s_is_group : Stmt := topS 7
theorem sc_is_group : FnScope ["many", "thing"] ["many", "thing"] (defScope s_is_group) := ⟨rfl, rfl, rfl, by decide +kernel, rfl, by decide +kernel, by decide +kernel⟩
def b_is_group : Sv := (sSeq (sRet [] (eAnd (eCall F_is_row [0, 1] (aApp (aC (eVar 0) (aC (eVar 1) aN)) aN)) (eBin dGt (eOp cLen (aC (eVar 1) aN)) (eC (.int 1)))))
    sNil)
def F_is_group : FnD := fnD 2 b_is_group
theorem ok_is_group {P : Program} {w : World} {K : PySem.W.Frag} {mg : Str → Option Value} {base : Heap} (D : Dfn K mg "is_group" s_is_group)
    (q_is_row : Cal P w K mg base "is_row" s_is_row ["many", "thing"] 2 F_is_row 0)
    (z_len : mg "len" = none) :
    Cal P w K mg base "is_group" s_is_group ["many", "thing"] 3 F_is_group 0 := by
    refine cal_def D sc_is_group fun f cdv A outer s H hr hg => ?_
    unfold b_is_group
    refine jss_cons ?_ jss_nil
    refine js_ret (M := []) ?_
    refine jp_and ?_ ?_
    · refine jp_cal (st := s_is_row) (ps := ["many", "thing"]) (n := 2) (ks := []) (perm := [0, 1]) (j := 2) (l := 2) ?_ ?_ ?_ ?_ ?_ ?_ (len_aC (len_aC len_aN)) jk_nil len_aN
      · exact q_is_row
      · omega
      · exact hr
      · exact hg
      · exact fun _ _ _ _ _ _ us ws h1 h2 => match us, ws, h1, h2 with | [_, _], [], _, _ => rfl
      · refine ja_cons (jv 0) ?_
        exact ja_cons (jv 1) ja_nil
    · refine jp_one ?_
      refine jp_cmp oj_gt ?_ jp_int (nomark _)
      refine jp_callB cj_len ?_ ?_ ?_ ?_
      · rfl
      · exact z_len
      · decide +kernel
      · exact ja_cons (jv 1) ja_nil
abbrev s_lies_in : Stmt := topS 8
theorem sc_lies_in : FnScope ["inner", "group", "person"] ["inner", "group"] (defScope s_lies_in) := ⟨rfl, rfl, rfl, by decide +kernel, rfl, by decide +kernel, by decide +kernel⟩
def c_lies_in_1 : Ev := (eComp (iVal (eVar 0)) (bN 2) tY (eBin dIn (eVar 2) (eVar 1)) [2])
def b_lies_in : Sv := (sSeq (sRet [] (eOp cAll (aC c_lies_in_1 aN)))
    sNil)
def F_lies_in : FnD := fnD 3 b_lies_in
theorem ok_lies_in {P : Program} {w : World} {K : PySem.W.Frag} {mg : Str → Option Value} {base : Heap} (D : Dfn K mg "lies_in" s_lies_in)
    (z_all : mg "all" = none) :
    Cal P w K mg base "lies_in" s_lies_in ["inner", "group"] 1 F_lies_in 0 := by
    refine cal_def D sc_lies_in fun f cdv A outer s H hr hg => ?_
    unfold b_lies_in
    refine jss_cons ?_ jss_nil
    refine js_ret (M := []) ?_
    refine jp_callB (cj_all ?_) ?_ ?_ ?_ ?_
    · rfl
    · rfl
    · exact z_all
    · decide +kernel
    · refine ja_cons ?_ ja_nil
      refine @JP.zero _ _ _ 1 ?_
      refine jp_comp (own := [("person", 2)]) ?_ ?_ ?_ ?_ ?_ jts_nil (fun _ _ _ _ _ => ?_) ho_n ?_
      · rfl
      · exact sc_lies_in.nd
      · exact ji_val (jv 0)
      · refine blkOk_by (N := ["inner", "group", "person"]) (sc := defScope s_lies_in) ?_
        decide +kernel
      · refine jg_n ?_ ?_ ?_
        · exact sc_lies_in.nd
        · rfl
        · exact fun _ _ _ _ _ => .inl rfl
      · refine jp_cmp (oj_in ?_) (jv 2) (jv 1) ?_
        · exact u65 hr
        · rfl
      · exact fun _ => rfl
abbrev s_parts_in : Stmt := topS 9
theorem sc_parts_in : FnScope ["parting", "group", "first", "other", "person"] ["parting", "group"] (defScope s_parts_in) := ⟨rfl, rfl, rfl, by decide +kernel, rfl, by decide +kernel, by decide +kernel⟩
def l_parts_in_1 : Sv := (sSeq (sIf [] (aT (bT (eChain dLt dLt (eOp cLen (aC (eVar 2) aN)) (eOp cLen (aC (eVar 3) aN)) (eOp cLen (aC (eVar 1) aN)))) (bT (eBin dIn (eIdx (eVar 1) (eC (.int 0))) (eVar 3))))
    (sSeq (sSet 2 0 [] (eOp cList (aC (eVar 3) aN)))
    sNil)
    sNil)
    sNil)
def c_parts_in_1 : Ev := (eComp (iVal (eVar 1)) (bN 4) (bT (eBin dNotIn (eVar 4) (eVar 2))) (eVar 4) [4])
def b_parts_in : Sv := (sSeq (sSet 2 0 [] (eSl (eVar 1) oN (oS (eC (.int 1)))))
    (sSeq (sFor [] (iVal (eVar 0)) (bN 3)
    l_parts_in_1)
    (sSeq (sRet [] (eLst (aC (eVar 2) (aC c_parts_in_1 aN))))
    sNil)))
def F_parts_in : FnD := fnD 5 b_parts_in
theorem ok_parts_in {P : Program} {w : World} {K : PySem.W.Frag} {mg : Str → Option Value} {base : Heap} (D : Dfn K mg "parts_in" s_parts_in)
    (z_len : mg "len" = none)
    (z_list : mg "list" = none) :
    Cal P w K mg base "parts_in" s_parts_in ["parting", "group"] 1 F_parts_in 0 := by
    refine cal_def D sc_parts_in fun f cdv A outer s H hr hg => ?_
    unfold b_parts_in
    refine jss_cons ?_ ?_
    · refine js_set (i := 2) (M := []) ?_ ?_ ?_ ?_
      · refine @JP.zero _ _ _ 1 ?_
        refine jp_slice (jv 1) jo_none ?_
        exact jo_some jp_int
      · exact sc_parts_in.nd
      · rfl
      · exact .inr rfl
    · refine jss_cons ?_ ?_
      · refine js_for (M := []) ?_ ?_ ?_ ?_ gspec_name ?_
        · exact PassesOwn.never
        · rfl
        · exact ji_val (jv 0)
        · refine pg_name (i := 3) ?_ ?_ ?_
          · exact sc_parts_in.nd
          · rfl
          · exact .inl rfl
        · refine jss_cons ?_ jss_nil
          refine js_if (M := []) ?_ ?_ jss_nil
          · refine jt_pw ?_
            refine jw_and ?_ ?_
            · refine jt_chain (oj_lt ?_) (oj_lt ?_) ?_ ?_ ?_ ?_
              · exact u64 hr
              · exact u64 hr
              · refine jp_callB cj_len ?_ ?_ ?_ ?_
                · rfl
                · exact z_len
                · decide +kernel
                · exact ja_cons (jv 2) ja_nil
              · refine jp_callB cj_len ?_ ?_ ?_ ?_
                · rfl
                · exact z_len
                · decide +kernel
                · exact ja_cons (jv 3) ja_nil
              · refine jp_callB cj_len ?_ ?_ ?_ ?_
                · rfl
                · exact z_len
                · decide +kernel
                · exact ja_cons (jv 1) ja_nil
              · rfl
            · refine jw_and1 ?_
              refine jt_cmp (oj_in ?_) ?_ (jv 3) ?_
              · exact u65 hr
              · refine jp_idx (jv 1) jp_int ?_
                exact fun _ _ => rfl
              · rfl
          · refine jss_cons ?_ jss_nil
            refine js_set (i := 2) (M := []) ?_ ?_ ?_ ?_
            · refine @JP.zero _ _ _ 1 ?_
              refine jp_callTy cj_list ?_ ?_ ?_ ?_
              · rfl
              · exact z_list
              · decide +kernel
              · exact ja_cons (jv 3) ja_nil
            · exact sc_parts_in.nd
            · rfl
            · exact .inr rfl
      · refine jss_cons ?_ jss_nil
        refine js_ret (M := []) ?_
        refine @JP.zero _ _ _ 1 ?_
        refine jp_lst ?_
        refine ja_cons (jv 2) ?_
        refine ja_cons ?_ ja_nil
        refine @JP.zero _ _ _ 1 ?_
        refine jp_comp (own := [("person", 4)]) ?_ ?_ ?_ ?_ ?_ ?_ (fun _ _ _ _ _ => (jv 4)) ho_n ?_
        · rfl
        · exact sc_parts_in.nd
        · exact ji_val (jv 1)
        · refine blkOk_by (N := ["parting", "group", "first", "other", "person"]) (sc := defScope s_parts_in) ?_
          decide +kernel
        · refine jg_n ?_ ?_ ?_
          · exact sc_parts_in.nd
          · rfl
          · exact fun _ _ _ _ _ => .inl rfl
        · refine jts_one (fun _ _ _ _ _ => ?_)
          refine jt_cmp (oj_notIn ?_) (jv 4) (jv 2) ?_
          · exact u65 hr
          · rfl
        · exact fun _ => rfl
abbrev s_has_parts : Stmt := topS 10
theorem sc_has_parts : FnScope ["groups", "group", "first", "second"] ["groups", "group"] (defScope s_has_parts) := ⟨rfl, rfl, rfl, by decide +kernel, rfl, by decide +kernel, by decide +kernel⟩
def b_has_parts : Sv := (sSeq (sBind [] (bL2 2 3) (eCall F_parts_in [0, 1] (aApp (aC (eVar 0) (aC (eVar 1) aN)) aN)))
    (sSeq (sRet [] (eAnd (eCall F_lies_in [0, 1] (aApp (aC (eVar 2) (aC (eVar 1) aN)) aN)) (eOr (eBin dEq (eOp cLen (aC (eVar 3) aN)) (eC (.int 1))) (eBin dIn (eVar 3) (eVar 0)))))
    sNil))
def F_has_parts : FnD := fnD 4 b_has_parts
theorem ok_has_parts {P : Program} {w : World} {K : PySem.W.Frag} {mg : Str → Option Value} {base : Heap} (D : Dfn K mg "has_parts" s_has_parts)
    (q_lies_in : Cal P w K mg base "lies_in" s_lies_in ["inner", "group"] 1 F_lies_in 0)
    (q_parts_in : Cal P w K mg base "parts_in" s_parts_in ["parting", "group"] 1 F_parts_in 0)
    (z_len : mg "len" = none) :
    Cal P w K mg base "has_parts" s_has_parts ["groups", "group"] 2 F_has_parts 0 := by
    refine cal_def D sc_has_parts fun f cdv A outer s H hr hg => ?_
    unfold b_has_parts
    refine jss_cons ?_ ?_
    · refine js_bind (M := []) ?_ ?_ gspec_lst2
      · refine jp_cal (st := s_parts_in) (ps := ["parting", "group"]) (n := 2) (ks := []) (perm := [0, 1]) (j := 1) (l := 1) ?_ ?_ ?_ ?_ ?_ ?_ (len_aC (len_aC len_aN)) jk_nil len_aN
        · exact q_parts_in
        · omega
        · exact hr
        · exact hg
        · exact fun _ _ _ _ _ _ us ws h1 h2 => match us, ws, h1, h2 with | [_, _], [], _, _ => rfl
        · refine ja_cons (jv 0) ?_
          exact ja_cons (jv 1) ja_nil
      · refine pg_unl ?_ (pgs_cons (pg_name (i := 2) ?_ ?_ ?_) (pgs_cons (pg_name (i := 3) ?_ ?_ ?_) pgs_nil))
        · rfl
        · exact sc_has_parts.nd
        · rfl
        · exact .inl rfl
        · exact sc_has_parts.nd
        · rfl
        · exact .inl rfl
    · refine jss_cons ?_ jss_nil
      refine js_ret (M := []) ?_
      refine jp_and ?_ ?_
      · refine jp_cal (st := s_lies_in) (ps := ["inner", "group"]) (n := 2) (ks := []) (perm := [0, 1]) (j := 1) (l := 1) ?_ ?_ ?_ ?_ ?_ ?_ (len_aC (len_aC len_aN)) jk_nil len_aN
        · exact q_lies_in
        · omega
        · exact hr
        · exact hg
        · exact fun _ _ _ _ _ _ us ws h1 h2 => match us, ws, h1, h2 with | [_, _], [], _, _ => rfl
        · refine ja_cons (jv 2) ?_
          exact ja_cons (jv 1) ja_nil
      · refine jp_one ?_
        refine jp_or ?_ ?_
        · refine jp_cmp (oj_eq ?_) ?_ jp_int (nomark _)
          · exact u64 hr
          · refine jp_callB cj_len ?_ ?_ ?_ ?_
            · rfl
            · exact z_len
            · decide +kernel
            · exact ja_cons (jv 3) ja_nil
        · refine jp_one ?_
          refine jp_cmp (oj_in ?_) (jv 3) (jv 0) ?_
          · exact u65 hr
          · rfl
abbrev s_is_parting : Stmt := topS 11
theorem sc_is_parting : FnScope ["thing", "group", "one", "other"] ["thing"] (defScope s_is_parting) := ⟨rfl, rfl, rfl, by decide +kernel, rfl, by decide +kernel, by decide +kernel⟩
def c_is_parting_1 : Ev := (eComp (iVal (eVar 0)) (bN 1) tY (eCall F_is_group [0, 1] (aApp (aC (eBin dAdd (eOp cLen (aC (eVar 0) aN)) (eC (.int 1))) (aC (eVar 1) aN)) aN)) [1])
def c_is_parting_2 : Ev := (eComp (iB (fun x y => (isLst x).bind fun ds => (isLst y).map fun es => ziD ds es) (eVar 0) (eSl (eVar 0) (oS (eC (.int 1))) oN)) (bT2 2 3) tY (eBin dLt (eVar 2) (eVar 3)) [2, 3])
def c_is_parting_3 : Ev := (eComp (iVal (eVar 0)) (bN 1) tY (eCall F_has_parts [0, 1] (aApp (aC (eVar 0) (aC (eVar 1) aN)) aN)) [1])
def b_is_parting : Sv := (sSeq (sIf [] (oT (nT (bT (eUn (dIsi "list") (eVar 0)))) (bT (eBin dGe (eOp cLen (aC (eVar 0) aN)) (eC (.int 20)))))
    (sSeq (sRet [] (eC (.bool false)))
    sNil)
    sNil)
    (sSeq (sIf [] (nT (bT (eOp cAll (aC c_is_parting_1 aN))))
    (sSeq (sRet [] (eC (.bool false)))
    sNil)
    sNil)
    (sSeq (sIf [] (nT (bT (eOp cAll (aC c_is_parting_2 aN))))
    (sSeq (sRet [] (eC (.bool false)))
    sNil)
    sNil)
    (sSeq (sIf [] (aT (bT (eBin dNe (eVar 0) (eLst aN))) (bT (eBin dNotIn (eLRg (r1 (eBin dAdd (eOp cLen (aC (eVar 0) aN)) (eC (.int 1))))) (eVar 0))))
    (sSeq (sRet [] (eC (.bool false)))
    sNil)
    sNil)
    (sSeq (sRet [] (eOp cAll (aC c_is_parting_3 aN)))
    sNil)))))
def F_is_parting : FnD := fnD 4 b_is_parting
theorem ok_is_parting {P : Program} {w : World} {K : PySem.W.Frag} {mg : Str → Option Value} {base : Heap} (D : Dfn K mg "is_parting" s_is_parting)
    (q_is_group : Cal P w K mg base "is_group" s_is_group ["many", "thing"] 3 F_is_group 0)
    (q_has_parts : Cal P w K mg base "has_parts" s_has_parts ["groups", "group"] 2 F_has_parts 0)
    (z_all : mg "all" = none)
    (z_isinstance : mg "isinstance" = none)
    (z_len : mg "len" = none)
    (z_list : mg "list" = none)
    (z_range : mg "range" = none)
    (z_zip : mg "zip" = none)
    {t_MOST_PERSONS : Tok} (c_MOST_PERSONS : mg "MOST_PERSONS" = some (.int 20 t_MOST_PERSONS)) :
    Cal P w K mg base "is_parting" s_is_parting ["thing"] 4 F_is_parting 0 := by
    refine cal_def D sc_is_parting fun f cdv A outer s H hr hg => ?_
    unfold b_is_parting
    refine jss_cons ?_ ?_
    · refine js_if (M := []) ?_ ?_ jss_nil
      · refine jt_pw ?_
        refine jw_or ?_ ?_
        · refine jt_not ?_
          refine jt_val ?_ ?_
          · refine jp_isi ist_list (jv 0) ?_ ?_ ?_ ?_ ?_
            · rfl
            · exact z_isinstance
            · rfl
            · exact z_list
            · decide +kernel
          · exact fun _ => rfl
        · refine jw_or1 ?_
          refine jt_cmp oj_ge ?_ ?_ (nomark _)
          · refine jp_callB cj_len ?_ ?_ ?_ ?_
            · rfl
            · exact z_len
            · decide +kernel
            · exact ja_cons (jv 0) ja_nil
          · refine jp_glob (t := t_MOST_PERSONS) ?_ ?_
            · rfl
            · exact c_MOST_PERSONS
      · refine jss_cons ?_ jss_nil
        exact js_ret (M := []) jp_bl
    · refine jss_cons ?_ ?_
      · refine js_if (M := []) ?_ ?_ jss_nil
        · refine jt_not ?_
          refine jt_val ?_ ?_
          · refine jp_callB (cj_all ?_) ?_ ?_ ?_ ?_
            · rfl
            · rfl
            · exact z_all
            · decide +kernel
            · refine ja_cons ?_ ja_nil
              refine @JP.zero _ _ _ 1 ?_
              refine jp_comp (own := [("group", 1)]) ?_ ?_ ?_ ?_ ?_ jts_nil (fun _ _ _ _ _ => ?_) ho_n ?_
              · rfl
              · exact sc_is_parting.nd
              · exact ji_val (jv 0)
              · refine blkOk_by (N := ["thing", "group", "one", "other"]) (sc := defScope s_is_parting) ?_
                decide +kernel
              · refine jg_n ?_ ?_ ?_
                · exact sc_is_parting.nd
                · rfl
                · exact fun _ _ _ _ _ => .inl rfl
              · refine jp_cal (st := s_is_group) (ps := ["many", "thing"]) (n := 2) (ks := []) (perm := [0, 1]) (j := 3) (l := 3) ?_ ?_ ?_ ?_ ?_ ?_ (len_aC (len_aC len_aN)) jk_nil len_aN
                · exact q_is_group
                · omega
                · exact hr
                · exact hg
                · exact fun _ _ _ _ _ _ us ws h1 h2 => match us, ws, h1, h2 with | [_, _], [], _, _ => rfl
                · refine ja_cons ?_ ?_
                  · refine @JP.zero _ _ _ 1 ?_
                    refine jp_bin oj_add ?_ jp_int
                    refine jp_callB cj_len ?_ ?_ ?_ ?_
                    · rfl
                    · exact z_len
                    · decide +kernel
                    · exact ja_cons (jv 0) ja_nil
                  · exact ja_cons (jv 1) ja_nil
              · exact fun _ => rfl
          · exact fun _ => rfl
        · refine jss_cons ?_ jss_nil
          exact js_ret (M := []) jp_bl
      · refine jss_cons ?_ ?_
        · refine js_if (M := []) ?_ ?_ jss_nil
          · refine jt_not ?_
            refine jt_val ?_ ?_
            · refine jp_callB (cj_all ?_) ?_ ?_ ?_ ?_
              · rfl
              · rfl
              · exact z_all
              · decide +kernel
              · refine ja_cons ?_ ja_nil
                refine @JP.zero _ _ _ 1 ?_
                refine jp_comp (own := [("one", 2), ("other", 3)]) ?_ ?_ ?_ ?_ ?_ jts_nil (fun _ _ _ _ _ => ?_) ho_t ?_
                · rfl
                · exact sc_is_parting.nd
                · refine ji_zip (jv 0) ?_ ?_ ?_
                  · refine @JP.zero _ _ _ 1 ?_
                    refine jp_slice (jv 0) ?_ jo_none
                    exact jo_some jp_int
                  · rfl
                  · exact z_zip
                · refine blkOk_by (N := ["thing", "group", "one", "other"]) (sc := defScope s_is_parting) ?_
                  decide +kernel
                · refine jg_t ?_ ?_ ?_ ?_ ?_
                  · exact sc_is_parting.nd
                  · rfl
                  · rfl
                  · exact fun _ _ _ _ _ => .inl rfl
                  · exact fun _ _ _ _ _ => .inl rfl
                · refine jp_cmp (oj_lt ?_) (jv 2) (jv 3) (nomark _)
                  exact u64 hr
                · exact fun _ => rfl
            · exact fun _ => rfl
          · refine jss_cons ?_ jss_nil
            exact js_ret (M := []) jp_bl
        · refine jss_cons ?_ ?_
          · refine js_if (M := []) ?_ ?_ jss_nil
            · refine jt_pw ?_
              refine jw_and ?_ ?_
              · refine jt_cmp (oj_ne ?_) (jv 0) ?_ (nomark _)
                · exact u64 hr
                · refine @JP.zero _ _ _ 1 ?_
                  exact jp_lst ja_nil
              · refine jw_and1 ?_
                refine jt_cmp (oj_notIn ?_) ?_ (jv 0) ?_
                · exact u65 hr
                · refine @JP.zero _ _ _ 1 ?_
                  refine jp_listRg ?_ ?_ ?_ ?_
                  · refine jrg_1 ?_ ?_ ?_
                    · refine @JP.zero _ _ _ 1 ?_
                      refine jp_bin oj_add ?_ jp_int
                      refine jp_callB cj_len ?_ ?_ ?_ ?_
                      · rfl
                      · exact z_len
                      · decide +kernel
                      · exact ja_cons (jv 0) ja_nil
                    · rfl
                    · exact z_range
                  · rfl
                  · rfl
                  · exact z_list
                · rfl
            · refine jss_cons ?_ jss_nil
              exact js_ret (M := []) jp_bl
          · refine jss_cons ?_ jss_nil
            refine js_ret (M := []) ?_
            refine jp_callB (cj_all ?_) ?_ ?_ ?_ ?_
            · rfl
            · rfl
            · exact z_all
            · decide +kernel
            · refine ja_cons ?_ ja_nil
              refine @JP.zero _ _ _ 1 ?_
              refine jp_comp (own := [("group", 1)]) ?_ ?_ ?_ ?_ ?_ jts_nil (fun _ _ _ _ _ => ?_) ho_n ?_
              · rfl
              · exact sc_is_parting.nd
              · exact ji_val (jv 0)
              · refine blkOk_by (N := ["thing", "group", "one", "other"]) (sc := defScope s_is_parting) ?_
                decide +kernel
              · refine jg_n ?_ ?_ ?_
                · exact sc_is_parting.nd
                · rfl
                · exact fun _ _ _ _ _ => .inl rfl
              · refine jp_cal (st := s_has_parts) (ps := ["groups", "group"]) (n := 2) (ks := []) (perm := [0, 1]) (j := 2) (l := 3) ?_ ?_ ?_ ?_ ?_ ?_ (len_aC (len_aC len_aN)) jk_nil len_aN
                · exact q_has_parts
                · omega
                · exact hr
                · exact hg
                · exact fun _ _ _ _ _ _ us ws h1 h2 => match us, ws, h1, h2 with | [_, _], [], _, _ => rfl
                · refine ja_cons (jv 0) ?_
                  exact ja_cons (jv 1) ja_nil
              · exact fun _ => rfl
abbrev s_many_in : Stmt := topS 12
theorem sc_many_in : FnScope ["parting"] ["parting"] (defScope s_many_in) := ⟨rfl, rfl, rfl, by decide +kernel, rfl, by decide +kernel, by decide +kernel⟩
def b_many_in : Sv := (sSeq (sRet [] (eBin dAdd (eOp cLen (aC (eVar 0) aN)) (eC (.int 1))))
    sNil)
def F_many_in : FnD := fnD 1 b_many_in
theorem ok_many_in {P : Program} {w : World} {K : PySem.W.Frag} {mg : Str → Option Value} {base : Heap} (D : Dfn K mg "many_in" s_many_in)
    (z_len : mg "len" = none) :
    Cal P w K mg base "many_in" s_many_in ["parting"] 1 F_many_in 0 := by
    refine cal_def D sc_many_in fun f cdv A outer s H hr hg => ?_
    unfold b_many_in
    refine jss_cons ?_ jss_nil
    refine js_ret (M := []) ?_
    refine @JP.zero _ _ _ 1 ?_
    refine jp_bin oj_add ?_ jp_int
    refine jp_callB cj_len ?_ ?_ ?_ ?_
    · rfl
    · exact z_len
    · decide +kernel
    · exact ja_cons (jv 0) ja_nil
abbrev s_whole_of : Stmt := topS 14
theorem sc_whole_of : FnScope ["many"] ["many"] (defScope s_whole_of) := ⟨rfl, rfl, rfl, by decide +kernel, rfl, by decide +kernel, by decide +kernel⟩
def b_whole_of : Sv := (sSeq (sRet [] (eIf (bT (eBin dGt (eVar 0) (eC (.int 1)))) (eLRg (r1 (eVar 0))) (eLst aN)))
    sNil)
def F_whole_of : FnD := fnD 1 b_whole_of
theorem ok_whole_of {P : Program} {w : World} {K : PySem.W.Frag} {mg : Str → Option Value} {base : Heap} (D : Dfn K mg "whole_of" s_whole_of)
    (z_list : mg "list" = none)
    (z_range : mg "range" = none) :
    Cal P w K mg base "whole_of" s_whole_of ["many"] 1 F_whole_of 0 := by
    refine cal_def D sc_whole_of fun f cdv A outer s H hr hg => ?_
    unfold b_whole_of
    refine jss_cons ?_ jss_nil
    refine js_ret (M := []) ?_
    refine jp_if ?_ ?_ ?_
    · exact jt_cmp oj_gt (jv 0) jp_int (nomark _)
    · refine @JP.zero _ _ _ 1 ?_
      refine jp_listRg ?_ ?_ ?_ ?_
      · refine jrg_1 (jv 0) ?_ ?_
        · rfl
        · exact z_range
      · rfl
      · rfl
      · exact z_list
    · refine @JP.zero _ _ _ 1 ?_
      exact jp_lst ja_nil
abbrev s_number_in : Stmt := topS 18
theorem sc_number_in : FnScope ["word", "sign"] ["word"] (defScope s_number_in) := ⟨rfl, rfl, rfl, by decide +kernel, rfl, by decide +kernel, by decide +kernel⟩
def c_number_in_1 : Ev := (eComp (iVal (eVar 0)) (bN 1) (bT (eBin dNotInS (eVar 1) (eC (.str "0123456789")))) (eVar 1) [1])
def b_number_in : Sv := (sSeq (sIf [] (oT (nT (bT (eChain dLe dLe (eC (.int 1)) (eOp cLen (aC (eVar 0) aN)) (eC (.int 31))))) (bT (eBin dNe c_number_in_1 (eLst aN))))
    (sSeq (sRet [] (eC .none))
    sNil)
    sNil)
    (sSeq (sRet [] (eIf (aT (bT (eBin dEq (eIdx (eVar 0) (eC (.int 0))) (eC (.str "0")))) (bT (eBin dNe (eVar 0) (eC (.str "0"))))) (eC .none) (eOp cIntS (aC (eVar 0) aN))))
    sNil))
def F_number_in : FnD := fnD 2 b_number_in
theorem ok_number_in {P : Program} {w : World} {K : PySem.W.Frag} {mg : Str → Option Value} {base : Heap} (D : Dfn K mg "number_in" s_number_in)
    (z_int : mg "int" = none)
    (z_len : mg "len" = none)
    {t_DIGITS : Tok} (c_DIGITS : mg "DIGITS" = some (.str "0123456789" t_DIGITS)) :
    Cal P w K mg base "number_in" s_number_in ["word"] 1 F_number_in 0 := by
    refine cal_def D sc_number_in fun f cdv A outer s H hr hg => ?_
    unfold b_number_in
    refine jss_cons ?_ ?_
    · refine js_if (M := []) ?_ ?_ jss_nil
      · refine jt_pw ?_
        refine jw_or ?_ ?_
        · refine jt_not ?_
          refine jt_chain oj_le oj_le jp_int ?_ jp_int ?_
          · refine jp_callB cj_len ?_ ?_ ?_ ?_
            · rfl
            · exact z_len
            · decide +kernel
            · exact ja_cons (jv 0) ja_nil
          · rfl
        · refine jw_or1 ?_
          refine jt_cmp (oj_ne ?_) ?_ ?_ (nomark _)
          · exact u64 hr
          · refine @JP.zero _ _ _ 1 ?_
            refine jp_comp (own := [("sign", 1)]) ?_ ?_ ?_ ?_ ?_ ?_ (fun _ _ _ _ _ => (jv 1)) ho_n ?_
            · rfl
            · exact sc_number_in.nd
            · exact ji_val (jv 0)
            · refine blkOk_by (N := ["word", "sign"]) (sc := defScope s_number_in) ?_
              decide +kernel
            · refine jg_n ?_ ?_ ?_
              · exact sc_number_in.nd
              · rfl
              · exact fun _ _ _ _ _ => .inl rfl
            · refine jts_one (fun _ _ _ _ _ => ?_)
              refine jt_cmp oj_notInS (jv 1) ?_ ?_
              · refine jp_globS (t := t_DIGITS) ?_ ?_
                · rfl
                · exact c_DIGITS
              · rfl
            · exact fun _ => rfl
          · refine @JP.zero _ _ _ 1 ?_
            exact jp_lst ja_nil
      · refine jss_cons ?_ jss_nil
        exact js_ret (M := []) jp_non
    · refine jss_cons ?_ jss_nil
      refine js_ret (M := []) ?_
      refine jp_if ?_ jp_non ?_
      · refine jt_pw ?_
        refine jw_and ?_ ?_
        · refine jt_cmp (oj_eq ?_) ?_ jp_str (nomark _)
          · exact u64 hr
          · refine jp_idx (jv 0) jp_int ?_
            exact fun _ _ => rfl
        · refine jw_and1 ?_
          refine jt_cmp (oj_ne ?_) (jv 0) jp_str (nomark _)
          exact u64 hr
      · refine jp_callTy cj_intS ?_ ?_ ?_ ?_
        · rfl
        · exact z_int
        · decide +kernel
        · exact ja_cons (jv 0) ja_nil
abbrev s_integer_in : Stmt := topS 19
theorem sc_integer_in : FnScope ["word", "number"] ["word"] (defScope s_integer_in) := ⟨rfl, rfl, rfl, by decide +kernel, rfl, by decide +kernel, by decide +kernel⟩
def b_integer_in : Sv := (sSeq (sIf [] (bT (eBin dNe (eSl (eVar 0) oN (oS (eC (.int 1)))) (eC (.str "-"))))
    (sSeq (sRet [] (eCall F_number_in [0] (aApp (aC (eVar 0) aN) aN)))
    sNil)
    sNil)
    (sSeq (sSet 1 0 [] (eCall F_number_in [0] (aApp (aC (eSl (eVar 0) (oS (eC (.int 1))) oN) aN) aN)))
    (sSeq (sRet [] (eIf (oT (bT (eBin dIs (eVar 1) (eC .none))) (bT (eBin dEq (eVar 1) (eC (.int 0))))) (eC .none) (eBin dSub (eC (.int 0)) (eVar 1))))
    sNil)))
def F_integer_in : FnD := fnD 2 b_integer_in
theorem ok_integer_in {P : Program} {w : World} {K : PySem.W.Frag} {mg : Str → Option Value} {base : Heap} (D : Dfn K mg "integer_in" s_integer_in)
    (q_number_in : Cal P w K mg base "number_in" s_number_in ["word"] 1 F_number_in 0) :
    Cal P w K mg base "integer_in" s_integer_in ["word"] 2 F_integer_in 0 := by
    refine cal_def D sc_integer_in fun f cdv A outer s H hr hg => ?_
    unfold b_integer_in
    refine jss_cons ?_ ?_
    · refine js_if (M := []) ?_ ?_ jss_nil
      · refine jt_cmp (oj_ne ?_) ?_ jp_str (nomark _)
        · exact u64 hr
        · refine @JP.zero _ _ _ 1 ?_
          refine jp_slice (jv 0) jo_none ?_
          exact jo_some jp_int
      · refine jss_cons ?_ jss_nil
        refine js_ret (M := []) ?_
        refine jp_cal (st := s_number_in) (ps := ["word"]) (n := 1) (ks := []) (perm := [0]) (j := 1) (l := 1) ?_ ?_ ?_ ?_ ?_ ?_ (len_aC len_aN) jk_nil len_aN
        · exact q_number_in
        · omega
        · exact hr
        · exact hg
        · exact fun _ _ _ _ _ _ us ws h1 h2 => match us, ws, h1, h2 with | [_], [], _, _ => rfl
        · exact ja_cons (jv 0) ja_nil
    · refine jss_cons ?_ ?_
      · refine js_set (i := 1) (M := []) ?_ ?_ ?_ ?_
        · refine jp_cal (st := s_number_in) (ps := ["word"]) (n := 1) (ks := []) (perm := [0]) (j := 1) (l := 1) ?_ ?_ ?_ ?_ ?_ ?_ (len_aC len_aN) jk_nil len_aN
          · exact q_number_in
          · omega
          · exact hr
          · exact hg
          · exact fun _ _ _ _ _ _ us ws h1 h2 => match us, ws, h1, h2 with | [_], [], _, _ => rfl
          · refine ja_cons ?_ ja_nil
            refine @JP.zero _ _ _ 1 ?_
            refine jp_slice (jv 0) ?_ jo_none
            exact jo_some jp_int
        · exact sc_integer_in.nd
        · rfl
        · exact .inl rfl
      · refine jss_cons ?_ jss_nil
        refine js_ret (M := []) ?_
        refine jp_if ?_ jp_non ?_
        · refine jt_pw ?_
          refine jw_or ?_ ?_
          · exact jt_cmp oj_is (jv 1) jp_non (nomark _)
          · refine jw_or1 ?_
            refine jt_cmp (oj_eq ?_) (jv 1) jp_int (nomark _)
            exact u64 hr
        · exact jp_bin oj_sub jp_int (jv 1)
abbrev s_row_of : Stmt := topS 20
theorem sc_row_of : FnScope ["numbers", "number"] ["numbers"] (defScope s_row_of) := ⟨rfl, rfl, rfl, by decide +kernel, rfl, by decide +kernel, by decide +kernel⟩
def c_row_of_1 : Ev := (eComp (iVal (eVar 0)) (bN 1) tY (eOp cStr (aC (eVar 1) aN)) [1])
def b_row_of : Sv := (sSeq (sRet [] (eBin dJoin (eC (.str " ")) c_row_of_1))
    sNil)
def F_row_of : FnD := fnD 2 b_row_of
theorem ok_row_of {P : Program} {w : World} {K : PySem.W.Frag} {mg : Str → Option Value} {base : Heap} (D : Dfn K mg "row_of" s_row_of)
    (z_str : mg "str" = none) :
    Cal P w K mg base "row_of" s_row_of ["numbers"] 1 F_row_of 0 := by
    refine cal_def D sc_row_of fun f cdv A outer s H hr hg => ?_
    unfold b_row_of
    refine jss_cons ?_ jss_nil
    refine js_ret (M := []) ?_
    refine jp_join jp_str ?_
    refine @JP.zero _ _ _ 1 ?_
    refine jp_comp (own := [("number", 1)]) ?_ ?_ ?_ ?_ ?_ jts_nil (fun _ _ _ _ _ => ?_) ho_n ?_
    · rfl
    · exact sc_row_of.nd
    · exact ji_val (jv 0)
    · refine blkOk_by (N := ["numbers", "number"]) (sc := defScope s_row_of) ?_
      decide +kernel
    · refine jg_n ?_ ?_ ?_
      · exact sc_row_of.nd
      · rfl
      · exact fun _ _ _ _ _ => .inl rfl
    · refine jp_callTy cj_str ?_ ?_ ?_ ?_
      · rfl
      · exact z_str
      · decide +kernel
      · exact ja_cons (jv 1) ja_nil
    · exact fun _ => rfl
abbrev s_text_of : Stmt := topS 21
theorem sc_text_of : FnScope ["parting", "members", "first", "second"] ["parting", "members"] (defScope s_text_of) := ⟨rfl, rfl, rfl, by decide +kernel, rfl, by decide +kernel, by decide +kernel⟩
def b_text_of (R : FnD) : Sv := (sSeq (sIf [] (bT (eBin dEq (eOp cLen (aC (eVar 1) aN)) (eC (.int 1))))
    (sSeq (sRet [] (eOp cStr (aC (eIdx (eVar 1) (eC (.int 0))) aN)))
    sNil)
    sNil)
    (sSeq (sBind [] (bL2 2 3) (eCall F_parts_in [0, 1] (aApp (aC (eVar 0) (aC (eVar 1) aN)) aN)))
    (sSeq (sRet [] (eBin dAdd (eBin dAdd (eBin dAdd (eBin dAdd (eC (.str "(")) (eCall R [0, 1] (aApp (aC (eVar 0) (aC (eVar 2) aN)) aN))) (eC (.str " "))) (eCall R [0, 1] (aApp (aC (eVar 0) (aC (eVar 3) aN)) aN))) (eC (.str ")"))))
    sNil)))
def F_text_of : Nat → FnD
  | 0 => fun _ _ => none
  | n + 1 => fnD 4 (b_text_of (F_text_of n))
theorem ok_text_of {P : Program} {w : World} {K : PySem.W.Frag} {mg : Str → Option Value} {base : Heap} (D : Dfn K mg "text_of" s_text_of)
    (q_parts_in : Cal P w K mg base "parts_in" s_parts_in ["parting", "group"] 1 F_parts_in 0)
    (z_len : mg "len" = none)
    (z_str : mg "str" = none) : ∀ n : Nat, Cal P w K mg base "text_of" s_text_of ["parting", "members"] (1 + n) (F_text_of n) 0
  | 0 => cal_none D
  | n + 1 => by
    have q_text_of := ok_text_of (P := P) (w := w) (base := base) D q_parts_in z_len z_str n
    refine cal_def D sc_text_of fun f cdv A outer s H hr hg => ?_
    unfold b_text_of
    refine jss_cons ?_ ?_
    · refine js_if (M := []) ?_ ?_ jss_nil
      · refine jt_cmp (oj_eq ?_) ?_ jp_int (nomark _)
        · exact u64 hr
        · refine jp_callB cj_len ?_ ?_ ?_ ?_
          · rfl
          · exact z_len
          · decide +kernel
          · exact ja_cons (jv 1) ja_nil
      · refine jss_cons ?_ jss_nil
        refine js_ret (M := []) ?_
        refine jp_callTy cj_str ?_ ?_ ?_ ?_
        · rfl
        · exact z_str
        · decide +kernel
        · refine ja_cons ?_ ja_nil
          refine jp_idx (jv 1) jp_int ?_
          exact fun _ _ => rfl
    · refine jss_cons ?_ ?_
      · refine js_bind (M := []) ?_ ?_ gspec_lst2
        · refine jp_cal (st := s_parts_in) (ps := ["parting", "group"]) (n := 2) (ks := []) (perm := [0, 1]) (j := 1) (l := (1 + n)) ?_ ?_ ?_ ?_ ?_ ?_ (len_aC (len_aC len_aN)) jk_nil len_aN
          · exact q_parts_in
          · omega
          · exact hr
          · exact hg
          · exact fun _ _ _ _ _ _ us ws h1 h2 => match us, ws, h1, h2 with | [_, _], [], _, _ => rfl
          · refine ja_cons (jv 0) ?_
            exact ja_cons (jv 1) ja_nil
        · refine pg_unl ?_ (pgs_cons (pg_name (i := 2) ?_ ?_ ?_) (pgs_cons (pg_name (i := 3) ?_ ?_ ?_) pgs_nil))
          · rfl
          · exact sc_text_of.nd
          · rfl
          · exact .inl rfl
          · exact sc_text_of.nd
          · rfl
          · exact .inl rfl
      · refine jss_cons ?_ jss_nil
        refine js_ret (M := []) ?_
        refine @JP.zero _ _ _ 1 ?_
        refine jp_bin oj_add ?_ jp_str
        refine @JP.zero _ _ _ 1 ?_
        refine jp_bin oj_add ?_ ?_
        · refine @JP.zero _ _ _ 1 ?_
          refine jp_bin oj_add ?_ jp_str
          refine @JP.zero _ _ _ 1 ?_
          refine jp_bin oj_add jp_str ?_
          refine jp_cal (st := s_text_of) (ps := ["parting", "members"]) (n := 2) (ks := []) (perm := [0, 1]) (j := (1 + n)) (l := (1 + n)) ?_ ?_ ?_ ?_ ?_ ?_ (len_aC (len_aC len_aN)) jk_nil len_aN
          · exact q_text_of
          · omega
          · exact hr
          · exact hg
          · exact fun _ _ _ _ _ _ us ws h1 h2 => match us, ws, h1, h2 with | [_, _], [], _, _ => rfl
          · refine ja_cons (jv 0) ?_
            exact ja_cons (jv 2) ja_nil
        · refine jp_cal (st := s_text_of) (ps := ["parting", "members"]) (n := 2) (ks := []) (perm := [0, 1]) (j := (1 + n)) (l := (1 + n)) ?_ ?_ ?_ ?_ ?_ ?_ (len_aC (len_aC len_aN)) jk_nil len_aN
          · exact q_text_of
          · omega
          · exact hr
          · exact hg
          · exact fun _ _ _ _ _ _ us ws h1 h2 => match us, ws, h1, h2 with | [_, _], [], _, _ => rfl
          · refine ja_cons (jv 0) ?_
            exact ja_cons (jv 3) ja_nil
abbrev s_parting_text : Stmt := topS 22
theorem sc_parting_text : FnScope ["parting"] ["parting"] (defScope s_parting_text) := ⟨rfl, rfl, rfl, by decide +kernel, rfl, by decide +kernel, by decide +kernel⟩
def b_parting_text : Sv := (sSeq (sRet [] (eCall (F_text_of 22) [0, 1] (aApp (aC (eVar 0) (aC (eOrL (eCall F_whole_of [0] (aApp (aC (eCall F_many_in [0] (aApp (aC (eVar 0) aN) aN)) aN) aN)) (eLst (aC (eC (.int 0)) aN))) aN)) aN)))
    sNil)
def F_parting_text : FnD := fnD 1 b_parting_text
theorem ok_parting_text {P : Program} {w : World} {K : PySem.W.Frag} {mg : Str → Option Value} {base : Heap} (D : Dfn K mg "parting_text" s_parting_text)
    (q_many_in : Cal P w K mg base "many_in" s_many_in ["parting"] 1 F_many_in 0)
    (q_whole_of : Cal P w K mg base "whole_of" s_whole_of ["many"] 1 F_whole_of 0)
    (q_text_of : Cal P w K mg base "text_of" s_text_of ["parting", "members"] 23 (F_text_of 22) 0) :
    Cal P w K mg base "parting_text" s_parting_text ["parting"] 24 F_parting_text 0 := by
    refine cal_def D sc_parting_text fun f cdv A outer s H hr hg => ?_
    unfold b_parting_text
    refine jss_cons ?_ jss_nil
    refine js_ret (M := []) ?_
    refine jp_cal (st := s_text_of) (ps := ["parting", "members"]) (n := 2) (ks := []) (perm := [0, 1]) (j := 23) (l := 23) ?_ ?_ ?_ ?_ ?_ ?_ (len_aC (len_aC len_aN)) jk_nil len_aN
    · exact q_text_of
    · omega
    · exact hr
    · exact hg
    · exact fun _ _ _ _ _ _ us ws h1 h2 => match us, ws, h1, h2 with | [_, _], [], _, _ => rfl
    · refine ja_cons (jv 0) ?_
      refine ja_cons ?_ ja_nil
      refine jp_orL ?_ ?_
      · refine jp_cal (st := s_whole_of) (ps := ["many"]) (n := 1) (ks := []) (perm := [0]) (j := 1) (l := 23) ?_ ?_ ?_ ?_ ?_ ?_ (len_aC len_aN) jk_nil len_aN
        · exact q_whole_of
        · omega
        · exact hr
        · exact hg
        · exact fun _ _ _ _ _ _ us ws h1 h2 => match us, ws, h1, h2 with | [_], [], _, _ => rfl
        · refine ja_cons ?_ ja_nil
          refine jp_cal (st := s_many_in) (ps := ["parting"]) (n := 1) (ks := []) (perm := [0]) (j := 1) (l := 23) ?_ ?_ ?_ ?_ ?_ ?_ (len_aC len_aN) jk_nil len_aN
          · exact q_many_in
          · omega
          · exact hr
          · exact hg
          · exact fun _ _ _ _ _ _ us ws h1 h2 => match us, ws, h1, h2 with | [_], [], _, _ => rfl
          · exact ja_cons (jv 0) ja_nil
      · refine jp_one ?_
        refine @JP.zero _ _ _ 1 ?_
        refine jp_lst ?_
        exact ja_cons jp_int ja_nil
abbrev s_write_parting : Stmt := topS 23
theorem sc_write_parting : FnScope ["parting"] ["parting"] (defScope s_write_parting) := ⟨rfl, rfl, rfl, by decide +kernel, rfl, by decide +kernel, by decide +kernel⟩
def b_write_parting : Sv := (sSeq (sRet [] (eCall F_parting_text [0] (aApp (aC (eVar 0) aN) aN)))
    sNil)
def F_write_parting : FnD := fnD 1 b_write_parting
theorem ok_write_parting {P : Program} {w : World} {K : PySem.W.Frag} {mg : Str → Option Value} {base : Heap} (D : Dfn K mg "write_parting" s_write_parting)
    (q_parting_text : Cal P w K mg base "parting_text" s_parting_text ["parting"] 24 F_parting_text 0) :
    Cal P w K mg base "write_parting" s_write_parting ["parting"] 25 F_write_parting 0 := by
    refine cal_def D sc_write_parting fun f cdv A outer s H hr hg => ?_
    unfold b_write_parting
    refine jss_cons ?_ jss_nil
    refine js_ret (M := []) ?_
    refine jp_cal (st := s_parting_text) (ps := ["parting"]) (n := 1) (ks := []) (perm := [0]) (j := 24) (l := 24) ?_ ?_ ?_ ?_ ?_ ?_ (len_aC len_aN) jk_nil len_aN
    · exact q_parting_text
    · omega
    · exact hr
    · exact hg
    · exact fun _ _ _ _ _ _ us ws h1 h2 => match us, ws, h1, h2 with | [_], [], _, _ => rfl
    · exact ja_cons (jv 0) ja_nil
abbrev s_groups_in : Stmt := topS 24
theorem sc_groups_in : FnScope ["text", "stack", "found", "word", "members", "person"] ["text"] (defScope s_groups_in) := ⟨rfl, rfl, rfl, by decide +kernel, rfl, by decide +kernel, by decide +kernel⟩
def l_groups_in_1 : Sv := (sSeq (sIf [] (bT (eBin dEq (eVar 3) (eC (.str "("))))
    (sSeq (sApp 1 [] 1 (eLst aN))
    sNil)
    (sSeq (sIf [] (bT (eBin dEq (eVar 3) (eC (.str ")"))))
    (sSeq (sIfP [1] (bT (eBin dEq (eOp cLen (aC (eVar 1) aN)) (eC (.int 1))))
    (sSeq (sRet [] (eC .none))
    sNil)
    sNil)
    (sSeq (sSrtPop 1 4)
    (sSeq (sAppExt 2 4 1 (-1))
    sNil)))
    (sSeq (sSet 5 0 [] (eCall F_number_in [0] (aApp (aC (eVar 3) aN) aN)))
    (sSeq (sIfP [1] (oT (bT (eBin dIs (eVar 5) (eC .none))) (oT (bT (eBin dGe (eVar 5) (eC (.int 20)))) (bT (eBin dGt (eOp cLen (aC (eIdx (eVar 1) (eUn dNeg (eC (.int 1)))) aN)) (eC (.int 20))))))
    (sSeq (sRet [] (eC .none))
    sNil)
    sNil)
    (sSeq (sApp1 1 [] 0 (eUn dNeg (eC (.int 1))) (eVar 5))
    sNil))))
    sNil))
    sNil)
def b_groups_in : Sv := (sSeq (sPar 1 2 2 2 [] [] (eLst (aC (eLst aN) aN)) (eLst aN))
    (sSeq (sFor0 [] (iVal0 1 (eUn dWords (eUn (dRepl ")" " ) ") (eUn (dRepl "(" " ( ") (eVar 0))))) (bN 3)
    l_groups_in_1)
    (sSeq (sIfP [1] (bT (eBin dEq (eOp cLen (aC (eVar 1) aN)) (eC (.int 1)))) (sRetSrt 2 2) (sRet [] (eC .none)))
    sNil)))
def F_groups_in : FnD := fnD 6 b_groups_in
theorem ok_groups_in {P : Program} {w : World} {K : PySem.W.Frag} {mg : Str → Option Value} {base : Heap} (D : Dfn K mg "groups_in" s_groups_in)
    (q_number_in : Cal P w K mg base "number_in" s_number_in ["word"] 1 F_number_in 0)
    (z_len : mg "len" = none)
    (z_sorted : mg "sorted" = none)
    {t_MOST_PERSONS : Tok} (c_MOST_PERSONS : mg "MOST_PERSONS" = some (.int 20 t_MOST_PERSONS)) :
    CalT P w K mg base "groups_in" s_groups_in ["text"] 2 F_groups_in 2 := by
    refine calT_def D sc_groups_in fun f cdv A outer s H hr hg => ?_
    unfold b_groups_in
    refine jsst_cons ?_ ?_
    · refine jst_of ?_
      refine js_par (i := 1) (j := 2) (M1 := []) (M2 := []) ?_ ?_ ?_ ?_ ?_ ?_ ?_ ?_ ?_ ?_
      · refine jp_lst ?_
        refine ja_cons ?_ ja_nil
        exact jp_lst ja_nil
      · exact jp_lst ja_nil
      · rfl
      · exact sc_groups_in.nd
      · rfl
      · rfl
      · decide
      · rfl
      · rfl
      · rfl
    · refine jsst_cons ?_ ?_
      · refine jst_for0 (M := []) ?_ ?_ (jpt_rrs (jv 0)) ?_ gspec_name ?_
        · exact PassesOwn.never
        · rfl
        · refine pg_name (i := 3) ?_ ?_ ?_
          · exact sc_groups_in.nd
          · rfl
          · exact .inl rfl
        · refine jss_cons ?_ jss_nil
          refine js_if (M := []) ?_ ?_ ?_
          · refine jt_cmp (oj_eq ?_) (jv 3) jp_str (nomark _)
            exact u64 hr
          · refine jss_cons ?_ jss_nil
            refine js_app (i := 1) (M := []) ?_ ?_ ?_
            · exact jp_lst ja_nil
            · rfl
            · exact .inl rfl
          · refine jss_cons ?_ jss_nil
            refine js_if (M := []) ?_ ?_ ?_
            · refine jt_cmp (oj_eq ?_) (jv 3) jp_str (nomark _)
              exact u64 hr
            · refine jss_cons ?_ ?_
              · refine js_ifP (M := [1]) ?_ ?_ jss_nil
                · refine jt_cmp (oj_eq ?_) ?_ jp_int (nomark _)
                  · exact u64 hr
                  · refine jp_callB cj_len ?_ ?_ ?_ ?_
                    · rfl
                    · exact z_len
                    · decide +kernel
                    · exact ja_cons (jv 1) ja_nil
                · refine jss_cons ?_ jss_nil
                  exact js_ret (M := []) jp_non
              · refine jss_cons ?_ ?_
                · refine js_srtPop (m := 1) (l := 4) ?_ ?_ ?_ ?_ ?_ ?_ ?_ ?_
                  · exact sc_groups_in.nd
                  · rfl
                  · exact .inl rfl
                  · rfl
                  · exact .inl rfl
                  · exact u66 hr
                  · rfl
                  · exact z_sorted
                · refine jss_appExt (f := (eUn dNeg (eC (.int 1)))) (i := 2) (l := 4) (m := 1) (n := -1) ?_ ?_ jss_nil ?_ ?_ ?_ ?_ ?_ ?_ ?_
                  · exact jp_un uj_neg jp_int
                  · exact fun _ _ => rfl
                  · rfl
                  · exact .inl rfl
                  · rfl
                  · exact .inl rfl
                  · rfl
                  · exact .inl rfl
                  · exact fun _ _ => rfl
            · refine jss_cons ?_ ?_
              · refine js_set (i := 5) (M := []) ?_ ?_ ?_ ?_
                · refine jp_cal (st := s_number_in) (ps := ["word"]) (n := 1) (ks := []) (perm := [0]) (j := 1) (l := 1) ?_ ?_ ?_ ?_ ?_ ?_ (len_aC len_aN) jk_nil len_aN
                  · exact q_number_in
                  · omega
                  · exact hr
                  · exact hg
                  · exact fun _ _ _ _ _ _ us ws h1 h2 => match us, ws, h1, h2 with | [_], [], _, _ => rfl
                  · exact ja_cons (jv 3) ja_nil
                · exact sc_groups_in.nd
                · rfl
                · exact .inl rfl
              · refine jss_cons ?_ ?_
                · refine js_ifP (M := [1]) ?_ ?_ jss_nil
                  · refine jt_pw ?_
                    refine jw_or ?_ ?_
                    · exact jt_cmp oj_is (jv 5) jp_non (nomark _)
                    · refine jw_or ?_ ?_
                      · refine jt_cmp oj_ge (jv 5) ?_ (nomark _)
                        refine jp_glob (t := t_MOST_PERSONS) ?_ ?_
                        · rfl
                        · exact c_MOST_PERSONS
                      · refine jw_or1 ?_
                        refine jt_cmp oj_gt ?_ ?_ (nomark _)
                        · refine jp_callB cj_len ?_ ?_ ?_ ?_
                          · rfl
                          · exact z_len
                          · decide +kernel
                          · refine ja_cons ?_ ja_nil
                            refine jp_idx (jv 1) ?_ ?_
                            · exact jp_un uj_neg jp_int
                            · exact fun _ _ => rfl
                        · refine jp_glob (t := t_MOST_PERSONS) ?_ ?_
                          · rfl
                          · exact c_MOST_PERSONS
                  · refine jss_cons ?_ jss_nil
                    exact js_ret (M := []) jp_non
                · refine jss_cons ?_ jss_nil
                  refine js_app1 (i := 1) (M := []) ?_ (jv 5) ?_ ?_ ?_
                  · exact jp_un uj_neg jp_int
                  · rfl
                  · exact .inl rfl
                  · exact fun _ _ => rfl
      · refine jsst_of ?_
        refine jss_cons ?_ jss_nil
        refine js_retIfP (M := [1]) ?_ ?_ ?_
        · refine jt_cmp (oj_eq ?_) ?_ jp_int (nomark _)
          · exact u64 hr
          · refine jp_callB cj_len ?_ ?_ ?_ ?_
            · rfl
            · exact z_len
            · decide +kernel
            · exact ja_cons (jv 1) ja_nil
        · intro pos
          refine js_retSrt (i := 2) ?_ ?_ ?_ ?_ ?_
          · rfl
          · exact .inl rfl
          · exact u66 hr
          · rfl
          · exact z_sorted
        · intro pos
          exact js_ret (M := []) jp_non
abbrev s_read_parting : Stmt := topS 25
theorem sc_read_parting : FnScope ["text", "found"] ["text"] (defScope s_read_parting) := ⟨rfl, rfl, rfl, by decide +kernel, rfl, by decide +kernel, by decide +kernel⟩
def b_read_parting : Sv := (sSeq (sSet 1 2 [] (eCall F_groups_in [0] (aApp (aC (eVar 0) aN) aN)))
    (sSeq (sIfP [1] (oT (bT (eBin dIs (eVar 1) (eC .none))) (oT (nT (bT (eCall F_is_parting [0] (aApp (aC (eVar 1) aN) aN)))) (bT (eBin dNe (eCall F_parting_text [0] (aApp (aC (eVar 1) aN) aN)) (eVar 0)))))
    (sSeq sNever
    sNil)
    sNil)
    (sSeq (sRetM 1 2)
    sNil)))
def F_read_parting : FnD := fnD 2 b_read_parting
theorem ok_read_parting {P : Program} {w : World} {K : PySem.W.Frag} {mg : Str → Option Value} {base : Heap} (D : Dfn K mg "read_parting" s_read_parting)
    (q_is_parting : Cal P w K mg base "is_parting" s_is_parting ["thing"] 4 F_is_parting 0)
    (q_parting_text : Cal P w K mg base "parting_text" s_parting_text ["parting"] 24 F_parting_text 0)
    (q_groups_in : CalT P w K mg base "groups_in" s_groups_in ["text"] 2 F_groups_in 2) :
    CalT P w K mg base "read_parting" s_read_parting ["text"] 25 F_read_parting 2 := by
    refine calT_def D sc_read_parting fun f cdv A outer s H hr hg => ?_
    unfold b_read_parting
    refine jsst_cons ?_ ?_
    · refine jst_set (i := 1) (M := []) ?_ ?_ ?_ ?_
      · refine jpt_cal (st := s_groups_in) (ps := ["text"]) (n := 1) (perm := [0]) (j := 2) (l := 24) ?_ ?_ ?_ ?_ ?_ ?_ (len_aC len_aN)
        · exact q_groups_in
        · omega
        · exact hr
        · exact hg
        · exact fun _ _ _ _ _ _ us ws h1 h2 => match us, ws, h1, h2 with | [_], [], _, _ => rfl
        · exact ja_cons (jv 0) ja_nil
      · exact sc_read_parting.nd
      · rfl
      · exact .inl rfl
    · refine jsst_of ?_
      refine jss_cons ?_ ?_
      · refine js_ifP (M := [1]) ?_ ?_ jss_nil
        · refine jt_pw ?_
          refine jw_or ?_ ?_
          · exact jt_cmp oj_is (jv 1) jp_non (nomark _)
          · refine jw_or ?_ ?_
            · refine jt_not ?_
              refine jt_val ?_ ?_
              · refine jp_cal (st := s_is_parting) (ps := ["thing"]) (n := 1) (ks := []) (perm := [0]) (j := 4) (l := 24) ?_ ?_ ?_ ?_ ?_ ?_ (len_aC len_aN) jk_nil len_aN
                · exact q_is_parting
                · omega
                · exact hr
                · exact hg
                · exact fun _ _ _ _ _ _ us ws h1 h2 => match us, ws, h1, h2 with | [_], [], _, _ => rfl
                · exact ja_cons (jv 1) ja_nil
              · exact fun _ => rfl
            · refine jw_or1 ?_
              refine jt_cmp (oj_ne ?_) ?_ (jv 0) (nomark _)
              · exact u64 hr
              · refine jp_cal (st := s_parting_text) (ps := ["parting"]) (n := 1) (ks := []) (perm := [0]) (j := 24) (l := 24) ?_ ?_ ?_ ?_ ?_ ?_ (len_aC len_aN) jk_nil len_aN
                · exact q_parting_text
                · omega
                · exact hr
                · exact hg
                · exact fun _ _ _ _ _ _ us ws h1 h2 => match us, ws, h1, h2 with | [_], [], _, _ => rfl
                · exact ja_cons (jv 1) ja_nil
        · exact jss_cons js_never jss_nil
      · refine jss_cons ?_ jss_nil
        refine js_retM (i := 1) ?_ ?_
        · rfl
        · exact .inl rfl
abbrev s_write_coming : Stmt := topS 26
theorem sc_write_coming : FnScope ["coming"] ["coming"] (defScope s_write_coming) := ⟨rfl, rfl, rfl, by decide +kernel, rfl, by decide +kernel, by decide +kernel⟩
def b_write_coming : Sv := (sSeq (sRet [] (eIf (bT (eBin dNe (eVar 0) (eLst aN))) (eCall F_row_of [0] (aApp (aC (eVar 0) aN) aN)) (eC (.str "-"))))
    sNil)
def F_write_coming : FnD := fnD 1 b_write_coming
theorem ok_write_coming {P : Program} {w : World} {K : PySem.W.Frag} {mg : Str → Option Value} {base : Heap} (D : Dfn K mg "write_coming" s_write_coming)
    (q_row_of : Cal P w K mg base "row_of" s_row_of ["numbers"] 1 F_row_of 0)
    {t_NONE : Tok} (c_NONE : mg "NONE" = some (.str "-" t_NONE)) :
    Cal P w K mg base "write_coming" s_write_coming ["coming"] 2 F_write_coming 0 := by
    refine cal_def D sc_write_coming fun f cdv A outer s H hr hg => ?_
    unfold b_write_coming
    refine jss_cons ?_ jss_nil
    refine js_ret (M := []) ?_
    refine jp_if ?_ ?_ ?_
    · refine jt_cmp (oj_ne ?_) (jv 0) ?_ (nomark _)
      · exact u64 hr
      · refine @JP.zero _ _ _ 1 ?_
        exact jp_lst ja_nil
    · refine jp_cal (st := s_row_of) (ps := ["numbers"]) (n := 1) (ks := []) (perm := [0]) (j := 1) (l := 1) ?_ ?_ ?_ ?_ ?_ ?_ (len_aC len_aN) jk_nil len_aN
      · exact q_row_of
      · omega
      · exact hr
      · exact hg
      · exact fun _ _ _ _ _ _ us ws h1 h2 => match us, ws, h1, h2 with | [_], [], _, _ => rfl
      · exact ja_cons (jv 0) ja_nil
    · refine jp_globS (t := t_NONE) ?_ ?_
      · rfl
      · exact c_NONE
abbrev s_read_coming : Stmt := topS 27
theorem sc_read_coming : FnScope ["text", "words", "found", "place", "word", "item"] ["text"] (defScope s_read_coming) := ⟨rfl, rfl, rfl, by decide +kernel, rfl, by decide +kernel, by decide +kernel⟩
def l_read_coming_1 : Sv := (sSeq (sSet 5 0 [] (eCall F_integer_in [0] (aApp (aC (eVar 4) aN) aN)))
    (sSeq (sIf [] (oT (bT (eBin dIs (eVar 5) (eC .none))) (oT (bT (eBin dEq (eVar 3) (eBin dSub (eC (.int 20)) (eC (.int 1))))) (bT (eBin dGt (eOp cAbs (aC (eVar 5) aN)) (eVar 3)))))
    (sSeq sNever
    sNil)
    sNil)
    (sSeq (sApp 2 [] 0 (eVar 5))
    sNil)))
def b_read_coming : Sv := (sSeq (sPar 1 2 0 1 [] [] (eBin dSplit (eVar 0) (eC (.str " "))) (eLst aN))
    (sSeq (sIf [] (bT (eBin dEq (eIdx (eVar 1) (eC (.int 0))) (eC (.str "-"))))
    (sSeq (sIf [] (bT (eBin dGt (eOp cLen (aC (eVar 1) aN)) (eC (.int 1))))
    (sSeq sNever
    sNil)
    sNil)
    (sSeq (sRet [] (eLst aN))
    sNil))
    sNil)
    (sSeq (sFor [] (iU (fun d => (isLst d).map fun ds => enD ds 0) (eVar 1)) (bT2 3 4)
    l_read_coming_1)
    (sSeq (sRetM 2 1)
    sNil))))
def F_read_coming : FnD := fnD 6 b_read_coming
theorem ok_read_coming {P : Program} {w : World} {K : PySem.W.Frag} {mg : Str → Option Value} {base : Heap} (D : Dfn K mg "read_coming" s_read_coming)
    (q_integer_in : Cal P w K mg base "integer_in" s_integer_in ["word"] 2 F_integer_in 0)
    (z_abs : mg "abs" = none)
    (z_enumerate : mg "enumerate" = none)
    (z_len : mg "len" = none)
    {t_MOST_PERSONS : Tok} (c_MOST_PERSONS : mg "MOST_PERSONS" = some (.int 20 t_MOST_PERSONS))
    {t_NONE : Tok} (c_NONE : mg "NONE" = some (.str "-" t_NONE)) :
    Cal P w K mg base "read_coming" s_read_coming ["text"] 3 F_read_coming 1 := by
    refine cal_def D sc_read_coming fun f cdv A outer s H hr hg => ?_
    unfold b_read_coming
    refine jss_cons ?_ ?_
    · refine js_par (i := 1) (j := 2) (M1 := []) (M2 := []) ?_ ?_ ?_ ?_ ?_ ?_ ?_ ?_ ?_ ?_
      · refine @JP.zero _ _ _ 1 ?_
        exact jp_split (jv 0) jp_str
      · exact jp_lst ja_nil
      · rfl
      · exact sc_read_coming.nd
      · rfl
      · rfl
      · decide
      · rfl
      · rfl
      · rfl
    · refine jss_cons ?_ ?_
      · refine js_if (M := []) ?_ ?_ jss_nil
        · refine jt_cmp (oj_eq ?_) ?_ ?_ (nomark _)
          · exact u64 hr
          · refine jp_idx (jv 1) jp_int ?_
            exact fun _ _ => rfl
          · refine jp_globS (t := t_NONE) ?_ ?_
            · rfl
            · exact c_NONE
        · refine jss_cons ?_ ?_
          · refine js_if (M := []) ?_ ?_ jss_nil
            · refine jt_cmp oj_gt ?_ jp_int (nomark _)
              refine jp_callB cj_len ?_ ?_ ?_ ?_
              · rfl
              · exact z_len
              · decide +kernel
              · exact ja_cons (jv 1) ja_nil
            · exact jss_cons js_never jss_nil
          · refine jss_cons ?_ jss_nil
            refine js_ret (M := []) ?_
            exact jp_lst ja_nil
      · refine jss_cons ?_ ?_
        · refine js_for (M := []) ?_ ?_ ?_ ?_ gspec_tup2 ?_
          · exact PassesOwn.never
          · rfl
          · refine ji_enum (jv 1) ?_ ?_
            · rfl
            · exact z_enumerate
          · refine pg_tup ?_ (pgs_cons (pg_name (i := 3) ?_ ?_ ?_) (pgs_cons (pg_name (i := 4) ?_ ?_ ?_) pgs_nil))
            · rfl
            · exact sc_read_coming.nd
            · rfl
            · exact .inl rfl
            · exact sc_read_coming.nd
            · rfl
            · exact .inl rfl
          · refine jss_cons ?_ ?_
            · refine js_set (i := 5) (M := []) ?_ ?_ ?_ ?_
              · refine jp_cal (st := s_integer_in) (ps := ["word"]) (n := 1) (ks := []) (perm := [0]) (j := 2) (l := 2) ?_ ?_ ?_ ?_ ?_ ?_ (len_aC len_aN) jk_nil len_aN
                · exact q_integer_in
                · omega
                · exact hr
                · exact hg
                · exact fun _ _ _ _ _ _ us ws h1 h2 => match us, ws, h1, h2 with | [_], [], _, _ => rfl
                · exact ja_cons (jv 4) ja_nil
              · exact sc_read_coming.nd
              · rfl
              · exact .inl rfl
            · refine jss_cons ?_ ?_
              · refine js_if (M := []) ?_ ?_ jss_nil
                · refine jt_pw ?_
                  refine jw_or ?_ ?_
                  · exact jt_cmp oj_is (jv 5) jp_non (nomark _)
                  · refine jw_or ?_ ?_
                    · refine jt_cmp (oj_eq ?_) (jv 3) ?_ (nomark _)
                      · exact u64 hr
                      · refine jp_bin oj_sub ?_ jp_int
                        refine jp_glob (t := t_MOST_PERSONS) ?_ ?_
                        · rfl
                        · exact c_MOST_PERSONS
                    · refine jw_or1 ?_
                      refine jt_cmp oj_gt ?_ (jv 3) (nomark _)
                      refine jp_callB cj_abs ?_ ?_ ?_ ?_
                      · rfl
                      · exact z_abs
                      · decide +kernel
                      · exact ja_cons (jv 5) ja_nil
                · exact jss_cons js_never jss_nil
              · refine jss_cons ?_ jss_nil
                refine js_app (i := 2) (M := []) (jv 5) ?_ ?_
                · rfl
                · exact .inl rfl
        · refine jss_cons ?_ jss_nil
          refine js_retM (i := 2) ?_ ?_
          · rfl
          · exact .inl rfl
abbrev s__law_bag : Stmt := topS 29
theorem sc__law_bag : FnScope ["script", "stir", "cell"] ["script"] (defScope s__law_bag) := ⟨rfl, rfl, rfl, by decide +kernel, rfl, by decide +kernel, by decide +kernel⟩
def l__law_bag_1 : Sv := (sSeq (sSet 1 0 [] (eBin dMod (eOp cInt (aC (eBin dAdd (eBin dAdd (eBin dMul (eVar 1) (eC (.int 48271))) (eBin dMod (eOp cInt (aC (eVar 2) aN)) (eC (.int 2147483629)))) (eC (.int 1))) aN)) (eC (.int 2147483647))))
    sNil)
def c__law_bag_1 : Ev := (eComp (iVal (eSlSk (eVar 0) oN (oS (eC (.int 63))))) (bN 2) tY (eBin dMod (eOp cInt (aC (eOp cAbs (aC (eVar 2) aN)) aN)) (eBin dPow (eBin dPow (eC (.int 10)) (eC (.int 60))) (eC (.int 10)))) [2])
def b__law_bag : Sv := (sSeq (sSet 1 0 [] (eC (.int 251)))
    (sSeq (sFor [] (iVal (eSlSk (eVar 0) oN (oS (eC (.int 63))))) (bN 2)
    l__law_bag_1)
    (sSeq (sRet [] (eLst (aC c__law_bag_1 (aC (eC (.int 0)) (aC (eC (.int 0)) (aC (eVar 1) (aC (eC (.int 0)) aN)))))))
    sNil)))
def F__law_bag : FnD := fnD 3 b__law_bag
theorem ok__law_bag {P : Program} {w : World} {K : PySem.W.Frag} {mg : Str → Option Value} {base : Heap} (D : Dfn K mg "_law_bag" s__law_bag)
    (z_abs : mg "abs" = none)
    (z_int : mg "int" = none) :
    Cal P w K mg base "_law_bag" s__law_bag ["script"] 1 F__law_bag 1 := by
    refine cal_def D sc__law_bag fun f cdv A outer s H hr hg => ?_
    unfold b__law_bag
    refine jss_cons ?_ ?_
    · refine js_set (i := 1) (M := []) jp_int ?_ ?_ ?_
      · exact sc__law_bag.nd
      · rfl
      · exact .inl rfl
    · refine jss_cons ?_ ?_
      · refine js_for (M := []) ?_ ?_ ?_ ?_ gspec_name ?_
        · exact PassesOwn.never
        · rfl
        · refine ji_val ?_
          refine @JP.zero _ _ _ 1 ?_
          refine jp_sliceSk (jv 0) jo_none ?_
          exact jo_some jp_int
        · refine pg_name (i := 2) ?_ ?_ ?_
          · exact sc__law_bag.nd
          · rfl
          · exact .inl rfl
        · refine jss_cons ?_ jss_nil
          refine js_set (i := 1) (M := []) ?_ ?_ ?_ ?_
          · refine jp_bin oj_mod ?_ jp_int
            refine jp_callTy cj_int ?_ ?_ ?_ ?_
            · rfl
            · exact z_int
            · decide +kernel
            · refine ja_cons ?_ ja_nil
              refine @JP.zero _ _ _ 1 ?_
              refine jp_bin oj_add ?_ jp_int
              refine @JP.zero _ _ _ 1 ?_
              refine jp_bin oj_add ?_ ?_
              · refine @JP.zero _ _ _ 1 ?_
                exact jp_bin oj_mul (jv 1) jp_int
              · refine jp_bin oj_mod ?_ jp_int
                refine jp_callTy cj_int ?_ ?_ ?_ ?_
                · rfl
                · exact z_int
                · decide +kernel
                · exact ja_cons (jv 2) ja_nil
          · exact sc__law_bag.nd
          · rfl
          · exact .inl rfl
      · refine jss_cons ?_ jss_nil
        refine js_ret (M := []) ?_
        refine jp_lst ?_
        refine ja_cons ?_ ?_
        · refine @JP.zero _ _ _ 1 ?_
          refine jp_comp (own := [("cell", 2)]) ?_ ?_ ?_ ?_ ?_ jts_nil (fun _ _ _ _ _ => ?_) ho_n ?_
          · rfl
          · exact sc__law_bag.nd
          · refine ji_val ?_
            refine @JP.zero _ _ _ 1 ?_
            refine jp_sliceSk (jv 0) jo_none ?_
            exact jo_some jp_int
          · refine blkOk_by (N := ["script", "stir", "cell"]) (sc := defScope s__law_bag) ?_
            decide +kernel
          · refine jg_n ?_ ?_ ?_
            · exact sc__law_bag.nd
            · rfl
            · exact fun _ _ _ _ _ => .inl rfl
          · refine jp_bin oj_mod ?_ ?_
            · refine jp_callTy cj_int ?_ ?_ ?_ ?_
              · rfl
              · exact z_int
              · decide +kernel
              · refine ja_cons ?_ ja_nil
                refine jp_callB cj_abs ?_ ?_ ?_ ?_
                · rfl
                · exact z_abs
                · decide +kernel
                · exact ja_cons (jv 2) ja_nil
            · refine jp_bin oj_pow ?_ jp_int
              exact jp_bin oj_pow jp_int jp_int
          · exact fun _ => rfl
        · refine ja_cons jp_int ?_
          refine ja_cons jp_int ?_
          refine ja_cons (jv 1) ?_
          exact ja_cons jp_int ja_nil
abbrev s__law_stirred : Stmt := topS 30
theorem sc__law_stirred : FnScope ["bag", "wide", "found", "k", "mixed"] ["bag", "wide"] (defScope s__law_stirred) := ⟨rfl, rfl, rfl, by decide +kernel, rfl, by decide +kernel, by decide +kernel⟩
def l__law_stirred_1 : Sv := (sSeq (sSto [] (eVar 0) (eC (.int 4)) (eBin dAdd (eIdx (eVar 0) (eC (.int 4))) (eC (.int 1))))
    (sSeq (sSet 4 0 [] (eBin dAdd (eBin dAdd (eBin dAdd (eBin dPow (eIdx (eVar 0) (eC (.int 3))) (eC (.int 3))) (eBin dMul (eC (.int 69621)) (eIdx (eVar 0) (eC (.int 3))))) (eBin dMul (eC (.int 1031)) (eIdx (eVar 0) (eC (.int 4))))) (eC (.int 1))))
    (sSeq (sSto [] (eVar 0) (eC (.int 3)) (eBin dMod (eOp cInt (aC (eVar 4) aN)) (eC (.int 2147483647))))
    (sSeq (sSet 2 0 [] (eBin dAdd (eBin dMul (eVar 2) (eC (.int 134217728))) (eBin dFdiv (eIdx (eVar 0) (eC (.int 3))) (eC (.int 16)))))
    sNil))))
def b__law_stirred : Sv := (sSeq (sSet 2 0 [] (eC (.int 0)))
    (sSeq (sFor0 [] (iU rg1 (eBin dAdd (eC (.int 1)) (eBin dFdiv (eUn dBits (eVar 1)) (eC (.int 27))))) (bN 3)
    l__law_stirred_1)
    (sSeq (sRet [] (eBin dMod (eOp cInt (aC (eVar 2) aN)) (eVar 1)))
    sNil)))
def F__law_stirred : FnD := fnD 5 b__law_stirred
theorem ok__law_stirred {P : Program} {w : World} {K : PySem.W.Frag} {mg : Str → Option Value} {base : Heap} (D : Dfn K mg "_law_stirred" s__law_stirred)
    (z_int : mg "int" = none)
    (z_range : mg "range" = none) :
    Cal P w K mg base "_law_stirred" s__law_stirred ["bag", "wide"] 1 F__law_stirred 0 := by
    refine cal_def D sc__law_stirred fun f cdv A outer s H hr hg => ?_
    unfold b__law_stirred
    refine jss_cons ?_ ?_
    · refine js_set (i := 2) (M := []) jp_int ?_ ?_ ?_
      · exact sc__law_stirred.nd
      · rfl
      · exact .inl rfl
    · refine jss_cons ?_ ?_
      · refine js_for0 (M := []) ?_ ?_ ?_ ?_ gspec_name ?_
        · exact PassesOwn.never
        · rfl
        · refine ji0_range1 ?_ ?_ ?_
          · refine @JP.zero _ _ _ 1 ?_
            refine jp_bin oj_add jp_int ?_
            refine jp_bin oj_fdiv ?_ jp_int
            exact jp_bits (jv 1)
          · rfl
          · exact z_range
        · refine pg_name (i := 3) ?_ ?_ ?_
          · exact sc__law_stirred.nd
          · rfl
          · exact .inl rfl
        · refine jss_cons ?_ ?_
          · refine js_sto (M := []) ?_ (jv 0) jp_int ?_ ?_ ?_ (fun h1 h2 => pg_sub h1 h2 set_list)
            · refine @JP.zero _ _ _ 1 ?_
              refine jp_bin oj_add ?_ jp_int
              refine jp_idx (jv 0) jp_int ?_
              exact fun _ _ => rfl
            · rfl
            · rfl
            · rfl
          · refine jss_cons ?_ ?_
            · refine js_set (i := 4) (M := []) ?_ ?_ ?_ ?_
              · refine @JP.zero _ _ _ 1 ?_
                refine jp_bin oj_add ?_ jp_int
                refine @JP.zero _ _ _ 1 ?_
                refine jp_bin oj_add ?_ ?_
                · refine @JP.zero _ _ _ 1 ?_
                  refine jp_bin oj_add ?_ ?_
                  · refine jp_bin oj_pow ?_ jp_int
                    refine jp_idx (jv 0) jp_int ?_
                    exact fun _ _ => rfl
                  · refine @JP.zero _ _ _ 1 ?_
                    refine jp_bin oj_mul jp_int ?_
                    refine jp_idx (jv 0) jp_int ?_
                    exact fun _ _ => rfl
                · refine @JP.zero _ _ _ 1 ?_
                  refine jp_bin oj_mul jp_int ?_
                  refine jp_idx (jv 0) jp_int ?_
                  exact fun _ _ => rfl
              · exact sc__law_stirred.nd
              · rfl
              · exact .inl rfl
            · refine jss_cons ?_ ?_
              · refine js_sto (M := []) ?_ (jv 0) jp_int ?_ ?_ ?_ (fun h1 h2 => pg_sub h1 h2 set_list)
                · refine jp_bin oj_mod ?_ jp_int
                  refine jp_callTy cj_int ?_ ?_ ?_ ?_
                  · rfl
                  · exact z_int
                  · decide +kernel
                  · exact ja_cons (jv 4) ja_nil
                · rfl
                · rfl
                · rfl
              · refine jss_cons ?_ jss_nil
                refine js_set (i := 2) (M := []) ?_ ?_ ?_ ?_
                · refine @JP.zero _ _ _ 1 ?_
                  refine jp_bin oj_add ?_ ?_
                  · refine @JP.zero _ _ _ 1 ?_
                    exact jp_bin oj_mul (jv 2) jp_int
                  · refine jp_bin oj_fdiv ?_ jp_int
                    refine jp_idx (jv 0) jp_int ?_
                    exact fun _ _ => rfl
                · exact sc__law_stirred.nd
                · rfl
                · exact .inl rfl
      · refine jss_cons ?_ jss_nil
        refine js_ret (M := []) ?_
        refine jp_bin oj_mod ?_ (jv 1)
        refine jp_callTy cj_int ?_ ?_ ?_ ?_
        · rfl
        · exact z_int
        · decide +kernel
        · exact ja_cons (jv 2) ja_nil
abbrev s__law_draw : Stmt := topS 31
theorem sc__law_draw : FnScope ["bag", "wide", "found"] ["bag", "wide"] (defScope s__law_draw) := ⟨rfl, rfl, rfl, by decide +kernel, rfl, by decide +kernel, by decide +kernel⟩
def b__law_draw : Sv := (sSeq (sIf [] (aT (bT (eBin dEq (eIdx (eVar 0) (eC (.int 2))) (eC (.int 0)))) (bT (eBin dLt (eIdx (eVar 0) (eC (.int 1))) (eOp cLen (aC (eIdx (eVar 0) (eC (.int 0))) aN)))))
    (sSeq (sSto [] (eVar 0) (eC (.int 2)) (eIdx (eIdx (eVar 0) (eC (.int 0))) (eIdx (eVar 0) (eC (.int 1)))))
    (sSeq (sSto [] (eVar 0) (eC (.int 1)) (eBin dAdd (eIdx (eVar 0) (eC (.int 1))) (eC (.int 1))))
    sNil))
    (sSeq (sIf [] (bT (eBin dEq (eIdx (eVar 0) (eC (.int 2))) (eC (.int 0))))
    (sSeq (sRet [] (eCall F__law_stirred [0, 1] (aApp (aC (eVar 0) (aC (eVar 1) aN)) aN)))
    sNil)
    sNil)
    sNil))
    (sSeq (sSet 2 0 [] (eBin dMod (eOp cInt (aC (eIdx (eVar 0) (eC (.int 2))) aN)) (eVar 1)))
    (sSeq (sSto [] (eVar 0) (eC (.int 2)) (eBin dFdiv (eIdx (eVar 0) (eC (.int 2))) (eVar 1)))
    (sSeq (sRet [] (eVar 2))
    sNil))))
def F__law_draw : FnD := fnD 3 b__law_draw
theorem ok__law_draw {P : Program} {w : World} {K : PySem.W.Frag} {mg : Str → Option Value} {base : Heap} (D : Dfn K mg "_law_draw" s__law_draw)
    (q__law_stirred : Cal P w K mg base "_law_stirred" s__law_stirred ["bag", "wide"] 1 F__law_stirred 0)
    (z_int : mg "int" = none)
    (z_len : mg "len" = none) :
    Cal P w K mg base "_law_draw" s__law_draw ["bag", "wide"] 2 F__law_draw 0 := by
    refine cal_def D sc__law_draw fun f cdv A outer s H hr hg => ?_
    unfold b__law_draw
    refine jss_cons ?_ ?_
    · refine js_if (M := []) ?_ ?_ ?_
      · refine jt_pw ?_
        refine jw_and ?_ ?_
        · refine jt_cmp (oj_eq ?_) ?_ jp_int (nomark _)
          · exact u64 hr
          · refine jp_idx (jv 0) jp_int ?_
            exact fun _ _ => rfl
        · refine jw_and1 ?_
          refine jt_cmp (oj_lt ?_) ?_ ?_ (nomark _)
          · exact u64 hr
          · refine jp_idx (jv 0) jp_int ?_
            exact fun _ _ => rfl
          · refine jp_callB cj_len ?_ ?_ ?_ ?_
            · rfl
            · exact z_len
            · decide +kernel
            · refine ja_cons ?_ ja_nil
              refine jp_idx (jv 0) jp_int ?_
              exact fun _ _ => rfl
      · refine jss_cons ?_ ?_
        · refine js_sto (M := []) ?_ (jv 0) jp_int ?_ ?_ ?_ (fun h1 h2 => pg_sub h1 h2 set_list)
          · refine jp_idx ?_ ?_ ?_
            · refine jp_idx (jv 0) jp_int ?_
              exact fun _ _ => rfl
            · refine jp_idx (jv 0) jp_int ?_
              exact fun _ _ => rfl
            · exact fun _ _ => rfl
          · rfl
          · rfl
          · rfl
        · refine jss_cons ?_ jss_nil
          refine js_sto (M := []) ?_ (jv 0) jp_int ?_ ?_ ?_ (fun h1 h2 => pg_sub h1 h2 set_list)
          · refine @JP.zero _ _ _ 1 ?_
            refine jp_bin oj_add ?_ jp_int
            refine jp_idx (jv 0) jp_int ?_
            exact fun _ _ => rfl
          · rfl
          · rfl
          · rfl
      · refine jss_cons ?_ jss_nil
        refine js_if (M := []) ?_ ?_ jss_nil
        · refine jt_cmp (oj_eq ?_) ?_ jp_int (nomark _)
          · exact u64 hr
          · refine jp_idx (jv 0) jp_int ?_
            exact fun _ _ => rfl
        · refine jss_cons ?_ jss_nil
          refine js_ret (M := []) ?_
          refine jp_cal (st := s__law_stirred) (ps := ["bag", "wide"]) (n := 2) (ks := []) (perm := [0, 1]) (j := 1) (l := 1) ?_ ?_ ?_ ?_ ?_ ?_ (len_aC (len_aC len_aN)) jk_nil len_aN
          · exact q__law_stirred
          · omega
          · exact hr
          · exact hg
          · exact fun _ _ _ _ _ _ us ws h1 h2 => match us, ws, h1, h2 with | [_, _], [], _, _ => rfl
          · refine ja_cons (jv 0) ?_
            exact ja_cons (jv 1) ja_nil
    · refine jss_cons ?_ ?_
      · refine js_set (i := 2) (M := []) ?_ ?_ ?_ ?_
        · refine jp_bin oj_mod ?_ (jv 1)
          refine jp_callTy cj_int ?_ ?_ ?_ ?_
          · rfl
          · exact z_int
          · decide +kernel
          · refine ja_cons ?_ ja_nil
            refine jp_idx (jv 0) jp_int ?_
            exact fun _ _ => rfl
        · exact sc__law_draw.nd
        · rfl
        · exact .inl rfl
      · refine jss_cons ?_ ?_
        · refine js_sto (M := []) ?_ (jv 0) jp_int ?_ ?_ ?_ (fun h1 h2 => pg_sub h1 h2 set_list)
          · refine jp_bin oj_fdiv ?_ (jv 1)
            refine jp_idx (jv 0) jp_int ?_
            exact fun _ _ => rfl
          · rfl
          · rfl
          · rfl
        · refine jss_cons ?_ jss_nil
          exact js_ret (M := []) (jv 2)
abbrev s__law_alike : Stmt := topS 32
theorem sc__law_alike : FnScope ["found", "due", "k"] ["found", "due"] (defScope s__law_alike) := ⟨rfl, rfl, rfl, by decide +kernel, rfl, by decide +kernel, by decide +kernel⟩
def c__law_alike_1 (R : FnD) : Ev := (eComp (iU rg1 (eOp cLen (aC (eVar 1) aN))) (bN 2) tY (eCall R [0, 1] (aApp (aC (eIdx (eVar 0) (eVar 2)) (aC (eIdx (eVar 1) (eVar 2)) aN)) aN)) [2])
def b__law_alike (R : FnD) : Sv := (sSeq (sIf [] (bT (eUn (dIsi2 "list" "tuple") (eVar 1)))
    (sSeq (sIf [] (oT (nT (bT (eUn (dIsi2 "list" "tuple") (eVar 0)))) (bT (eBin dNe (eUn (dIsi "list") (eVar 0)) (eUn (dIsi "list") (eVar 1)))))
    (sSeq (sRet [] (eC (.bool false)))
    sNil)
    sNil)
    (sSeq (sIf [] (bT (eBin dNe (eOp cLen (aC (eVar 0) aN)) (eOp cLen (aC (eVar 1) aN))))
    (sSeq (sRet [] (eC (.bool false)))
    sNil)
    sNil)
    (sSeq (sRet [] (eOp cAll (aC (c__law_alike_1 R) aN)))
    sNil)))
    sNil)
    (sSeq (sIf [] (oT (bT (eBin dNe (eUn (dIsi "bool") (eVar 0)) (eUn (dIsi "bool") (eVar 1)))) (bT (eBin dNe (eUn (dIsi "int") (eVar 0)) (eUn (dIsi "int") (eVar 1)))))
    (sSeq (sRet [] (eC (.bool false)))
    sNil)
    sNil)
    (sSeq (sRet [] (eAnd (eBin dEq (eUn (dIsi "str") (eVar 0)) (eUn (dIsi "str") (eVar 1))) (eBin dEq (eVar 0) (eVar 1))))
    sNil)))
def F__law_alike : Nat → FnD
  | 0 => fun _ _ => none
  | n + 1 => fnD 3 (b__law_alike (F__law_alike n))
theorem ok__law_alike {P : Program} {w : World} {K : PySem.W.Frag} {mg : Str → Option Value} {base : Heap} (D : Dfn K mg "_law_alike" s__law_alike)
    (z_all : mg "all" = none)
    (z_bool : mg "bool" = none)
    (z_int : mg "int" = none)
    (z_isinstance : mg "isinstance" = none)
    (z_len : mg "len" = none)
    (z_list : mg "list" = none)
    (z_range : mg "range" = none)
    (z_str : mg "str" = none)
    (z_tuple : mg "tuple" = none) : ∀ n : Nat, Cal P w K mg base "_law_alike" s__law_alike ["found", "due"] (0 + n) (F__law_alike n) 0
  | 0 => cal_none D
  | n + 1 => by
    have q__law_alike := ok__law_alike (P := P) (w := w) (base := base) D z_all z_bool z_int z_isinstance z_len z_list z_range z_str z_tuple n
    refine cal_def D sc__law_alike fun f cdv A outer s H hr hg => ?_
    unfold b__law_alike
    refine jss_cons ?_ ?_
    · refine js_if (M := []) ?_ ?_ jss_nil
      · refine jt_val ?_ ?_
        · refine jp_isi2 ist_list ist_tuple (jv 1) ?_ ?_ ?_ ?_ ?_ ?_ ?_ ?_
          · rfl
          · exact z_isinstance
          · rfl
          · exact z_list
          · decide +kernel
          · rfl
          · exact z_tuple
          · decide +kernel
        · exact fun _ => rfl
      · refine jss_cons ?_ ?_
        · refine js_if (M := []) ?_ ?_ jss_nil
          · refine jt_pw ?_
            refine jw_or ?_ ?_
            · refine jt_not ?_
              refine jt_val ?_ ?_
              · refine jp_isi2 ist_list ist_tuple (jv 0) ?_ ?_ ?_ ?_ ?_ ?_ ?_ ?_
                · rfl
                · exact z_isinstance
                · rfl
                · exact z_list
                · decide +kernel
                · rfl
                · exact z_tuple
                · decide +kernel
              · exact fun _ => rfl
            · refine jw_or1 ?_
              refine jt_cmp (oj_ne ?_) ?_ ?_ (nomark _)
              · exact u64 hr
              · refine jp_isi ist_list (jv 0) ?_ ?_ ?_ ?_ ?_
                · rfl
                · exact z_isinstance
                · rfl
                · exact z_list
                · decide +kernel
              · refine jp_isi ist_list (jv 1) ?_ ?_ ?_ ?_ ?_
                · rfl
                · exact z_isinstance
                · rfl
                · exact z_list
                · decide +kernel
          · refine jss_cons ?_ jss_nil
            exact js_ret (M := []) jp_bl
        · refine jss_cons ?_ ?_
          · refine js_if (M := []) ?_ ?_ jss_nil
            · refine jt_cmp (oj_ne ?_) ?_ ?_ (nomark _)
              · exact u64 hr
              · refine jp_callB cj_len ?_ ?_ ?_ ?_
                · rfl
                · exact z_len
                · decide +kernel
                · exact ja_cons (jv 0) ja_nil
              · refine jp_callB cj_len ?_ ?_ ?_ ?_
                · rfl
                · exact z_len
                · decide +kernel
                · exact ja_cons (jv 1) ja_nil
            · refine jss_cons ?_ jss_nil
              exact js_ret (M := []) jp_bl
          · refine jss_cons ?_ jss_nil
            refine js_ret (M := []) ?_
            refine jp_callB (cj_all ?_) ?_ ?_ ?_ ?_
            · rfl
            · rfl
            · exact z_all
            · decide +kernel
            · refine ja_cons ?_ ja_nil
              refine @JP.zero _ _ _ 1 ?_
              refine jp_comp (own := [("k", 2)]) ?_ ?_ ?_ ?_ ?_ jts_nil (fun _ _ _ _ _ => ?_) ho_n ?_
              · rfl
              · exact sc__law_alike.nd
              · refine ji_range1 ?_ ?_ ?_
                · refine jp_callB cj_len ?_ ?_ ?_ ?_
                  · rfl
                  · exact z_len
                  · decide +kernel
                  · exact ja_cons (jv 1) ja_nil
                · rfl
                · exact z_range
              · refine blkOk_by (N := ["found", "due", "k"]) (sc := defScope s__law_alike) ?_
                decide +kernel
              · refine jg_n ?_ ?_ ?_
                · exact sc__law_alike.nd
                · rfl
                · exact fun _ _ _ _ _ => .inl rfl
              · refine jp_cal (st := s__law_alike) (ps := ["found", "due"]) (n := 2) (ks := []) (perm := [0, 1]) (j := (0 + n)) (l := (0 + n)) ?_ ?_ ?_ ?_ ?_ ?_ (len_aC (len_aC len_aN)) jk_nil len_aN
                · exact q__law_alike
                · omega
                · exact hr
                · exact hg
                · exact fun _ _ _ _ _ _ us ws h1 h2 => match us, ws, h1, h2 with | [_, _], [], _, _ => rfl
                · refine ja_cons ?_ ?_
                  · refine jp_idx (jv 0) (jv 2) ?_
                    exact fun _ _ => rfl
                  · refine ja_cons ?_ ja_nil
                    refine jp_idx (jv 1) (jv 2) ?_
                    exact fun _ _ => rfl
              · exact fun _ => rfl
    · refine jss_cons ?_ ?_
      · refine js_if (M := []) ?_ ?_ jss_nil
        · refine jt_pw ?_
          refine jw_or ?_ ?_
          · refine jt_cmp (oj_ne ?_) ?_ ?_ (nomark _)
            · exact u64 hr
            · refine jp_isi ist_bool (jv 0) ?_ ?_ ?_ ?_ ?_
              · rfl
              · exact z_isinstance
              · rfl
              · exact z_bool
              · decide +kernel
            · refine jp_isi ist_bool (jv 1) ?_ ?_ ?_ ?_ ?_
              · rfl
              · exact z_isinstance
              · rfl
              · exact z_bool
              · decide +kernel
          · refine jw_or1 ?_
            refine jt_cmp (oj_ne ?_) ?_ ?_ (nomark _)
            · exact u64 hr
            · refine jp_isi ist_int (jv 0) ?_ ?_ ?_ ?_ ?_
              · rfl
              · exact z_isinstance
              · rfl
              · exact z_int
              · decide +kernel
            · refine jp_isi ist_int (jv 1) ?_ ?_ ?_ ?_ ?_
              · rfl
              · exact z_isinstance
              · rfl
              · exact z_int
              · decide +kernel
        · refine jss_cons ?_ jss_nil
          exact js_ret (M := []) jp_bl
      · refine jss_cons ?_ jss_nil
        refine js_ret (M := []) ?_
        refine jp_and ?_ ?_
        · refine jp_cmp (oj_eq ?_) ?_ ?_ (nomark _)
          · exact u64 hr
          · refine jp_isi ist_str (jv 0) ?_ ?_ ?_ ?_ ?_
            · rfl
            · exact z_isinstance
            · rfl
            · exact z_str
            · decide +kernel
          · refine jp_isi ist_str (jv 1) ?_ ?_ ?_ ?_ ?_
            · rfl
            · exact z_isinstance
            · rfl
            · exact z_str
            · decide +kernel
        · refine jp_one ?_
          refine jp_cmp (oj_eq ?_) (jv 0) (jv 1) (nomark _)
          exact u64 hr
abbrev s__law_row : Stmt := topS 33
theorem sc__law_row : FnScope ["bag", "wide", "bent", "row", "k", "any_here"] ["bag", "wide"] (defScope s__law_row) := ⟨rfl, rfl, rfl, by decide +kernel, rfl, by decide +kernel, by decide +kernel⟩
def l__law_row_1 : Sv := (sSeq (sSet 5 0 [] (eBin dSub (eCall F__law_draw [0, 1] (aApp (aC (eVar 0) (aC (eBin dAdd (eBin dMul (eC (.int 2)) (eVar 4)) (eC (.int 1))) aN)) aN)) (eVar 4)))
    (sSeq (sApp 3 [] 0 (eIdx (eLst (aC (eVar 5) (aC (eBin dSub (eC (.int 0)) (eVar 4)) (aC (eVar 4) (aC (eC (.int 0)) (aC (eIdx (eLst (aC (eBin dSub (eC (.int 0)) (eVar 4)) (aC (eVar 5) aN))) (eCall F__law_draw [0, 1] (aApp (aC (eVar 0) (aC (eC (.int 2)) aN)) aN))) aN)))))) (eVar 2)))
    sNil))
def b__law_row : Sv := (sSeq (sPar 2 3 0 1 [] [] (eCall F__law_draw [0, 1] (aApp (aC (eVar 0) (aC (eC (.int 5)) aN)) aN)) (eLst aN))
    (sSeq (sFor0 [] (iU rg1 (eBin dSub (eVar 1) (eC (.int 1)))) (bN 4)
    l__law_row_1)
    (sSeq (sRet [3] (eVar 3))
    sNil)))
def F__law_row : FnD := fnD 6 b__law_row
theorem ok__law_row {P : Program} {w : World} {K : PySem.W.Frag} {mg : Str → Option Value} {base : Heap} (D : Dfn K mg "_law_row" s__law_row)
    (q__law_draw : Cal P w K mg base "_law_draw" s__law_draw ["bag", "wide"] 2 F__law_draw 0)
    (z_range : mg "range" = none) :
    Cal P w K mg base "_law_row" s__law_row ["bag", "wide"] 3 F__law_row 0 := by
    refine cal_def D sc__law_row fun f cdv A outer s H hr hg => ?_
    unfold b__law_row
    refine jss_cons ?_ ?_
    · refine js_par (i := 2) (j := 3) (M1 := []) (M2 := []) ?_ ?_ ?_ ?_ ?_ ?_ ?_ ?_ ?_ ?_
      · refine jp_cal (st := s__law_draw) (ps := ["bag", "wide"]) (n := 2) (ks := []) (perm := [0, 1]) (j := 2) (l := 2) ?_ ?_ ?_ ?_ ?_ ?_ (len_aC (len_aC len_aN)) jk_nil len_aN
        · exact q__law_draw
        · omega
        · exact hr
        · exact hg
        · exact fun _ _ _ _ _ _ us ws h1 h2 => match us, ws, h1, h2 with | [_, _], [], _, _ => rfl
        · refine ja_cons (jv 0) ?_
          exact ja_cons jp_int ja_nil
      · exact jp_lst ja_nil
      · rfl
      · exact sc__law_row.nd
      · rfl
      · rfl
      · decide
      · rfl
      · rfl
      · rfl
    · refine jss_cons ?_ ?_
      · refine js_for0 (M := []) ?_ ?_ ?_ ?_ gspec_name ?_
        · exact PassesOwn.never
        · rfl
        · refine ji0_range1 ?_ ?_ ?_
          · exact jp_bin oj_sub (jv 1) jp_int
          · rfl
          · exact z_range
        · refine pg_name (i := 4) ?_ ?_ ?_
          · exact sc__law_row.nd
          · rfl
          · exact .inl rfl
        · refine jss_cons ?_ ?_
          · refine js_set (i := 5) (M := []) ?_ ?_ ?_ ?_
            · refine jp_bin oj_sub ?_ (jv 4)
              refine jp_cal (st := s__law_draw) (ps := ["bag", "wide"]) (n := 2) (ks := []) (perm := [0, 1]) (j := 2) (l := 2) ?_ ?_ ?_ ?_ ?_ ?_ (len_aC (len_aC len_aN)) jk_nil len_aN
              · exact q__law_draw
              · omega
              · exact hr
              · exact hg
              · exact fun _ _ _ _ _ _ us ws h1 h2 => match us, ws, h1, h2 with | [_, _], [], _, _ => rfl
              · refine ja_cons (jv 0) ?_
                refine ja_cons ?_ ja_nil
                refine @JP.zero _ _ _ 1 ?_
                refine jp_bin oj_add ?_ jp_int
                refine @JP.zero _ _ _ 1 ?_
                exact jp_bin oj_mul jp_int (jv 4)
            · exact sc__law_row.nd
            · rfl
            · exact .inl rfl
          · refine jss_cons ?_ jss_nil
            refine js_app (i := 3) (M := []) ?_ ?_ ?_
            · refine jp_idx ?_ (jv 2) ?_
              · refine @JP.zero _ _ _ 1 ?_
                refine jp_lst ?_
                refine ja_cons (jv 5) ?_
                refine ja_cons ?_ ?_
                · exact jp_bin oj_sub jp_int (jv 4)
                · refine ja_cons (jv 4) ?_
                  refine ja_cons jp_int ?_
                  refine ja_cons ?_ ja_nil
                  refine jp_idx ?_ ?_ ?_
                  · refine @JP.zero _ _ _ 1 ?_
                    refine jp_lst ?_
                    refine ja_cons ?_ ?_
                    · exact jp_bin oj_sub jp_int (jv 4)
                    · exact ja_cons (jv 5) ja_nil
                  · refine jp_cal (st := s__law_draw) (ps := ["bag", "wide"]) (n := 2) (ks := []) (perm := [0, 1]) (j := 2) (l := 2) ?_ ?_ ?_ ?_ ?_ ?_ (len_aC (len_aC len_aN)) jk_nil len_aN
                    · exact q__law_draw
                    · omega
                    · exact hr
                    · exact hg
                    · exact fun _ _ _ _ _ _ us ws h1 h2 => match us, ws, h1, h2 with | [_, _], [], _, _ => rfl
                    · refine ja_cons (jv 0) ?_
                      exact ja_cons jp_int ja_nil
                  · exact fun _ _ => rfl
              · exact fun _ _ => rfl
            · rfl
            · exact .inl rfl
      · refine jss_cons ?_ jss_nil
        exact js_ret (M := [3]) (jv 3)
abbrev s__law_by : Stmt := topS 34
theorem sc__law_by : FnScope ["row", "made", "k", "goal", "later", "one", "is_around"] ["row"] (defScope s__law_by) := ⟨rfl, rfl, rfl, by decide +kernel, rfl, by decide +kernel, by decide +kernel⟩
def l__law_by_1 : Sv := (sSeq (sSet 6 0 [] (eAnd (eBin dIn (eIdx (eVar 3) (eC (.int 0))) (eVar 5)) (eBin dGt (eOp cLen (aC (eVar 5) aN)) (eOp cLen (aC (eVar 3) aN)))))
    (sSeq (sApp 4 [] 0 (eIf (bT (eVar 6)) (eBin dAdd (eVar 5) (eLst (aC (eBin dAdd (eVar 2) (eC (.int 1))) aN))) (eVar 5)))
    sNil))
def l__law_by_2 : Sv := (sSeq (sSet 3 0 [] (eIf (bT (eBin dGe (eIdx (eVar 0) (eVar 2)) (eC (.int 0)))) (eLst (aC (eIdx (eVar 0) (eVar 2)) aN)) (eIdx (eVar 1) (eBin dSub (eBin dSub (eC (.int 0)) (eIdx (eVar 0) (eVar 2))) (eC (.int 1))))))
    (sSeq (sSet 4 1 [] (eLst aN))
    (sSeq (sFor [] (iVal (eVar 1)) (bN 5)
    l__law_by_1)
    (sSeq (sSet 1 0 [4] (eBin dAdd (eVar 4) (eLst (aC (eBin dAdd (eVar 3) (eLst (aC (eBin dAdd (eVar 2) (eC (.int 1))) aN))) aN))))
    sNil))))
def b__law_by : Sv := (sSeq (sSet 1 0 [] (eLst aN))
    (sSeq (sFor0 [] (iU rg1 (eOp cLen (aC (eVar 0) aN))) (bN 2)
    l__law_by_2)
    (sSeq (sRet [] (eUn dSort (eVar 1)))
    sNil)))
def F__law_by : FnD := fnD 7 b__law_by
theorem ok__law_by {P : Program} {w : World} {K : PySem.W.Frag} {mg : Str → Option Value} {base : Heap} (D : Dfn K mg "_law_by" s__law_by)
    (z_len : mg "len" = none)
    (z_range : mg "range" = none)
    (z_sorted : mg "sorted" = none) :
    Cal P w K mg base "_law_by" s__law_by ["row"] 1 F__law_by 0 := by
    refine cal_def D sc__law_by fun f cdv A outer s H hr hg => ?_
    unfold b__law_by
    refine jss_cons ?_ ?_
    · refine js_set (i := 1) (M := []) ?_ ?_ ?_ ?_
      · refine @JP.zero _ _ _ 1 ?_
        exact jp_lst ja_nil
      · exact sc__law_by.nd
      · rfl
      · exact .inl rfl
    · refine jss_cons ?_ ?_
      · refine js_for0 (M := []) ?_ ?_ ?_ ?_ gspec_name ?_
        · exact PassesOwn.never
        · rfl
        · refine ji0_range1 ?_ ?_ ?_
          · refine jp_callB cj_len ?_ ?_ ?_ ?_
            · rfl
            · exact z_len
            · decide +kernel
            · exact ja_cons (jv 0) ja_nil
          · rfl
          · exact z_range
        · refine pg_name (i := 2) ?_ ?_ ?_
          · exact sc__law_by.nd
          · rfl
          · exact .inl rfl
        · refine jss_cons ?_ ?_
          · refine js_set (i := 3) (M := []) ?_ ?_ ?_ ?_
            · refine jp_if ?_ ?_ ?_
              · refine jt_cmp oj_ge ?_ jp_int (nomark _)
                refine jp_idx (jv 0) (jv 2) ?_
                exact fun _ _ => rfl
              · refine @JP.zero _ _ _ 1 ?_
                refine jp_lst ?_
                refine ja_cons ?_ ja_nil
                refine jp_idx (jv 0) (jv 2) ?_
                exact fun _ _ => rfl
              · refine jp_idx (jv 1) ?_ ?_
                · refine jp_bin oj_sub ?_ jp_int
                  refine jp_bin oj_sub jp_int ?_
                  refine jp_idx (jv 0) (jv 2) ?_
                  exact fun _ _ => rfl
                · exact fun _ _ => rfl
            · exact sc__law_by.nd
            · rfl
            · exact .inl rfl
          · refine jss_cons ?_ ?_
            · refine js_set (i := 4) (M := []) ?_ ?_ ?_ ?_
              · exact jp_lst ja_nil
              · exact sc__law_by.nd
              · rfl
              · exact .inl rfl
            · refine jss_cons ?_ ?_
              · refine js_for (M := []) ?_ ?_ ?_ ?_ gspec_name ?_
                · exact PassesOwn.never
                · rfl
                · exact ji_val (jv 1)
                · refine pg_name (i := 5) ?_ ?_ ?_
                  · exact sc__law_by.nd
                  · rfl
                  · exact .inl rfl
                · refine jss_cons ?_ ?_
                  · refine js_set (i := 6) (M := []) ?_ ?_ ?_ ?_
                    · refine jp_and ?_ ?_
                      · refine jp_cmp (oj_in ?_) ?_ (jv 5) ?_
                        · exact u65 hr
                        · refine jp_idx (jv 3) jp_int ?_
                          exact fun _ _ => rfl
                        · rfl
                      · refine jp_one ?_
                        refine jp_cmp oj_gt ?_ ?_ (nomark _)
                        · refine jp_callB cj_len ?_ ?_ ?_ ?_
                          · rfl
                          · exact z_len
                          · decide +kernel
                          · exact ja_cons (jv 5) ja_nil
                        · refine jp_callB cj_len ?_ ?_ ?_ ?_
                          · rfl
                          · exact z_len
                          · decide +kernel
                          · exact ja_cons (jv 3) ja_nil
                    · exact sc__law_by.nd
                    · rfl
                    · exact .inl rfl
                  · refine jss_cons ?_ jss_nil
                    refine js_app (i := 4) (M := []) ?_ ?_ ?_
                    · refine jp_if ?_ ?_ (jv 5)
                      · refine jt_val (jv 6) ?_
                        exact fun _ => rfl
                      · refine @JP.zero _ _ _ 1 ?_
                        refine jp_bin oj_add (jv 5) ?_
                        refine @JP.zero _ _ _ 1 ?_
                        refine jp_lst ?_
                        refine ja_cons ?_ ja_nil
                        refine @JP.zero _ _ _ 1 ?_
                        exact jp_bin oj_add (jv 2) jp_int
                    · rfl
                    · exact .inl rfl
              · refine jss_cons ?_ jss_nil
                refine js_set (i := 1) (M := [4]) ?_ ?_ ?_ ?_
                · refine @JP.zero _ _ _ 1 ?_
                  refine jp_bin oj_add (jv 4) ?_
                  refine @JP.zero _ _ _ 1 ?_
                  refine jp_lst ?_
                  refine ja_cons ?_ ja_nil
                  refine @JP.zero _ _ _ 1 ?_
                  refine jp_bin oj_add (jv 3) ?_
                  refine @JP.zero _ _ _ 1 ?_
                  refine jp_lst ?_
                  refine ja_cons ?_ ja_nil
                  refine @JP.zero _ _ _ 1 ?_
                  exact jp_bin oj_add (jv 2) jp_int
                · exact sc__law_by.nd
                · rfl
                · exact .inl rfl
      · refine jss_cons ?_ jss_nil
        refine js_ret (M := []) ?_
        refine @JP.zero _ _ _ 1 ?_
        refine jp_sorted0 (jv 1) ?_ ?_ ?_
        · exact u66 hr
        · rfl
        · exact z_sorted
abbrev s__law_text : Stmt := topS 35
theorem sc__law_text : FnScope ["lot", "one", "first", "other", "rest", "x"] ["lot", "one"] (defScope s__law_text) := ⟨rfl, rfl, rfl, by decide +kernel, rfl, by decide +kernel, by decide +kernel⟩
def l__law_text_1 (R : FnD) : Sv := (sSeq (sIf [] (aT (bT (eBin dIn (eIdx (eVar 1) (eC (.int 0))) (eVar 3))) (bT (eChain dLt dLt (eOp cLen (aC (eVar 2) aN)) (eOp cLen (aC (eVar 3) aN)) (eOp cLen (aC (eVar 1) aN)))))
    (sSeq (sSet 2 0 [] (eVar 3))
    sNil)
    sNil)
    sNil)
def c__law_text_1 (R : FnD) : Ev := (eComp (iVal (eVar 1)) (bN 5) (bT (eBin dNotIn (eVar 5) (eVar 2))) (eVar 5) [5])
def b__law_text (R : FnD) : Sv := (sSeq (sIf [] (bT (eBin dEq (eOp cLen (aC (eVar 1) aN)) (eC (.int 1))))
    (sSeq (sRet [] (eOp cStr (aC (eIdx (eVar 1) (eC (.int 0))) aN)))
    sNil)
    sNil)
    (sSeq (sSet 2 0 [] (eLst (aC (eIdx (eVar 1) (eC (.int 0))) aN)))
    (sSeq (sFor [] (iVal (eVar 0)) (bN 3)
    (l__law_text_1 R))
    (sSeq (sSet 4 0 [] (c__law_text_1 R))
    (sSeq (sRet [] (eBin dAdd (eBin dAdd (eBin dAdd (eBin dAdd (eC (.str "(")) (eCall R [0, 1] (aApp (aC (eVar 0) (aC (eVar 2) aN)) aN))) (eC (.str " "))) (eCall R [0, 1] (aApp (aC (eVar 0) (aC (eVar 4) aN)) aN))) (eC (.str ")"))))
    sNil)))))
def F__law_text : Nat → FnD
  | 0 => fun _ _ => none
  | n + 1 => fnD 6 (b__law_text (F__law_text n))
theorem ok__law_text {P : Program} {w : World} {K : PySem.W.Frag} {mg : Str → Option Value} {base : Heap} (D : Dfn K mg "_law_text" s__law_text)
    (z_len : mg "len" = none)
    (z_str : mg "str" = none) : ∀ n : Nat, Cal P w K mg base "_law_text" s__law_text ["lot", "one"] (0 + n) (F__law_text n) 0
  | 0 => cal_none D
  | n + 1 => by
    have q__law_text := ok__law_text (P := P) (w := w) (base := base) D z_len z_str n
    refine cal_def D sc__law_text fun f cdv A outer s H hr hg => ?_
    unfold b__law_text
    refine jss_cons ?_ ?_
    · refine js_if (M := []) ?_ ?_ jss_nil
      · refine jt_cmp (oj_eq ?_) ?_ jp_int (nomark _)
        · exact u64 hr
        · refine jp_callB cj_len ?_ ?_ ?_ ?_
          · rfl
          · exact z_len
          · decide +kernel
          · exact ja_cons (jv 1) ja_nil
      · refine jss_cons ?_ jss_nil
        refine js_ret (M := []) ?_
        refine jp_callTy cj_str ?_ ?_ ?_ ?_
        · rfl
        · exact z_str
        · decide +kernel
        · refine ja_cons ?_ ja_nil
          refine jp_idx (jv 1) jp_int ?_
          exact fun _ _ => rfl
    · refine jss_cons ?_ ?_
      · refine js_set (i := 2) (M := []) ?_ ?_ ?_ ?_
        · refine @JP.zero _ _ _ 1 ?_
          refine jp_lst ?_
          refine ja_cons ?_ ja_nil
          refine jp_idx (jv 1) jp_int ?_
          exact fun _ _ => rfl
        · exact sc__law_text.nd
        · rfl
        · exact .inr rfl
      · refine jss_cons ?_ ?_
        · refine js_for (M := []) ?_ ?_ ?_ ?_ gspec_name ?_
          · exact PassesOwn.never
          · rfl
          · exact ji_val (jv 0)
          · refine pg_name (i := 3) ?_ ?_ ?_
            · exact sc__law_text.nd
            · rfl
            · exact .inl rfl
          · refine jss_cons ?_ jss_nil
            refine js_if (M := []) ?_ ?_ jss_nil
            · refine jt_pw ?_
              refine jw_and ?_ ?_
              · refine jt_cmp (oj_in ?_) ?_ (jv 3) ?_
                · exact u65 hr
                · refine jp_idx (jv 1) jp_int ?_
                  exact fun _ _ => rfl
                · rfl
              · refine jw_and1 ?_
                refine jt_chain (oj_lt ?_) (oj_lt ?_) ?_ ?_ ?_ ?_
                · exact u64 hr
                · exact u64 hr
                · refine jp_callB cj_len ?_ ?_ ?_ ?_
                  · rfl
                  · exact z_len
                  · decide +kernel
                  · exact ja_cons (jv 2) ja_nil
                · refine jp_callB cj_len ?_ ?_ ?_ ?_
                  · rfl
                  · exact z_len
                  · decide +kernel
                  · exact ja_cons (jv 3) ja_nil
                · refine jp_callB cj_len ?_ ?_ ?_ ?_
                  · rfl
                  · exact z_len
                  · decide +kernel
                  · exact ja_cons (jv 1) ja_nil
                · rfl
            · refine jss_cons ?_ jss_nil
              refine js_set (i := 2) (M := []) (jv 3) ?_ ?_ ?_
              · exact sc__law_text.nd
              · rfl
              · exact .inr rfl
        · refine jss_cons ?_ ?_
          · refine js_comp0 (j := 0) (own := [("x", 5)]) (i := 4) (M := []) ?_ ?_ ?_ ?_ ?_ ?_ ?_ ?_ ?_ (fun _ _ _ _ _ => (jv 5)) ho_n ?_
            · rfl
            · exact sc__law_text.nd
            · rfl
            · rfl
            · exact sw_true rfl rfl rfl (by decide +kernel)
            · exact ji_val (jv 1)
            · refine blkOk_by (N := ["lot", "one", "first", "other", "rest", "x"]) (sc := defScope s__law_text) ?_
              decide +kernel
            · refine jg_n ?_ ?_ ?_
              · exact sc__law_text.nd
              · rfl
              · exact fun _ _ _ _ _ => .inl rfl
            · refine jts_one (fun _ _ _ _ _ => ?_)
              refine jt_cmp (oj_notIn ?_) (jv 5) (jv 2) ?_
              · exact u65 hr
              · rfl
            · exact fun _ => rfl
          · refine jss_cons ?_ jss_nil
            refine js_ret (M := []) ?_
            refine @JP.zero _ _ _ 1 ?_
            refine jp_bin oj_add ?_ jp_str
            refine @JP.zero _ _ _ 1 ?_
            refine jp_bin oj_add ?_ ?_
            · refine @JP.zero _ _ _ 1 ?_
              refine jp_bin oj_add ?_ jp_str
              refine @JP.zero _ _ _ 1 ?_
              refine jp_bin oj_add jp_str ?_
              refine jp_cal (st := s__law_text) (ps := ["lot", "one"]) (n := 2) (ks := []) (perm := [0, 1]) (j := (0 + n)) (l := (0 + n)) ?_ ?_ ?_ ?_ ?_ ?_ (len_aC (len_aC len_aN)) jk_nil len_aN
              · exact q__law_text
              · omega
              · exact hr
              · exact hg
              · exact fun _ _ _ _ _ _ us ws h1 h2 => match us, ws, h1, h2 with | [_, _], [], _, _ => rfl
              · refine ja_cons (jv 0) ?_
                exact ja_cons (jv 2) ja_nil
            · refine jp_cal (st := s__law_text) (ps := ["lot", "one"]) (n := 2) (ks := []) (perm := [0, 1]) (j := (0 + n)) (l := (0 + n)) ?_ ?_ ?_ ?_ ?_ ?_ (len_aC (len_aC len_aN)) jk_nil len_aN
              · exact q__law_text
              · omega
              · exact hr
              · exact hg
              · exact fun _ _ _ _ _ _ us ws h1 h2 => match us, ws, h1, h2 with | [_, _], [], _, _ => rfl
              · refine ja_cons (jv 0) ?_
                exact ja_cons (jv 4) ja_nil
abbrev s_law : Stmt := topS 36
theorem sc_law : FnScope ["script", "bag", "turn", "row", "lot", "kept", "due", "told", "c"] ["script"] (defScope s_law) := ⟨rfl, rfl, rfl, by decide +kernel, rfl, by decide +kernel, by decide +kernel⟩
def c_law_1 : Ev := (eComp (iVal (eVar 3)) (bN 8) tY (eOp cStr (aC (eVar 8) aN)) [8])
def l_law_1 : Sv := (sSeq (sSet 3 0 [] (eCall F__law_row [0, 1] (aApp (aC (eVar 1) (aC (eIdx (eLst (aC (eBin dAdd (eC (.int 1)) (eCall F__law_draw [0, 1] (aApp (aC (eVar 1) (aC (eC (.int 20)) aN)) aN))) (aC (eC (.int 20)) aN))) (eOp cInt (aC (eBin dGt (eVar 2) (eC (.int 6))) aN))) aN)) aN)))
    (sSeq (sSet 4 0 [] (eCall F__law_by [0] (aApp (aC (eVar 3) aN) aN)))
    (sSeq (sSet 5 0 [] (eUn dRepr (eLst (aC (eVar 3) (aC (eVar 4) aN)))))
    (sSeq (sSet 6 0 [] (eLst (aC (eCall (F__law_text 22) [0, 1] (aApp (aC (eVar 4) (aC (eLRg (r1 (eBin dAdd (eOp cLen (aC (eVar 3) aN)) (eC (.int 1))))) aN)) aN)) (aC (eIf (bT (eBin dNe (eVar 3) (eLst aN))) (eBin dJoin (eC (.str " ")) c_law_1) (eC (.str "-"))) aN))))
    (sSeq (sIf [] (oT (nT (bT (eCall (F__law_alike 6) [0, 1] (aApp (aC (eLst (aC (eCall F_write_parting [0] (aC (eVar 4) aN)) (aC (eCall F_write_coming [0] (aC (eVar 3) aN)) aN))) (aC (eVar 6) aN)) aN)))) (bT (eBin dNe (eUn dRepr (eLst (aC (eVar 3) (aC (eVar 4) aN)))) (eVar 5))))
    (sSeq (sRet [] (eC (.bool false)))
    sNil)
    sNil)
    (sSeq (sSet 7 3 [] (eLst (aC (eCall F_read_parting [0] (aC (eIdx (eVar 6) (eC (.int 0))) aN)) (aC (eUp (eCall F_read_coming [0] (aC (eIdx (eVar 6) (eC (.int 1))) aN))) aN))))
    (sSeq (sIfP [7] (nT (bT (eCall (F__law_alike 6) [0, 1] (aApp (aC (eVar 7) (aC (eLst (aC (eVar 4) (aC (eVar 3) aN))) aN)) aN))))
    (sSeq (sRet [] (eC (.bool false)))
    sNil)
    sNil)
    (sSeq (sApp1 7 [] 1 (eC (.int 0)) (eLst aN))
    (sSeq (sAppC2 7 (0) (0) (.int 0))
    (sSeq (sApp1 7 [] 1 (eC (.int 1)) (eC .none))
    (sSeq (sIf [] (nT (bT (eCall (F__law_alike 6) [0, 1] (aApp (aC (eLst (aC (eCall F_read_parting [0] (aApp (aC (eIdx (eVar 6) (eC (.int 0))) aN) aN)) (aC (eCall F_read_coming [0] (aApp (aC (eIdx (eVar 6) (eC (.int 1))) aN) aN)) aN))) (aC (eLst (aC (eVar 4) (aC (eVar 3) aN))) aN)) aN))))
    (sSeq (sRet [] (eC (.bool false)))
    sNil)
    sNil)
    sNil)))))))))))
def b_law : Sv := (sSeq (sNew 1 (eCall F__law_bag [0] (aApp (aC (eVar 0) aN) aN)))
    (sSeq (sFor0 [] (iU rg1 (eC (.int 8))) (bN 2)
    l_law_1)
    (sSeq (sSet 7 0 [] (eLst (aC (eCall F_write_parting [0] (aApp (aC (eC (.list [(.list [(.int 0), (.int 1), (.int 2)]), (.list [(.int 0), (.int 2)])])) aN) aN)) (aC (eCall F_write_coming [0] (aApp (aC (eC (.list [(.int 0), (.int (-1)), (.int 2)])) aN) aN)) (aC (eCall F_write_parting [0] (aApp (aC (eLst aN) aN) aN)) (aC (eCall F_write_coming [0] (aApp (aC (eLst aN) aN) aN)) aN))))))
    (sSeq (sSet 7 0 [7] (eBin dAdd (eVar 7) (eLst (aC (eCall F_read_parting [0] (aApp (aC (eC (.str "((0 1) (2 3))")) aN) aN)) (aC (eCall F_read_parting [0] (aApp (aC (eC (.str "0")) aN) aN)) (aC (eCall F_read_coming [0] (aApp (aC (eC (.str "-")) aN) aN)) (aC (eCall F_read_coming [0] (aApp (aC (eC (.str "0")) aN) aN)) aN)))))))
    (sSeq (sSet 7 0 [7] (eBin dAdd (eVar 7) (eLst (aC (eCall F_read_coming [0] (aApp (aC (eC (.str "0 -1")) aN) aN)) aN))))
    (sSeq (sSet 6 0 [] (eC (.list [(.str "((0 2) 1)"), (.str "0 -1 2"), (.str "0"), (.str "-"), (.list [(.list [(.int 0), (.int 1)]), (.list [(.int 0), (.int 1), (.int 2), (.int 3)]), (.list [(.int 2), (.int 3)])]), (.list []), (.list []), (.list [(.int 0)]), (.list [(.int 0), (.int (-1))])])))
    (sSeq (sRet [7] (eCall (F__law_alike 6) [0, 1] (aApp (aC (eVar 7) (aC (eVar 6) aN)) aN)))
    sNil)))))))
theorem ok_law {P : Program} {w : World} {K : PySem.W.Frag} {mg : Str → Option Value} {base : Heap} {f : Addr} {fd : FuncData} (F : Fun K "law" "law" s_law f fd)
    (q_write_parting : Cal P w K mg base "write_parting" s_write_parting ["parting"] 25 F_write_parting 0)
    (q_read_parting : CalT P w K mg base "read_parting" s_read_parting ["text"] 25 F_read_parting 2)
    (q_write_coming : Cal P w K mg base "write_coming" s_write_coming ["coming"] 2 F_write_coming 0)
    (q_read_coming : Cal P w K mg base "read_coming" s_read_coming ["text"] 3 F_read_coming 1)
    (q__law_bag : Cal P w K mg base "_law_bag" s__law_bag ["script"] 1 F__law_bag 1)
    (q__law_draw : Cal P w K mg base "_law_draw" s__law_draw ["bag", "wide"] 2 F__law_draw 0)
    (q__law_alike : Cal P w K mg base "_law_alike" s__law_alike ["found", "due"] 6 (F__law_alike 6) 0)
    (q__law_row : Cal P w K mg base "_law_row" s__law_row ["bag", "wide"] 3 F__law_row 0)
    (q__law_by : Cal P w K mg base "_law_by" s__law_by ["row"] 1 F__law_by 0)
    (q__law_text : Cal P w K mg base "_law_text" s__law_text ["lot", "one"] 22 (F__law_text 22) 0)
    (z_int : mg "int" = none)
    (z_len : mg "len" = none)
    (z_list : mg "list" = none)
    (z_range : mg "range" = none)
    (z_repr : mg "repr" = none)
    (z_str : mg "str" = none) :
    FnG P w K mg base 26 f fd ["script"] (spLaw K 9 b_law) :=
  fng_law (N := ["script", "bag", "turn", "row", "lot", "kept", "due", "told", "c"]) (k := 25) (g := b_law) F sc_law fun cdv A outer s H hr hg => by
    unfold b_law
    refine jss_cons ?_ ?_
    · refine js_new (i := 1) ?_ ?_ ?_ ?_
      · refine jp_cal (st := s__law_bag) (ps := ["script"]) (n := 1) (ks := []) (perm := [0]) (j := 1) (l := 25) ?_ ?_ ?_ ?_ ?_ ?_ (len_aC len_aN) jk_nil len_aN
        · exact q__law_bag
        · omega
        · exact hr
        · exact hg
        · exact fun _ _ _ _ _ _ us ws h1 h2 => match us, ws, h1, h2 with | [_], [], _, _ => rfl
        · exact ja_cons (jv 0) ja_nil
      · exact sc_law.nd
      · rfl
      · exact .inl rfl
    · refine jss_cons ?_ ?_
      · refine js_for0 (M := []) ?_ ?_ ?_ ?_ gspec_name ?_
        · exact PassesOwn.never
        · rfl
        · refine ji0_range1 jp_int ?_ ?_
          · rfl
          · exact z_range
        · refine pg_name (i := 2) ?_ ?_ ?_
          · exact sc_law.nd
          · rfl
          · exact .inl rfl
        · refine jss_cons ?_ ?_
          · refine js_set (i := 3) (M := []) ?_ ?_ ?_ ?_
            · refine jp_cal (st := s__law_row) (ps := ["bag", "wide"]) (n := 2) (ks := []) (perm := [0, 1]) (j := 3) (l := 25) ?_ ?_ ?_ ?_ ?_ ?_ (len_aC (len_aC len_aN)) jk_nil len_aN
              · exact q__law_row
              · omega
              · exact hr
              · exact hg
              · exact fun _ _ _ _ _ _ us ws h1 h2 => match us, ws, h1, h2 with | [_, _], [], _, _ => rfl
              · refine ja_cons (jv 1) ?_
                refine ja_cons ?_ ja_nil
                refine jp_idx ?_ ?_ ?_
                · refine @JP.zero _ _ _ 1 ?_
                  refine jp_lst ?_
                  refine ja_cons ?_ ?_
                  · refine @JP.zero _ _ _ 1 ?_
                    refine jp_bin oj_add jp_int ?_
                    refine jp_cal (st := s__law_draw) (ps := ["bag", "wide"]) (n := 2) (ks := []) (perm := [0, 1]) (j := 2) (l := 25) ?_ ?_ ?_ ?_ ?_ ?_ (len_aC (len_aC len_aN)) jk_nil len_aN
                    · exact q__law_draw
                    · omega
                    · exact hr
                    · exact hg
                    · exact fun _ _ _ _ _ _ us ws h1 h2 => match us, ws, h1, h2 with | [_, _], [], _, _ => rfl
                    · refine ja_cons (jv 1) ?_
                      exact ja_cons jp_int ja_nil
                  · exact ja_cons jp_int ja_nil
                · refine jp_callTy cj_int ?_ ?_ ?_ ?_
                  · rfl
                  · exact z_int
                  · decide +kernel
                  · refine ja_cons ?_ ja_nil
                    exact jp_cmp oj_gt (jv 2) jp_int (nomark _)
                · exact fun _ _ => rfl
            · exact sc_law.nd
            · rfl
            · exact .inl rfl
          · refine jss_cons ?_ ?_
            · refine js_set (i := 4) (M := []) ?_ ?_ ?_ ?_
              · refine jp_cal (st := s__law_by) (ps := ["row"]) (n := 1) (ks := []) (perm := [0]) (j := 1) (l := 25) ?_ ?_ ?_ ?_ ?_ ?_ (len_aC len_aN) jk_nil len_aN
                · exact q__law_by
                · omega
                · exact hr
                · exact hg
                · exact fun _ _ _ _ _ _ us ws h1 h2 => match us, ws, h1, h2 with | [_], [], _, _ => rfl
                · exact ja_cons (jv 3) ja_nil
              · exact sc_law.nd
              · rfl
              · exact .inl rfl
            · refine jss_cons ?_ ?_
              · refine js_set (i := 5) (M := []) ?_ ?_ ?_ ?_
                · refine jp_repr ?_ ?_ ?_ ?_ ?_
                  · refine @JP.zero _ _ _ 1 ?_
                    refine jp_lst ?_
                    refine ja_cons (jv 3) ?_
                    exact ja_cons (jv 4) ja_nil
                  · exact hg
                  · exact u66 hr
                  · rfl
                  · exact z_repr
                · exact sc_law.nd
                · rfl
                · exact .inl rfl
              · refine jss_cons ?_ ?_
                · refine js_set (i := 6) (M := []) ?_ ?_ ?_ ?_
                  · refine @JP.zero _ _ _ 1 ?_
                    refine jp_lst ?_
                    refine ja_cons ?_ ?_
                    · refine jp_cal (st := s__law_text) (ps := ["lot", "one"]) (n := 2) (ks := []) (perm := [0, 1]) (j := 22) (l := 25) ?_ ?_ ?_ ?_ ?_ ?_ (len_aC (len_aC len_aN)) jk_nil len_aN
                      · exact q__law_text
                      · omega
                      · exact hr
                      · exact hg
                      · exact fun _ _ _ _ _ _ us ws h1 h2 => match us, ws, h1, h2 with | [_, _], [], _, _ => rfl
                      · refine ja_cons (jv 4) ?_
                        refine ja_cons ?_ ja_nil
                        refine @JP.zero _ _ _ 1 ?_
                        refine jp_listRg ?_ ?_ ?_ ?_
                        · refine jrg_1 ?_ ?_ ?_
                          · refine @JP.zero _ _ _ 1 ?_
                            refine jp_bin oj_add ?_ jp_int
                            refine jp_callB cj_len ?_ ?_ ?_ ?_
                            · rfl
                            · exact z_len
                            · decide +kernel
                            · exact ja_cons (jv 3) ja_nil
                          · rfl
                          · exact z_range
                        · rfl
                        · rfl
                        · exact z_list
                    · refine ja_cons ?_ ja_nil
                      refine jp_if ?_ ?_ jp_str
                      · refine jt_cmp (oj_ne ?_) (jv 3) ?_ (nomark _)
                        · exact u64 hr
                        · refine @JP.zero _ _ _ 1 ?_
                          exact jp_lst ja_nil
                      · refine jp_join jp_str ?_
                        refine @JP.zero _ _ _ 1 ?_
                        refine jp_comp (own := [("c", 8)]) ?_ ?_ ?_ ?_ ?_ jts_nil (fun _ _ _ _ _ => ?_) ho_n ?_
                        · rfl
                        · exact sc_law.nd
                        · exact ji_val (jv 3)
                        · refine blkOk_by (N := ["script", "bag", "turn", "row", "lot", "kept", "due", "told", "c"]) (sc := defScope s_law) ?_
                          decide +kernel
                        · refine jg_n ?_ ?_ ?_
                          · exact sc_law.nd
                          · rfl
                          · exact fun _ _ _ _ _ => .inl rfl
                        · refine jp_callTy cj_str ?_ ?_ ?_ ?_
                          · rfl
                          · exact z_str
                          · decide +kernel
                          · exact ja_cons (jv 8) ja_nil
                        · exact fun _ => rfl
                  · exact sc_law.nd
                  · rfl
                  · exact .inl rfl
                · refine jss_cons ?_ ?_
                  · refine js_if (M := []) ?_ ?_ jss_nil
                    · refine jt_pw ?_
                      refine jw_or ?_ ?_
                      · refine jt_not ?_
                        refine jt_val ?_ ?_
                        · refine jp_cal (st := s__law_alike) (ps := ["found", "due"]) (n := 2) (ks := []) (perm := [0, 1]) (j := 6) (l := 25) ?_ ?_ ?_ ?_ ?_ ?_ (len_aC (len_aC len_aN)) jk_nil len_aN
                          · exact q__law_alike
                          · omega
                          · exact hr
                          · exact hg
                          · exact fun _ _ _ _ _ _ us ws h1 h2 => match us, ws, h1, h2 with | [_, _], [], _, _ => rfl
                          · refine ja_cons ?_ ?_
                            · refine @JP.zero _ _ _ 1 ?_
                              refine jp_lst ?_
                              refine ja_cons ?_ ?_
                              · refine jp_cal0 (st := s_write_parting) (ps := ["parting"]) (ks := ["parting"]) (perm := [0]) (j := 25) (l := 25) ?_ ?_ ?_ ?_ ?_ ?_ (len_aC len_aN)
                                · exact q_write_parting
                                · omega
                                · exact hr
                                · exact hg
                                · exact fun _ _ _ _ _ _ us ws h1 h2 => match us, ws, h1, h2 with | [], [_], _, _ => rfl
                                · exact jk_cons (jv 4) jk_nil
                              · refine ja_cons ?_ ja_nil
                                refine jp_cal0 (st := s_write_coming) (ps := ["coming"]) (ks := ["coming"]) (perm := [0]) (j := 2) (l := 25) ?_ ?_ ?_ ?_ ?_ ?_ (len_aC len_aN)
                                · exact q_write_coming
                                · omega
                                · exact hr
                                · exact hg
                                · exact fun _ _ _ _ _ _ us ws h1 h2 => match us, ws, h1, h2 with | [], [_], _, _ => rfl
                                · exact jk_cons (jv 3) jk_nil
                            · exact ja_cons (jv 6) ja_nil
                        · exact fun _ => rfl
                      · refine jw_or1 ?_
                        refine jt_cmp (oj_ne ?_) ?_ (jv 5) (nomark _)
                        · exact u64 hr
                        · refine jp_repr ?_ ?_ ?_ ?_ ?_
                          · refine @JP.zero _ _ _ 1 ?_
                            refine jp_lst ?_
                            refine ja_cons (jv 3) ?_
                            exact ja_cons (jv 4) ja_nil
                          · exact hg
                          · exact u66 hr
                          · rfl
                          · exact z_repr
                    · refine jss_cons ?_ jss_nil
                      exact js_ret (M := []) jp_bl
                  · refine jss_cons ?_ ?_
                    · refine js_set (i := 7) (M := []) ?_ ?_ ?_ ?_
                      · refine jp_lst ?_
                        refine ja_cons ?_ ?_
                        · refine jp_calQ0 (st := s_read_parting) (ps := ["text"]) (ks := ["text"]) (perm := [0]) (j := 25) (l := 25) ?_ ?_ ?_ ?_ ?_ ?_ ?_ (len_aC len_aN)
                          · exact q_read_parting
                          · omega
                          · exact hr
                          · exact hg
                          · exact fun _ _ _ _ _ _ us ws h1 h2 => match us, ws, h1, h2 with | [], [_], _, _ => rfl
                          · refine jk_cons ?_ jk_nil
                            refine jp_idx (jv 6) jp_int ?_
                            exact fun _ _ => rfl
                          · exact (tk_ix tk_int)
                        · refine ja_cons ?_ ja_nil
                          refine jp_up ?_
                          refine jp_cal0 (st := s_read_coming) (ps := ["text"]) (ks := ["text"]) (perm := [0]) (j := 3) (l := 25) ?_ ?_ ?_ ?_ ?_ ?_ (len_aC len_aN)
                          · exact q_read_coming
                          · omega
                          · exact hr
                          · exact hg
                          · exact fun _ _ _ _ _ _ us ws h1 h2 => match us, ws, h1, h2 with | [], [_], _, _ => rfl
                          · refine jk_cons ?_ jk_nil
                            refine jp_idx (jv 6) jp_int ?_
                            exact fun _ _ => rfl
                      · exact sc_law.nd
                      · rfl
                      · exact .inl rfl
                    · refine jss_cons ?_ ?_
                      · refine js_ifP (M := [7]) ?_ ?_ jss_nil
                        · refine jt_not ?_
                          refine jt_val ?_ ?_
                          · refine jp_cal (st := s__law_alike) (ps := ["found", "due"]) (n := 2) (ks := []) (perm := [0, 1]) (j := 6) (l := 25) ?_ ?_ ?_ ?_ ?_ ?_ (len_aC (len_aC len_aN)) jk_nil len_aN
                            · exact q__law_alike
                            · omega
                            · exact hr
                            · exact hg
                            · exact fun _ _ _ _ _ _ us ws h1 h2 => match us, ws, h1, h2 with | [_, _], [], _, _ => rfl
                            · refine ja_cons (jv 7) ?_
                              refine ja_cons ?_ ja_nil
                              refine @JP.zero _ _ _ 1 ?_
                              refine jp_lst ?_
                              refine ja_cons (jv 4) ?_
                              exact ja_cons (jv 3) ja_nil
                          · exact fun _ => rfl
                        · refine jss_cons ?_ jss_nil
                          exact js_ret (M := []) jp_bl
                      · refine jss_cons ?_ ?_
                        · refine js_app1 (i := 7) (M := []) jp_int ?_ ?_ ?_ ?_
                          · exact jp_lst ja_nil
                          · rfl
                          · exact .inl rfl
                          · exact fun _ _ => rfl
                        · refine jss_cons ?_ ?_
                          · refine js_appC2 (f1 := (eC (.int 0))) (f2 := (eC (.int 0))) (g := (eC (.int 0))) (i := 7) (n1 := 0) (n2 := 0) (d := (.int 0)) jp_int ?_ jp_int ?_ jp_int ?_ ?_ ?_ ?_ ?_
                            · exact fun _ _ => rfl
                            · exact fun _ _ => rfl
                            · exact fun _ _ => rfl
                            · rfl
                            · exact .inl rfl
                            · exact fun _ _ => rfl
                            · exact fun _ _ => rfl
                          · refine jss_cons ?_ ?_
                            · refine js_app1 (i := 7) (M := []) jp_int jp_non ?_ ?_ ?_
                              · rfl
                              · exact .inl rfl
                              · exact fun _ _ => rfl
                            · refine jss_cons ?_ jss_nil
                              refine js_if (M := []) ?_ ?_ jss_nil
                              · refine jt_not ?_
                                refine jt_val ?_ ?_
                                · refine jp_cal (st := s__law_alike) (ps := ["found", "due"]) (n := 2) (ks := []) (perm := [0, 1]) (j := 6) (l := 25) ?_ ?_ ?_ ?_ ?_ ?_ (len_aC (len_aC len_aN)) jk_nil len_aN
                                  · exact q__law_alike
                                  · omega
                                  · exact hr
                                  · exact hg
                                  · exact fun _ _ _ _ _ _ us ws h1 h2 => match us, ws, h1, h2 with | [_, _], [], _, _ => rfl
                                  · refine ja_cons ?_ ?_
                                    · refine @JP.zero _ _ _ 1 ?_
                                      refine jp_lst ?_
                                      refine ja_cons ?_ ?_
                                      · refine @JP.zero _ _ _ 2 ?_
                                        refine jp_calQ (st := s_read_parting) (ps := ["text"]) (perm := [0]) (j := 25) (l := 25) ?_ ?_ ?_ ?_ ?_ ?_ ?_ (len_aC len_aN)
                                        · exact q_read_parting
                                        · omega
                                        · exact hr
                                        · exact hg
                                        · exact fun _ _ _ _ _ _ us ws h1 h2 => match us, ws, h1, h2 with | [_], [], _, _ => rfl
                                        · refine ja_cons ?_ ja_nil
                                          refine jp_idx (jv 6) jp_int ?_
                                          exact fun _ _ => rfl
                                        · exact (tk_ix tk_int)
                                      · refine ja_cons ?_ ja_nil
                                        refine @JP.zero _ _ _ 1 ?_
                                        refine jp_cal (st := s_read_coming) (ps := ["text"]) (n := 1) (ks := []) (perm := [0]) (j := 3) (l := 25) ?_ ?_ ?_ ?_ ?_ ?_ (len_aC len_aN) jk_nil len_aN
                                        · exact q_read_coming
                                        · omega
                                        · exact hr
                                        · exact hg
                                        · exact fun _ _ _ _ _ _ us ws h1 h2 => match us, ws, h1, h2 with | [_], [], _, _ => rfl
                                        · refine ja_cons ?_ ja_nil
                                          refine jp_idx (jv 6) jp_int ?_
                                          exact fun _ _ => rfl
                                    · refine ja_cons ?_ ja_nil
                                      refine @JP.zero _ _ _ 1 ?_
                                      refine jp_lst ?_
                                      refine ja_cons (jv 4) ?_
                                      exact ja_cons (jv 3) ja_nil
                                · exact fun _ => rfl
                              · refine jss_cons ?_ jss_nil
                                exact js_ret (M := []) jp_bl
      · refine jss_cons ?_ ?_
        · refine js_set (i := 7) (M := []) ?_ ?_ ?_ ?_
          · refine @JP.zero _ _ _ 1 ?_
            refine jp_lst ?_
            refine ja_cons ?_ ?_
            · refine jp_cal (st := s_write_parting) (ps := ["parting"]) (n := 1) (ks := []) (perm := [0]) (j := 25) (l := 25) ?_ ?_ ?_ ?_ ?_ ?_ (len_aC len_aN) jk_nil len_aN
              · exact q_write_parting
              · omega
              · exact hr
              · exact hg
              · exact fun _ _ _ _ _ _ us ws h1 h2 => match us, ws, h1, h2 with | [_], [], _, _ => rfl
              · refine ja_cons ?_ ja_nil
                refine jp_const ?_
                rfl
            · refine ja_cons ?_ ?_
              · refine jp_cal (st := s_write_coming) (ps := ["coming"]) (n := 1) (ks := []) (perm := [0]) (j := 2) (l := 25) ?_ ?_ ?_ ?_ ?_ ?_ (len_aC len_aN) jk_nil len_aN
                · exact q_write_coming
                · omega
                · exact hr
                · exact hg
                · exact fun _ _ _ _ _ _ us ws h1 h2 => match us, ws, h1, h2 with | [_], [], _, _ => rfl
                · refine ja_cons ?_ ja_nil
                  refine jp_const ?_
                  rfl
              · refine ja_cons ?_ ?_
                · refine jp_cal (st := s_write_parting) (ps := ["parting"]) (n := 1) (ks := []) (perm := [0]) (j := 25) (l := 25) ?_ ?_ ?_ ?_ ?_ ?_ (len_aC len_aN) jk_nil len_aN
                  · exact q_write_parting
                  · omega
                  · exact hr
                  · exact hg
                  · exact fun _ _ _ _ _ _ us ws h1 h2 => match us, ws, h1, h2 with | [_], [], _, _ => rfl
                  · refine ja_cons ?_ ja_nil
                    refine @JP.zero _ _ _ 1 ?_
                    exact jp_lst ja_nil
                · refine ja_cons ?_ ja_nil
                  refine jp_cal (st := s_write_coming) (ps := ["coming"]) (n := 1) (ks := []) (perm := [0]) (j := 2) (l := 25) ?_ ?_ ?_ ?_ ?_ ?_ (len_aC len_aN) jk_nil len_aN
                  · exact q_write_coming
                  · omega
                  · exact hr
                  · exact hg
                  · exact fun _ _ _ _ _ _ us ws h1 h2 => match us, ws, h1, h2 with | [_], [], _, _ => rfl
                  · refine ja_cons ?_ ja_nil
                    refine @JP.zero _ _ _ 1 ?_
                    exact jp_lst ja_nil
          · exact sc_law.nd
          · rfl
          · exact .inl rfl
        · refine jss_cons ?_ ?_
          · refine js_set (i := 7) (M := [7]) ?_ ?_ ?_ ?_
            · refine @JP.zero _ _ _ 1 ?_
              refine jp_bin oj_add (jv 7) ?_
              refine @JP.zero _ _ _ 1 ?_
              refine jp_lst ?_
              refine ja_cons ?_ ?_
              · refine @JP.zero _ _ _ 2 ?_
                refine jp_calQ (st := s_read_parting) (ps := ["text"]) (perm := [0]) (j := 25) (l := 25) ?_ ?_ ?_ ?_ ?_ ?_ ?_ (len_aC len_aN)
                · exact q_read_parting
                · omega
                · exact hr
                · exact hg
                · exact fun _ _ _ _ _ _ us ws h1 h2 => match us, ws, h1, h2 with | [_], [], _, _ => rfl
                · exact ja_cons jp_str ja_nil
                · exact tk_str
              · refine ja_cons ?_ ?_
                · refine @JP.zero _ _ _ 2 ?_
                  refine jp_calQ (st := s_read_parting) (ps := ["text"]) (perm := [0]) (j := 25) (l := 25) ?_ ?_ ?_ ?_ ?_ ?_ ?_ (len_aC len_aN)
                  · exact q_read_parting
                  · omega
                  · exact hr
                  · exact hg
                  · exact fun _ _ _ _ _ _ us ws h1 h2 => match us, ws, h1, h2 with | [_], [], _, _ => rfl
                  · exact ja_cons jp_str ja_nil
                  · exact tk_str
                · refine ja_cons ?_ ?_
                  · refine @JP.zero _ _ _ 1 ?_
                    refine jp_cal (st := s_read_coming) (ps := ["text"]) (n := 1) (ks := []) (perm := [0]) (j := 3) (l := 25) ?_ ?_ ?_ ?_ ?_ ?_ (len_aC len_aN) jk_nil len_aN
                    · exact q_read_coming
                    · omega
                    · exact hr
                    · exact hg
                    · exact fun _ _ _ _ _ _ us ws h1 h2 => match us, ws, h1, h2 with | [_], [], _, _ => rfl
                    · exact ja_cons jp_str ja_nil
                  · refine ja_cons ?_ ja_nil
                    refine @JP.zero _ _ _ 1 ?_
                    refine jp_cal (st := s_read_coming) (ps := ["text"]) (n := 1) (ks := []) (perm := [0]) (j := 3) (l := 25) ?_ ?_ ?_ ?_ ?_ ?_ (len_aC len_aN) jk_nil len_aN
                    · exact q_read_coming
                    · omega
                    · exact hr
                    · exact hg
                    · exact fun _ _ _ _ _ _ us ws h1 h2 => match us, ws, h1, h2 with | [_], [], _, _ => rfl
                    · exact ja_cons jp_str ja_nil
            · exact sc_law.nd
            · rfl
            · exact .inl rfl
          · refine jss_cons ?_ ?_
            · refine js_set (i := 7) (M := [7]) ?_ ?_ ?_ ?_
              · refine @JP.zero _ _ _ 1 ?_
                refine jp_bin oj_add (jv 7) ?_
                refine @JP.zero _ _ _ 1 ?_
                refine jp_lst ?_
                refine ja_cons ?_ ja_nil
                refine @JP.zero _ _ _ 1 ?_
                refine jp_cal (st := s_read_coming) (ps := ["text"]) (n := 1) (ks := []) (perm := [0]) (j := 3) (l := 25) ?_ ?_ ?_ ?_ ?_ ?_ (len_aC len_aN) jk_nil len_aN
                · exact q_read_coming
                · omega
                · exact hr
                · exact hg
                · exact fun _ _ _ _ _ _ us ws h1 h2 => match us, ws, h1, h2 with | [_], [], _, _ => rfl
                · exact ja_cons jp_str ja_nil
              · exact sc_law.nd
              · rfl
              · exact .inl rfl
            · refine jss_cons ?_ ?_
              · refine js_set (i := 6) (M := []) ?_ ?_ ?_ ?_
                · refine jp_const ?_
                  rfl
                · exact sc_law.nd
                · rfl
                · exact .inl rfl
              · refine jss_cons ?_ jss_nil
                refine js_ret (M := [7]) ?_
                refine jp_cal (st := s__law_alike) (ps := ["found", "due"]) (n := 2) (ks := []) (perm := [0, 1]) (j := 6) (l := 25) ?_ ?_ ?_ ?_ ?_ ?_ (len_aC (len_aC len_aN)) jk_nil len_aN
                · exact q__law_alike
                · omega
                · exact hr
                · exact hg
                · exact fun _ _ _ _ _ _ us ws h1 h2 => match us, ws, h1, h2 with | [_, _], [], _, _ => rfl
                · refine ja_cons (jv 7) ?_
                  exact ja_cons (jv 6) ja_nil
end K50
namespace K50
open PySem PySem.Spec PyProof.Rows L2 J
theorem all_mk {P : Program} {w : World} {K : PySem.W.Frag} {h : Heap} {mg : Str → Option Value} {fa : Addr} (X : K.In h) (G : h.Ns mainGlobals mg) (hfa : mg "law" = some (.ref fa))
    {f0 : Addr} {oc0 kV0 dc0 pm0 cd0 ct0 : Value} {od0 an0 : Option Addr} {sl0 : Array (Option Value)}
    {f1 : Addr} {oc1 kV1 dc1 pm1 cd1 ct1 : Value} {od1 an1 : Option Addr} {sl1 : Array (Option Value)}
    {f2 : Addr} {oc2 kV2 dc2 pm2 cd2 ct2 : Value} {od2 an2 : Option Addr} {sl2 : Array (Option Value)}
    {f3 : Addr} {oc3 kV3 dc3 pm3 cd3 ct3 : Value} {od3 an3 : Option Addr} {sl3 : Array (Option Value)}
    {f4 : Addr} {oc4 kV4 dc4 pm4 cd4 ct4 : Value} {od4 an4 : Option Addr} {sl4 : Array (Option Value)}
    {f5 : Addr} {oc5 kV5 dc5 pm5 cd5 ct5 : Value} {od5 an5 : Option Addr} {sl5 : Array (Option Value)}
    {f6 : Addr} {oc6 kV6 dc6 pm6 cd6 ct6 : Value} {od6 an6 : Option Addr} {sl6 : Array (Option Value)}
    {f7 : Addr} {oc7 kV7 dc7 pm7 cd7 ct7 : Value} {od7 an7 : Option Addr} {sl7 : Array (Option Value)}
    {f8 : Addr} {oc8 kV8 dc8 pm8 cd8 ct8 : Value} {od8 an8 : Option Addr} {sl8 : Array (Option Value)}
    {f9 : Addr} {oc9 kV9 dc9 pm9 cd9 ct9 : Value} {od9 an9 : Option Addr} {sl9 : Array (Option Value)}
    {f10 : Addr} {oc10 kV10 dc10 pm10 cd10 ct10 : Value} {od10 an10 : Option Addr} {sl10 : Array (Option Value)}
    {f11 : Addr} {oc11 kV11 dc11 pm11 cd11 ct11 : Value} {od11 an11 : Option Addr} {sl11 : Array (Option Value)}
    {f12 : Addr} {oc12 kV12 dc12 pm12 cd12 ct12 : Value} {od12 an12 : Option Addr} {sl12 : Array (Option Value)}
    {f13 : Addr} {oc13 kV13 dc13 pm13 cd13 ct13 : Value} {od13 an13 : Option Addr} {sl13 : Array (Option Value)}
    {f14 : Addr} {oc14 kV14 dc14 pm14 cd14 ct14 : Value} {od14 an14 : Option Addr} {sl14 : Array (Option Value)}
    {f15 : Addr} {oc15 kV15 dc15 pm15 cd15 ct15 : Value} {od15 an15 : Option Addr} {sl15 : Array (Option Value)}
    {f16 : Addr} {oc16 kV16 dc16 pm16 cd16 ct16 : Value} {od16 an16 : Option Addr} {sl16 : Array (Option Value)}
    {f17 : Addr} {oc17 kV17 dc17 pm17 cd17 ct17 : Value} {od17 an17 : Option Addr} {sl17 : Array (Option Value)}
    {f18 : Addr} {oc18 kV18 dc18 pm18 cd18 ct18 : Value} {od18 an18 : Option Addr} {sl18 : Array (Option Value)}
    {f19 : Addr} {oc19 kV19 dc19 pm19 cd19 ct19 : Value} {od19 an19 : Option Addr} {sl19 : Array (Option Value)}
    {f20 : Addr} {oc20 kV20 dc20 pm20 cd20 ct20 : Value} {od20 an20 : Option Addr} {sl20 : Array (Option Value)}
    {f21 : Addr} {oc21 kV21 dc21 pm21 cd21 ct21 : Value} {od21 an21 : Option Addr} {sl21 : Array (Option Value)}
    {f22 : Addr} {oc22 kV22 dc22 pm22 cd22 ct22 : Value} {od22 an22 : Option Addr} {sl22 : Array (Option Value)}
    {f23 : Addr} {oc23 kV23 dc23 pm23 cd23 ct23 : Value} {od23 an23 : Option Addr} {sl23 : Array (Option Value)}
    {f24 : Addr} {oc24 kV24 dc24 pm24 cd24 ct24 : Value} {od24 an24 : Option Addr} {sl24 : Array (Option Value)}
    {f25 : Addr} {oc25 kV25 dc25 pm25 cd25 ct25 : Value} {od25 an25 : Option Addr} {sl25 : Array (Option Value)}
    {f26 : Addr} {oc26 kV26 dc26 pm26 cd26 ct26 : Value} {od26 an26 : Option Addr} {sl26 : Array (Option Value)}
    {t_DIGITS : Tok}
    {t_MOST_PERSONS : Tok}
    {t_NONE : Tok}
    (a0 : PySem.W.nsIn K mainGlobals "is_integer" = some (some (.ref f0))) (l0 : K.lookup f0 = some ⟨oc0, od0, .func (PySem.W.fnOf "is_integer" "is_integer" (defArgs s_is_integer) (defBody s_is_integer) (defScope s_is_integer) .none kV0 dc0 pm0 an0 cd0 ct0), sl0⟩) (c0 : PySem.W.codeIn K cd0 "is_integer" = true) (k0 : PySem.W.keepIn K (.ref f0) = true)
    (a1 : PySem.W.nsIn K mainGlobals "is_row" = some (some (.ref f1))) (l1 : K.lookup f1 = some ⟨oc1, od1, .func (PySem.W.fnOf "is_row" "is_row" (defArgs s_is_row) (defBody s_is_row) (defScope s_is_row) .none kV1 dc1 pm1 an1 cd1 ct1), sl1⟩) (c1 : PySem.W.codeIn K cd1 "is_row" = true) (k1 : PySem.W.keepIn K (.ref f1) = true)
    (a2 : PySem.W.nsIn K mainGlobals "is_group" = some (some (.ref f2))) (l2 : K.lookup f2 = some ⟨oc2, od2, .func (PySem.W.fnOf "is_group" "is_group" (defArgs s_is_group) (defBody s_is_group) (defScope s_is_group) .none kV2 dc2 pm2 an2 cd2 ct2), sl2⟩) (c2 : PySem.W.codeIn K cd2 "is_group" = true) (k2 : PySem.W.keepIn K (.ref f2) = true)
    (a3 : PySem.W.nsIn K mainGlobals "lies_in" = some (some (.ref f3))) (l3 : K.lookup f3 = some ⟨oc3, od3, .func (PySem.W.fnOf "lies_in" "lies_in" (defArgs s_lies_in) (defBody s_lies_in) (defScope s_lies_in) .none kV3 dc3 pm3 an3 cd3 ct3), sl3⟩) (c3 : PySem.W.codeIn K cd3 "lies_in" = true) (k3 : PySem.W.keepIn K (.ref f3) = true)
    (a4 : PySem.W.nsIn K mainGlobals "parts_in" = some (some (.ref f4))) (l4 : K.lookup f4 = some ⟨oc4, od4, .func (PySem.W.fnOf "parts_in" "parts_in" (defArgs s_parts_in) (defBody s_parts_in) (defScope s_parts_in) .none kV4 dc4 pm4 an4 cd4 ct4), sl4⟩) (c4 : PySem.W.codeIn K cd4 "parts_in" = true) (k4 : PySem.W.keepIn K (.ref f4) = true)
    (a5 : PySem.W.nsIn K mainGlobals "has_parts" = some (some (.ref f5))) (l5 : K.lookup f5 = some ⟨oc5, od5, .func (PySem.W.fnOf "has_parts" "has_parts" (defArgs s_has_parts) (defBody s_has_parts) (defScope s_has_parts) .none kV5 dc5 pm5 an5 cd5 ct5), sl5⟩) (c5 : PySem.W.codeIn K cd5 "has_parts" = true) (k5 : PySem.W.keepIn K (.ref f5) = true)
    (a6 : PySem.W.nsIn K mainGlobals "is_parting" = some (some (.ref f6))) (l6 : K.lookup f6 = some ⟨oc6, od6, .func (PySem.W.fnOf "is_parting" "is_parting" (defArgs s_is_parting) (defBody s_is_parting) (defScope s_is_parting) .none kV6 dc6 pm6 an6 cd6 ct6), sl6⟩) (c6 : PySem.W.codeIn K cd6 "is_parting" = true) (k6 : PySem.W.keepIn K (.ref f6) = true)
    (a7 : PySem.W.nsIn K mainGlobals "many_in" = some (some (.ref f7))) (l7 : K.lookup f7 = some ⟨oc7, od7, .func (PySem.W.fnOf "many_in" "many_in" (defArgs s_many_in) (defBody s_many_in) (defScope s_many_in) .none kV7 dc7 pm7 an7 cd7 ct7), sl7⟩) (c7 : PySem.W.codeIn K cd7 "many_in" = true) (k7 : PySem.W.keepIn K (.ref f7) = true)
    (a8 : PySem.W.nsIn K mainGlobals "whole_of" = some (some (.ref f8))) (l8 : K.lookup f8 = some ⟨oc8, od8, .func (PySem.W.fnOf "whole_of" "whole_of" (defArgs s_whole_of) (defBody s_whole_of) (defScope s_whole_of) .none kV8 dc8 pm8 an8 cd8 ct8), sl8⟩) (c8 : PySem.W.codeIn K cd8 "whole_of" = true) (k8 : PySem.W.keepIn K (.ref f8) = true)
    (a9 : PySem.W.nsIn K mainGlobals "number_in" = some (some (.ref f9))) (l9 : K.lookup f9 = some ⟨oc9, od9, .func (PySem.W.fnOf "number_in" "number_in" (defArgs s_number_in) (defBody s_number_in) (defScope s_number_in) .none kV9 dc9 pm9 an9 cd9 ct9), sl9⟩) (c9 : PySem.W.codeIn K cd9 "number_in" = true) (k9 : PySem.W.keepIn K (.ref f9) = true)
    (a10 : PySem.W.nsIn K mainGlobals "integer_in" = some (some (.ref f10))) (l10 : K.lookup f10 = some ⟨oc10, od10, .func (PySem.W.fnOf "integer_in" "integer_in" (defArgs s_integer_in) (defBody s_integer_in) (defScope s_integer_in) .none kV10 dc10 pm10 an10 cd10 ct10), sl10⟩) (c10 : PySem.W.codeIn K cd10 "integer_in" = true) (k10 : PySem.W.keepIn K (.ref f10) = true)
    (a11 : PySem.W.nsIn K mainGlobals "row_of" = some (some (.ref f11))) (l11 : K.lookup f11 = some ⟨oc11, od11, .func (PySem.W.fnOf "row_of" "row_of" (defArgs s_row_of) (defBody s_row_of) (defScope s_row_of) .none kV11 dc11 pm11 an11 cd11 ct11), sl11⟩) (c11 : PySem.W.codeIn K cd11 "row_of" = true) (k11 : PySem.W.keepIn K (.ref f11) = true)
    (a12 : PySem.W.nsIn K mainGlobals "text_of" = some (some (.ref f12))) (l12 : K.lookup f12 = some ⟨oc12, od12, .func (PySem.W.fnOf "text_of" "text_of" (defArgs s_text_of) (defBody s_text_of) (defScope s_text_of) .none kV12 dc12 pm12 an12 cd12 ct12), sl12⟩) (c12 : PySem.W.codeIn K cd12 "text_of" = true) (k12 : PySem.W.keepIn K (.ref f12) = true)
    (a13 : PySem.W.nsIn K mainGlobals "parting_text" = some (some (.ref f13))) (l13 : K.lookup f13 = some ⟨oc13, od13, .func (PySem.W.fnOf "parting_text" "parting_text" (defArgs s_parting_text) (defBody s_parting_text) (defScope s_parting_text) .none kV13 dc13 pm13 an13 cd13 ct13), sl13⟩) (c13 : PySem.W.codeIn K cd13 "parting_text" = true) (k13 : PySem.W.keepIn K (.ref f13) = true)
    (a14 : PySem.W.nsIn K mainGlobals "write_parting" = some (some (.ref f14))) (l14 : K.lookup f14 = some ⟨oc14, od14, .func (PySem.W.fnOf "write_parting" "write_parting" (defArgs s_write_parting) (defBody s_write_parting) (defScope s_write_parting) .none kV14 dc14 pm14 an14 cd14 ct14), sl14⟩) (c14 : PySem.W.codeIn K cd14 "write_parting" = true) (k14 : PySem.W.keepIn K (.ref f14) = true)
    (a15 : PySem.W.nsIn K mainGlobals "groups_in" = some (some (.ref f15))) (l15 : K.lookup f15 = some ⟨oc15, od15, .func (PySem.W.fnOf "groups_in" "groups_in" (defArgs s_groups_in) (defBody s_groups_in) (defScope s_groups_in) .none kV15 dc15 pm15 an15 cd15 ct15), sl15⟩) (c15 : PySem.W.codeIn K cd15 "groups_in" = true) (k15 : PySem.W.keepIn K (.ref f15) = true)
    (a16 : PySem.W.nsIn K mainGlobals "read_parting" = some (some (.ref f16))) (l16 : K.lookup f16 = some ⟨oc16, od16, .func (PySem.W.fnOf "read_parting" "read_parting" (defArgs s_read_parting) (defBody s_read_parting) (defScope s_read_parting) .none kV16 dc16 pm16 an16 cd16 ct16), sl16⟩) (c16 : PySem.W.codeIn K cd16 "read_parting" = true) (k16 : PySem.W.keepIn K (.ref f16) = true)
    (a17 : PySem.W.nsIn K mainGlobals "write_coming" = some (some (.ref f17))) (l17 : K.lookup f17 = some ⟨oc17, od17, .func (PySem.W.fnOf "write_coming" "write_coming" (defArgs s_write_coming) (defBody s_write_coming) (defScope s_write_coming) .none kV17 dc17 pm17 an17 cd17 ct17), sl17⟩) (c17 : PySem.W.codeIn K cd17 "write_coming" = true) (k17 : PySem.W.keepIn K (.ref f17) = true)
    (a18 : PySem.W.nsIn K mainGlobals "read_coming" = some (some (.ref f18))) (l18 : K.lookup f18 = some ⟨oc18, od18, .func (PySem.W.fnOf "read_coming" "read_coming" (defArgs s_read_coming) (defBody s_read_coming) (defScope s_read_coming) .none kV18 dc18 pm18 an18 cd18 ct18), sl18⟩) (c18 : PySem.W.codeIn K cd18 "read_coming" = true) (k18 : PySem.W.keepIn K (.ref f18) = true)
    (a19 : PySem.W.nsIn K mainGlobals "_law_bag" = some (some (.ref f19))) (l19 : K.lookup f19 = some ⟨oc19, od19, .func (PySem.W.fnOf "_law_bag" "_law_bag" (defArgs s__law_bag) (defBody s__law_bag) (defScope s__law_bag) .none kV19 dc19 pm19 an19 cd19 ct19), sl19⟩) (c19 : PySem.W.codeIn K cd19 "_law_bag" = true) (k19 : PySem.W.keepIn K (.ref f19) = true)
    (a20 : PySem.W.nsIn K mainGlobals "_law_stirred" = some (some (.ref f20))) (l20 : K.lookup f20 = some ⟨oc20, od20, .func (PySem.W.fnOf "_law_stirred" "_law_stirred" (defArgs s__law_stirred) (defBody s__law_stirred) (defScope s__law_stirred) .none kV20 dc20 pm20 an20 cd20 ct20), sl20⟩) (c20 : PySem.W.codeIn K cd20 "_law_stirred" = true) (k20 : PySem.W.keepIn K (.ref f20) = true)
    (a21 : PySem.W.nsIn K mainGlobals "_law_draw" = some (some (.ref f21))) (l21 : K.lookup f21 = some ⟨oc21, od21, .func (PySem.W.fnOf "_law_draw" "_law_draw" (defArgs s__law_draw) (defBody s__law_draw) (defScope s__law_draw) .none kV21 dc21 pm21 an21 cd21 ct21), sl21⟩) (c21 : PySem.W.codeIn K cd21 "_law_draw" = true) (k21 : PySem.W.keepIn K (.ref f21) = true)
    (a22 : PySem.W.nsIn K mainGlobals "_law_alike" = some (some (.ref f22))) (l22 : K.lookup f22 = some ⟨oc22, od22, .func (PySem.W.fnOf "_law_alike" "_law_alike" (defArgs s__law_alike) (defBody s__law_alike) (defScope s__law_alike) .none kV22 dc22 pm22 an22 cd22 ct22), sl22⟩) (c22 : PySem.W.codeIn K cd22 "_law_alike" = true) (k22 : PySem.W.keepIn K (.ref f22) = true)
    (a23 : PySem.W.nsIn K mainGlobals "_law_row" = some (some (.ref f23))) (l23 : K.lookup f23 = some ⟨oc23, od23, .func (PySem.W.fnOf "_law_row" "_law_row" (defArgs s__law_row) (defBody s__law_row) (defScope s__law_row) .none kV23 dc23 pm23 an23 cd23 ct23), sl23⟩) (c23 : PySem.W.codeIn K cd23 "_law_row" = true) (k23 : PySem.W.keepIn K (.ref f23) = true)
    (a24 : PySem.W.nsIn K mainGlobals "_law_by" = some (some (.ref f24))) (l24 : K.lookup f24 = some ⟨oc24, od24, .func (PySem.W.fnOf "_law_by" "_law_by" (defArgs s__law_by) (defBody s__law_by) (defScope s__law_by) .none kV24 dc24 pm24 an24 cd24 ct24), sl24⟩) (c24 : PySem.W.codeIn K cd24 "_law_by" = true) (k24 : PySem.W.keepIn K (.ref f24) = true)
    (a25 : PySem.W.nsIn K mainGlobals "_law_text" = some (some (.ref f25))) (l25 : K.lookup f25 = some ⟨oc25, od25, .func (PySem.W.fnOf "_law_text" "_law_text" (defArgs s__law_text) (defBody s__law_text) (defScope s__law_text) .none kV25 dc25 pm25 an25 cd25 ct25), sl25⟩) (c25 : PySem.W.codeIn K cd25 "_law_text" = true) (k25 : PySem.W.keepIn K (.ref f25) = true)
    (a26 : PySem.W.nsIn K mainGlobals "law" = some (some (.ref f26))) (l26 : K.lookup f26 = some ⟨oc26, od26, .func (PySem.W.fnOf "law" "law" (defArgs s_law) (defBody s_law) (defScope s_law) .none kV26 dc26 pm26 an26 cd26 ct26), sl26⟩) (c26 : PySem.W.codeIn K cd26 "law" = true) (k26 : PySem.W.keepIn K (.ref f26) = true)
    (y_abs : PySem.W.nsIn K mainGlobals "abs" = some none)
    (y_all : PySem.W.nsIn K mainGlobals "all" = some none)
    (y_bool : PySem.W.nsIn K mainGlobals "bool" = some none)
    (y_enumerate : PySem.W.nsIn K mainGlobals "enumerate" = some none)
    (y_int : PySem.W.nsIn K mainGlobals "int" = some none)
    (y_isinstance : PySem.W.nsIn K mainGlobals "isinstance" = some none)
    (y_len : PySem.W.nsIn K mainGlobals "len" = some none)
    (y_list : PySem.W.nsIn K mainGlobals "list" = some none)
    (y_range : PySem.W.nsIn K mainGlobals "range" = some none)
    (y_repr : PySem.W.nsIn K mainGlobals "repr" = some none)
    (y_sorted : PySem.W.nsIn K mainGlobals "sorted" = some none)
    (y_str : PySem.W.nsIn K mainGlobals "str" = some none)
    (y_tuple : PySem.W.nsIn K mainGlobals "tuple" = some none)
    (y_zip : PySem.W.nsIn K mainGlobals "zip" = some none)
    (xc_DIGITS : PySem.W.nsIn K mainGlobals "DIGITS" = some (some (.str "0123456789" t_DIGITS)))
    (xc_MOST_PERSONS : PySem.W.nsIn K mainGlobals "MOST_PERSONS" = some (some (.int 20 t_MOST_PERSONS)))
    (xc_NONE : PySem.W.nsIn K mainGlobals "NONE" = some (some (.str "-" t_NONE))) :
    ∃ fd : FuncData, (∀ (s : Shared) (v : Value), BindsTo s fd ⟨[v], []⟩ [("script", v)]) ∧ ∀ base : Heap, K.In base → base.Ns mainGlobals mg → FnG P w K mg base 26 fa fd ["script"] (spLaw K 9 b_law) := by
  have e := hfa.symm.trans (PySem.W.mg_of X G a26)
  cases e
  have z_abs : mg "abs" = none := PySem.W.mg_none_of X G y_abs
  have z_all : mg "all" = none := PySem.W.mg_none_of X G y_all
  have z_bool : mg "bool" = none := PySem.W.mg_none_of X G y_bool
  have z_enumerate : mg "enumerate" = none := PySem.W.mg_none_of X G y_enumerate
  have z_int : mg "int" = none := PySem.W.mg_none_of X G y_int
  have z_isinstance : mg "isinstance" = none := PySem.W.mg_none_of X G y_isinstance
  have z_len : mg "len" = none := PySem.W.mg_none_of X G y_len
  have z_list : mg "list" = none := PySem.W.mg_none_of X G y_list
  have z_range : mg "range" = none := PySem.W.mg_none_of X G y_range
  have z_repr : mg "repr" = none := PySem.W.mg_none_of X G y_repr
  have z_sorted : mg "sorted" = none := PySem.W.mg_none_of X G y_sorted
  have z_str : mg "str" = none := PySem.W.mg_none_of X G y_str
  have z_tuple : mg "tuple" = none := PySem.W.mg_none_of X G y_tuple
  have z_zip : mg "zip" = none := PySem.W.mg_none_of X G y_zip
  have c_DIGITS := PySem.W.mg_of X G xc_DIGITS
  have c_MOST_PERSONS := PySem.W.mg_of X G xc_MOST_PERSONS
  have c_NONE := PySem.W.mg_of X G xc_NONE
  refine ⟨PySem.W.fnOf "law" "law" (defArgs s_law) (defBody s_law) (defScope s_law) .none kV26 dc26 pm26 an26 cd26 ct26, fun s v => .of_eq rfl, fun base _ _ => ?_⟩
  have q_is_integer := ok_is_integer (P := P) (w := w) (base := base) (dfn_of X G a0 l0 c0 k0) z_bool z_int z_isinstance
  have q_is_row := ok_is_row (P := P) (w := w) (base := base) (dfn_of X G a1 l1 c1 k1) q_is_integer z_all z_isinstance z_list z_zip
  have q_is_group := ok_is_group (P := P) (w := w) (base := base) (dfn_of X G a2 l2 c2 k2) q_is_row z_len
  have q_lies_in := ok_lies_in (P := P) (w := w) (base := base) (dfn_of X G a3 l3 c3 k3) z_all
  have q_parts_in := ok_parts_in (P := P) (w := w) (base := base) (dfn_of X G a4 l4 c4 k4) z_len z_list
  have q_has_parts := ok_has_parts (P := P) (w := w) (base := base) (dfn_of X G a5 l5 c5 k5) q_lies_in q_parts_in z_len
  have q_is_parting := ok_is_parting (P := P) (w := w) (base := base) (dfn_of X G a6 l6 c6 k6) q_is_group q_has_parts z_all z_isinstance z_len z_list z_range z_zip c_MOST_PERSONS
  have q_many_in := ok_many_in (P := P) (w := w) (base := base) (dfn_of X G a7 l7 c7 k7) z_len
  have q_whole_of := ok_whole_of (P := P) (w := w) (base := base) (dfn_of X G a8 l8 c8 k8) z_list z_range
  have q_number_in := ok_number_in (P := P) (w := w) (base := base) (dfn_of X G a9 l9 c9 k9) z_int z_len c_DIGITS
  have q_integer_in := ok_integer_in (P := P) (w := w) (base := base) (dfn_of X G a10 l10 c10 k10) q_number_in
  have q_row_of := ok_row_of (P := P) (w := w) (base := base) (dfn_of X G a11 l11 c11 k11) z_str
  have q_text_of := ok_text_of (P := P) (w := w) (base := base) (dfn_of X G a12 l12 c12 k12) q_parts_in z_len z_str 22
  have q_parting_text := ok_parting_text (P := P) (w := w) (base := base) (dfn_of X G a13 l13 c13 k13) q_many_in q_whole_of q_text_of
  have q_write_parting := ok_write_parting (P := P) (w := w) (base := base) (dfn_of X G a14 l14 c14 k14) q_parting_text
  have q_groups_in := ok_groups_in (P := P) (w := w) (base := base) (dfn_of X G a15 l15 c15 k15) q_number_in z_len z_sorted c_MOST_PERSONS
  have q_read_parting := ok_read_parting (P := P) (w := w) (base := base) (dfn_of X G a16 l16 c16 k16) q_is_parting q_parting_text q_groups_in
  have q_write_coming := ok_write_coming (P := P) (w := w) (base := base) (dfn_of X G a17 l17 c17 k17) q_row_of c_NONE
  have q_read_coming := ok_read_coming (P := P) (w := w) (base := base) (dfn_of X G a18 l18 c18 k18) q_integer_in z_abs z_enumerate z_len c_MOST_PERSONS c_NONE
  have q__law_bag := ok__law_bag (P := P) (w := w) (base := base) (dfn_of X G a19 l19 c19 k19) z_abs z_int
  have q__law_stirred := ok__law_stirred (P := P) (w := w) (base := base) (dfn_of X G a20 l20 c20 k20) z_int z_range
  have q__law_draw := ok__law_draw (P := P) (w := w) (base := base) (dfn_of X G a21 l21 c21 k21) q__law_stirred z_int z_len
  have q__law_alike := ok__law_alike (P := P) (w := w) (base := base) (dfn_of X G a22 l22 c22 k22) z_all z_bool z_int z_isinstance z_len z_list z_range z_str z_tuple 6
  have q__law_row := ok__law_row (P := P) (w := w) (base := base) (dfn_of X G a23 l23 c23 k23) q__law_draw z_range
  have q__law_by := ok__law_by (P := P) (w := w) (base := base) (dfn_of X G a24 l24 c24 k24) z_len z_range z_sorted
  have q__law_text := ok__law_text (P := P) (w := w) (base := base) (dfn_of X G a25 l25 c25 k25) z_len z_str 22
  exact ok_law (fun_mk l26 c26 k26) q_write_parting q_read_parting q_write_coming q_read_coming q__law_bag q__law_draw q__law_alike q__law_row q__law_by q__law_text z_int z_len z_list z_range z_repr z_str
end K50
/-! orders of lists, pure -/
namespace J
def ltI : List Int → List Int → Bool
  | [], [] => false
  | [], _ :: _ => true
  | _ :: _, [] => false
  | x :: r, y :: t => decide (x < y) || (!decide (y < x) && ltI r t)
def leI (a b : List Int) : Bool := !ltI b a
theorem ltI_irrefl : ∀ a : List Int, ltI a a = false
  | [] => rfl
  | x :: r => by simp [ltI, ltI_irrefl r]
theorem ltI_total : ∀ a b : List Int, ltI a b = false → ltI b a = false → a = b
  | [], [], _, _ => rfl
  | [], _ :: _, h, _ => nomatch h
  | _ :: _, [], _, h => nomatch h
  | x :: r, y :: t, h1, h2 => by
    simp only [ltI, Bool.or_eq_false_iff, decide_eq_false_iff_not, Bool.and_eq_false_iff, Bool.not_eq_false', decide_eq_true_eq] at h1 h2
    have e : x = y := by omega
    subst e
    rw [ltI_total r t (by rcases h1.2 with h | h; · omega
                          · exact h) (by rcases h2.2 with h | h; · omega
                                         · exact h)]
theorem ltI_trans : ∀ a b c : List Int, ltI a b = true → ltI b c = true → ltI a c = true
  | [], [], _, h, _ => nomatch h
  | [], _ :: _, [], _, h => nomatch h
  | [], _ :: _, _ :: _, _, _ => rfl
  | _ :: _, [], _, h, _ => nomatch h
  | _ :: _, _ :: _, [], _, h => nomatch h
  | x :: r, y :: t, z :: u, h1, h2 => by
    simp only [ltI, Bool.or_eq_true, decide_eq_true_eq, Bool.and_eq_true, Bool.not_eq_true', decide_eq_false_iff_not] at h1 h2 ⊢
    rcases h1 with h1 | ⟨h1, h3⟩
    · rcases h2 with h2 | ⟨h2, _⟩
      · exact .inl (by omega)
      · exact .inl (by omega)
    · rcases h2 with h2 | ⟨h2, h4⟩
      · exact .inl (by omega)
      · by_cases e : x < z
        · exact .inl e
        · exact .inr ⟨by omega, ltI_trans r t u h3 h4⟩
theorem leI_trans (a b c : List Int) (h1 : leI a b = true) (h2 : leI b c = true) : leI a c = true := by
  unfold leI at *
  rw [Bool.not_eq_true'] at *
  cases q : ltI c a with
  | false => rfl
  | true =>
    cases q2 : ltI b c with
    | true => rw [ltI_trans b c a q2 q] at h1; cases h1
    | false => rw [ltI_total b c q2 h2] at h1; rw [h1] at q; cases q
theorem leI_total (a b : List Int) : (leI a b || leI b a) = true := by
  unfold leI
  cases q : ltI b a with
  | false => rfl
  | true =>
    cases q2 : ltI a b with
    | false => rfl
    | true => exact absurd (ltI_trans b a b q q2) (by rw [ltI_irrefl]; decide)
theorem leI_anti (a b : List Int) (h1 : leI a b = true) (h2 : leI b a = true) : a = b := by
  unfold leI at *
  rw [Bool.not_eq_true'] at *
  exact ltI_total a b h2 h1

/-! ### sorted lists -/
theorem perm_sorted {α : Type} {le : α → α → Bool} (anti : ∀ a b, le a b = true → le b a = true → a = b) : ∀ {l m : List α}, l.Perm m → l.Pairwise (fun a b => le a b = true) → m.Pairwise (fun a b => le a b = true) → l = m
  | [], m, h, _, _ => (List.perm_nil.mp h.symm).symm
  | a :: r, [], h, _, _ => absurd h.length_eq (by simp)
  | a :: r, b :: t, h, h1, h2 => by
    have e : a = b := by
      by_cases e : a = b
      · exact e
      · have ha : a ∈ b :: t := h.mem_iff.mp List.mem_cons_self
        have hb : b ∈ a :: r := h.mem_iff.mpr List.mem_cons_self
        have ha' : a ∈ t := by
          rcases List.mem_cons.mp ha with q | q
          · exact absurd q e
          · exact q
        have hb' : b ∈ r := by
          rcases List.mem_cons.mp hb with q | q
          · exact absurd q.symm e
          · exact q
        exact anti a b ((List.pairwise_cons.mp h1).1 b hb') ((List.pairwise_cons.mp h2).1 a ha')
    subst e
    rw [perm_sorted anti (h.cons_inv) (List.pairwise_cons.mp h1).2 (List.pairwise_cons.mp h2).2]
abbrev leZ (a b : Int) : Bool := decide (a ≤ b)
theorem leZ_trans (a b c : Int) (h1 : leZ a b = true) (h2 : leZ b c = true) : leZ a c = true := by
  have := of_decide_eq_true h1
  have := of_decide_eq_true h2
  exact decide_eq_true (by omega)
theorem leZ_total (a b : Int) : (leZ a b || leZ b a) = true := by
  by_cases h : a ≤ b
  · simp [leZ, h]
  · simp [leZ]; omega
theorem leZ_anti (a b : Int) (h1 : leZ a b = true) (h2 : leZ b a = true) : a = b := by
  have := of_decide_eq_true h1
  have := of_decide_eq_true h2
  omega
/-- the list, ascending -/
def sZ (l : List Int) : List Int := isort leZ l
def sR (l : List (List Int)) : List (List Int) := isort leI l
theorem sZ_merge (l : List Int) : sZ l = l.mergeSort leZ := isort_eq leZ_trans leZ_total l
theorem sR_merge (l : List (List Int)) : sR l = l.mergeSort leI := isort_eq leI_trans leI_total l
theorem sZ_perm (l : List Int) : (sZ l).Perm l := by rw [sZ_merge]; exact List.mergeSort_perm l leZ
theorem sR_perm (l : List (List Int)) : (sR l).Perm l := by rw [sR_merge]; exact List.mergeSort_perm l leI
theorem sZ_sorted (l : List Int) : (sZ l).Pairwise (fun a b => leZ a b = true) := by rw [sZ_merge]; exact List.pairwise_mergeSort leZ_trans leZ_total l
theorem sR_sorted (l : List (List Int)) : (sR l).Pairwise (fun a b => leI a b = true) := by rw [sR_merge]; exact List.pairwise_mergeSort leI_trans leI_total l
theorem sZ_eq {l m : List Int} (h : l.Perm m) : sZ l = sZ m := perm_sorted leZ_anti ((sZ_perm l).trans (h.trans (sZ_perm m).symm)) (sZ_sorted l) (sZ_sorted m)
theorem sR_eq {l m : List (List Int)} (h : l.Perm m) : sR l = sR m := perm_sorted leI_anti ((sR_perm l).trans (h.trans (sR_perm m).symm)) (sR_sorted l) (sR_sorted m)
theorem sZ_of {l : List Int} (h : l.Pairwise (fun a b => leZ a b = true)) : sZ l = l := by rw [sZ_merge]; exact List.mergeSort_of_pairwise h
theorem sR_of {l : List (List Int)} (h : l.Pairwise (fun a b => leI a b = true)) : sR l = l := by rw [sR_merge]; exact List.mergeSort_of_pairwise h
end J
namespace J
open PySem PySem.Spec PyProof.Rows L2

/-! ### lists of ints as data, their order -/
abbrev dI (l : List Int) : D := .list (l.map PyData.int)
abbrev dL (ls : List (List Int)) : D := .list (ls.map dI)
theorem toks_ltI : ∀ a b : List Int, PyProof.Rows.lexLt PyProof.Rows.itemOrd (PySem.W.keyToksAll (a.map PyData.int)) (PySem.W.keyToksAll (b.map PyData.int)) = ltI a b
  | [], [] => by decide
  | [], y :: t => rfl
  | x :: r, [] => rfl
  | x :: r, y :: t => by
    have ih := toks_ltI r t
    rw [List.map_cons, List.map_cons, PySem.W.toks_all_cons, PySem.W.toks_all_cons, PySem.W.keyToks, PySem.W.keyToks]
    rw [show ((Sum.inl 1 : Int ⊕ List Nat) :: ([Sum.inl x] ++ PySem.W.keyToksAll (r.map PyData.int))) = [Sum.inl 1] ++ (Sum.inl x :: PySem.W.keyToksAll (r.map PyData.int)) from rfl,
      show ((Sum.inl 1 : Int ⊕ List Nat) :: ([Sum.inl y] ++ PySem.W.keyToksAll (t.map PyData.int))) = [Sum.inl 1] ++ (Sum.inl y :: PySem.W.keyToksAll (t.map PyData.int)) from rfl, PySem.W.lex_pre]
    rw [PyProof.Rows.lex_cons, ih]
    rfl
theorem lt_dI (a b : List Int) : PySem.W.dataLt (dI a) (dI b) = ltI a b := by rw [PySem.W.dataLt_list]; exact toks_ltI a b
theorem srt_ints (ns : List Int) : srt (ns.map PyData.int) = (ns.mergeSort fun a b => decide (a ≤ b)).map PyData.int := by
  rw [srt_eq]
  symm
  refine PySem.W.sort_maps PyData.int fun a _ b _ => ?_
  show decide (a ≤ b) = !PySem.W.dataLt (.int b) (.int a)
  rw [PySem.W.dataLt_int]
  by_cases h : a ≤ b
  · rw [decide_eq_true h, decide_eq_false (by omega)]; rfl
  · rw [decide_eq_false h, decide_eq_true (by omega)]; rfl
theorem srt_rows (ls : List (List Int)) : srt (ls.map dI) = (ls.mergeSort leI).map dI := by
  rw [srt_eq]
  symm
  refine PySem.W.sort_maps dI fun a _ b _ => ?_
  show (!ltI b a) = !PySem.W.dataLt (dI b) (dI a)
  rw [lt_dI]
theorem srt_dI (l : List Int) : srt (l.map PyData.int) = (sZ l).map PyData.int := by rw [srt_ints, sZ_merge]
theorem srt_dL (l : List (List Int)) : srt (l.map dI) = (sR l).map dI := by rw [srt_rows, sR_merge]

/-! ### what such data may do -/
theorem canLay_ints : ∀ l : List Int, PyData.canLayAll0 (l.map PyData.int) = true
  | [] => rfl
  | x :: r => by rw [List.map_cons, PyData.canLayAll0, canLay_ints r]; rfl
theorem canLay_rows : ∀ l : List (List Int), PyData.canLayAll0 (l.map dI) = true
  | [] => rfl
  | x :: r => by
    rw [List.map_cons, PyData.canLayAll0, canLay_rows r]
    show (PyData.canLay0 (.list (x.map PyData.int)) && true) = true
    rw [PyData.canLay0, canLay_ints]
    rfl
theorem depth_ints : ∀ l : List Int, PyData.depthAll (l.map PyData.int) ≤ 1
  | [] => by decide
  | x :: r => by
    rw [List.map_cons, PyData.depthAll]
    have := depth_ints r
    have e : (PyData.int x).depth ≤ 1 := by simp [PyData.depth]
    omega
theorem depth_dI (l : List Int) : (dI l).depth ≤ 2 := by
  have := depth_ints l
  show (PyData.list (l.map PyData.int)).depth ≤ 2
  rw [PyData.depth]
  omega
theorem depth_rows : ∀ l : List (List Int), PyData.depthAll (l.map dI) ≤ 2
  | [] => by decide
  | x :: r => by
    rw [List.map_cons, PyData.depthAll]
    have := depth_rows r
    have := depth_dI x
    omega
theorem depth_dL (l : List (List Int)) : (dL l).depth ≤ 3 := by
  have := depth_rows l
  show (PyData.list (l.map dI)).depth ≤ 3
  rw [PyData.depth]
  omega
theorem lay_dI (l : List Int) : (dI l).canLay0 = true := by
  show PyData.canLay0 (.list (l.map PyData.int)) = true
  rw [PyData.canLay0]; exact canLay_ints l
theorem lay_dL (l : List (List Int)) : (dL l).canLay0 = true := by
  show PyData.canLay0 (.list (l.map dI)) = true
  rw [PyData.canLay0]; exact canLay_rows l
theorem shaped_of {d : D} (h : d.canLay0 = true) (h2 : d.depth ≤ 64) : SeqAt.shaped d = true := by
  unfold SeqAt.shaped
  rw [h, decide_eq_true h2]
  rfl
theorem shaped_dI (l : List Int) : SeqAt.shaped (dI l) = true := shaped_of (lay_dI l) (Nat.le_trans (depth_dI l) (by decide))
theorem shaped_dL (l : List (List Int)) : SeqAt.shaped (dL l) = true := shaped_of (lay_dL l) (Nat.le_trans (depth_dL l) (by decide))
theorem shaped_int (i : Int) : SeqAt.shaped (.int i) = true := shaped_of rfl (by simp [PyData.depth])
theorem alike_ints : ∀ a b : List Int, PySem.W.alikeAll (a.map PyData.int) (b.map PyData.int) = true
  | [], b => by cases b <;> rfl
  | x :: r, [] => rfl
  | x :: r, y :: t => by
    rw [List.map_cons, List.map_cons, PySem.W.alikeAll, alike_ints r t]
    rfl
theorem alike_dI (a b : List Int) : PySem.W.alike (dI a) (dI b) = true := by
  show PySem.W.alike (.list _) (.list _) = true
  rw [PySem.W.alike]; exact alike_ints a b
theorem sortOk_dI (l : List Int) : sortOk (l.map PyData.int) = true := by
  unfold sortOk
  rw [Bool.and_eq_true, Bool.and_eq_true]
  refine ⟨⟨?_, ?_⟩, shaped_dI l⟩
  · unfold allAlike
    rw [List.all_eq_true]
    intro x hx
    rw [List.all_eq_true]
    intro y hy
    obtain ⟨i, _, rfl⟩ := List.mem_map.mp hx
    obtain ⟨j, _, rfl⟩ := List.mem_map.mp hy
    rfl
  · rw [Bool.or_eq_true]
    refine .inl ?_
    rw [List.all_eq_true]
    intro x hx
    obtain ⟨i, _, rfl⟩ := List.mem_map.mp hx
    rfl
theorem sortOk_dL (l : List (List Int)) : sortOk (l.map dI) = true := by
  unfold sortOk
  rw [Bool.and_eq_true, Bool.and_eq_true]
  refine ⟨⟨?_, ?_⟩, shaped_dL l⟩
  · unfold allAlike
    rw [List.all_eq_true]
    intro x hx
    rw [List.all_eq_true]
    intro y hy
    obtain ⟨i, _, rfl⟩ := List.mem_map.mp hx
    obtain ⟨j, _, rfl⟩ := List.mem_map.mp hy
    exact alike_dI i j
  · rw [Bool.or_eq_true]
    refine .inl ?_
    rw [List.all_eq_true]
    intro x hx
    obtain ⟨i, _, rfl⟩ := List.mem_map.mp hx
    rfl
theorem dSort_dL {l : List (List Int)} (h : l.length ≤ 16777216) : dSort (dL l) = some (dL (sR l)) := by
  show dSort (.list (l.map dI)) = _
  unfold dSort
  simp only [List.length_map]
  rw [if_pos ⟨sortOk_dL l, h⟩, srt_dL]
theorem dLt_dI (a b : List Int) : dLt (dI a) (dI b) = some (.bool (ltI a b)) := by
  show dLt (.list _) (.list _) = _
  simp only [dLt]
  rw [if_pos ⟨alike_dI a b, shaped_dI a, shaped_dI b, rfl⟩, lt_dI]
theorem eqv_ints : ∀ a b : List Int, PyData.eqvAll (a.map PyData.int) (b.map PyData.int) = decide (a = b)
  | [], [] => rfl
  | [], y :: t => rfl
  | x :: r, [] => rfl
  | x :: r, y :: t => by
    rw [List.map_cons, List.map_cons, PyData.eqvAll, eqv_ints r t, PyData.eqv]
    by_cases h : x = y
    · by_cases h2 : r = t
      · simp [h, h2]
      · simp [h, h2]
    · simp [h]
theorem eqv_dI (a b : List Int) : PyData.eqv (dI a) (dI b) = decide (a = b) := by
  show PyData.eqv (.list _) (.list _) = _
  rw [PyData.eqv]; exact eqv_ints a b
theorem eqv_rows : ∀ a b : List (List Int), PyData.eqvAll (a.map dI) (b.map dI) = decide (a = b)
  | [], [] => rfl
  | [], y :: t => rfl
  | x :: r, [] => rfl
  | x :: r, y :: t => by
    rw [List.map_cons, List.map_cons, PyData.eqvAll, eqv_rows r t, eqv_dI]
    by_cases h : x = y
    · by_cases h2 : r = t
      · simp [h, h2]
      · simp [h, h2]
    · simp [h]
theorem eqv_dL (a b : List (List Int)) : PyData.eqv (dL a) (dL b) = decide (a = b) := by
  show PyData.eqv (.list _) (.list _) = _
  rw [PyData.eqv]; exact eqv_rows a b
theorem dIn_int (x : Int) (l : List Int) : dIn (.int x) (dI l) = some (.bool (decide (x ∈ l))) := by
  show dIn (.int x) (.list _) = _
  simp only [dIn]
  rw [if_pos ⟨shaped_int x, shaped_dI l⟩]
  congr 2
  unfold hasD
  rw [Bool.eq_iff_iff, List.any_eq_true, decide_eq_true_iff]
  constructor
  · rintro ⟨z, hz, e⟩
    obtain ⟨i, hi, rfl⟩ := List.mem_map.mp hz
    have : i = x := by simpa [PyData.eqv] using e
    rw [← this]; exact hi
  · intro h
    exact ⟨.int x, List.mem_map.mpr ⟨x, h, rfl⟩, by simp [PyData.eqv]⟩
theorem dIn_row (x : List Int) (l : List (List Int)) : dIn (dI x) (dL l) = some (.bool (decide (x ∈ l))) := by
  show dIn (dI x) (.list _) = _
  simp only [dIn]
  rw [if_pos ⟨shaped_dI x, shaped_dL l⟩]
  congr 2
  unfold hasD
  rw [Bool.eq_iff_iff, List.any_eq_true, decide_eq_true_iff]
  constructor
  · rintro ⟨z, hz, e⟩
    obtain ⟨i, hi, rfl⟩ := List.mem_map.mp hz
    rw [eqv_dI] at e
    rw [← of_decide_eq_true e]; exact hi
  · intro h
    exact ⟨dI x, List.mem_map.mpr ⟨x, h, rfl⟩, by rw [eqv_dI]; simp⟩
theorem dNotIn_int (x : Int) (l : List Int) : dNotIn (.int x) (dI l) = some (.bool (!decide (x ∈ l))) := by
  have h := dIn_int x l
  have h : dIn (.int x) (.list (l.map PyData.int)) = _ := h
  show dNotIn (.int x) (.list _) = _
  simp only [dIn, dNotIn] at h ⊢
  rw [if_pos ⟨shaped_int x, shaped_dI l⟩] at h ⊢
  have h2 := PyData.bool.inj (Option.some.inj h)
  rw [h2]
theorem dNotIn_row (x : List Int) (l : List (List Int)) : dNotIn (dI x) (dL l) = some (.bool (!decide (x ∈ l))) := by
  have h := dIn_row x l
  have h : dIn (dI x) (.list (l.map dI)) = _ := h
  show dNotIn (dI x) (.list _) = _
  simp only [dIn, dNotIn] at h ⊢
  rw [if_pos ⟨shaped_dI x, shaped_dL l⟩] at h ⊢
  have h2 := PyData.bool.inj (Option.some.inj h)
  rw [h2]
end J
namespace J
open PySem PySem.Spec PyProof.Rows L2

theorem fin_self (s : STO) (d : D) : fin s d s = some (d, s) := by unfold fin; rw [if_pos rfl]
theorem fin_len {s s' : STO} (d : D) (h : s'.length = s.length) : fin s d s' = some (d, s') := by unfold fin; rw [if_pos h]
theorem compL_pure {α : Type} {bd : Bd} {fc : EvT} {fe : Ev} {own : List Nat} {vw : VW} {s : STO} (g : α → D) (bx : α → List (Nat × D)) (tt : α → Bool) (ee : α → D) : ∀ l : List α,
    (∀ a ∈ l, bd (g a) = some (bx a)) → (∀ a ∈ l, fc (setV (wipeV vw own) (bx a)) s = some (tt a, s)) → (∀ a ∈ l, tt a = true → fe (setV (wipeV vw own) (bx a)) s = some (ee a, s)) →
    compL bd fc fe own vw (l.map g) s = some ((l.filter tt).map ee, s)
  | [], _, _, _ => rfl
  | a :: r, h1, h2, h3 => by
    have ih := compL_pure g bx tt ee r (fun a ha => h1 a (List.mem_cons_of_mem _ ha)) (fun a ha => h2 a (List.mem_cons_of_mem _ ha)) (fun a ha => h3 a (List.mem_cons_of_mem _ ha))
    rw [List.map_cons, compL, h1 a List.mem_cons_self]
    simp only [Option.bind_some]
    rw [h2 a List.mem_cons_self]
    simp only [Option.bind_some]
    cases q : tt a with
    | true =>
      rw [if_pos rfl, h3 a List.mem_cons_self q]
      simp only [Option.bind_some]
      rw [ih, List.filter_cons_of_pos q]
      rfl
    | false =>
      rw [if_neg Bool.false_ne_true, ih, List.filter_cons_of_neg (by rw [q]; decide)]
/-- a comprehension over what is read without a change -/
theorem eComp_pure {α : Type} {fi : EvI} {bd : Bd} {fc : EvT} {fe : Ev} {own : List Nat} {vw : VW} {s : STO} (l : List α) (g : α → D) (bx : α → List (Nat × D)) (tt : α → Bool) (ee : α → D) (hi : fi vw s = some (l.map g, s)) (hl : l.length ≤ 16777216)
    (h1 : ∀ a ∈ l, bd (g a) = some (bx a)) (h2 : ∀ a ∈ l, fc (setV (wipeV vw own) (bx a)) s = some (tt a, s)) (h3 : ∀ a ∈ l, tt a = true → fe (setV (wipeV vw own) (bx a)) s = some (ee a, s)) :
    eComp fi bd fc fe own vw s = some (.list ((l.filter tt).map ee), s) := by
  unfold eComp
  rw [hi]
  simp only [Option.bind_some, List.length_map]
  rw [if_pos hl, compL_pure g bx tt ee l h1 h2 h3]
  rfl
/-- without a test -/
theorem eComp_map {α : Type} {fi : EvI} {bd : Bd} {fe : Ev} {own : List Nat} {vw : VW} {s : STO} (l : List α) (g : α → D) (bx : α → List (Nat × D)) (ee : α → D) (hi : fi vw s = some (l.map g, s)) (hl : l.length ≤ 16777216)
    (h1 : ∀ a ∈ l, bd (g a) = some (bx a)) (h3 : ∀ a ∈ l, fe (setV (wipeV vw own) (bx a)) s = some (ee a, s)) :
    eComp fi bd tY fe own vw s = some (.list (l.map ee), s) := by
  have := eComp_pure (fc := tY) (fe := fe) (own := own) l g bx (fun _ => true) ee hi hl h1 (fun a _ => rfl) (fun a ha _ => h3 a ha)
  rwa [List.filter_eq_self.mpr (fun _ _ => rfl)] at this
theorem zi_map {α : Type} (f : α → D) : ∀ (l m : List α), ziD (l.map f) (m.map f) = (l.zip m).map fun p => .tuple [f p.1, f p.2]
  | [], m => by cases m <;> rfl
  | x :: r, [] => rfl
  | x :: r, y :: t => by rw [List.map_cons, List.map_cons, ziD, zi_map f r t]; rfl
theorem cut_tail {α : Type} (l : List α) : cutL l (some 1) none = l.drop 1 := by
  unfold cutL
  rw [show HT.sIx l.length 0 (some 1) = min 1 l.length from HT.sIx_nat l.length 0 1, HT.sIx_none]
  cases l with
  | nil => rfl
  | cons x r =>
    rw [show min 1 (x :: r).length = 1 by rw [List.length_cons]; omega]
    show List.take ((x :: r).length - 1) r = r
    rw [List.length_cons, Nat.add_sub_cancel]
    exact List.take_length
theorem cut_head {α : Type} (l : List α) : cutL l none (some 1) = l.take 1 := by
  unfold cutL
  rw [show HT.sIx l.length l.length (some 1) = min 1 l.length from HT.sIx_nat l.length _ 1, HT.sIx_none]
  cases l with
  | nil => rfl
  | cons x r =>
    rw [show min 1 (x :: r).length = 1 by rw [List.length_cons]; omega]
    rfl
theorem cAll_map {α : Type} (f : α → Bool) (l : List α) : cAll [.list (l.map fun x => PyData.bool (f x))] = some (.bool (l.all f)) := by
  have h := isBls_map (l.map f)
  rw [List.map_map] at h
  have h : isBls (l.map fun x => PyData.bool (f x)) = some (l.map f) := h
  show (isBls _).map _ = _
  rw [h]
  simp
theorem noTok_ints : ∀ l : List Int, noTokA (l.map PyData.int) = true
  | [] => rfl
  | x :: r => by rw [List.map_cons, noTokA, noTok_ints r]; rfl
theorem noTok_dI (l : List Int) : noTok (dI l) = true := by
  show noTok (.list (l.map PyData.int)) = true
  rw [noTok]; exact noTok_ints l
theorem fzS_ff (s : Slot) : fzS false s = s := by cases s <;> rfl
theorem fzS_sh (b : Bool) (d : D) : fzS b (.sh d) = .sh d := by cases b <;> rfl
theorem fzS_no (b : Bool) : fzS b .no = .no := by cases b <;> rfl
theorem fzS_ow (k : Nat) (d : D) : fzS true (.ow k d) = .sh d := rfl
theorem seeS_sh (b : Bool) (d : D) : seeS b (.sh d) = some d := rfl
theorem seeS_no (b : Bool) : seeS b .no = none := rfl
theorem seeS_tt (k : Nat) (d : D) : seeS true (.ow k d) = some d := rfl
theorem seeS_ff (k : Nat) (d : D) : seeS false (.ow k d) = none := rfl
end J
namespace J
open PySem PySem.Spec PyProof.Rows L2
/-! ### step by step -/
section
variable {g h : Sv} {env e1 : Env} {s s1 s2 s3 : STO} {R : Option (Out × Env × STO)} {d d1 d2 d3 d' : D} {M : List Nat} {t u : EvT} {f f1 f2 f3 : Ev} {vw : VW} {fs : EvA} {ds es : List D} {b c : Bool}
theorem sSeq_nx (h1 : g env s = some (.nx, e1, s1)) (h2 : h e1 s1 = R) : sSeq g h env s = R := by unfold sSeq; rw [h1]; exact h2
theorem sSeq_rt (h1 : g env s = some (.rt d, e1, s1)) : sSeq g h env s = some (.rt d, e1, s1) := by unfold sSeq; rw [h1]; rfl
theorem sIf_f (h1 : t (see M env) s = some (false, s1)) (h2 : h env s1 = R) (hm : okM M s1 = true := by rfl) : sIf M t g h env s = R := by unfold sIf; rw [h1, Option.bind_some]; unfold fzT; rw [if_pos hm]; exact h2
theorem sIf_t (h1 : t (see M env) s = some (true, s1)) (h2 : g env s1 = R) (hm : okM M s1 = true := by rfl) : sIf M t g h env s = R := by unfold sIf; rw [h1, Option.bind_some]; unfold fzT; rw [if_pos hm]; exact h2
theorem sRet_ok (h1 : f (see M env) s = some (d, s1)) : sRet M f env s = some (.rt d, env, s1) := by unfold sRet; rw [h1]; rfl
theorem sSet_okM {i k : Nat} (h1 : f (see M env) s = some (d, s1)) (hi : decide (i < env.length) = true := by rfl) : sSet i k M f env s = some (.nx, (fzIf k d M s1 env).set i (mkS k d), s1) := by unfold sSet; rw [if_pos (of_decide_eq_true hi), h1]; rfl
theorem fzI_nil : ∀ (n : Nat) (env : Env), fzI [] n env = env
  | _, [] => rfl
  | n, x :: r => by rw [fzI, fzI_nil (n + 1) r]; cases x <;> rfl
theorem fzIf_nil {k : Nat} : fzIf k d [] s env = env := by
  unfold fzIf
  split
  · rfl
  · exact fzI_nil 0 env
theorem sSet_ok {i k : Nat} (h1 : f (see [] env) s = some (d, s1)) (hi : decide (i < env.length) = true := by rfl) : sSet i k [] f env s = some (.nx, env.set i (mkS k d), s1) := by rw [sSet_okM h1 hi, fzIf_nil]
theorem sFor_ok {fi : EvI} {bd : Bd} (h1 : fi (see M env) s = some (ds, s1)) (h2 : forL bd g ds (fz M env) s1 = R) : sFor M fi bd g env s = R := by unfold sFor; rw [h1]; exact h2
theorem sFor0_okM {fi : EvI} {bd : Bd} (hm : okM M s1 = true) (h1 : fi (see M env) s = some (ds, s1)) (h2 : forL bd g ds env s1 = R) : sFor0 M fi bd g env s = R := by unfold sFor0; rw [h1, Option.bind_some, if_pos hm]; exact h2
theorem sFor0_ok {fi : EvI} {bd : Bd} (h1 : fi (see [] env) s = some (ds, s1)) (h2 : forL bd g ds env s1 = R) : sFor0 [] fi bd g env s = R := sFor0_okM rfl h1 h2
theorem fnD_rt {N : Nat} (h1 : g (ds.map .sh ++ List.replicate (N - ds.length) .no) s = some (.rt d, e1, s1)) (h2 : fin s d s1 = some (d', s2)) : fnD N g ds s = some (d', s2) := by unfold fnD; rw [h1]; exact h2
theorem eVar_ok {i : Nat} (h1 : vw[i]? = some (some d)) : eVar i vw s = some (d, s) := by unfold eVar; rw [h1]
theorem eBin_ok {op : D → D → Option D} (h1 : f1 vw s = some (d1, s1)) (h2 : f2 vw s1 = some (d2, s2)) (h3 : op d1 d2 = some d) : eBin op f1 f2 vw s = some (d, s2) := by unfold eBin; rw [h1, Option.bind_some, h2, Option.bind_some, h3]; rfl
theorem eUn_ok {op : D → Option D} (h1 : f1 vw s = some (d1, s1)) (h3 : op d1 = some d) : eUn op f1 vw s = some (d, s1) := by unfold eUn; rw [h1, Option.bind_some, h3]; rfl
theorem eIdx_ok (h1 : f1 vw s = some (d1, s1)) (h2 : f2 vw s1 = some (d2, s2)) (h3 : dIdx s2 d1 d2 = some d) : eIdx f1 f2 vw s = some (d, s2) := by unfold eIdx; rw [h1, Option.bind_some, h2, Option.bind_some, h3]; rfl
theorem eOp_ok {op : List D → Option D} (h1 : fs vw s = some (ds, s1)) (h3 : op ds = some d) : eOp op fs vw s = some (d, s1) := by unfold eOp; rw [h1, Option.bind_some, h3]; rfl
theorem aN_ok : aN vw s = some ([], s) := rfl
theorem aC_ok (h1 : f vw s = some (d, s1)) (h2 : fs vw s1 = some (ds, s2)) : aC f fs vw s = some (d :: ds, s2) := by unfold aC; rw [h1, Option.bind_some, h2]; rfl
theorem eLst_ok (h1 : fs vw s = some (ds, s1)) (h2 : decide (ds.length ≤ 16777216) = true := by rfl) : eLst fs vw s = some (.list ds, s1) := by unfold eLst; rw [h1, Option.bind_some, if_pos (of_decide_eq_true h2)]
theorem eTup_ok (h1 : fs vw s = some (ds, s1)) (h2 : decide (ds.length ≤ 16777216) = true := by rfl) : eTup fs vw s = some (.tuple ds, s1) := by unfold eTup; rw [h1, Option.bind_some, if_pos (of_decide_eq_true h2)]
theorem eCall_ok {F : FnD} {perm : List Nat} (h1 : fs vw s = some (ds, s1)) (h2 : F (pick PyData.none perm ds) s1 = some (d, s2)) : eCall F perm fs vw s = some (d, s2) := by unfold eCall; rw [h1]; exact h2
theorem aApp_ok {gs : EvA} (h1 : fs vw s = some (ds, s1)) (h2 : gs vw s1 = some (es, s2)) : aApp fs gs vw s = some (ds ++ es, s2) := by unfold aApp; rw [h1, Option.bind_some, h2]; rfl
theorem bT_ok (h1 : f vw s = some (.bool b, s1)) : bT f vw s = some (b, s1) := by unfold bT; rw [h1]; rfl
theorem nT_ok (h1 : t vw s = some (b, s1)) : nT t vw s = some (!b, s1) := by unfold nT; rw [h1]; rfl
theorem oT_f {R : Option (Bool × STO)} (h1 : t vw s = some (false, s1)) (h2 : u vw s1 = R) : oT t u vw s = R := by unfold oT; rw [h1]; exact h2
theorem aT_t {R : Option (Bool × STO)} (h1 : t vw s = some (true, s1)) (h2 : u vw s1 = R) : aT t u vw s = R := by unfold aT; rw [h1]; exact h2
theorem aT_f (h1 : t vw s = some (false, s1)) : aT t u vw s = some (false, s1) := by unfold aT; rw [h1]; rfl
theorem eIf_t {R : Option (D × STO)} (h1 : t vw s = some (true, s1)) (h2 : f1 vw s1 = R) : eIf t f1 f2 vw s = R := by unfold eIf; rw [h1]; exact h2
theorem eIf_f {R : Option (D × STO)} (h1 : t vw s = some (false, s1)) (h2 : f2 vw s1 = R) : eIf t f1 f2 vw s = R := by unfold eIf; rw [h1]; exact h2
theorem eAnd_t {R : Option (D × STO)} (h1 : f1 vw s = some (.bool true, s1)) (h2 : f2 vw s1 = R) : eAnd f1 f2 vw s = R := by unfold eAnd; rw [h1]; exact h2
theorem eAnd_f (h1 : f1 vw s = some (.bool false, s1)) : eAnd f1 f2 vw s = some (.bool false, s1) := by unfold eAnd; rw [h1]; rfl
theorem eC_ok : eC d vw s = some (d, s) := rfl
theorem iVal_l (h1 : f vw s = some (.list ds, s1)) : iVal f vw s = some (ds, s1) := by unfold iVal; rw [h1]; rfl
theorem iU_ok {op : D → Option (List D)} (h1 : f vw s = some (d, s1)) (h2 : op d = some ds) : iU op f vw s = some (ds, s1) := by unfold iU; rw [h1, Option.bind_some, h2]; rfl
end
/-! ### small numbers -/
theorem small_of {i : Int} (h : i.natAbs < 2 ^ 250) : small i = true := by
  unfold small
  exact decide_eq_true (Nat.lt_of_lt_of_le h (Nat.pow_le_pow_right (by decide) (by decide)))
theorem dMul_ok {i j : Int} (h1 : i.natAbs < 2 ^ 250) (h2 : j.natAbs < 2 ^ 250) : dMul (.int i) (.int j) = some (.int (i * j)) := by
  show (if small i = true ∧ small j = true then _ else _) = _
  rw [if_pos ⟨small_of h1, small_of h2⟩]
theorem dPow_ok {i j : Int} (h1 : i.natAbs < 2 ^ 250) (h2 : 0 ≤ j ∧ j ≤ 300) : dPow (.int i) (.int j) = some (.int (i ^ j.toNat)) := by
  show (if 0 ≤ j ∧ j ≤ 300 ∧ small i = true then _ else _) = _
  rw [if_pos ⟨h2.1, h2.2, small_of h1⟩]
theorem dFdiv_ok {i j : Int} (h0 : 0 < j) (h1 : j.natAbs < 2 ^ 250) : dFdiv (.int i) (.int j) = some (.int (i / j)) := by
  show (if 0 < j ∧ small j = true then _ else _) = _
  rw [if_pos ⟨h0, small_of h1⟩]
theorem dMod_ok {i j : Int} (h0 : 0 < j) : dMod (.int i) (.int j) = some (.int (i % j)) := by
  show (if 0 < j then _ else _) = _
  rw [if_pos h0]
/-! ### texts of lists -/
theorem join_le (n : Nat) : ∀ ts : List Str, (∀ t ∈ ts, t.length ≤ n) → (Str.join ", " ts).length ≤ (n + 2) * ts.length
  | [], _ => by show (0 : Nat) ≤ _; omega
  | t :: r, h => by
    rw [PyProof.Rows.len_join_cons]
    have hs : ∀ l : List Str, (∀ t ∈ l, t.length ≤ n) → (l.map (·.length)).sum ≤ n * l.length := by
      intro l
      induction l with
      | nil => intro _; simp
      | cons x l ih =>
        intro hl
        have h1 := hl x List.mem_cons_self
        have h2 := ih fun t ht => hl t (List.mem_cons_of_mem _ ht)
        simp only [List.map_cons, List.sum_cons, List.length_cons]
        rw [Nat.mul_succ]
        omega
    have h1 := hs (t :: r) h
    have h2 : (", " : Str).length = 2 := by rfl
    rw [h2, Nat.add_mul]
    simp only [List.length_cons] at h1 ⊢
    omega
theorem shownAll_mem : ∀ (ds : List D) (x : Str), x ∈ PyData.shownAll ds → ∃ d ∈ ds, x = PyData.shown d
  | [], x, h => by rw [PyData.shownAll_nil] at h; exact absurd h List.not_mem_nil
  | d :: r, x, h => by
    rw [PyData.shownAll_cons] at h
    rcases List.mem_cons.mp h with h | h
    · exact ⟨d, List.mem_cons_self, h⟩
    · obtain ⟨e, h1, h2⟩ := shownAll_mem r x h
      exact ⟨e, List.mem_cons_of_mem _ h1, h2⟩
theorem shown_list_le {n : Nat} {ds : List D} (h : ∀ d ∈ ds, (PyData.shown d).length ≤ n) : (PyData.shown (.list ds)).length ≤ 2 + (n + 2) * ds.length := by
  rw [PyData.shown_list, PySem.strLen_append, PySem.strLen_append]
  have := join_le n (PyData.shownAll ds) fun t ht => by
    obtain ⟨d, h1, rfl⟩ := shownAll_mem ds t ht
    exact h d h1
  rw [PyData.shownAll_length] at this
  have h2 : ("[" : Str).length = 1 := by rfl
  have h3 : ("]" : Str).length = 1 := by rfl
  omega
end J
namespace J
/-! nests: trees of two halves -/
inductive Nest where
  | lf (i : Int)
  | nd (a b : Nest)
  deriving DecidableEq
namespace Nest
def lv : Nest → List Int
  | lf i => [i]
  | nd a b => a.lv ++ b.lv
/-- inner nodes -/
def gr : Nest → List Nest
  | lf _ => []
  | nd a b => nd a b :: (a.gr ++ b.gr)
def folk (t : Nest) : List Int := sZ t.lv
def lots (t : Nest) : List (List Int) := sR (t.gr.map folk)
def mn : Nest → Int
  | lf i => i
  | nd a b => min a.mn b.mn
def mk : Nest → List Int
  | lf _ => []
  | nd a b => max a.mn b.mn :: (a.mk ++ b.mk)
def put (x f : Int) : Nest → Nest
  | lf i => if i = x then nd (lf i) (lf f) else lf i
  | nd a b => if max a.mn b.mn = 0 - x then nd (nd a b) (lf f) else nd (put x f a) (put x f b)
def dep : Nest → Nat
  | lf _ => 0
  | nd a b => max a.dep b.dep + 1
theorem dep_lt : ∀ t : Nest, t.dep < t.lv.length
  | lf _ => by simp [dep, lv]
  | nd a b => by
    have := dep_lt a
    have := dep_lt b
    simp only [dep, lv, List.length_append]
    omega
theorem lv_ne : ∀ t : Nest, t.lv ≠ []
  | lf _ => by simp [lv]
  | nd a b => by simp [lv, lv_ne a]
theorem lv_pos (t : Nest) : 0 < t.lv.length := List.length_pos_iff.mpr t.lv_ne
theorem mn_mem : ∀ t : Nest, t.mn ∈ t.lv
  | lf _ => by simp [lv, mn]
  | nd a b => by
    simp only [lv, mn, List.mem_append]
    rcases Int.min_eq_left_iff_le_or a.mn b.mn with h | h
    · rw [h]; exact .inl (mn_mem a)
    · rw [h]; exact .inr (mn_mem b)
where
  Int.min_eq_left_iff_le_or (x y : Int) : min x y = x ∨ min x y = y := by omega
theorem mn_le : ∀ (t : Nest) (x : Int), x ∈ t.lv → t.mn ≤ x
  | lf _, x, h => by simp [lv] at h; simp [mn, h]
  | nd a b, x, h => by
    simp only [lv, mn, List.mem_append] at h ⊢
    rcases h with h | h
    · have := mn_le a x h; omega
    · have := mn_le b x h; omega
theorem mk_perm : ∀ t : Nest, (t.mn :: t.mk).Perm t.lv
  | lf _ => by simp [lv, mn, mk]
  | nd a b => by
    have h1 := mk_perm a
    have h2 := mk_perm b
    rw [List.perm_iff_count] at *
    intro x
    have h1 := h1 x
    have h2 := h2 x
    simp only [lv, mn, mk, List.count_cons, List.count_append] at h1 h2 ⊢
    rcases Int.le_total a.mn b.mn with h | h
    · rw [show min a.mn b.mn = a.mn by omega, show max a.mn b.mn = b.mn by omega]; omega
    · rw [show min a.mn b.mn = b.mn by omega, show max a.mn b.mn = a.mn by omega]; omega
theorem mk_sub (t : Nest) (x : Int) (h : x ∈ t.mk) : x ∈ t.lv := t.mk_perm.mem_iff.mp (List.mem_cons_of_mem _ h)
theorem mk_nodup (t : Nest) (h : t.lv.Nodup) : t.mk.Nodup ∧ t.mn ∉ t.mk := by
  have := (t.mk_perm.nodup_iff).mpr h
  exact ⟨(List.nodup_cons.mp this).2, (List.nodup_cons.mp this).1⟩
theorem mk_gt (t : Nest) (h : t.lv.Nodup) (x : Int) (hx : x ∈ t.mk) : t.mn < x := by
  have h1 := t.mn_le x (t.mk_sub x hx)
  have h2 := (t.mk_nodup h).2
  have : t.mn ≠ x := fun e => h2 (e ▸ hx)
  omega
theorem gr_length : ∀ t : Nest, t.gr.length + 1 = t.lv.length
  | lf _ => by simp [lv, gr]
  | nd a b => by
    have h1 := gr_length a
    have h2 := gr_length b
    simp only [lv, gr, List.length_cons, List.length_append]
    omega
theorem put_none (x f : Int) : ∀ t : Nest, x ∉ t.lv → 0 - x ∉ t.mk → put x f t = t
  | lf i, h1, h2 => by
    rw [put, if_neg]
    intro e; apply h1; simp [lv, e]
  | nd a b, h1, h2 => by
    simp only [lv, mk, List.mem_append, List.mem_cons, not_or] at h1 h2
    rw [put, if_neg (fun e => h2.1 e.symm), put_none x f a h1.1 h2.2.1, put_none x f b h1.2 h2.2.2]
theorem put_one (x f : Int) : ∀ t : Nest, t.lv.Nodup → (∀ y ∈ t.lv, 0 ≤ y) → (x ∈ t.lv ∨ 0 - x ∈ t.mk) → (put x f t).lv.Perm (f :: t.lv)
  | lf i, h0, h1, h2 => by
    simp only [lv, mk, List.mem_singleton, List.not_mem_nil, or_false] at h2
    rw [put, if_pos h2.symm]
    exact List.Perm.swap _ _ _
  | nd a b, h0, h1, h2 => by
    have hd := List.nodup_append.mp h0
    have h1a : ∀ y ∈ a.lv, 0 ≤ y := fun y hy => h1 y (List.mem_append_left _ hy)
    have h1b : ∀ y ∈ b.lv, 0 ≤ y := fun y hy => h1 y (List.mem_append_right _ hy)
    by_cases e : max a.mn b.mn = 0 - x
    · rw [put, if_pos e]
      show ((a.lv ++ b.lv) ++ [f]).Perm _
      exact List.perm_append_comm
    · rw [put, if_neg e]
      -- x sits in just one half
      have key : (x ∈ a.lv ∨ 0 - x ∈ a.mk) ∨ (x ∈ b.lv ∨ 0 - x ∈ b.mk) := by
        rcases h2 with h2 | h2
        · rcases List.mem_append.mp h2 with h | h
          · exact .inl (.inl h)
          · exact .inr (.inl h)
        · simp only [mk, List.mem_cons, List.mem_append] at h2
          rcases h2 with h | h | h
          · exact absurd h.symm e
          · exact .inl (.inr h)
          · exact .inr (.inr h)
      have excl : ∀ c d : Nest, c.lv.Nodup → d.lv.Nodup → (∀ y ∈ c.lv, 0 ≤ y) → (∀ y ∈ d.lv, 0 ≤ y) → (∀ y ∈ c.lv, ∀ z ∈ d.lv, y ≠ z) → (x ∈ c.lv ∨ 0 - x ∈ c.mk) → x ∉ d.lv ∧ 0 - x ∉ d.mk := by
        intro c d nc nd pc pd dj h
        rcases h with h | h
        · refine ⟨fun q => dj x h x q rfl, fun q => ?_⟩
          have := mk_gt d nd _ q
          have := pd _ d.mn_mem
          have := pc _ h
          omega
        · have g1 := mk_gt c nc _ h
          have g2 := pc _ c.mn_mem
          refine ⟨fun q => ?_, fun q => dj _ (c.mk_sub _ h) _ (d.mk_sub _ q) rfl⟩
          have := pd _ q
          omega
      rcases key with k | k
      · obtain ⟨n1, n2⟩ := excl a b hd.1 hd.2.1 h1a h1b hd.2.2 k
        rw [put_none x f b n1 n2]
        show ((put x f a).lv ++ b.lv).Perm _
        exact (put_one x f a hd.1 h1a k).append_right b.lv
      · obtain ⟨n1, n2⟩ := excl b a hd.2.1 hd.1 h1b h1a (fun y hy z hz e => hd.2.2 z hz y hy e.symm) k
        rw [put_none x f a n1 n2]
        show (a.lv ++ (put x f b).lv).Perm (f :: (a.lv ++ b.lv))
        exact ((put_one x f b hd.2.1 h1b k).append_left a.lv).trans List.perm_middle
end Nest
/-- all persons -/
def comp (n : Nat) : List Int := (List.range n).map fun i : Nat => (i : Int)
theorem comp_succ (n : Nat) : comp (n + 1) = comp n ++ [(n : Int)] := by
  unfold comp; rw [List.range_succ, List.map_append]; rfl
theorem comp_len (n : Nat) : (comp n).length = n := by unfold comp; simp
theorem mem_comp {n : Nat} {x : Int} : x ∈ comp n ↔ 0 ≤ x ∧ x < n := by
  unfold comp
  rw [List.mem_map]
  constructor
  · rintro ⟨i, h, rfl⟩
    have := List.mem_range.mp h
    omega
  · rintro ⟨h1, h2⟩
    exact ⟨x.toNat, List.mem_range.mpr (by omega), by omega⟩
theorem comp_asc (n : Nat) : (comp n).Pairwise (· < ·) := by
  unfold comp
  rw [List.pairwise_map]
  exact List.Pairwise.imp (fun h => by omega) (List.pairwise_lt_range (n := n))
theorem asc_nodup {l : List Int} (h : l.Pairwise (· < ·)) : l.Nodup := List.Pairwise.imp (fun h => by omega) h
theorem comp_nodup (n : Nat) : (comp n).Nodup := asc_nodup (comp_asc n)
theorem sZ_asc {l : List Int} (h : l.Pairwise (· < ·)) : sZ l = l := sZ_of (List.Pairwise.imp (fun h => decide_eq_true (by omega)) h)
theorem asc_sZ {l : List Int} (h : l.Nodup) : (sZ l).Pairwise (· < ·) := by
  have h1 := sZ_sorted l
  have h2 : (sZ l).Nodup := (sZ_perm l).nodup_iff.mpr h
  exact (h1.and h2).imp fun ⟨h, h'⟩ => by
    have := of_decide_eq_true h
    omega
theorem mem_sZ {l : List Int} {x : Int} : x ∈ sZ l ↔ x ∈ l := (sZ_perm l).mem_iff
theorem len_sZ (l : List Int) : (sZ l).length = l.length := (sZ_perm l).length_eq
theorem mem_sR {l : List (List Int)} {x : List Int} : x ∈ sR l ↔ x ∈ l := (sR_perm l).mem_iff
theorem len_sR (l : List (List Int)) : (sR l).length = l.length := (sR_perm l).length_eq
/-- a nest of the first n persons -/
def Nest.Of (t : Nest) (n : Nat) : Prop := t.lv.Perm (comp n)
theorem Nest.Of.nodup {t : Nest} {n : Nat} (h : t.Of n) : t.lv.Nodup := (List.Perm.nodup_iff h).mpr (comp_nodup n)
theorem Nest.Of.mem {t : Nest} {n : Nat} (h : t.Of n) {x : Int} : x ∈ t.lv ↔ 0 ≤ x ∧ x < n := (List.Perm.mem_iff h).trans mem_comp
theorem Nest.Of.len {t : Nest} {n : Nat} (h : t.Of n) : t.lv.length = n := (List.Perm.length_eq h).trans (comp_len n)
theorem Nest.Of.put {t : Nest} {n : Nat} (h : t.Of n) {x : Int} (h1 : 0 - (n : Int) < x) (h2 : x < n) : (t.put x n).Of (n + 1) := by
  have hm : t.mn = 0 := by
    have h3 := t.mn_mem
    have h4 := (h.mem).mp h3
    have h5 := t.mn_le 0 (h.mem.mpr (by omega))
    omega
  have h0 : x ∈ t.lv ∨ 0 - x ∈ t.mk := by
    by_cases h3 : 0 ≤ x
    · exact .inl (h.mem.mpr ⟨h3, h2⟩)
    · have h4 : 0 - x ∈ t.mn :: t.mk := t.mk_perm.mem_iff.mpr (h.mem.mpr (by omega))
      rcases List.mem_cons.mp h4 with h5 | h5
      · omega
      · exact .inr h5
  have := Nest.put_one x n t h.nodup (fun y hy => (h.mem.mp hy).1) h0
  refine this.trans ?_
  rw [comp_succ]
  exact (List.Perm.cons _ h).trans (List.perm_append_comm (l₁ := [(n : Int)]))
theorem Nest.of_zero : (Nest.lf 0).Of 1 := List.Perm.refl _
end J
namespace J
theorem perm_of_mem {α : Type} [DecidableEq α] {l m : List α} (h1 : l.Nodup) (h2 : m.Nodup) (h : ∀ x, x ∈ l ↔ x ∈ m) : l.Perm m := by
  rw [List.perm_iff_count]
  intro x
  have c1 := List.nodup_iff_count.mp h1 x
  have c2 := List.nodup_iff_count.mp h2 x
  have p1 := List.count_pos_iff (l := l) (a := x)
  have p2 := List.count_pos_iff (l := m) (a := x)
  have := h x
  by_cases hx : x ∈ l
  · have := p1.mpr hx; have := p2.mpr ((h x).mp hx); omega
  · rw [List.count_eq_zero.mpr hx, List.count_eq_zero.mpr (fun q => hx ((h x).mpr q))]
theorem asc_ext {l m : List Int} (h1 : l.Pairwise (· < ·)) (h2 : m.Pairwise (· < ·)) (h : ∀ x, x ∈ l ↔ x ∈ m) : l = m :=
  perm_sorted leZ_anti (perm_of_mem (asc_nodup h1) (asc_nodup h2) h) (h1.imp fun h => decide_eq_true (by omega)) (h2.imp fun h => decide_eq_true (by omega))
theorem asc_filter {l : List Int} {p : Int → Bool} (h : l.Pairwise (· < ·)) : (l.filter p).Pairwise (· < ·) := h.filter p
theorem sR_ext {l m : List (List Int)} (h1 : l.Nodup) (h2 : m.Nodup) (h : ∀ x, x ∈ l ↔ x ∈ m) : sR l = sR m := sR_eq (perm_of_mem h1 h2 h)
theorem head_sZ {l r : List Int} {h : Int} (e : sZ l = h :: r) : h ∈ l ∧ ∀ x ∈ l, h ≤ x := by
  refine ⟨mem_sZ.mp (e ▸ List.mem_cons_self), fun x hx => ?_⟩
  have h1 := sZ_sorted l
  rw [e] at h1
  have h2 : x ∈ h :: r := e ▸ mem_sZ.mpr hx
  rcases List.mem_cons.mp h2 with q | q
  · omega
  · exact of_decide_eq_true ((List.pairwise_cons.mp h1).1 x q)
theorem pairwise_zip {α : Type} {R : α → α → Prop} : ∀ {l : List α}, l.Pairwise R → ∀ p ∈ l.zip (l.drop 1), R p.1 p.2
  | [], _, p, hp => by simp at hp
  | [x], _, p, hp => by simp at hp
  | x :: y :: r, h, p, hp => by
    simp only [List.drop_succ_cons, List.drop_zero, List.zip_cons_cons, List.mem_cons] at hp
    rcases hp with rfl | hp
    · exact (List.pairwise_cons.mp h).1 y List.mem_cons_self
    · exact pairwise_zip (l := y :: r) (List.pairwise_cons.mp h).2 p (by simpa using hp)
theorem zip_pairwise {α : Type} {R : α → α → Prop} (tr : ∀ a b c, R a b → R b c → R a c) : ∀ {l : List α}, (∀ p ∈ l.zip (l.drop 1), R p.1 p.2) → l.Pairwise R
  | [], _ => .nil
  | [x], _ => List.pairwise_singleton _ _
  | x :: y :: r, h => by
    have ih : (y :: r).Pairwise R := zip_pairwise tr fun p hp => h p (by simp only [List.drop_succ_cons, List.drop_zero, List.zip_cons_cons, List.mem_cons] at hp ⊢; exact .inr (by simpa using hp))
    have h1 : R x y := h (x, y) (by simp)
    refine List.pairwise_cons.mpr ⟨fun z hz => ?_, ih⟩
    rcases List.mem_cons.mp hz with rfl | hz
    · exact h1
    · exact tr _ _ _ h1 ((List.pairwise_cons.mp ih).1 z hz)
/-! ### what is_row, parts_in, has_parts compute -/
def rowB (m : Int) (l : List Int) : Bool := l.all (fun x => decide (0 ≤ x) && decide (x < m)) && (l.zip (l.drop 1)).all fun p => decide (p.1 < p.2)
theorem rowB_iff {m : Int} {l : List Int} : rowB m l = true ↔ (∀ x ∈ l, 0 ≤ x ∧ x < m) ∧ l.Pairwise (· < ·) := by
  unfold rowB
  rw [Bool.and_eq_true, List.all_eq_true, List.all_eq_true]
  constructor
  · rintro ⟨h1, h2⟩
    exact ⟨fun x hx => by simpa using h1 x hx, zip_pairwise (R := fun a b : Int => a < b) (fun a b c h h' => by omega) fun p hp => of_decide_eq_true (h2 p hp)⟩
  · rintro ⟨h1, h2⟩
    exact ⟨fun x hx => by simpa using h1 x hx, fun p hp => decide_eq_true (pairwise_zip h2 p hp)⟩
/-- one turn of the search for the first part -/
def firstStep (g : List Int) (h : Int) (first other : List Int) : List Int := if first.length < other.length ∧ other.length < g.length ∧ h ∈ other then other else first
def firstOf (ls : List (List Int)) (g : List Int) (h : Int) : List Int := ls.foldl (firstStep g h) (g.take 1)
def restOf (ls : List (List Int)) (h : Int) (r : List Int) : List Int := (h :: r).filter fun x => !decide (x ∈ firstOf ls (h :: r) h)
def partsB (ls : List (List Int)) : List Int → Bool
  | [] => true
  | h :: r => (firstOf ls (h :: r) h).all (fun x => decide (x ∈ h :: r)) && (decide ((restOf ls h r).length = 1) || decide (restOf ls h r ∈ ls))
theorem fold_none {g : List Int} {h : Int} {f : List Int} : ∀ {ls : List (List Int)}, (∀ o ∈ ls, ¬ (f.length < o.length ∧ o.length < g.length ∧ h ∈ o)) → ls.foldl (firstStep g h) f = f
  | [], _ => rfl
  | o :: ls, H => by
    rw [List.foldl_cons]
    have : firstStep g h f o = f := if_neg (H o List.mem_cons_self)
    rw [this]
    exact fold_none fun o ho => H o (List.mem_cons_of_mem _ ho)
theorem fold_best {g : List Int} {h : Int} {best : List Int} (b1 : best.length < g.length) (b2 : h ∈ best) : ∀ {ls : List (List Int)} {f : List Int}, (∀ o ∈ ls, o.length < g.length → h ∈ o → o.length < best.length ∨ o = best) → (f.length < best.length ∧ best ∈ ls ∨ f = best) → ls.foldl (firstStep g h) f = best
  | [], f, _, hf => by
    rcases hf with hf | hf
    · exact absurd hf.2 List.not_mem_nil
    · exact hf
  | o :: ls, f, H, hf => by
    rw [List.foldl_cons]
    refine fold_best b1 b2 (fun o ho => H o (List.mem_cons_of_mem _ ho)) ?_
    have Ho := H o List.mem_cons_self
    unfold firstStep
    split
    · rename_i c
      rcases Ho c.2.1 c.2.2 with q | q
      · rcases hf with ⟨f1, f2⟩ | rfl
        · rcases List.mem_cons.mp f2 with rfl | f2
          · exact .inr rfl
          · exact .inl ⟨q, f2⟩
        · omega
      · exact .inr q
    · rename_i c
      rcases hf with ⟨f1, f2⟩ | rfl
      · rcases List.mem_cons.mp f2 with rfl | f2
        · exact absurd ⟨f1, b1, b2⟩ c
        · exact .inl ⟨f1, f2⟩
      · exact .inr rfl
/-- what makes a list of rows a parting -/
structure Parting (ls : List (List Int)) : Prop where
  few : ls.length < 20
  row : ∀ g ∈ ls, rowB (ls.length + 1) g = true ∧ 1 < g.length ∧ g.length ≤ 20
  asc : ∀ p ∈ ls.zip (ls.drop 1), ltI p.1 p.2 = true
  all : ls = [] ∨ comp (ls.length + 1) ∈ ls
  prt : ∀ g ∈ ls, partsB ls g = true
namespace Nest
theorem gr_sublist {X : Nest} : ∀ {t : Nest}, X ∈ t.gr → X.lv.Sublist t.lv
  | lf _, h => by simp [gr] at h
  | nd a b, h => by
    simp only [gr, List.mem_cons, List.mem_append] at h
    rcases h with rfl | h | h
    · exact List.Sublist.refl _
    · exact (gr_sublist h).trans (List.sublist_append_left _ _)
    · exact (gr_sublist h).trans (List.sublist_append_right _ _)
theorem gr_nd {X : Nest} : ∀ {t : Nest}, X ∈ t.gr → ∃ a b, X = nd a b
  | lf _, h => by simp [gr] at h
  | nd a b, h => by
    simp only [gr, List.mem_cons, List.mem_append] at h
    rcases h with rfl | h | h
    · exact ⟨a, b, rfl⟩
    · exact gr_nd h
    · exact gr_nd h
theorem gr_trans {X Y : Nest} : ∀ {t : Nest}, X ∈ t.gr → Y ∈ X.gr → Y ∈ t.gr
  | lf _, h, _ => by simp [gr] at h
  | nd a b, h, hy => by
    simp only [gr, List.mem_cons, List.mem_append] at h
    rcases h with rfl | h | h
    · exact hy
    · exact List.mem_cons_of_mem _ (List.mem_append_left _ (gr_trans h hy))
    · exact List.mem_cons_of_mem _ (List.mem_append_right _ (gr_trans h hy))
theorem gr_self (a b : Nest) : nd a b ∈ (nd a b).gr := List.mem_cons_self
theorem gr_two {X t : Nest} (h : X ∈ t.gr) : 1 < X.lv.length := by
  obtain ⟨a, b, rfl⟩ := gr_nd h
  have := a.lv_pos
  have := b.lv_pos
  simp only [lv, List.length_append]
  omega
theorem gr_len {X : Nest} : ∀ {t : Nest}, X ∈ t.gr → X = t ∨ X.lv.length < t.lv.length
  | lf _, h => by simp [gr] at h
  | nd a b, h => by
    simp only [gr, List.mem_cons, List.mem_append] at h
    have := a.lv_pos
    have := b.lv_pos
    rcases h with rfl | h | h
    · exact .inl rfl
    · have := (gr_sublist h).length_le
      right; simp only [lv, List.length_append]; omega
    · have := (gr_sublist h).length_le
      right; simp only [lv, List.length_append]; omega
theorem gr_nodup {X t : Nest} (h : X ∈ t.gr) (hn : t.lv.Nodup) : X.lv.Nodup := hn.sublist (gr_sublist h)
/-- two inner nodes: one within the other, or apart -/
theorem lam {X Y : Nest} : ∀ {t : Nest}, t.lv.Nodup → X ∈ t.gr → Y ∈ t.gr → X ∈ Y.gr ∨ Y ∈ X.gr ∨ ∀ x ∈ X.lv, x ∉ Y.lv
  | lf _, _, h, _ => by simp [gr] at h
  | nd a b, hn, hx, hy => by
    have hd := List.nodup_append.mp hn
    have hx' := hx
    have hy' := hy
    simp only [gr, List.mem_cons, List.mem_append] at hx hy
    rcases hx with rfl | hx | hx
    · exact .inr (.inl hy')
    · rcases hy with rfl | hy | hy
      · exact .inl hx'
      · exact lam hd.1 hx hy
      · exact .inr (.inr fun x h1 h2 => hd.2.2 x ((gr_sublist hx).subset h1) x ((gr_sublist hy).subset h2) rfl)
    · rcases hy with rfl | hy | hy
      · exact .inl hx'
      · exact .inr (.inr fun x h1 h2 => hd.2.2 x ((gr_sublist hy).subset h2) x ((gr_sublist hx).subset h1) rfl)
      · exact lam hd.2.1 hx hy
theorem mem_folk {t : Nest} {x : Int} : x ∈ t.folk ↔ x ∈ t.lv := mem_sZ
theorem len_folk (t : Nest) : t.folk.length = t.lv.length := len_sZ _
theorem folks_nodup : ∀ {t : Nest}, t.lv.Nodup → (t.gr.map folk).Nodup
  | lf _, _ => List.nodup_nil
  | nd a b, hn => by
    have hd := List.nodup_append.mp hn
    show (folk (nd a b) :: (a.gr ++ b.gr).map folk).Nodup
    rw [List.map_append]
    refine List.nodup_cons.mpr ⟨fun h => ?_, List.nodup_append.mpr ⟨folks_nodup hd.1, folks_nodup hd.2.1, fun x hx y hy e => ?_⟩⟩
    · have : ∃ X, (X ∈ a.gr ∨ X ∈ b.gr) ∧ X.folk = (nd a b).folk := by
        rcases List.mem_append.mp h with h | h
        · obtain ⟨X, h1, h2⟩ := List.mem_map.mp h
          exact ⟨X, .inl h1, h2⟩
        · obtain ⟨X, h1, h2⟩ := List.mem_map.mp h
          exact ⟨X, .inr h1, h2⟩
      obtain ⟨X, h1, h2⟩ := this
      have hl := congrArg List.length h2
      rw [len_folk, len_folk] at hl
      simp only [lv, List.length_append] at hl
      have := a.lv_pos
      have := b.lv_pos
      rcases h1 with h1 | h1
      · have := (gr_sublist h1).length_le; omega
      · have := (gr_sublist h1).length_le; omega
    · subst e
      obtain ⟨X, h1, h2⟩ := List.mem_map.mp hx
      obtain ⟨Y, h3, h4⟩ := List.mem_map.mp hy
      have := mem_folk.mp (h4 ▸ h2 ▸ mem_folk.mpr X.mn_mem : X.mn ∈ Y.folk)
      exact hd.2.2 _ ((gr_sublist h1).subset X.mn_mem) _ ((gr_sublist h3).subset this) rfl
theorem mem_lots {t : Nest} {g : List Int} : g ∈ t.lots ↔ ∃ X ∈ t.gr, X.folk = g := by
  unfold lots; rw [mem_sR, List.mem_map]
theorem len_lots (t : Nest) : t.lots.length + 1 = t.lv.length := by
  unfold lots; rw [len_sR, List.length_map]; exact t.gr_length
theorem lots_nodup {t : Nest} (hn : t.lv.Nodup) : t.lots.Nodup := (sR_perm _).nodup_iff.mpr (folks_nodup hn)
theorem lots_asc {t : Nest} (hn : t.lv.Nodup) : t.lots.Pairwise (fun a b => ltI a b = true) := by
  refine ((sR_sorted _).and (lots_nodup hn)).imp @fun a b ⟨h1, h2⟩ => ?_
  cases q : ltI a b with
  | true => rfl
  | false =>
    unfold leI at h1
    rw [Bool.not_eq_true'] at h1
    exact absurd (ltI_total a b q h1) h2
theorem folk_asc {t : Nest} (hn : t.lv.Nodup) : t.folk.Pairwise (· < ·) := asc_sZ hn
theorem first_of {t a b N : Nest} {h : Int} {r : List Int} (hn : t.lv.Nodup) (hN : N ∈ t.gr) (hs : ∀ X, X ∈ N.gr → X = N ∨ X ∈ a.gr ∨ X ∈ b.gr) (ha : ∀ X ∈ a.gr, X ∈ N.gr) (hl : a.lv.length < N.lv.length)
    (hd : ∀ x ∈ a.lv, x ∉ b.lv) (e : N.folk = h :: r) (hh : h ∈ a.lv) : firstOf t.lots (h :: r) h = a.folk := by
  have cand : ∀ o ∈ t.lots, o.length < (h :: r).length → h ∈ o → ∃ X ∈ a.gr, X.folk = o := by
    intro o ho h1 h2
    obtain ⟨X, hX, rfl⟩ := mem_lots.mp ho
    rw [← e, len_folk, len_folk] at h1
    have h2 := mem_folk.mp h2
    have hhN : h ∈ N.lv := mem_folk.mp (e ▸ List.mem_cons_self)
    rcases lam hn hX hN with q | q | q
    · rcases hs X q with rfl | q | q
      · omega
      · exact ⟨X, q, rfl⟩
      · exact absurd ((gr_sublist q).subset h2) (hd h hh)
    · have := (gr_sublist q).length_le; omega
    · exact absurd hhN (q h h2)
  unfold firstOf
  cases a with
  | lf i =>
    have : h = i := by simpa [lv] using hh
    subst this
    rw [fold_none]
    · show [h] = sZ [h]
      exact (sZ_asc (List.pairwise_singleton _ _)).symm
    · rintro o ho ⟨h1, h2, h3⟩
      obtain ⟨X, hX, _⟩ := cand o ho h2 h3
      simp [gr] at hX
  | nd c d =>
    refine fold_best ?_ (mem_folk.mpr hh) ?_ (.inl ⟨?_, ?_⟩)
    · rw [← e, len_folk, len_folk]; exact hl
    · intro o ho h2 h3
      obtain ⟨X, hX, rfl⟩ := cand o ho h2 h3
      rcases gr_len hX with rfl | q
      · exact .inr rfl
      · left; rw [len_folk, len_folk]; exact q
    · rw [len_folk]
      exact gr_two (gr_self c d)
    · exact mem_lots.mpr ⟨_, gr_trans hN (ha _ (gr_self c d)), rfl⟩
theorem rest_of {t a b N : Nest} {h : Int} {r : List Int} (hnN : N.lv.Nodup) (hb : b.lv.Nodup) (hm : ∀ x, x ∈ N.lv ↔ x ∈ a.lv ∨ x ∈ b.lv)
    (hd : ∀ x ∈ a.lv, x ∉ b.lv) (e : N.folk = h :: r) (hf : firstOf t.lots (h :: r) h = a.folk) : restOf t.lots h r = b.folk := by
  unfold restOf
  rw [hf, ← e]
  refine asc_ext (asc_filter (folk_asc hnN)) (folk_asc hb) fun x => ?_
  rw [List.mem_filter, mem_folk, hm]
  simp only [Bool.not_eq_true', decide_eq_false_iff_not, mem_folk]
  constructor
  · rintro ⟨h1 | h1, h2⟩
    · exact absurd h1 h2
    · exact h1
  · intro h1
    exact ⟨.inr h1, fun q => hd x q h1⟩
/-- both parts of a lot -/
theorem parts_of {t a b : Nest} {h : Int} {r : List Int} (hn : t.lv.Nodup) (hN : nd a b ∈ t.gr) (e : (nd a b).folk = h :: r) :
    (h ∈ a.lv ∧ firstOf t.lots (h :: r) h = a.folk ∧ restOf t.lots h r = b.folk) ∨ (h ∈ b.lv ∧ firstOf t.lots (h :: r) h = b.folk ∧ restOf t.lots h r = a.folk) := by
  have hnN := gr_nodup hN hn
  have hd := List.nodup_append.mp hnN
  have hh : h ∈ a.lv ++ b.lv := (head_sZ e).1
  have := a.lv_pos
  have := b.lv_pos
  rcases List.mem_append.mp hh with q | q
  · have d1 : ∀ x ∈ a.lv, x ∉ b.lv := fun x h1 h2 => hd.2.2 x h1 x h2 rfl
    have := first_of (a := a) (b := b) hn hN (fun X h => by simpa [gr] using h) (fun X h => by simp [gr, h]) (by simp only [lv, List.length_append]; omega) d1 e q
    exact .inl ⟨q, this, rest_of (a := a) hnN hd.2.1 (fun x => by simp [lv]) d1 e this⟩
  · have d1 : ∀ x ∈ b.lv, x ∉ a.lv := fun x h1 h2 => hd.2.2 x h2 x h1 rfl
    have := first_of (a := b) (b := a) hn hN (fun X h => by simp only [gr, List.mem_cons, List.mem_append] at h; rcases h with h | h | h <;> simp [h]) (fun X h => by simp [gr, h]) (by simp only [lv, List.length_append]; omega) d1 e q
    exact .inr ⟨q, this, rest_of (a := b) hnN hd.1 (fun x => by simp [lv, or_comm]) d1 e this⟩
theorem part_ok {t c : Nest} (hc : ∀ X ∈ c.gr, X ∈ t.gr) : c.folk.length = 1 ∨ c.folk ∈ t.lots := by
  cases c with
  | lf i => left; rw [len_folk]; rfl
  | nd a b => right; exact mem_lots.mpr ⟨_, hc _ (gr_self a b), rfl⟩
theorem partsB_of {t N : Nest} (hn : t.lv.Nodup) (hN : N ∈ t.gr) : partsB t.lots N.folk = true := by
  obtain ⟨a, b, rfl⟩ := gr_nd hN
  cases e : (nd a b).folk with
  | nil => rfl
  | cons h r =>
    have ga : ∀ X ∈ a.gr, X ∈ t.gr := fun X hX => gr_trans hN (by simp [gr, hX])
    have gb : ∀ X ∈ b.gr, X ∈ t.gr := fun X hX => gr_trans hN (by simp [gr, hX])
    unfold partsB
    rw [Bool.and_eq_true, List.all_eq_true, Bool.or_eq_true, decide_eq_true_eq, decide_eq_true_eq]
    rcases parts_of hn hN e with ⟨_, h1, h2⟩ | ⟨_, h1, h2⟩
    · rw [h1, h2]
      exact ⟨fun x hx => decide_eq_true (e ▸ mem_folk.mpr (List.mem_append_left _ (mem_folk.mp hx))), part_ok gb⟩
    · rw [h1, h2]
      exact ⟨fun x hx => decide_eq_true (e ▸ mem_folk.mpr (List.mem_append_right _ (mem_folk.mp hx))), part_ok ga⟩
theorem Of.folk {t : Nest} {n : Nat} (h : t.Of n) : t.folk = comp n := asc_ext (folk_asc h.nodup) (comp_asc n) fun x => by rw [mem_folk, h.mem, mem_comp]
/-- the lots of a nest are a parting -/
theorem Of.parting {t : Nest} {n : Nat} (h : t.Of n) (hn : n ≤ 20) : Parting t.lots := by
  have hl : t.lots.length + 1 = n := by rw [len_lots, h.len]
  refine ⟨by omega, fun g hg => ?_, pairwise_zip (lots_asc h.nodup), ?_, fun g hg => ?_⟩
  · obtain ⟨X, hX, rfl⟩ := mem_lots.mp hg
    refine ⟨rowB_iff.mpr ⟨fun x hx => ?_, folk_asc (gr_nodup hX h.nodup)⟩, by rw [len_folk]; exact gr_two hX, ?_⟩
    · have := h.mem.mp ((gr_sublist hX).subset (mem_folk.mp hx))
      omega
    · have := (gr_sublist hX).length_le
      rw [len_folk]
      have := h.len
      omega
  · cases t with
    | lf i => exact .inl (List.eq_nil_of_length_eq_zero (by rw [show (lf i).lots.length = ((lf i).gr.map Nest.folk).length from len_sR _]; rfl))
    | nd a b => rw [hl]; exact .inr (mem_lots.mpr ⟨_, gr_self a b, h.folk⟩)
  · obtain ⟨X, hX, rfl⟩ := mem_lots.mp hg
    exact partsB_of h.nodup hX
end Nest
end J
namespace J
/-! ### cut to some persons -/
def enI : Int → List Int → List (Int × Int)
  | _, [] => []
  | n, x :: r => (n, x) :: enI (n + 1) r
theorem mem_enI {x p : Int} : ∀ {k : List Int} {n : Int}, (p, x) ∈ enI n k ↔ ∃ i : Nat, k[i]? = some x ∧ p = n + i
  | [], n => by simp [enI]
  | y :: r, n => by
    rw [enI, List.mem_cons, mem_enI]
    constructor
    · rintro (h | ⟨i, h1, h2⟩)
      · injection h with h1 h2
        exact ⟨0, by simp [h2], by omega⟩
      · exact ⟨i + 1, by simpa using h1, by omega⟩
    · rintro ⟨i, h1, h2⟩
      cases i with
      | zero =>
        left
        simp at h1
        subst h1
        exact Prod.ext (by simp at h2; exact h2) rfl
      | succ i => exact .inr ⟨i, by simpa using h1, by omega⟩
theorem enI_asc : ∀ (k : List Int) (n : Int), (enI n k).Pairwise (fun a b => a.1 < b.1)
  | [], n => .nil
  | y :: r, n => by
    rw [enI]
    refine List.pairwise_cons.mpr ⟨fun q hq => ?_, enI_asc r (n + 1)⟩
    obtain ⟨i, _, h⟩ := mem_enI.mp (show (q.1, q.2) ∈ _ from hq)
    show n < q.1
    omega
/-- the places of those in g -/
def pl (k g : List Int) : List Int := ((enI 0 k).filter fun p => decide (p.2 ∈ g)).map (·.1)
theorem mem_pl {k g : List Int} {p : Int} : p ∈ pl k g ↔ ∃ (i : Nat) (x : Int), k[i]? = some x ∧ x ∈ g ∧ p = i := by
  unfold pl
  rw [List.mem_map]
  constructor
  · rintro ⟨⟨a, b⟩, h1, rfl⟩
    obtain ⟨h2, h3⟩ := List.mem_filter.mp h1
    obtain ⟨i, h4, h5⟩ := mem_enI.mp h2
    exact ⟨i, b, h4, of_decide_eq_true h3, by simp; omega⟩
  · rintro ⟨i, x, h1, h2, rfl⟩
    exact ⟨(i, x), List.mem_filter.mpr ⟨mem_enI.mpr ⟨i, h1, by omega⟩, decide_eq_true h2⟩, rfl⟩
theorem pl_asc (k g : List Int) : (pl k g).Pairwise (· < ·) := by
  unfold pl
  rw [List.pairwise_map]
  exact (enI_asc k 0).filter _
theorem pl_congr {k g h : List Int} (e : ∀ x, x ∈ g ↔ x ∈ h) : pl k g = pl k h :=
  asc_ext (pl_asc _ _) (pl_asc _ _) fun x => by
    rw [mem_pl, mem_pl]
    constructor
    · rintro ⟨i, y, h1, h2, h3⟩; exact ⟨i, y, h1, (e y).mp h2, h3⟩
    · rintro ⟨i, y, h1, h2, h3⟩; exact ⟨i, y, h1, (e y).mpr h2, h3⟩
def cutStep (k : List Int) (found : List (List Int)) (g : List Int) : List (List Int) := if 1 < (pl k g).length ∧ pl k g ∉ found then found ++ [pl k g] else found
def cutBy (ls : List (List Int)) (k : List Int) : List (List Int) := sR (ls.foldl (cutStep k) [])
theorem cutFold (k : List Int) : ∀ (ls f : List (List Int)), f.Nodup → (ls.foldl (cutStep k) f).Nodup ∧ ∀ g, g ∈ ls.foldl (cutStep k) f ↔ g ∈ f ∨ ∃ h ∈ ls, 1 < (pl k h).length ∧ g = pl k h
  | [], f, hf => ⟨hf, fun g => by simp⟩
  | o :: ls, f, hf => by
    rw [List.foldl_cons]
    have step : (cutStep k f o).Nodup ∧ ∀ g, g ∈ cutStep k f o ↔ g ∈ f ∨ (1 < (pl k o).length ∧ g = pl k o) := by
      unfold cutStep
      split
      · rename_i c
        refine ⟨List.nodup_append.mpr ⟨hf, List.nodup_cons.mpr ⟨List.not_mem_nil, List.nodup_nil⟩, fun x hx y hy e => ?_⟩, fun g => ?_⟩
        · rw [List.mem_singleton] at hy
          subst hy; subst e
          exact c.2 hx
        · rw [List.mem_append, List.mem_singleton]
          exact ⟨fun h => h.imp id fun h => ⟨c.1, h⟩, fun h => h.imp id fun h => h.2⟩
      · rename_i c
        refine ⟨hf, fun g => ⟨.inl, fun h => ?_⟩⟩
        rcases h with h | ⟨h1, rfl⟩
        · exact h
        · by_cases q : pl k o ∈ f
          · exact q
          · exact absurd ⟨h1, q⟩ c
    obtain ⟨h1, h2⟩ := cutFold k ls (cutStep k f o) step.1
    refine ⟨h1, fun g => ?_⟩
    rw [h2 g, step.2 g]
    constructor
    · rintro ((h | ⟨h3, h4⟩) | ⟨h, h3, h4⟩)
      · exact .inl h
      · exact .inr ⟨o, List.mem_cons_self, h3, h4⟩
      · exact .inr ⟨h, List.mem_cons_of_mem _ h3, h4⟩
    · rintro (h | ⟨h, h3, h4⟩)
      · exact .inl (.inl h)
      · rcases List.mem_cons.mp h3 with rfl | h3
        · exact .inl (.inr h4)
        · exact .inr ⟨h, h3, h4⟩
theorem idxOf_get {l : List Int} (h : l.Nodup) {i : Nat} {x : Int} (e : l[i]? = some x) : l.idxOf x = i := by
  obtain ⟨hi, rfl⟩ := List.getElem?_eq_some_iff.mp e
  exact h.idxOf_getElem i hi
theorem get_idxOf {l : List Int} {x : Int} (h : x ∈ l) : l[l.idxOf x]? = some x := by
  have := List.idxOf_lt_length_of_mem h
  rw [List.getElem?_eq_getElem this, List.getElem_idxOf]
namespace Nest
def cut (k : List Int) : Nest → Option Nest
  | lf i => if i ∈ k then some (lf (k.idxOf i)) else none
  | nd a b => match cut k a, cut k b with
    | some x, some y => some (nd x y)
    | some x, none => some x
    | none, some y => some y
    | none, none => none
def oLv : Option Nest → List Int
  | none => []
  | some t => t.lv
def oFk : Option Nest → List (List Int)
  | none => []
  | some t => t.gr.map folk
theorem cut_lv (k : List Int) : ∀ t : Nest, oLv (cut k t) = (t.lv.filter fun x => decide (x ∈ k)).map fun x => (k.idxOf x : Int)
  | lf i => by
    unfold cut
    by_cases h : i ∈ k
    · rw [if_pos h]; simp [oLv, lv, h]
    · rw [if_neg h]; simp [oLv, lv, h]
  | nd a b => by
    have h1 := cut_lv k a
    have h2 := cut_lv k b
    rw [lv, List.filter_append, List.map_append, ← h1, ← h2, cut]
    cases cut k a <;> cases cut k b <;> simp [oLv, lv]
theorem mem_cut {k : List Int} (hk : k.Nodup) {t : Nest} {p : Int} : p ∈ oLv (cut k t) ↔ p ∈ pl k t.lv := by
  rw [cut_lv, List.mem_map, mem_pl]
  constructor
  · rintro ⟨x, h1, rfl⟩
    obtain ⟨h2, h3⟩ := List.mem_filter.mp h1
    exact ⟨_, x, get_idxOf (of_decide_eq_true h3), h2, rfl⟩
  · rintro ⟨i, x, h1, h2, rfl⟩
    have : x ∈ k := List.mem_of_getElem? h1
    exact ⟨x, List.mem_filter.mpr ⟨h2, decide_eq_true this⟩, by rw [idxOf_get hk h1]⟩
theorem cut_nodup {k : List Int} {t : Nest} (ht : t.lv.Nodup) : (oLv (cut k t)).Nodup := by
  rw [cut_lv]
  refine List.pairwise_map.mpr ?_
  refine (ht.filter (fun x => decide (x ∈ k))).imp_of_mem fun {x y} hx hy h e => h ?_
  have hx := of_decide_eq_true (List.mem_filter.mp hx).2
  have hy := of_decide_eq_true (List.mem_filter.mp hy).2
  have h1 := get_idxOf hx
  have h2 := get_idxOf hy
  rw [show k.idxOf x = k.idxOf y by omega, h2] at h1
  injection h1 with h1
  exact h1.symm
theorem cut_folk {k : List Int} (hk : k.Nodup) {t u : Nest} (ht : t.lv.Nodup) (e : cut k t = some u) : u.folk = pl k t.lv := by
  have h1 := cut_nodup (k := k) ht
  rw [e] at h1
  refine asc_ext (folk_asc h1) (pl_asc _ _) fun x => ?_
  rw [mem_folk, ← mem_cut hk, e]
  rfl
theorem cut_none {k : List Int} (hk : k.Nodup) {t : Nest} (e : cut k t = none) : pl k t.lv = [] := by
  refine asc_ext (pl_asc _ _) .nil fun x => ?_
  rw [← mem_cut hk, e]
  rfl
theorem pl_left {k : List Int} (hk : k.Nodup) {a b : Nest} (e : cut k b = none) : pl k (nd a b).lv = pl k a.lv := by
  refine asc_ext (pl_asc _ _) (pl_asc _ _) fun x => ?_
  have := cut_none hk e
  have h2 : ∀ p, p ∉ pl k b.lv := fun p => by rw [this]; exact List.not_mem_nil
  rw [mem_pl, mem_pl]
  constructor
  · rintro ⟨i, y, h1, h3, h4⟩
    rcases List.mem_append.mp h3 with h3 | h3
    · exact ⟨i, y, h1, h3, h4⟩
    · exact absurd (mem_pl.mpr ⟨i, y, h1, h3, h4⟩) (h2 _)
  · rintro ⟨i, y, h1, h3, h4⟩
    exact ⟨i, y, h1, List.mem_append_left _ h3, h4⟩
theorem pl_right {k : List Int} (hk : k.Nodup) {a b : Nest} (e : cut k a = none) : pl k (nd a b).lv = pl k b.lv := by
  rw [← pl_left (a := b) (b := a) hk e]
  exact pl_congr fun x => by simp [lv, or_comm]
theorem folk_gr {t : Nest} (h : 1 < t.folk.length) : t.folk ∈ t.gr.map folk := by
  cases t with
  | lf i => rw [len_folk] at h; simp [lv] at h
  | nd a b => exact List.mem_map.mpr ⟨_, gr_self a b, rfl⟩
theorem cut_gr {k : List Int} (hk : k.Nodup) : ∀ {t : Nest}, t.lv.Nodup → ∀ g, g ∈ oFk (cut k t) ↔ ∃ X ∈ t.gr, 1 < (pl k X.lv).length ∧ g = pl k X.lv
  | lf i, ht, g => by
    unfold cut
    split
    · simp [oFk, gr]
    · simp [oFk, gr]
  | nd a b, ht, g => by
    have hd := List.nodup_append.mp ht
    have ia := cut_gr hk hd.1 g
    have ib := cut_gr hk hd.2.1 g
    have split3 : (∃ X ∈ (nd a b).gr, 1 < (pl k X.lv).length ∧ g = pl k X.lv) ↔ ((1 < (pl k (nd a b).lv).length ∧ g = pl k (nd a b).lv) ∨ g ∈ oFk (cut k a) ∨ g ∈ oFk (cut k b)) := by
      rw [ia, ib]
      constructor
      · rintro ⟨X, h1, h2⟩
        simp only [gr, List.mem_cons, List.mem_append] at h1
        rcases h1 with rfl | h1 | h1
        · exact .inl h2
        · exact .inr (.inl ⟨X, h1, h2⟩)
        · exact .inr (.inr ⟨X, h1, h2⟩)
      · rintro (h | ⟨X, h1, h2⟩ | ⟨X, h1, h2⟩)
        · exact ⟨_, gr_self a b, h⟩
        · exact ⟨X, by simp [gr, h1], h2⟩
        · exact ⟨X, by simp [gr, h1], h2⟩
    rw [split3]
    cases ea : cut k a with
    | none =>
      cases eb : cut k b with
      | none =>
        have e : cut k (nd a b) = none := by rw [cut, ea, eb]
        rw [e, pl_left hk eb, cut_none hk ea]
        simp [oFk]
      | some y =>
        have e : cut k (nd a b) = some y := by rw [cut, ea, eb]
        rw [e, pl_right hk ea, ← cut_folk hk hd.2.1 eb]
        constructor
        · exact fun h => .inr (.inr h)
        · rintro (⟨h1, rfl⟩ | h | h)
          · exact folk_gr h1
          · exact absurd h List.not_mem_nil
          · exact h
    | some x =>
      cases eb : cut k b with
      | none =>
        have e : cut k (nd a b) = some x := by rw [cut, ea, eb]
        rw [e, pl_left hk eb, ← cut_folk hk hd.1 ea]
        constructor
        · exact fun h => .inr (.inl h)
        · rintro (⟨h1, rfl⟩ | h | h)
          · exact folk_gr h1
          · exact h
          · exact absurd h List.not_mem_nil
      | some y =>
        have e : cut k (nd a b) = some (nd x y) := by rw [cut, ea, eb]
        rw [e, ← cut_folk hk ht e]
        show g ∈ (nd x y).folk :: (x.gr ++ y.gr).map folk ↔ _
        rw [List.map_append, List.mem_cons, List.mem_append]
        constructor
        · rintro (h | h | h)
          · refine .inl ⟨?_, h⟩
            rw [len_folk]; exact gr_two (gr_self x y)
          · exact .inr (.inl h)
          · exact .inr (.inr h)
        · rintro (⟨_, h⟩ | h | h)
          · exact .inl h
          · exact .inr (.inl h)
          · exact .inr (.inr h)
/-- the lots of a nest that is cut are its lots, cut -/
theorem cutBy_lots {k : List Int} (hk : k.Nodup) {t u : Nest} (ht : t.lv.Nodup) (e : cut k t = some u) : cutBy t.lots k = u.lots := by
  have h1 := cut_nodup (k := k) ht
  rw [e] at h1
  obtain ⟨f1, f2⟩ := cutFold k t.lots [] List.nodup_nil
  refine sR_ext f1 (folks_nodup h1) fun g => ?_
  have := cut_gr hk ht g
  rw [e] at this
  rw [f2 g]
  show _ ↔ g ∈ oFk (some u)
  rw [this]
  constructor
  · rintro (h | ⟨h, h2, h3⟩)
    · exact absurd h List.not_mem_nil
    · obtain ⟨X, hX, rfl⟩ := mem_lots.mp h2
      rw [pl_congr (fun x => mem_folk)] at h3
      exact ⟨X, hX, h3⟩
  · rintro ⟨X, hX, h3⟩
    rw [← pl_congr (fun x => mem_folk)] at h3
    exact .inr ⟨X.folk, mem_lots.mpr ⟨X, hX, rfl⟩, h3⟩
theorem pl_full {k g : List Int} (h : ∀ x ∈ k, x ∈ g) : pl k g = comp k.length := by
  refine asc_ext (pl_asc _ _) (comp_asc _) fun x => ?_
  rw [mem_pl, mem_comp]
  constructor
  · rintro ⟨i, y, h1, _, rfl⟩
    obtain ⟨h2, _⟩ := List.getElem?_eq_some_iff.mp h1
    omega
  · rintro ⟨h1, h2⟩
    have h3 : x.toNat < k.length := by omega
    exact ⟨x.toNat, k[x.toNat], List.getElem?_eq_getElem h3, h _ (List.getElem_mem h3), by omega⟩
theorem Of.cut {t : Nest} {n : Nat} (h : t.Of n) {k : List Int} (hk : k.Nodup) (h1 : k ≠ []) (h2 : ∀ x ∈ k, 0 ≤ x ∧ x < n) : ∃ u, t.cut k = some u ∧ u.Of k.length := by
  have hp : pl k t.lv = comp k.length := pl_full fun x hx => h.mem.mpr (h2 x hx)
  cases e : t.cut k with
  | none =>
    have := cut_none hk e
    rw [hp] at this
    have := congrArg List.length this
    rw [comp_len] at this
    exact absurd (List.eq_nil_of_length_eq_zero this) h1
  | some u =>
    refine ⟨u, rfl, ?_⟩
    have h3 := cut_folk hk h.nodup e
    rw [hp] at h3
    exact (sZ_perm u.lv).symm.trans (by show (u.folk).Perm _; rw [h3])
theorem idx_comp {n : Nat} {x : Int} (h : 0 ≤ x ∧ x < n) : ((comp n).idxOf x : Int) = x := by
  have : (comp n)[x.toNat]? = some x := by
    unfold comp
    rw [List.getElem?_map, List.getElem?_range (by omega)]
    show some ((x.toNat : Nat) : Int) = _
    rw [show ((x.toNat : Nat) : Int) = x by omega]
  rw [idxOf_get (comp_nodup n) this]
  omega
/-- all are kept -/
theorem cut_comp {n : Nat} : ∀ t : Nest, (∀ x ∈ t.lv, 0 ≤ x ∧ x < n) → cut (comp n) t = some t
  | lf i, h => by
    have := h i (by simp [lv])
    rw [cut, if_pos (mem_comp.mpr this), idx_comp this]
  | nd a b, h => by
    rw [cut, cut_comp a (fun x hx => h x (List.mem_append_left _ hx)), cut_comp b (fun x hx => h x (List.mem_append_right _ hx))]
theorem Of.lots_len {t : Nest} {n : Nat} (h : t.Of n) : t.lots.length + 1 = n := by rw [len_lots, h.len]
end Nest
end J
namespace J
open PySem PySem.Spec PyProof.Rows L2
theorem rgD_comp (n : Nat) : rgD 0 1 n = (comp n).map PyData.int := by
  unfold rgD comp
  rw [List.map_map]
  refine List.map_congr_left fun i _ => ?_
  simp
theorem inRg_nat {n : Nat} (hn : n ≤ 16777216) : inRg (n : Int) = true := by
  unfold inRg
  rw [Bool.and_eq_true, decide_eq_true_eq, decide_eq_true_eq]
  omega
theorem r1_eq {f : Ev} {vw : VW} {s s1 : STO} {j : Int} (h : f vw s = some (.int j, s1)) : r1 f vw s = if inRg j = true then some ((0, j), s1) else none := by
  unfold r1
  rw [h]
  rfl
theorem r1_ok {f : Ev} {vw : VW} {s s1 : STO} {n : Nat} (h : f vw s = some (.int (n : Int), s1)) (hn : n ≤ 16777216) : r1 f vw s = some ((0, (n : Int)), s1) :=
  (r1_eq h).trans (if_pos (inRg_nat hn))
theorem rg1_eq {j : Int} : rg1 (.int j) = if inRg j = true then some (rgD 0 1 j.toNat) else none := rfl
theorem rg1_ok {n : Nat} (hn : n ≤ 16777216) : rg1 (.int (n : Int)) = some ((comp n).map PyData.int) := by
  refine (rg1_eq.trans (if_pos (inRg_nat hn))).trans ?_
  have h2 : (n : Int).toNat = n := by omega
  rw [h2, rgD_comp]
theorem eLRg_comp {f : Ev} {vw : VW} {s s1 : STO} {n : Nat} (h : f vw s = some (.int (n : Int), s1)) (hn : n ≤ 16777216) : eLRg (r1 f) vw s = some (dI (comp n), s1) := by
  unfold eLRg
  rw [r1_ok h hn]
  simp only [Option.bind_some]
  have h2 : ((n : Int) - 0).toNat = n := by omega
  rw [h2, rgD_comp]
  exact if_pos ⟨by omega, by omega, by omega, by omega, hn⟩
end J
namespace J
open PySem PySem.Spec PyProof.Rows L2
end J
namespace K50
open PySem PySem.Spec PyProof.Rows L2 J
theorem is_integer_eq (i : Int) (s : STO) : F_is_integer [.int i] s = some (.bool true, s) := by
  simp [F_is_integer, b_is_integer, okM_nil, fzT, fnD, sSeq, sRet, sIf, sSet, sNil, sNever, sEx, sRetN, see, seeI, seeS_sh, seeS_no, seeS_tt, seeS_ff, fz, fzI, fzS_ff, fzS_sh, fzS_no, fzS_ow, fzIf, mkS, eIf, bT, aT, oT, nT, eUn, eVar, eLst, eTup, aC, aN, eCall, aApp, eBin, eIdx, eC, eOp, pick, dIdx, eAnd, eOr, dNot, eChain, dIsi, isMk, isiB, typD, fin_self, dI, dL, eSl, oN, oS, dSl, iVal, iB, iU, isLst, bN, bT2, wipeV, setV, isScal, full]
theorem asc_iter {l : List D} {vw : VW} {s : STO} {i : Nat} (h : vw[i]? = some (some (.list l))) : (iB (fun x y => (isLst x).bind fun ds => (isLst y).map fun es => ziD ds es) (eVar i) (eSl (eVar i) (oS (eC (.int 1))) oN)) vw s = some (ziD l (l.drop 1), s) := by
  simp [iB, eVar, h, eSl, oS, oN, eC, dSl, isLst, cut_tail]
theorem c_row1 (m : Int) (l : List Int) (s : STO) (hl : l.length ≤ 16777216) (vw : VW) (h0 : vw[0]? = some (some (.int m))) (h1 : vw[1]? = some (some (dI l))) (h5 : vw.length = 5) : c_is_row_1 vw s = some (.list (l.map fun x => PyData.bool (decide (0 ≤ x) && decide (x < m))), s) := by
  unfold c_is_row_1
  refine eComp_map l PyData.int (fun x => [(4, .int x)]) _ ?_ hl (fun _ _ => rfl) fun x _ => ?_
  · simp [iVal, eVar, h1]
  · have e0 : (setV (wipeV vw [4]) [(4, .int x)])[0]? = some (some (.int m)) := by simp [setV, wipeV, h0]
    have e4 : (setV (wipeV vw [4]) [(4, .int x)])[4]? = some (some (.int x)) := by simp [setV, wipeV, h5]
    generalize setV (wipeV vw [4]) [(4, .int x)] = vw2 at e0 e4
    simp [eAnd, eCall, aApp, aC, aN, eVar, e4, pick, is_integer_eq, eChain, eC, dLe, dLt, e0]
    by_cases h : 0 ≤ x <;> simp [h]
theorem c_row2 (l : List Int) (s : STO) (hl : l.length ≤ 16777216) (vw : VW) (h1 : vw[1]? = some (some (dI l))) (h5 : vw.length = 5) : c_is_row_2 vw s = some (.list ((l.zip (l.drop 1)).map fun p => PyData.bool (decide (p.1 < p.2))), s) := by
  unfold c_is_row_2
  refine eComp_map (l.zip (l.drop 1)) (fun p => .tuple [.int p.1, .int p.2]) (fun p => [(2, .int p.1), (3, .int p.2)]) _ ?_ ?_ (fun _ _ => rfl) fun x _ => ?_
  · rw [asc_iter h1, ← List.map_drop, zi_map]
  · rw [List.length_zip]; omega
  · have e0 : (setV (wipeV vw [2, 3]) [(2, .int x.1), (3, .int x.2)])[2]? = some (some (.int x.1)) := by simp [setV, wipeV, h5]
    have e4 : (setV (wipeV vw [2, 3]) [(2, .int x.1), (3, .int x.2)])[3]? = some (some (.int x.2)) := by simp [setV, wipeV, h5]
    generalize setV (wipeV vw [2, 3]) [(2, .int x.1), (3, .int x.2)] = vw2 at e0 e4
    simp [eBin, eVar, e4, e0, dLt]
theorem is_row_eq (m : Int) (l : List Int) (s : STO) (hl : l.length ≤ 16777216) : F_is_row [.int m, dI l] s = some (.bool (rowB m l), s) := by
  have h1 := c_row1 m l s hl [some (.int m), some (dI l), none, none, none] rfl rfl rfl
  have h2 := c_row2 l s hl [some (.int m), some (dI l), none, none, none] rfl rfl
  have a1 := cAll_map (fun x : Int => decide (0 ≤ x) && decide (x < m)) l
  have a2 := cAll_map (fun p : Int × Int => decide (p.1 < p.2)) (l.zip (l.drop 1))
  simp only [dI] at h1 h2
  unfold rowB
  cases hb : l.all fun x => decide (0 ≤ x) && decide (x < m) with
  | true =>
    rw [hb] at a1
    simp [F_is_row, b_is_row, okM_nil, fzT, fnD, sSeq, sRet, sIf, sSet, sNil, sNever, sEx, sRetN, see, seeI, seeS_sh, seeS_no, seeS_tt, seeS_ff, fz, fzI, fzS_ff, fzS_sh, fzS_no, fzS_ow, fzIf, mkS, eIf, bT, aT, oT, nT, eUn, eVar, eLst, eTup, aC, aN, eCall, aApp, eBin, eIdx, eC, eOp, pick, dIdx, eAnd, eOr, dNot, eChain, dIsi, isMk, isiB, typD, fin_self, dI, dL, eSl, oN, oS, dSl, iVal, iB, iU, isLst, bN, bT2, wipeV, setV, isScal, full, h1, a1]
    simp only [List.drop_one] at h2 a2
    simp [h2, a2, okM_nil, fzT, fnD, sSeq, sRet, sIf, sSet, sNil, sNever, sEx, sRetN, see, seeI, seeS_sh, seeS_no, seeS_tt, seeS_ff, fz, fzI, fzS_ff, fzS_sh, fzS_no, fzS_ow, fzIf, mkS, eIf, bT, aT, oT, nT, eUn, eVar, eLst, eTup, aC, aN, eCall, aApp, eBin, eIdx, eC, eOp, pick, dIdx, eAnd, eOr, dNot, eChain, dIsi, isMk, isiB, typD, fin_self, dI, dL, eSl, oN, oS, dSl, iVal, iB, iU, isLst, bN, bT2, wipeV, setV, isScal, full]
  | false =>
    rw [hb] at a1
    simp [F_is_row, b_is_row, okM_nil, fzT, fnD, sSeq, sRet, sIf, sSet, sNil, sNever, sEx, sRetN, see, seeI, seeS_sh, seeS_no, seeS_tt, seeS_ff, fz, fzI, fzS_ff, fzS_sh, fzS_no, fzS_ow, fzIf, mkS, eIf, bT, aT, oT, nT, eUn, eVar, eLst, eTup, aC, aN, eCall, aApp, eBin, eIdx, eC, eOp, pick, dIdx, eAnd, eOr, dNot, eChain, dIsi, isMk, isiB, typD, fin_self, dI, dL, eSl, oN, oS, dSl, iVal, iB, iU, isLst, bN, bT2, wipeV, setV, isScal, full, h1, a1]
theorem is_group_eq (m : Int) (l : List Int) (s : STO) (hl : l.length ≤ 16777216) : F_is_group [.int m, dI l] s = some (.bool (rowB m l && decide (1 < l.length)), s) := by
  have h1 := is_row_eq m l s hl
  simp only [dI] at h1
  cases hb : rowB m l with
  | true =>
    rw [hb] at h1
    simp [F_is_group, b_is_group, okM_nil, fzT, fnD, sSeq, sRet, sIf, sSet, sNil, sNever, sEx, sRetN, see, seeI, seeS_sh, seeS_no, seeS_tt, seeS_ff, fz, fzI, fzS_ff, fzS_sh, fzS_no, fzS_ow, fzIf, mkS, eIf, bT, aT, oT, nT, eUn, eVar, eLst, eTup, aC, aN, eCall, aApp, eBin, eIdx, eC, eOp, pick, dIdx, eAnd, eOr, dNot, eChain, dIsi, isMk, isiB, typD, fin_self, dI, dL, eSl, oN, oS, dSl, iVal, iB, iU, isLst, bN, bT2, wipeV, setV, isScal, full, h1, cLen, dGt]
    omega
  | false =>
    rw [hb] at h1
    simp [F_is_group, b_is_group, okM_nil, fzT, fnD, sSeq, sRet, sIf, sSet, sNil, sNever, sEx, sRetN, see, seeI, seeS_sh, seeS_no, seeS_tt, seeS_ff, fz, fzI, fzS_ff, fzS_sh, fzS_no, fzS_ow, fzIf, mkS, eIf, bT, aT, oT, nT, eUn, eVar, eLst, eTup, aC, aN, eCall, aApp, eBin, eIdx, eC, eOp, pick, dIdx, eAnd, eOr, dNot, eChain, dIsi, isMk, isiB, typD, fin_self, dI, dL, eSl, oN, oS, dSl, iVal, iB, iU, isLst, bN, bT2, wipeV, setV, isScal, full, h1]
theorem lies_in_eq (a b : List Int) (s : STO) (hl : a.length ≤ 16777216) : F_lies_in [dI a, dI b] s = some (.bool (a.all fun x => decide (x ∈ b)), s) := by
  have h1 : c_lies_in_1 [some (dI a), some (dI b), none] s = some (.list (a.map fun x => PyData.bool (decide (x ∈ b))), s) := by
    unfold c_lies_in_1
    refine eComp_map a PyData.int (fun x => [(2, .int x)]) _ ?_ hl (fun _ _ => rfl) fun x _ => ?_
    · simp [iVal, eVar]
    · have := dIn_int x b
      simp only [dI] at this
      simp [setV, wipeV, eBin, eVar, this]
  have a1 := cAll_map (fun x : Int => decide (x ∈ b)) a
  simp only [dI] at h1
  simp [F_lies_in, b_lies_in, okM_nil, fzT, fnD, sSeq, sRet, sIf, sSet, sNil, sNever, sEx, sRetN, see, seeI, seeS_sh, seeS_no, seeS_tt, seeS_ff, fz, fzI, fzS_ff, fzS_sh, fzS_no, fzS_ow, fzIf, mkS, eIf, bT, aT, oT, nT, eUn, eVar, eLst, eTup, aC, aN, eCall, aApp, eBin, eIdx, eC, eOp, pick, dIdx, eAnd, eOr, dNot, eChain, dIsi, isMk, isiB, typD, fin_self, dI, dL, eSl, oN, oS, dSl, iVal, iB, iU, isLst, bN, bT2, wipeV, setV, isScal, full, h1, a1]
theorem parts_step (ls : List (List Int)) (h : Int) (r first other : List Int) (s : STO) (x : Slot) :
    l_parts_in_1 [.sh (dL ls), .sh (dI (h :: r)), .sh (dI first), .sh (dI other), x] s = some (.nx, [.sh (dL ls), .sh (dI (h :: r)), .sh (dI (firstStep (h :: r) h first other)), .sh (dI other), x], s) := by
  have hin := dIn_int h other
  simp only [dI] at hin
  unfold firstStep
  by_cases h1 : first.length < other.length
  · by_cases h2 : other.length < (h :: r).length
    · by_cases h3 : h ∈ other
      · rw [if_pos ⟨h1, h2, h3⟩]
        have h2' : (other.length : Int) < r.length + 1 := by simp at h2; omega
        simp [l_parts_in_1, okM_nil, fzT, fnD, sSeq, sRet, sIf, sSet, sNil, sNever, sEx, sRetN, see, seeI, seeS_sh, seeS_no, seeS_tt, seeS_ff, fz, fzI, fzS_ff, fzS_sh, fzS_no, fzS_ow, fzIf, mkS, eIf, bT, aT, oT, nT, eUn, eVar, eLst, eTup, aC, aN, eCall, aApp, eBin, eIdx, eC, eOp, pick, dIdx, eAnd, eOr, dNot, eChain, dIsi, isMk, isiB, typD, fin_self, dI, dL, eSl, oN, oS, dSl, iVal, iB, iU, isLst, bN, bT2, wipeV, setV, isScal, full, cLen, dLt, h1, h2', atI, ixN, hin, h3, cList]
      · rw [if_neg (fun z => h3 z.2.2)]
        have h2' : (other.length : Int) < r.length + 1 := by simp at h2; omega
        simp [l_parts_in_1, okM_nil, fzT, fnD, sSeq, sRet, sIf, sSet, sNil, sNever, sEx, sRetN, see, seeI, seeS_sh, seeS_no, seeS_tt, seeS_ff, fz, fzI, fzS_ff, fzS_sh, fzS_no, fzS_ow, fzIf, mkS, eIf, bT, aT, oT, nT, eUn, eVar, eLst, eTup, aC, aN, eCall, aApp, eBin, eIdx, eC, eOp, pick, dIdx, eAnd, eOr, dNot, eChain, dIsi, isMk, isiB, typD, fin_self, dI, dL, eSl, oN, oS, dSl, iVal, iB, iU, isLst, bN, bT2, wipeV, setV, isScal, full, cLen, dLt, h1, h2', atI, ixN, hin, h3, cList]
    · rw [if_neg (fun z => h2 z.2.1)]
      have h2' : ¬ (other.length : Int) < r.length + 1 := by simp at h2; omega
      simp [l_parts_in_1, okM_nil, fzT, fnD, sSeq, sRet, sIf, sSet, sNil, sNever, sEx, sRetN, see, seeI, seeS_sh, seeS_no, seeS_tt, seeS_ff, fz, fzI, fzS_ff, fzS_sh, fzS_no, fzS_ow, fzIf, mkS, eIf, bT, aT, oT, nT, eUn, eVar, eLst, eTup, aC, aN, eCall, aApp, eBin, eIdx, eC, eOp, pick, dIdx, eAnd, eOr, dNot, eChain, dIsi, isMk, isiB, typD, fin_self, dI, dL, eSl, oN, oS, dSl, iVal, iB, iU, isLst, bN, bT2, wipeV, setV, isScal, full, cLen, dLt, h1, h2', atI, ixN, hin, cList]
  · rw [if_neg (fun z => h1 z.1)]
    simp [l_parts_in_1, okM_nil, fzT, fnD, sSeq, sRet, sIf, sSet, sNil, sNever, sEx, sRetN, see, seeI, seeS_sh, seeS_no, seeS_tt, seeS_ff, fz, fzI, fzS_ff, fzS_sh, fzS_no, fzS_ow, fzIf, mkS, eIf, bT, aT, oT, nT, eUn, eVar, eLst, eTup, aC, aN, eCall, aApp, eBin, eIdx, eC, eOp, pick, dIdx, eAnd, eOr, dNot, eChain, dIsi, isMk, isiB, typD, fin_self, dI, dL, eSl, oN, oS, dSl, iVal, iB, iU, isLst, bN, bT2, wipeV, setV, isScal, full, cLen, dLt, h1, atI, ixN, hin, cList]
theorem parts_loop (h : Int) (r : List Int) (ls0 : List (List Int)) (s : STO) (x : Slot) : ∀ (ls : List (List Int)) (first : List Int) (y : Slot),
    ∃ y', forL (bN 3) l_parts_in_1 (ls.map dI) [.sh (dL ls0), .sh (dI (h :: r)), .sh (dI first), y, x] s = some (.nx, [.sh (dL ls0), .sh (dI (h :: r)), .sh (dI (ls.foldl (firstStep (h :: r) h) first)), y', x], s)
  | [], first, y => ⟨y, rfl⟩
  | o :: ls, first, y => by
    obtain ⟨y', ih⟩ := parts_loop h r ls0 s x ls (firstStep (h :: r) h first o) (.sh (dI o))
    refine ⟨y', ?_⟩
    rw [List.map_cons, forL]
    simp only [bN, Option.bind_some]
    rw [if_pos ⟨by rfl, noTok_dI o⟩]
    show ((l_parts_in_1 [.sh (dL ls0), .sh (dI (h :: r)), .sh (dI first), .sh (dI o), x] s).bind _) = _
    rw [parts_step]
    simp only [Option.bind_some]
    exact ih
theorem parts_in_eq (ls : List (List Int)) (h : Int) (r : List Int) (s : STO) (hl : (h :: r).length ≤ 16777216) :
    F_parts_in [dL ls, dI (h :: r)] s = some (.list [dI (firstOf ls (h :: r) h), dI ((h :: r).filter fun x => !decide (x ∈ firstOf ls (h :: r) h))], s) := by
  obtain ⟨y', hloop⟩ := parts_loop h r ls s .no ls [h] .no
  have hc : ∀ f : List Int, c_parts_in_1 [some (dL ls), some (dI (h :: r)), some (dI f), (seeS false y'), none] s = some (.list (((h :: r).filter fun x => !decide (x ∈ f)).map PyData.int), s) := by
    intro f
    unfold c_parts_in_1
    refine eComp_pure (h :: r) PyData.int (fun x => [(4, .int x)]) (fun x => !decide (x ∈ f)) _ ?_ hl (fun _ _ => rfl) (fun x _ => ?_) fun x _ _ => ?_
    · simp [iVal, eVar]
    · have := dNotIn_int x f
      simp only [dI] at this
      simp [setV, wipeV, bT, eBin, eVar, this]
    · simp [setV, wipeV, eVar]
  have hc := hc (firstOf ls (h :: r) h)
  simp only [dI, dL] at hloop hc
  unfold firstOf at hc ⊢
  have e1 : (h :: r).take 1 = [h] := rfl
  rw [e1] at hc ⊢
  simp only [List.map_cons, List.map_nil] at hloop hc
  simp [F_parts_in, b_parts_in, okM_nil, fzT, fnD, sSeq, sRet, sIf, sSet, sNil, sNever, sEx, sRetN, see, seeI, seeS_sh, seeS_no, seeS_tt, seeS_ff, fz, fzI, fzS_ff, fzS_sh, fzS_no, fzS_ow, fzIf, mkS, eIf, bT, aT, oT, nT, eUn, eVar, eLst, eTup, aC, aN, eCall, aApp, eBin, eIdx, eC, eOp, pick, dIdx, eAnd, eOr, dNot, eChain, dIsi, isMk, isiB, typD, fin_self, dI, dL, eSl, oN, oS, dSl, iVal, iB, iU, isLst, bN, bT2, wipeV, setV, isScal, full, sFor, cut_head, hloop, hc]
theorem has_parts_eq (ls : List (List Int)) (h : Int) (r : List Int) (s : STO) (hl : (h :: r).length ≤ 16777216) (hf : (firstOf ls (h :: r) h).length ≤ 16777216) :
    F_has_parts [dL ls, dI (h :: r)] s = some (.bool (partsB ls (h :: r)), s) := by
  have h1 := parts_in_eq ls h r s hl
  have h2 := lies_in_eq (firstOf ls (h :: r) h) (h :: r) s hf
  have h3 := dIn_row (restOf ls h r) ls
  have hb : partsB ls (h :: r) = ((firstOf ls (h :: r) h).all (fun x => decide (x ∈ h :: r)) && (decide ((restOf ls h r).length = 1) || decide (restOf ls h r ∈ ls))) := rfl
  rw [hb]
  clear hb
  unfold restOf at *
  generalize firstOf ls (h :: r) h = f at *
  generalize (h :: r).filter (fun x => !decide (x ∈ f)) = q at *
  simp only [dI, dL] at h1 h2 h3
  generalize h :: r = g at *
  cases e1 : f.all fun x => decide (x ∈ g) with
  | false =>
    rw [e1] at h2
    simp [F_has_parts, b_has_parts, okM_nil, fzT, fnD, sSeq, sRet, sIf, sSet, sNil, sNever, sEx, sRetN, see, seeI, seeS_sh, seeS_no, seeS_tt, seeS_ff, fz, fzI, fzS_ff, fzS_sh, fzS_no, fzS_ow, fzIf, mkS, eIf, bT, aT, oT, nT, eUn, eVar, eLst, eTup, aC, aN, eCall, aApp, eBin, eIdx, eC, eOp, pick, dIdx, eAnd, eOr, dNot, eChain, dIsi, isMk, isiB, typD, fin_self, dI, dL, eSl, oN, oS, dSl, iVal, iB, iU, isLst, bN, bT2, wipeV, setV, isScal, full, h1, h2, sBind, bL2, allLt, setE]
  | true =>
    rw [e1] at h2
    by_cases e2 : q.length = 1
    · simp [F_has_parts, b_has_parts, okM_nil, fzT, fnD, sSeq, sRet, sIf, sSet, sNil, sNever, sEx, sRetN, see, seeI, seeS_sh, seeS_no, seeS_tt, seeS_ff, fz, fzI, fzS_ff, fzS_sh, fzS_no, fzS_ow, fzIf, mkS, eIf, bT, aT, oT, nT, eUn, eVar, eLst, eTup, aC, aN, eCall, aApp, eBin, eIdx, eC, eOp, pick, dIdx, eAnd, eOr, dNot, eChain, dIsi, isMk, isiB, typD, fin_self, dI, dL, eSl, oN, oS, dSl, iVal, iB, iU, isLst, bN, bT2, wipeV, setV, isScal, full, h1, h2, sBind, bL2, allLt, setE, cLen, dEq, e2, shaped_int, PyData.eqv]
    · have e3 : ((q.length : Int) == 1) = false := by simp; omega
      simp [F_has_parts, b_has_parts, okM_nil, fzT, fnD, sSeq, sRet, sIf, sSet, sNil, sNever, sEx, sRetN, see, seeI, seeS_sh, seeS_no, seeS_tt, seeS_ff, fz, fzI, fzS_ff, fzS_sh, fzS_no, fzS_ow, fzIf, mkS, eIf, bT, aT, oT, nT, eUn, eVar, eLst, eTup, aC, aN, eCall, aApp, eBin, eIdx, eC, eOp, pick, dIdx, eAnd, eOr, dNot, eChain, dIsi, isMk, isiB, typD, fin_self, dI, dL, eSl, oN, oS, dSl, iVal, iB, iU, isLst, bN, bT2, wipeV, setV, isScal, full, h1, h2, h3, sBind, bL2, allLt, setE, cLen, dEq, e2, e3, shaped_int, PyData.eqv]
theorem c_part1 (ls : List (List Int)) (s : STO) (hl : ls.length ≤ 1000) (hg : ∀ g ∈ ls, g.length ≤ 1000) : c_is_parting_1 [some (dL ls), none, none, none] s = some (.list (ls.map fun g => PyData.bool (rowB (ls.length + 1) g && decide (1 < g.length))), s) := by
  unfold c_is_parting_1
  refine eComp_map ls dI (fun g => [(1, dI g)]) _ ?_ (by omega) (fun _ _ => rfl) fun g hgm => ?_
  · simp [iVal, eVar]
  · have h1 := is_group_eq (ls.length + 1) g s (by have := hg g hgm; omega)
    simp only [dI] at h1
    simp [setV, wipeV, okM_nil, fzT, fnD, sSeq, sRet, sIf, sSet, sNil, sNever, sEx, sRetN, see, seeI, seeS_sh, seeS_no, seeS_tt, seeS_ff, fz, fzI, fzS_ff, fzS_sh, fzS_no, fzS_ow, fzIf, mkS, eIf, bT, aT, oT, nT, eUn, eVar, eLst, eTup, aC, aN, eCall, aApp, eBin, eIdx, eC, eOp, pick, dIdx, eAnd, eOr, dNot, eChain, dIsi, isMk, isiB, typD, fin_self, dI, dL, eSl, oN, oS, dSl, iVal, iB, iU, isLst, bN, bT2, wipeV, setV, isScal, full, cLen, dAdd, h1]
theorem c_part2 (ls : List (List Int)) (s : STO) (hl : ls.length ≤ 1000) : c_is_parting_2 [some (dL ls), none, none, none] s = some (.list ((ls.zip (ls.drop 1)).map fun p => PyData.bool (ltI p.1 p.2)), s) := by
  unfold c_is_parting_2
  refine eComp_map (ls.zip (ls.drop 1)) (fun p => .tuple [dI p.1, dI p.2]) (fun p => [(2, dI p.1), (3, dI p.2)]) _ ?_ ?_ (fun _ _ => rfl) fun x _ => ?_
  · rw [asc_iter (l := ls.map dI) rfl, ← List.map_drop, zi_map]
  · rw [List.length_zip]; omega
  · have h1 := dLt_dI x.1 x.2
    simp only [dI] at h1
    simp [setV, wipeV, okM_nil, fzT, fnD, sSeq, sRet, sIf, sSet, sNil, sNever, sEx, sRetN, see, seeI, seeS_sh, seeS_no, seeS_tt, seeS_ff, fz, fzI, fzS_ff, fzS_sh, fzS_no, fzS_ow, fzIf, mkS, eIf, bT, aT, oT, nT, eUn, eVar, eLst, eTup, aC, aN, eCall, aApp, eBin, eIdx, eC, eOp, pick, dIdx, eAnd, eOr, dNot, eChain, dIsi, isMk, isiB, typD, fin_self, dI, dL, eSl, oN, oS, dSl, iVal, iB, iU, isLst, bN, bT2, wipeV, setV, isScal, full, h1]
theorem c_part3 (ls : List (List Int)) (s : STO) (hl : ls.length ≤ 1000) (hg : ∀ g ∈ ls, g.length ≤ 1000 ∧ g ≠ []) : c_is_parting_3 [some (dL ls), none, none, none] s = some (.list (ls.map fun g => PyData.bool (partsB ls g)), s) := by
  have hf : ∀ (l : List (List Int)) (g : List Int) (h : Int) (f : List Int), f.length ≤ 1000 → (∀ x ∈ l, x.length ≤ 1000) → (l.foldl (firstStep g h) f).length ≤ 1000 := by
    intro l
    induction l with
    | nil => intro g h f hf _; exact hf
    | cons a r ih =>
      intro g h f hf hx
      refine ih g h _ ?_ fun x hx' => hx x (List.mem_cons_of_mem _ hx')
      unfold firstStep
      split
      · exact hx a List.mem_cons_self
      · exact hf
  unfold c_is_parting_3
  refine eComp_map ls dI (fun g => [(1, dI g)]) _ ?_ (by omega) (fun _ _ => rfl) fun g hgm => ?_
  · simp [iVal, eVar]
  · obtain ⟨h2, h3⟩ := hg g hgm
    cases g with
    | nil => exact absurd rfl h3
    | cons h r =>
      have h1 := has_parts_eq ls h r s (by omega) (by
        have := hf ls (h :: r) h ((h :: r).take 1) (by simp) fun x hx => (hg x hx).1
        unfold firstOf
        omega)
      simp only [dI, dL] at h1
      simp [setV, wipeV, okM_nil, fzT, fnD, sSeq, sRet, sIf, sSet, sNil, sNever, sEx, sRetN, see, seeI, seeS_sh, seeS_no, seeS_tt, seeS_ff, fz, fzI, fzS_ff, fzS_sh, fzS_no, fzS_ow, fzIf, mkS, eIf, bT, aT, oT, nT, eUn, eVar, eLst, eTup, aC, aN, eCall, aApp, eBin, eIdx, eC, eOp, pick, dIdx, eAnd, eOr, dNot, eChain, dIsi, isMk, isiB, typD, fin_self, dI, dL, eSl, oN, oS, dSl, iVal, iB, iU, isLst, bN, bT2, wipeV, setV, isScal, full]
      simp at h1
      simp [h1]
theorem is_parting_true {ls : List (List Int)} (h : Parting ls) (s : STO) : F_is_parting [dL ls] s = some (.bool true, s) := by
  have h1 := c_part1 ls s (by have := h.few; omega) fun g hg => by have := (h.row g hg).2.2; omega
  have h2 := c_part2 ls s (by have := h.few; omega)
  have h3 := c_part3 ls s (by have := h.few; omega) fun g hg => ⟨by have := (h.row g hg).2.2; omega, fun e => by have := (h.row g hg).2.1; rw [e] at this; simp at this⟩
  have a1 := cAll_map (fun g => rowB (ls.length + 1) g && decide (1 < g.length)) ls
  have a2 := cAll_map (fun p : List Int × List Int => ltI p.1 p.2) (ls.zip (ls.drop 1))
  have a3 := cAll_map (partsB ls) ls
  rw [List.all_eq_true.mpr fun g hg => by rw [(h.row g hg).1, decide_eq_true (h.row g hg).2.1]; rfl] at a1
  rw [List.all_eq_true.mpr fun p hp => h.asc p hp] at a2
  rw [List.all_eq_true.mpr fun g hg => h.prt g hg] at a3
  have hfew := h.few
  have h4 : dGe (.int (ls.map dI).length) (.int 20) = some (.bool false) := by
    show some (PyData.bool (decide (20 ≤ _))) = _
    rw [decide_eq_false (by rw [List.length_map]; omega)]
  have h5 := dNotIn_row (comp (ls.length + 1)) ls
  have h6 : dNe (dL ls) (.list []) = some (.bool (!decide (ls = []))) := by
    have := eqv_dL ls []
    have h7 := shaped_dL ls
    have h8 := shaped_dL []
    simp only [dL, List.map_nil] at this h7 h8 ⊢
    simp [dNe, h7, h8, this]
  refine fnD_rt (e1 := [.sh (dL ls), .no, .no, .no]) (s1 := s) ?_ (fin_self _ _)
  unfold b_is_parting
  refine sSeq_nx (sIf_f (oT_f (nT_ok (b := true) (bT_ok (eUn_ok (eVar_ok rfl) rfl))) (bT_ok (eBin_ok (eOp_ok (aC_ok (eVar_ok rfl) aN_ok) rfl) eC_ok h4))) rfl) ?_
  refine sSeq_nx (sIf_f (nT_ok (b := true) (bT_ok (eOp_ok (aC_ok h1 aN_ok) a1))) rfl) ?_
  refine sSeq_nx (sIf_f (nT_ok (b := true) (bT_ok (eOp_ok (aC_ok h2 aN_ok) a2))) rfl) ?_
  refine sSeq_nx (e1 := [.sh (dL ls), .no, .no, .no]) (s1 := s) ?_ (sSeq_rt (sRet_ok (eOp_ok (aC_ok h3 aN_ok) a3)))
  by_cases hn : ls = []
  · rw [decide_eq_true hn] at h6
    exact sIf_f (aT_f (bT_ok (eBin_ok (eVar_ok rfl) (eLst_ok aN_ok) h6))) rfl
  · have hc : comp (ls.length + 1) ∈ ls := h.all.resolve_left hn
    rw [decide_eq_false hn] at h6
    rw [decide_eq_true hc] at h5
    refine sIf_f (aT_t (bT_ok (eBin_ok (eVar_ok rfl) (eLst_ok aN_ok) h6)) (bT_ok (eBin_ok (d1 := dI (comp (ls.length + 1))) (s1 := s) ?_ (eVar_ok rfl) h5))) rfl
    rw [eLRg_comp (n := ls.length + 1) ?_ (by omega)]
    exact eBin_ok (eOp_ok (aC_ok (eVar_ok rfl) aN_ok) rfl) eC_ok (by show some (PyData.int (((ls.map dI).length : Nat) + 1)) = _; rw [List.length_map]; rfl)
end K50
namespace J
/-! coming lists and nests, pure -/
def grw (i : Nat) (t : Nest) : List Int → Nest
  | [] => t
  | x :: r => grw (i + 1) (t.put x (i + 1 : Nat)) r
/-- items of newcomers, from person i + 1 on -/
def itm (i : Nat) : List Int → Prop
  | [] => True
  | x :: r => 0 - (i + 1 : Int) < x ∧ x < i + 1 ∧ itm (i + 1) r
theorem grw_of : ∀ (l : List Int) (i : Nat) (t : Nest), t.Of (i + 1) → itm i l → (grw i t l).Of (i + 1 + l.length)
  | [], i, t, h, _ => h
  | x :: r, i, t, h, h2 => by
    have h3 := h.put (x := x) (by have := h2.1; omega) (by have := h2.2.1; omega)
    have := grw_of r (i + 1) _ h3 h2.2.2
    rw [List.length_cons, show i + 1 + (r.length + 1) = i + 1 + 1 + r.length by omega]
    exact this
theorem grw_snoc : ∀ (l : List Int) (i : Nat) (t : Nest) (x : Int), grw i t (l ++ [x]) = (grw i t l).put x (i + l.length + 1 : Nat)
  | [], i, t, x => rfl
  | y :: r, i, t, x => by
    rw [List.cons_append, grw, grw_snoc r (i + 1), grw, List.length_cons, show i + 1 + r.length + 1 = i + (r.length + 1) + 1 by omega]
theorem itm_snoc : ∀ (l : List Int) (i : Nat) (x : Int), itm i (l ++ [x]) ↔ itm i l ∧ 0 - ((i + l.length + 1 : Nat) : Int) < x ∧ x < (i + l.length + 1 : Nat)
  | [], i, x => by
    show (_ ∧ _ ∧ True) ↔ (True ∧ _)
    simp
  | y :: r, i, x => by
    show (_ ∧ _ ∧ itm (i + 1) (r ++ [x])) ↔ ((_ ∧ _ ∧ itm (i + 1) r) ∧ _)
    rw [itm_snoc r (i + 1), List.length_cons, show i + 1 + r.length + 1 = i + (r.length + 1) + 1 by omega]
    constructor
    · rintro ⟨a, b, c, d⟩; exact ⟨⟨a, b, c⟩, d⟩
    · rintro ⟨⟨a, b, c⟩, d⟩; exact ⟨a, b, c, d⟩
namespace Nest
/-- inner nodes: makers and persons -/
def ent : Nest → List (Int × List Int)
  | lf _ => []
  | nd a b => (max a.mn b.mn, (nd a b).folk) :: (a.ent ++ b.ent)
theorem ent_snd : ∀ t : Nest, t.ent.map (·.2) = t.gr.map folk
  | lf _ => rfl
  | nd a b => by
    show _ :: ((a.ent ++ b.ent).map (·.2)) = _ :: ((a.gr ++ b.gr).map folk)
    rw [List.map_append, List.map_append, ent_snd a, ent_snd b]
theorem ent_fst : ∀ t : Nest, t.ent.map (·.1) = t.mk
  | lf _ => rfl
  | nd a b => by
    show _ :: ((a.ent ++ b.ent).map (·.1)) = _ :: (a.mk ++ b.mk)
    rw [List.map_append, ent_fst a, ent_fst b]
theorem ent_node : ∀ {t : Nest} {e : Int × List Int}, e ∈ t.ent → ∃ a b, nd a b ∈ t.gr ∧ e = (max a.mn b.mn, (nd a b).folk)
  | lf _, e, h => by cases h
  | nd a b, e, h => by
    rcases List.mem_cons.mp h with rfl | h
    · exact ⟨a, b, gr_self a b, rfl⟩
    · rcases List.mem_append.mp h with h | h
      · obtain ⟨c, d, h1, h2⟩ := ent_node h
        exact ⟨c, d, by simp [gr, h1], h2⟩
      · obtain ⟨c, d, h1, h2⟩ := ent_node h
        exact ⟨c, d, by simp [gr, h1], h2⟩
theorem ent_mk {t : Nest} {m : Int} {g : List Int} (h : (m, g) ∈ t.ent) : m ∈ t.mk := by rw [← ent_fst]; exact List.mem_map.mpr ⟨_, h, rfl⟩
theorem ent_sub {t : Nest} {e : Int × List Int} (h : e ∈ t.ent) : (∀ x ∈ e.2, x ∈ t.lv) ∧ e.2.length ≤ t.lv.length ∧ 2 ≤ e.2.length := by
  obtain ⟨a, b, h1, rfl⟩ := ent_node h
  refine ⟨fun x hx => (gr_sublist h1).subset (mem_folk.mp hx), ?_, ?_⟩
  · show (nd a b).folk.length ≤ _
    rw [len_folk]; exact (gr_sublist h1).length_le
  · show 2 ≤ (nd a b).folk.length
    rw [len_folk]; exact gr_two h1
theorem fst_inj {α β : Type} {l : List (α × β)} (h : (l.map (·.1)).Nodup) {a : α} {b c : β} (h1 : (a, b) ∈ l) (h2 : (a, c) ∈ l) : b = c := by
  induction l with
  | nil => cases h1
  | cons e r ih =>
    rw [List.map_cons] at h
    obtain ⟨n1, n2⟩ := List.nodup_cons.mp h
    rcases List.mem_cons.mp h1 with e1 | e1
    · rcases List.mem_cons.mp h2 with e2 | e2
      · rw [← e1] at e2; exact (Prod.mk.inj e2).2.symm
      · exact absurd (List.mem_map.mpr ⟨_, e2, by rw [← e1]⟩) n1
    · rcases List.mem_cons.mp h2 with e2 | e2
      · exact absurd (List.mem_map.mpr ⟨_, e1, by rw [← e2]⟩) n1
      · exact ih n2 e1 e2
theorem ent_inj {t : Nest} (h : t.lv.Nodup) {m : Int} {g k : List Int} (h1 : (m, g) ∈ t.ent) (h2 : (m, k) ∈ t.ent) : g = k :=
  fst_inj (by rw [ent_fst]; exact (mk_nodup t h).1) h1 h2
def upG (pl : List Int) (p : Int) (g : List Int) : List Int := if pl.length < g.length ∧ pl.headD 0 ∈ g then g ++ [p] else g
/-- the place of a newcomer's item -/
def Plc (t : Nest) (x : Int) (pl : List Int) : Prop := (0 ≤ x ∧ pl = [x] ∧ x ∈ t.lv) ∨ (x < 0 ∧ (0 - x, pl) ∈ t.ent)
theorem Plc.pos {t : Nest} {x : Int} {pl : List Int} (h : Plc t x pl) : 0 < pl.length ∧ pl.length ≤ t.lv.length ∧ pl.headD 0 ∈ t.lv ∧ ∀ y ∈ pl, y ∈ t.lv := by
  rcases h with ⟨_, rfl, h⟩ | ⟨_, h⟩
  · exact ⟨by simp, t.lv_pos, by simpa using h, fun y hy => by rw [List.mem_singleton.mp hy]; exact h⟩
  · obtain ⟨h1, h2, h3⟩ := ent_sub h
    have h2 : pl.length ≤ t.lv.length := h2
    have h3 : 2 ≤ pl.length := h3
    refine ⟨by omega, h2, ?_, h1⟩
    cases pl with
    | nil => simp at h3
    | cons a r => exact h1 a List.mem_cons_self
theorem folk_snoc {l : List Int} {f : Int} (h : ∀ x ∈ l, x < f) : sZ (l ++ [f]) = sZ l ++ [f] := by
  refine perm_sorted leZ_anti ((sZ_perm _).trans ((sZ_perm l).symm.append_right _)) (sZ_sorted _) ?_
  refine List.pairwise_append.mpr ⟨sZ_sorted l, List.pairwise_singleton _ _, fun a ha b hb => ?_⟩
  rw [List.mem_singleton.mp hb]
  have := h a (mem_sZ.mp ha)
  exact decide_eq_true (by omega)
theorem mn_perm {t u : Nest} (h : t.lv.Perm u.lv) : t.mn = u.mn := by
  have h1 := t.mn_le u.mn (h.mem_iff.mpr u.mn_mem)
  have h2 := u.mn_le t.mn (h.mem_iff.mp t.mn_mem)
  omega
theorem upG_short {pl g : List Int} {p : Int} (h : g.length ≤ pl.length) : upG pl p g = g := if_neg fun z => by omega
theorem upG_out {pl g : List Int} {p : Int} (h : pl.headD 0 ∉ g) : upG pl p g = g := if_neg fun z => h z.2
theorem map_id {α : Type} {l : List α} {f : α → α} (h : ∀ x ∈ l, f x = x) : l.map f = l := (List.map_congr_left h).trans (List.map_id'' (fun _ => rfl) l)
/-- one step where the place lies in a -/
theorem ent_side {a b a' : Nest} {f x : Int} {pl : List Int} (hd : ∀ y ∈ a.lv, ∀ z ∈ b.lv, y ≠ z) (lt : ∀ y ∈ a.lv ++ b.lv, y < f) (hp : Plc a x pl) (hlv : a'.lv.Perm (f :: a.lv)) (hmn : a'.mn = a.mn)
    (he : a'.ent.Perm ((f, pl ++ [f]) :: a.ent.map fun e => (e.1, upG pl f e.2))) :
    (nd a' b).ent.Perm ((f, pl ++ [f]) :: (nd a b).ent.map fun e => (e.1, upG pl f e.2)) ∧ (nd b a').ent.Perm ((f, pl ++ [f]) :: (nd b a).ent.map fun e => (e.1, upG pl f e.2)) := by
  obtain ⟨p1, p2, p3, p4⟩ := hp.pos
  have hb : b.ent.map (fun e => (e.1, upG pl f e.2)) = b.ent := map_id fun e he => by
    rw [upG_out fun z => hd _ p3 _ ((ent_sub he).1 _ z) rfl]
  have hF : (nd a' b).folk = (nd a b).folk ++ [f] := by
    show sZ (a'.lv ++ b.lv) = sZ (a.lv ++ b.lv) ++ [f]
    rw [← folk_snoc lt]
    refine sZ_eq ((hlv.append_right _).trans ?_)
    exact (List.perm_append_comm (l₁ := [f]) (l₂ := a.lv ++ b.lv))
  have hF2 : (nd b a').folk = (nd b a).folk ++ [f] := by
    have e1 : (nd b a').folk = (nd a' b).folk := sZ_eq List.perm_append_comm
    have e2 : (nd b a).folk = (nd a b).folk := sZ_eq List.perm_append_comm
    rw [e1, e2, hF]
  have hlen : pl.length < (nd a b).folk.length := by
    rw [len_folk, lv, List.length_append]
    have := b.lv_pos
    omega
  have hu : upG pl f (nd a b).folk = (nd a b).folk ++ [f] := if_pos ⟨hlen, mem_folk.mpr (List.mem_append_left _ p3)⟩
  have hu2 : upG pl f (nd b a).folk = (nd b a).folk ++ [f] := if_pos ⟨by rw [len_folk, lv, List.length_append]; have := b.lv_pos; omega, mem_folk.mpr (List.mem_append_right _ p3)⟩
  constructor
  · show ((max a'.mn b.mn, (nd a' b).folk) :: (a'.ent ++ b.ent)).Perm ((f, pl ++ [f]) :: (max a.mn b.mn, upG pl f (nd a b).folk) :: (a.ent ++ b.ent).map fun e => (e.1, upG pl f e.2))
    rw [hmn, hF, hu, List.map_append, hb]
    exact ((he.append_right b.ent).cons _).trans (List.Perm.swap _ _ _)
  · show ((max b.mn a'.mn, (nd b a').folk) :: (b.ent ++ a'.ent)).Perm ((f, pl ++ [f]) :: (max b.mn a.mn, upG pl f (nd b a).folk) :: (b.ent ++ a.ent).map fun e => (e.1, upG pl f e.2))
    rw [hmn, hF2, hu2, List.map_append, hb]
    refine (((he.append_left b.ent).trans ?_).cons _).trans (List.Perm.swap _ _ _)
    exact List.perm_middle
theorem plc_out {a b : Nest} {x : Int} {pl : List Int} (nb : b.lv.Nodup) (pb : ∀ y ∈ b.lv, 0 ≤ y) (hd : ∀ y ∈ a.lv, ∀ z ∈ b.lv, y ≠ z) (h : Plc a x pl) : x ∉ b.lv ∧ 0 - x ∉ b.mk := by
  rcases h with ⟨h0, _, h⟩ | ⟨h0, h⟩
  · refine ⟨fun q => hd x h x q rfl, fun q => ?_⟩
    have := mk_gt b nb _ q
    have := pb _ b.mn_mem
    omega
  · refine ⟨fun q => by have := pb _ q; omega, fun q => hd _ (a.mk_sub _ (ent_mk h)) _ (b.mk_sub _ q) rfl⟩
theorem Plc.at {t : Nest} {x : Int} {pl : List Int} (h : Plc t x pl) : x ∈ t.lv ∨ 0 - x ∈ t.mk := by
  rcases h with ⟨_, _, h⟩ | ⟨_, h⟩
  · exact .inl h
  · exact .inr (ent_mk h)
/-- a newcomer's step -/
theorem put_ent (x f : Int) (pl : List Int) : ∀ t : Nest, t.lv.Nodup → (∀ y ∈ t.lv, 0 ≤ y ∧ y < f) → Plc t x pl → (put x f t).ent.Perm ((f, pl ++ [f]) :: t.ent.map fun e => (e.1, upG pl f e.2)) ∧ (put x f t).mn = t.mn
  | lf i, hn, hb, hp => by
    rcases hp with ⟨h0, rfl, h⟩ | ⟨_, h⟩
    · have e : x = i := by simpa [lv] using h
      subst e
      have hx := hb x (by simp [lv])
      rw [put, if_pos rfl]
      constructor
      · show [(max x f, sZ ([x] ++ [f]))].Perm [(f, [x] ++ [f])]
        rw [folk_snoc (by simp; omega), sZ_asc (List.pairwise_singleton _ _), show max x f = f by omega]
      · show min x f = x
        omega
    · cases h
  | nd a b, hn, hb, hp => by
    have hd := List.nodup_append.mp hn
    have ba : ∀ y ∈ a.lv, 0 ≤ y ∧ y < f := fun y hy => hb y (List.mem_append_left _ hy)
    have bb : ∀ y ∈ b.lv, 0 ≤ y ∧ y < f := fun y hy => hb y (List.mem_append_right _ hy)
    have dj : ∀ y ∈ a.lv, ∀ z ∈ b.lv, y ≠ z := fun y hy z hz => hd.2.2 y hy z hz
    have dj2 : ∀ y ∈ b.lv, ∀ z ∈ a.lv, y ≠ z := fun y hy z hz e => hd.2.2 z hz y hy e.symm
    have ma := ba _ a.mn_mem
    have mb := bb _ b.mn_mem
    have hmne := dj _ a.mn_mem _ b.mn_mem
    have mine : (max a.mn b.mn, (nd a b).folk) ∈ (nd a b).ent := List.mem_cons_self
    by_cases e : max a.mn b.mn = 0 - x
    · rw [put, if_pos e]
      have hx : x < 0 := by omega
      have hpl : pl = (nd a b).folk := by
        rcases hp with ⟨h0, _⟩ | ⟨_, h⟩
        · omega
        · rw [e] at mine
          exact ent_inj hn h mine
      subst hpl
      constructor
      · show ((max (min a.mn b.mn) f, sZ ((nd a b).lv ++ [f])) :: ((nd a b).ent ++ [])).Perm _
        rw [folk_snoc (fun y hy => (hb y hy).2), show max (min a.mn b.mn) f = f by omega, List.append_nil, map_id (l := (nd a b).ent) fun e he => by
          rw [upG_short (by rw [len_folk]; exact (ent_sub he).2.1)]]
        exact List.Perm.refl _
      · show min (min a.mn b.mn) f = min a.mn b.mn
        omega
    · rw [put, if_neg e]
      have key : Plc a x pl ∨ Plc b x pl := by
        rcases hp with ⟨h0, h1, h⟩ | ⟨h0, h⟩
        · rcases List.mem_append.mp h with h | h
          · exact .inl (.inl ⟨h0, h1, h⟩)
          · exact .inr (.inl ⟨h0, h1, h⟩)
        · rcases List.mem_cons.mp h with h | h
          · exact absurd (Prod.mk.inj h).1.symm e
          · rcases List.mem_append.mp h with h | h
            · exact .inl (.inr ⟨h0, h⟩)
            · exact .inr (.inr ⟨h0, h⟩)
      rcases key with k | k
      · obtain ⟨n1, n2⟩ := plc_out hd.2.1 (fun y hy => (bb y hy).1) dj k
        obtain ⟨i1, i2⟩ := put_ent x f pl a hd.1 ba k
        rw [put_none x f b n1 n2]
        refine ⟨(ent_side dj (fun y hy => (hb y hy).2) k (put_one x f a hd.1 (fun y hy => (ba y hy).1) k.at) i2 i1).1, ?_⟩
        show min (put x f a).mn b.mn = min a.mn b.mn
        rw [i2]
      · obtain ⟨n1, n2⟩ := plc_out hd.1 (fun y hy => (ba y hy).1) dj2 k
        obtain ⟨i1, i2⟩ := put_ent x f pl b hd.2.1 bb k
        rw [put_none x f a n1 n2]
        refine ⟨(ent_side dj2 (fun y hy => (hb y (by rcases List.mem_append.mp hy with h | h; exact List.mem_append_right _ h; exact List.mem_append_left _ h)).2) k (put_one x f b hd.2.1 (fun y hy => (bb y hy).1) k.at) i2 i1).2, ?_⟩
        show min a.mn (put x f b).mn = min a.mn b.mn
        rw [i2]
end Nest
/-! the groups by their makers, in a list -/
def wnPl (l : List (List Int)) (item : Int) : List Int := if 0 ≤ item then [item] else l.getD ((0 - item).toNat - 1) []
def wn (l : List (List Int)) (item : Int) : List (List Int) := l.map (Nest.upG (wnPl l item) ((l.length + 1 : Nat) : Int)) ++ [wnPl l item ++ [((l.length + 1 : Nat) : Int)]]
def pf (row : List Int) : List (List Int) := sR (row.foldl wn [])
def enm : Nat → List (List Int) → List (Int × List Int)
  | _, [] => []
  | j, g :: r => (((j + 1 : Nat) : Int), g) :: enm (j + 1) r
theorem enm_snd : ∀ (l : List (List Int)) (j : Nat), (enm j l).map (·.2) = l
  | [], _ => rfl
  | g :: r, j => congrArg (g :: ·) (enm_snd r (j + 1))
theorem enm_app : ∀ (l m : List (List Int)) (j : Nat), enm j (l ++ m) = enm j l ++ enm (j + l.length) m
  | [], m, j => rfl
  | g :: r, m, j => by rw [List.cons_append, enm, enm, enm_app r m (j + 1), List.cons_append, List.length_cons, show j + (r.length + 1) = j + 1 + r.length by omega]
theorem enm_map (f : List Int → List Int) : ∀ (l : List (List Int)) (j : Nat), enm j (l.map f) = (enm j l).map fun e => (e.1, f e.2)
  | [], _ => rfl
  | g :: r, j => by rw [List.map_cons, enm, enm_map f r (j + 1)]; rfl
theorem enm_get : ∀ (l : List (List Int)) (j i : Nat) (h : i < l.length), (((j + i + 1 : Nat) : Int), l[i]) ∈ enm j l
  | g :: r, j, 0, h => List.mem_cons_self
  | g :: r, j, i + 1, h => by
    have := enm_get r (j + 1) i (by simpa using h)
    rw [show j + 1 + i + 1 = j + (i + 1) + 1 by omega] at this
    exact List.mem_cons_of_mem _ this
theorem wn_len (l : List (List Int)) (item : Int) : (wn l item).length = l.length + 1 := by
  unfold wn
  rw [List.length_append, List.length_map]; rfl
theorem wnPl_plc {t : Nest} {n : Nat} {l : List (List Int)} {x : Int} (ht : t.Of n) (hl : l.length + 1 = n) (hp : t.ent.Perm (enm 0 l)) (h1 : 0 - (n : Int) < x) (h2 : x < n) : Nest.Plc t x (wnPl l x) := by
  unfold wnPl
  by_cases h : 0 ≤ x
  · rw [if_pos h]
    exact .inl ⟨h, rfl, ht.mem.mpr ⟨h, h2⟩⟩
  · rw [if_neg h]
    have hi : (0 - x).toNat - 1 < l.length := by omega
    refine .inr ⟨by omega, hp.mem_iff.mpr ?_⟩
    have := enm_get l 0 _ hi
    rw [List.getD_eq_getElem?_getD, List.getElem?_eq_getElem hi]
    rw [show (((0 + ((0 - x).toNat - 1) + 1 : Nat)) : Int) = 0 - x by omega] at this
    exact this
theorem wn_ent {t : Nest} {n : Nat} {l : List (List Int)} {x : Int} (ht : t.Of n) (hl : l.length + 1 = n) (hp : t.ent.Perm (enm 0 l)) (h1 : 0 - (n : Int) < x) (h2 : x < n) : (t.put x n).ent.Perm (enm 0 (wn l x)) := by
  have hpl := wnPl_plc ht hl hp h1 h2
  have h3 := (Nest.put_ent x n _ t ht.nodup (fun y hy => by have := ht.mem.mp hy; omega) hpl).1
  refine h3.trans ?_
  unfold wn
  rw [hl, enm_app, enm_map, List.length_map]
  refine (((hp.map _).cons _)).trans ?_
  show (((n : Int), wnPl l x ++ [(n : Int)]) :: _).Perm (_ ++ [(((0 + l.length + 1 : Nat) : Int), wnPl l x ++ [(n : Int)])])
  rw [show 0 + l.length + 1 = n by omega]
  exact (List.perm_append_comm (l₁ := [((n : Int), wnPl l x ++ [(n : Int)])]))
theorem grw_ent : ∀ (row : List Int) (i : Nat) (t : Nest) (l : List (List Int)), t.Of (i + 1) → l.length = i → t.ent.Perm (enm 0 l) → itm i row → (grw i t row).ent.Perm (enm 0 (row.foldl wn l))
  | [], i, t, l, _, _, h, _ => h
  | x :: r, i, t, l, ht, hl, h, ho => by
    have h1 : 0 - ((i + 1 : Nat) : Int) < x := by have := ho.1; omega
    have h2 : x < ((i + 1 : Nat) : Int) := by have := ho.2.1; omega
    exact grw_ent r (i + 1) _ _ (ht.put h1 h2) (by rw [wn_len, hl]) (wn_ent ht (by omega) h h1 h2) ho.2.2
abbrev tree (row : List Int) : Nest := grw 0 (.lf 0) row
theorem tree_of {row : List Int} (h : itm 0 row) : (tree row).Of (row.length + 1) := by
  have := grw_of row 0 (.lf 0) Nest.of_zero h
  rw [show row.length + 1 = 0 + 1 + row.length by omega]
  exact this
theorem pf_lots {row : List Int} (h : itm 0 row) : pf row = (tree row).lots := by
  have h1 := grw_ent row 0 (.lf 0) [] Nest.of_zero rfl .nil h
  unfold pf Nest.lots
  refine sR_eq ?_
  rw [← Nest.ent_snd]
  have h2 := (h1.map (·.2)).symm
  rw [enm_snd] at h2
  exact h2
namespace Nest
/-! the greatest person is taken out -/
theorem ent_swap (a b : Nest) : (nd a b).ent.Perm (nd b a).ent := by
  show ((max a.mn b.mn, sZ (a.lv ++ b.lv)) :: (a.ent ++ b.ent)).Perm ((max b.mn a.mn, sZ (b.lv ++ a.lv)) :: (b.ent ++ a.ent))
  rw [show max b.mn a.mn = max a.mn b.mn by omega, show sZ (b.lv ++ a.lv) = sZ (a.lv ++ b.lv) from sZ_eq List.perm_append_comm]
  exact List.perm_append_comm.cons _
theorem put_top (f : Int) (b : Nest) : ∃ x, put x f b = nd b (lf f) ∧ (x ∈ b.lv ∨ 0 - x ∈ b.mk) := by
  cases b with
  | lf i => exact ⟨i, by rw [put, if_pos rfl], .inl (by simp [lv])⟩
  | nd c d => exact ⟨0 - max c.mn d.mn, by rw [put, if_pos (by omega)], .inr (by rw [show 0 - (0 - max c.mn d.mn) = max c.mn d.mn by omega]; simp [mk])⟩
theorem del_side {a b ua : Nest} {f x : Int} (na : a.lv.Nodup) (hp : ∀ y ∈ a.lv ++ b.lv, 0 ≤ y) (nb : b.lv.Nodup) (dj : ∀ y ∈ a.lv, ∀ z ∈ b.lv, y ≠ z) (h1 : (f :: ua.lv).Perm a.lv) (h2 : x ∈ ua.lv ∨ 0 - x ∈ ua.mk) (h3 : (put x f ua).ent.Perm a.ent) :
    (f :: (nd ua b).lv).Perm (nd a b).lv ∧ (x ∈ (nd ua b).lv ∨ 0 - x ∈ (nd ua b).mk) ∧ (put x f (nd ua b)).ent.Perm (nd a b).ent := by
  have pu : ∀ y ∈ ua.lv, y ∈ a.lv := fun y hy => h1.mem_iff.mp (List.mem_cons_of_mem _ hy)
  have nu : ua.lv.Nodup := (List.nodup_cons.mp (h1.nodup_iff.mpr na)).2
  have p0 : ∀ y ∈ ua.lv, 0 ≤ y := fun y hy => hp y (List.mem_append_left _ (pu y hy))
  have pb : ∀ y ∈ b.lv, 0 ≤ y := fun y hy => hp y (List.mem_append_right _ hy)
  have out : x ∉ b.lv ∧ 0 - x ∉ b.mk := by
    rcases h2 with h | h
    · refine ⟨fun q => dj x (pu x h) x q rfl, fun q => ?_⟩
      have := mk_gt b nb _ q
      have := pb _ b.mn_mem
      have := p0 _ h
      omega
    · have g1 := mk_gt ua nu _ h
      have g2 := p0 _ ua.mn_mem
      refine ⟨fun q => ?_, fun q => dj _ (pu _ (ua.mk_sub _ h)) _ (b.mk_sub _ q) rfl⟩
      have := pb _ q
      omega
  have hne : max ua.mn b.mn ≠ 0 - x := fun e => by
    have d1 := dj _ (pu _ ua.mn_mem) _ b.mn_mem
    have q1 := p0 _ ua.mn_mem
    have q2 := pb _ b.mn_mem
    rcases h2 with h | h
    · have := p0 _ h
      omega
    · have g1 := mk_gt ua nu _ h
      have e2 : b.mn = 0 - x := by omega
      exact dj _ (pu _ (ua.mk_sub _ h)) _ b.mn_mem e2.symm
  refine ⟨h1.append_right b.lv, h2.imp (List.mem_append_left _) fun h => by show 0 - x ∈ max ua.mn b.mn :: (ua.mk ++ b.mk); exact List.mem_cons_of_mem _ (List.mem_append_left _ h), ?_⟩
  rw [put, if_neg hne, put_none x f b out.1 out.2]
  have e1 := put_one x f ua nu p0 h2
  have e2 : (put x f ua).lv.Perm a.lv := e1.trans h1
  show ((max (put x f ua).mn b.mn, sZ ((put x f ua).lv ++ b.lv)) :: ((put x f ua).ent ++ b.ent)).Perm ((max a.mn b.mn, sZ (a.lv ++ b.lv)) :: (a.ent ++ b.ent))
  rw [mn_perm e2, show sZ ((put x f ua).lv ++ b.lv) = sZ (a.lv ++ b.lv) from sZ_eq (e2.append_right _)]
  exact (h3.append_right _).cons _
theorem del_ex (f : Int) : ∀ t : Nest, t.lv.Nodup → (∀ y ∈ t.lv, 0 ≤ y) → f ∈ t.lv → t ≠ lf f → ∃ u x, (f :: u.lv).Perm t.lv ∧ (x ∈ u.lv ∨ 0 - x ∈ u.mk) ∧ (put x f u).ent.Perm t.ent
  | lf i, _, _, hf, hne => absurd (by rw [show f = i by simpa [lv] using hf]) hne
  | nd a b, hn, hp, hf, _ => by
    have hd := List.nodup_append.mp hn
    by_cases ea : a = lf f
    · subst ea
      obtain ⟨x, e1, e2⟩ := put_top f b
      exact ⟨b, x, List.Perm.refl _, e2, by rw [e1]; exact ent_swap _ _⟩
    by_cases eb : b = lf f
    · subst eb
      obtain ⟨x, e1, e2⟩ := put_top f a
      exact ⟨a, x, (List.perm_append_comm (l₁ := [f]) (l₂ := a.lv)), e2, by rw [e1]⟩
    rcases List.mem_append.mp hf with h | h
    · obtain ⟨ua, x, h1, h2, h3⟩ := del_ex f a hd.1 (fun y hy => hp y (List.mem_append_left _ hy)) h ea
      obtain ⟨g1, g2, g3⟩ := del_side hd.1 hp hd.2.1 (fun y hy z hz => hd.2.2 y hy z hz) h1 h2 h3
      exact ⟨nd ua b, x, g1, g2, g3⟩
    · obtain ⟨ub, x, h1, h2, h3⟩ := del_ex f b hd.2.1 (fun y hy => hp y (List.mem_append_right _ hy)) h eb
      obtain ⟨g1, g2, g3⟩ := del_side hd.2.1 (fun y hy => hp y (by rcases List.mem_append.mp hy with h | h; exact List.mem_append_right _ h; exact List.mem_append_left _ h)) hd.1 (fun y hy z hz e => hd.2.2 z hz y hy e.symm) h1 h2 h3
      refine ⟨nd ub a, x, g1.trans ?_, g2, g3.trans (ent_swap _ _)⟩
      show (b.lv ++ a.lv).Perm (a.lv ++ b.lv)
      exact List.perm_append_comm
theorem mem_mk_of {u : Nest} {n : Nat} (h : u.Of n) {x : Int} (hx : x ∈ u.lv ∨ 0 - x ∈ u.mk) : 0 - (n : Int) < x ∧ x < n := by
  rcases hx with h1 | h1
  · have := h.mem.mp h1; omega
  · have h2 := h.mem.mp (u.mk_sub _ h1)
    have h3 := mk_gt u h.nodup _ h1
    have h4 := h.mem.mp u.mn_mem
    omega
theorem plc_of {u : Nest} {n : Nat} (h : u.Of n) {x : Int} (h1 : 0 - (n : Int) < x) (h2 : x < n) : ∃ pl, Plc u x pl := by
  by_cases h0 : 0 ≤ x
  · exact ⟨[x], .inl ⟨h0, rfl, h.mem.mpr ⟨h0, h2⟩⟩⟩
  · have hm : u.mn = 0 := by
      have h3 := u.mn_mem
      have h4 := (h.mem).mp h3
      have h5 := u.mn_le 0 (h.mem.mpr (by omega))
      omega
    have h4 : 0 - x ∈ u.mn :: u.mk := u.mk_perm.mem_iff.mpr (h.mem.mpr (by omega))
    rcases List.mem_cons.mp h4 with h5 | h5
    · omega
    · rw [← ent_fst] at h5
      obtain ⟨e, h6, h7⟩ := List.mem_map.mp h5
      exact ⟨e.2, .inr ⟨by omega, by rw [← h7]; exact h6⟩⟩
theorem plc_perm {t u : Nest} {n : Nat} (ht : t.Of n) (hu : u.Of n) (h : t.ent.Perm u.ent) {x : Int} {pl : List Int} (hp : Plc t x pl) : Plc u x pl := by
  rcases hp with ⟨h0, h1, h2⟩ | ⟨h0, h1⟩
  · exact .inl ⟨h0, h1, hu.mem.mpr (ht.mem.mp h2)⟩
  · exact .inr ⟨h0, h.mem_iff.mp h1⟩
theorem put_perm {t u : Nest} {n : Nat} (ht : t.Of n) (hu : u.Of n) (h : t.ent.Perm u.ent) {x : Int} (h1 : 0 - (n : Int) < x) (h2 : x < n) : (put x n t).ent.Perm (put x n u).ent := by
  obtain ⟨pl, hp⟩ := plc_of ht h1 h2
  have e1 := (put_ent x n pl t ht.nodup (fun y hy => by have := ht.mem.mp hy; omega) hp).1
  have e2 := (put_ent x n pl u hu.nodup (fun y hy => by have := hu.mem.mp hy; omega) (plc_perm ht hu h hp)).1
  exact e1.trans (((h.map _).cons _).trans e2.symm)
theorem of_one {t : Nest} (h : t.Of 1) : t.ent = [] := by
  have := h.len
  cases t with
  | lf i => rfl
  | nd a b =>
    have h1 := a.lv_pos
    have h2 := b.lv_pos
    rw [lv, List.length_append] at this
    omega
theorem Of.del {t : Nest} {n : Nat} (h : t.Of (n + 1)) (hn : 0 < n) : ∃ u x, u.Of n ∧ 0 - (n : Int) < x ∧ x < n ∧ (Nest.put x n u).ent.Perm t.ent := by
  have hne : t ≠ lf n := fun e => by
    have := h.len
    rw [e] at this
    simp [lv] at this
    omega
  obtain ⟨u, x, h1, h2, h3⟩ := del_ex n t h.nodup (fun y hy => (h.mem.mp hy).1) (h.mem.mpr ⟨by omega, by omega⟩) hne
  have hu : u.Of n := by
    have e1 : ((n : Int) :: u.lv).Perm (comp (n + 1)) := h1.trans h
    rw [comp_succ] at e1
    exact (e1.trans (List.perm_append_comm (l₁ := comp n) (l₂ := [(n : Int)]))).cons_inv
  obtain ⟨x1, x2⟩ := mem_mk_of hu h2
  exact ⟨u, x, hu, x1, x2, h3⟩
/-- each nest comes from a coming list -/
theorem Of.row : ∀ {n : Nat} {t : Nest}, t.Of (n + 1) → ∃ row : List Int, row.length = n ∧ itm 0 row ∧ (tree row).ent.Perm t.ent
  | 0, t, h => ⟨[], rfl, trivial, by rw [of_one h]; exact .nil⟩
  | n + 1, t, h => by
    obtain ⟨u, x, hu, h1, h2, h3⟩ := h.del (by omega)
    obtain ⟨row, r1, r2, r3⟩ := Of.row (t := u) hu
    refine ⟨row ++ [x], by simp [r1], (itm_snoc row 0 x).mpr ⟨r2, by rw [r1]; simpa using h1, by rw [r1]; simpa using h2⟩, ?_⟩
    have ht := tree_of r2
    rw [r1] at ht
    show (grw 0 (lf 0) (row ++ [x])).ent.Perm t.ent
    rw [grw_snoc, r1, show 0 + n + 1 = n + 1 by omega]
    exact (put_perm ht hu r3 h1 h2).trans h3
/-! the cut of a newcomer -/
theorem cut_put {n : Nat} (x : Int) : ∀ u : Nest, (∀ y ∈ u.lv, 0 ≤ y ∧ y < n) → cut (comp n) (put x n u) = some u
  | lf i, h => by
    have hi := h i (by simp [lv])
    have h1 : cut (comp n) (lf i) = some (lf i) := cut_comp (lf i) h
    have h2 : cut (comp n) (lf (n : Int)) = none := by rw [cut, if_neg (fun z => by have := mem_comp.mp z; omega)]
    rw [put]
    split
    · rw [cut, h1, h2]
    · exact h1
  | nd a b, h => by
    have ha := cut_put x a fun y hy => h y (List.mem_append_left _ hy)
    have hb := cut_put x b fun y hy => h y (List.mem_append_right _ hy)
    have h1 : cut (comp n) (nd a b) = some (nd a b) := cut_comp (nd a b) h
    have h2 : cut (comp n) (lf (n : Int)) = none := by rw [cut, if_neg (fun z => by have := mem_comp.mp z; omega)]
    rw [put]
    split
    · show (match cut (comp n) (nd a b), cut (comp n) (lf (n : Int)) with
        | some x, some y => some (nd x y)
        | some x, none => some x
        | none, some y => some y
        | none, none => none) = _
      rw [h1, h2]
    · rw [cut, ha, hb]
theorem Of.cut_put {n : Nat} {u : Nest} (h : u.Of n) (x : Int) (h1 : 0 - (n : Int) < x) (h2 : x < n) : cutBy (Nest.put x n u).lots (comp n) = u.lots :=
  cutBy_lots (comp_nodup n) (h.put h1 h2).nodup (Nest.cut_put x u fun y hy => h.mem.mp hy)
/-! the least group of the newcomer -/
theorem Of.least {n : Nat} {u : Nest} (h : u.Of n) {x : Int} {pl : List Int} (hp : Plc u x pl) (h1 : 0 - (n : Int) < x) (h2 : x < n) : pl ++ [(n : Int)] ∈ (Nest.put x n u).lots ∧ ∀ g ∈ (Nest.put x n u).lots, (n : Int) ∈ g → g = pl ++ [(n : Int)] ∨ pl.length + 1 < g.length := by
  have he := (Nest.put_ent x n pl u h.nodup (fun y hy => by have := h.mem.mp hy; omega) hp).1
  have hm : ∀ g, g ∈ (Nest.put x n u).lots ↔ ∃ e ∈ (Nest.put x n u).ent, e.2 = g := fun g => by
    unfold lots
    rw [mem_sR, ← ent_snd, List.mem_map]
  constructor
  · exact (hm _).mpr ⟨_, he.mem_iff.mpr List.mem_cons_self, rfl⟩
  · intro g hg hn
    obtain ⟨e, h3, rfl⟩ := (hm g).mp hg
    rcases List.mem_cons.mp (he.mem_iff.mp h3) with rfl | h4
    · exact .inl rfl
    · obtain ⟨e0, h5, rfl⟩ := List.mem_map.mp h4
      have hs := (ent_sub h5).1
      have hno : (n : Int) ∉ e0.2 := fun z => by have := h.mem.mp (hs _ z); omega
      right
      show _ < (upG pl n e0.2).length
      have hn : (n : Int) ∈ upG pl n e0.2 := hn
      unfold upG at hn ⊢
      split
      · rename_i c
        rw [List.length_append]
        show _ < e0.2.length + 1
        omega
      · rename_i c
        rw [if_neg c] at hn
        exact absurd hn hno
theorem folk_head (t : Nest) : ∃ r, t.folk = t.mn :: r := by
  cases e : t.folk with
  | nil =>
    have := t.len_folk
    have := t.lv_pos
    rw [e] at *
    simp at *
    omega
  | cons h r =>
    obtain ⟨h1, h2⟩ := head_sZ (l := t.lv) e
    have h3 := h2 _ t.mn_mem
    have h4 := t.mn_le _ h1
    exact ⟨r, by rw [show t.mn = h by omega]⟩
/-- the item of the newcomer, by its sister -/
theorem Of.item {n : Nat} {u : Nest} (h : u.Of n) {x : Int} {pl : List Int} (hp : Plc u x pl) (h1 : 0 - (n : Int) < x) (h2 : x < n) : (0 ≤ x ∧ pl = [x]) ∨ (x < 0 ∧ ∃ a r y s, pl = a :: r ∧ r ≠ [] ∧ restOf (Nest.put x n u).lots a r = y :: s ∧ y = 0 - x) := by
  rcases hp with ⟨h0, rfl, _⟩ | ⟨h0, h3⟩
  · exact .inl ⟨h0, rfl⟩
  · right
    refine ⟨h0, ?_⟩
    have hp : Plc u x pl := .inr ⟨h0, h3⟩
    have he := (Nest.put_ent x n pl u h.nodup (fun y hy => by have := h.mem.mp hy; omega) hp).1
    have hin : (0 - x, pl) ∈ (Nest.put x n u).ent := he.mem_iff.mpr (List.mem_cons_of_mem _ (List.mem_map.mpr ⟨_, h3, by rw [upG_short (Nat.le_refl _)]⟩))
    obtain ⟨a, b, h5, h6⟩ := ent_node hin
    obtain ⟨e1, e2⟩ := Prod.mk.inj h6
    have hl := (ent_sub hin).2.2
    have hput := h.put h1 h2
    cases pl with
    | nil => simp at hl
    | cons m r =>
      obtain ⟨ra, fa⟩ := folk_head a
      obtain ⟨rb, fb⟩ := folk_head b
      have hh := head_sZ (l := (nd a b).lv) e2.symm
      have ha : m ≤ a.mn := hh.2 _ (List.mem_append_left _ a.mn_mem)
      have hb : m ≤ b.mn := hh.2 _ (List.mem_append_right _ b.mn_mem)
      rcases parts_of hput.nodup h5 e2.symm with ⟨q1, _, q2⟩ | ⟨q1, _, q2⟩
      · have := a.mn_le _ q1
        refine ⟨m, r, b.mn, rb, rfl, fun z => by rw [z] at hl; simp at hl, by rw [q2, fb], by omega⟩
      · have := b.mn_le _ q1
        refine ⟨m, r, a.mn, ra, rfl, fun z => by rw [z] at hl; simp at hl, by rw [q2, fa], by omega⟩
end Nest
end J
namespace J
open PySem PySem.Spec PyProof.Rows L2
/-! ### a pouch of three numbers, in a cell -/
abbrev pchC (a b c : Int) : Cell := .lst [.int a, .int b, .int c]
/-- a pouch that has been asked at most n times, behind the cells p and ahead of the cells q -/
def Good (n : Nat) (p q s : STO) : Prop := ∃ a b c : Int, s = p ++ pchC a b c :: q ∧ 0 ≤ a ∧ 0 ≤ b ∧ b < 2 ^ 200 ∧ 0 ≤ c ∧ c ≤ n
theorem Good.mono {n m : Nat} {p q s : STO} (h : Good n p q s) (hl : n ≤ m) : Good m p q s := by
  obtain ⟨a, b, c, e, h1, h2, h3, h4, h5⟩ := h
  exact ⟨a, b, c, e, h1, h2, h3, h4, by omega⟩
theorem Good.len {n : Nat} {p q s : STO} (h : Good n p q s) : s.length = p.length + 1 + q.length := by
  obtain ⟨a, b, c, rfl, _⟩ := h
  rw [List.length_append, List.length_cons]; omega
theorem Good.fin {n m : Nat} {p q s s' : STO} (h : Good n p q s) (h' : Good m p q s') (d : D) : fin s d s' = some (d, s') := fin_len d (by rw [h.len, h'.len])
theorem mid_get {p q : STO} {c : Cell} : (p ++ c :: q)[p.length]? = some c := by rw [List.getElem?_append_right (Nat.le_refl _), Nat.sub_self]; rfl
theorem mid_set {p q : STO} {c e : Cell} : (p ++ c :: q).set p.length e = p ++ e :: q := by rw [List.set_append_right _ _ (Nat.le_refl _), Nat.sub_self]; rfl
theorem mid_cell {p q : STO} {ds : List D} : cellL (p ++ .lst ds :: q) p.length = some ds := by unfold cellL; rw [mid_get]
theorem dGt_t {i j : Int} (h : j < i) : dGt (.int i) (.int j) = some (.bool true) := by show some (PyData.bool (decide (j < i))) = _; rw [decide_eq_true h]
theorem dGt_f {i j : Int} (h : ¬ j < i) : dGt (.int i) (.int j) = some (.bool false) := by show some (PyData.bool (decide (j < i))) = _; rw [decide_eq_false h]
theorem dLt_t {i j : Int} (h : i < j) : dLt (.int i) (.int j) = some (.bool true) := by show some (PyData.bool (decide (i < j))) = _; rw [decide_eq_true h]
theorem dLt_f {i j : Int} (h : ¬ i < j) : dLt (.int i) (.int j) = some (.bool false) := by show some (PyData.bool (decide (i < j))) = _; rw [decide_eq_false h]
theorem dGe_f {i j : Int} (h : ¬ j ≤ i) : dGe (.int i) (.int j) = some (.bool false) := by show some (PyData.bool (decide (j ≤ i))) = _; rw [decide_eq_false h]
theorem dEq_int (i j : Int) : dEq (.int i) (.int j) = some (.bool (decide (i = j))) := by
  show (if SeqAt.shaped (.int i) = true ∧ SeqAt.shaped (.int j) = true then some (PyData.bool (PyData.eqv (.int i) (.int j))) else none) = _
  rw [if_pos ⟨shaped_int i, shaped_int j⟩]
  congr 2
theorem dEq_t {i j : Int} (h : i = j) : dEq (.int i) (.int j) = some (.bool true) := by rw [dEq_int, decide_eq_true h]
theorem dEq_f {i j : Int} (h : i ≠ j) : dEq (.int i) (.int j) = some (.bool false) := by rw [dEq_int, decide_eq_false h]
theorem atI_nat {α : Type} {l : List α} {i : Int} {n : Nat} {x : α} (hi : i = n) (h : l[n]? = some x) : atI l i = some x := by
  subst hi
  have hl := (List.getElem?_eq_some_iff.mp h).1
  unfold atI ixN
  rw [if_pos (by omega), if_pos (by omega), Option.bind_some, show ((n : Int)).toNat = n by omega]
  exact h
section
variable {g h : Sv} {env e1 : Env} {s s1 s2 s3 : STO} {d d1 d2 d3 d' : D} {M : List Nat} {f f1 f2 f3 : Ev} {ds : List D} {vw : VW}
theorem sSto_ok {n : Int} {m j : Nat} (h1 : f3 (see [] env) s = some (d, s1)) (h2 : f1 (see [] env) s1 = some (tokD j, s2)) (h3 : f2 (see [] env) s2 = some (.int n, s3)) (hc : cellL s3 j = some ds) (h4 : ixN ds.length n = some m) : sSto [] f1 f2 f3 env s = some (.nx, env, s3.set j (.lst (ds.set m d))) := by
  unfold sSto
  rw [h1, Option.bind_some, h2, Option.bind_some, isTok_tok, Option.bind_some, h3, Option.bind_some]
  show (cellL s3 j).bind _ = _
  rw [hc, Option.bind_some, h4, Option.map_some, fzIf_nil]
end
end J
namespace J
open PySem PySem.Spec PyProof.Rows L2
/-! ### data of a known depth whose text is of a known length -/
structure Ok (d : D) (n c : Nat) : Prop where
  lay : d.canLay0 = true
  dep : d.depth ≤ n
  sho : d.showable = true
  len : d.shown.length ≤ c
theorem Ok.mono {d : D} {n c m e : Nat} (h : Ok d n c) (h1 : n ≤ m) (h2 : c ≤ e) : Ok d m e := ⟨h.lay, Nat.le_trans h.dep h1, h.sho, Nat.le_trans h.len h2⟩
theorem lay_all {ds : List D} (h : ∀ d ∈ ds, d.canLay0 = true) : PyData.canLayAll0 ds = true := by
  induction ds with
  | nil => rfl
  | cons x r ih => simp only [PyData.canLayAll0, h x List.mem_cons_self, ih fun d hd => h d (List.mem_cons_of_mem _ hd), Bool.and_self]
theorem dep_all {n : Nat} {ds : List D} (h : ∀ d ∈ ds, d.depth ≤ n) : PyData.depthAll ds ≤ n := by
  induction ds with
  | nil => simp [PyData.depthAll]
  | cons x r ih =>
    have h1 := h x List.mem_cons_self
    have h2 := ih fun d hd => h d (List.mem_cons_of_mem _ hd)
    simp only [PyData.depthAll]
    omega
theorem Ok.list {ds : List D} {n c : Nat} (h : ∀ d ∈ ds, Ok d n c) : Ok (.list ds) (n + 1) (2 + (c + 2) * ds.length) := by
  refine ⟨?_, ?_, ?_, shown_list_le fun d hd => (h d hd).len⟩
  · simp only [PyData.canLay0]; exact lay_all fun d hd => (h d hd).lay
  · have := dep_all fun d hd => (h d hd).dep
    simp only [PyData.depth]; omega
  · simp only [PyData.showable]; exact PySem.Spec.showableAll_of fun d hd => (h d hd).sho
theorem Ok.int {x : Int} {k : Nat} (hk : 0 < k) (hk2 : k ≤ 100) (h0 : 0 ≤ x) (h : x < 10 ^ k) : Ok (.int x) 1 k := by
  refine ⟨rfl, by simp [PyData.depth], ?_, ?_⟩
  · simp only [PyData.showable]
    refine decide_eq_true ?_
    by_cases e : x.natAbs = 0
    · rw [e]; decide
    · rw [Nat.log2_lt e]
      have h1 : x.natAbs < 10 ^ k := by
        have : (x.natAbs : Int) < ((10 ^ k : Nat) : Int) := by
          rw [Int.natCast_pow]
          have : (x.natAbs : Int) = x := by omega
          rw [this]
          exact h
        omega
      refine Nat.lt_of_lt_of_le h1 ?_
      refine Nat.le_trans (Nat.pow_le_pow_right (by decide) hk2) ?_
      decide +kernel
  · rw [PyData.shown_int]
    exact toString_length_le h0 hk h
theorem Ok.shaped {d : D} {n c : Nat} (h : Ok d n c) (hn : n ≤ 64 := by decide) : SeqAt.shaped d = true := shaped_of h.lay (Nat.le_trans h.dep hn)
theorem Ok.showOk {d : D} {n c : Nat} (h : Ok d n c) (hn : n ≤ 64) (hc : c ≤ 16777216) : showOk d = true := by
  unfold J.showOk
  rw [h.sho, h.shaped hn, decide_eq_true (Nat.le_trans h.len hc)]
  rfl
theorem Ok.repr {ds : List D} {n c : Nat} (h : Ok (.list ds) n c) (hn : n ≤ 64) (hc : c ≤ 16777216) : dRepr (.list ds) = some (.str (PyData.shown (.list ds))) := by
  show (if J.showOk (.list ds) = true then _ else _) = _
  rw [if_pos (h.showOk hn hc)]
/-- rows of small numbers -/
theorem Ok.row {l : List Int} (h : ∀ x ∈ l, 0 ≤ x ∧ x < 1000) (hl : l.length ≤ 20) : Ok (dI l) 2 102 := by
  refine (Ok.list (n := 1) (c := 3) fun d hd => ?_).mono (Nat.le_refl _) (by rw [List.length_map]; omega)
  obtain ⟨x, hx, rfl⟩ := List.mem_map.mp hd
  exact Ok.int (by decide) (by decide) (h x hx).1 (h x hx).2
theorem Ok.rows {l : List (List Int)} (h : ∀ g ∈ l, (∀ x ∈ g, 0 ≤ x ∧ x < 1000) ∧ g.length ≤ 20) (hl : l.length ≤ 20) : Ok (dL l) 3 2100 := by
  refine (Ok.list (n := 2) (c := 102) fun d hd => ?_).mono (Nat.le_refl _) (by rw [List.length_map]; omega)
  obtain ⟨x, hx, rfl⟩ := List.mem_map.mp hd
  exact Ok.row (h x hx).1 (h x hx).2
theorem Ok.lots {t : Nest} {n : Nat} (h : t.Of n) (hn : n ≤ 20) : Ok (dL t.lots) 3 2100 := by
  have := h.lots_len
  refine Ok.rows (fun g hg => ?_) (by omega)
  obtain ⟨X, hX, rfl⟩ := Nest.mem_lots.mp hg
  refine ⟨fun x hx => ?_, ?_⟩
  · have := h.mem.mp ((Nest.gr_sublist hX).subset (Nest.mem_folk.mp hx)); omega
  · have := (Nest.gr_sublist hX).length_le
    rw [Nest.len_folk]
    have := h.len
    omega
/-! ### more steps -/
section
variable {g h : Sv} {env e1 : J.Env} {s s1 s2 s3 : STO} {d d1 d2 d3 d' : D} {M : List Nat} {f f1 f2 f3 : Ev} {ds es : List D} {vw : VW}
theorem sApp1_ok {i k : Nat} {n : Int} {m : Nat} (h0 : f1 (see [] env) s = some (.int n, s1)) (h1 : g' (see [] env) s1 = some (d, s2)) (h2 : env[i]? = some (.ow (k + 2) (.list ds))) (h3 : ixN ds.length n = some m) (h4 : ds[m]? = some (.list es)) (h5 : es.length < 16777216) :
    sApp1 i [] k f1 g' env s = some (.nx, env.set i (.ow (k + 2) (.list (ds.set m (.list (es ++ [d]))))), s2) := by
  unfold sApp1
  rw [h0, Option.bind_some]
  show (g' (see [] env) s1).bind _ = _
  rw [h1, Option.bind_some, fzIf_nil, h2]
  show (if k = k then _ else _) = _
  rw [if_pos rfl, h3, Option.bind_some, h4]
  show (if es.length < 16777216 then _ else _) = _
  rw [if_pos h5]
end
theorem dNe_int (i j : Int) : dNe (.int i) (.int j) = some (.bool (!decide (i = j))) := by
  show (if SeqAt.shaped (.int i) = true ∧ SeqAt.shaped (.int j) = true then some (PyData.bool (!PyData.eqv (.int i) (.int j))) else none) = _
  rw [if_pos ⟨shaped_int i, shaped_int j⟩]
  rfl
theorem dNe_str (x : Str) : dNe (.str x) (.str x) = some (.bool false) := by
  show some (PyData.bool (!(x == x))) = _
  rw [beq_self_eq_true]
  rfl
end J
namespace J
/-! families of lots that no two cross, of one lot less than persons: those of nests -/
namespace Nest
/-- u in the place of the leaf a -/
def sub (a : Int) (u : Nest) : Nest → Nest
  | lf i => if i = a then u else lf i
  | nd x y => nd (sub a u x) (sub a u y)
structure Lam (S : List Int) (F : List (List Int)) : Prop where
  asc : S.Pairwise (· < ·)
  nd : F.Nodup
  row : ∀ g ∈ F, g.Pairwise (· < ·) ∧ 2 ≤ g.length ∧ ∀ x ∈ g, x ∈ S
  lam : ∀ g ∈ F, ∀ h ∈ F, (∀ x ∈ g, x ∈ h) ∨ (∀ x ∈ h, x ∈ g) ∨ ∀ x ∈ g, x ∉ h
end Nest
end J
namespace J
/-- what is_parting computes of rows that are lots -/
def partB (ls : List (List Int)) : Bool := (ls.zip (ls.drop 1)).all (fun p => ltI p.1 p.2) && ((decide (ls = []) || decide (comp (ls.length + 1) ∈ ls)) && ls.all (partsB ls))
def crossB (g h : List Int) : Bool := decide (0 < (g.filter fun x => decide (x ∈ h)).length) && decide ((g.filter fun x => decide (x ∈ h)).length < min g.length h.length)
/-- what the law's own judge computes of them -/
def nestB (ls : List (List Int)) : Bool := decide (sR ls = ls) && (List.range ls.length).all fun i => (ls.take i).all fun r => !(decide (r = ls.getD i []) || crossB r (ls.getD i []))
theorem cross_of {g h : List Int} (hg : g.Pairwise (· < ·)) (hh : h.Pairwise (· < ·)) (c : (∀ x ∈ g, x ∈ h) ∨ (∀ x ∈ h, x ∈ g) ∨ ∀ x ∈ g, x ∉ h) : crossB g h = false := by
  unfold crossB
  rw [Bool.and_eq_false_iff, decide_eq_false_iff_not, decide_eq_false_iff_not]
  have hm : ∀ x, x ∈ (g.filter fun x => decide (x ∈ h)) ↔ x ∈ g ∧ x ∈ h := fun x => by simp [List.mem_filter]
  rcases c with c | c | c
  · right
    have : (g.filter fun x => decide (x ∈ h)) = g := List.filter_eq_self.mpr fun x hx => by simp [c x hx]
    rw [this]; omega
  · right
    have : (g.filter fun x => decide (x ∈ h)) = h := asc_ext (hg.filter _) hh fun x => (hm x).trans ⟨fun q => q.2, fun q => ⟨c x q, q⟩⟩
    rw [this]; omega
  · left
    have : (g.filter fun x => decide (x ∈ h)) = [] := List.filter_eq_nil_iff.mpr fun x hx => by simp [c x hx]
    rw [this]; simp
namespace Nest
/-- the lots of a nest pass both judges -/
theorem Of.nestB {t : Nest} {n : Nat} (h : t.Of n) : nestB t.lots = true := by
  have nd := lots_nodup h.nodup
  unfold J.nestB
  rw [Bool.and_eq_true, decide_eq_true_eq]
  refine ⟨sR_of (sR_sorted _), List.all_eq_true.mpr fun i hi => List.all_eq_true.mpr fun r hr => ?_⟩
  have hi := List.mem_range.mp hi
  have eg : t.lots.getD i [] = t.lots[i] := by rw [List.getD_eq_getElem?_getD, List.getElem?_eq_getElem hi]; rfl
  rw [eg]
  obtain ⟨j, hj, rfl⟩ := List.getElem_of_mem hr
  rw [List.length_take] at hj
  rw [List.getElem_take]
  have hne : t.lots[j] ≠ t.lots[i] := List.pairwise_iff_getElem.mp nd j i (by omega) hi (by omega)
  obtain ⟨X, hX, eX⟩ := mem_lots.mp (List.getElem_mem (l := t.lots) (n := j) (by omega))
  obtain ⟨Y, hY, eY⟩ := mem_lots.mp (List.getElem_mem (l := t.lots) (n := i) hi)
  rw [← eX, ← eY] at hne ⊢
  have c : crossB X.folk Y.folk = false := cross_of (folk_asc (gr_nodup hX h.nodup)) (folk_asc (gr_nodup hY h.nodup)) (by
    rcases lam h.nodup hX hY with q | q | q
    · exact .inl fun x hx => mem_folk.mpr ((gr_sublist q).subset (mem_folk.mp hx))
    · exact .inr (.inl fun x hx => mem_folk.mpr ((gr_sublist q).subset (mem_folk.mp hx)))
    · exact .inr (.inr fun x hx hy => q x (mem_folk.mp hx) (mem_folk.mp hy)))
  rw [c, decide_eq_false hne]
  rfl
theorem Of.partB {t : Nest} {n : Nat} (h : t.Of n) (hn : n ≤ 20) : partB t.lots = true := by
  have p := h.parting hn
  unfold J.partB
  rw [Bool.and_eq_true, Bool.and_eq_true, List.all_eq_true, List.all_eq_true, Bool.or_eq_true, decide_eq_true_eq, decide_eq_true_eq]
  exact ⟨p.asc, p.all, p.prt⟩
end Nest
open Nest
end J
namespace J
open PySem PySem.Spec PyProof.Rows L2
/-! ### any data without dicts, of short lists -/
mutual
def wid : D → Bool
  | .list ds => decide (ds.length < 64) && widA ds
  | .tuple ds => decide (ds.length < 64) && widA ds
  | .dict _ => false
  | _ => true
def widA : List D → Bool
  | [] => true
  | d :: r => wid d && widA r
end
structure Safe (d : D) : Prop where
  lay : d.canLay0 = true
  dep : d.depth ≤ 60
  wd : wid d = true
theorem Safe.of {d : D} (h : (d.canLay0 && decide (d.depth ≤ 60) && wid d) = true) : Safe d := by
  rw [Bool.and_eq_true, Bool.and_eq_true, decide_eq_true_eq] at h
  exact ⟨h.1.1, h.1.2, h.2⟩
theorem wid_mem {ds : List D} (h : widA ds = true) : ∀ d ∈ ds, wid d = true := by
  induction ds with
  | nil => intro d hd; cases hd
  | cons x r ih =>
    rw [widA, Bool.and_eq_true] at h
    intro d hd
    rcases List.mem_cons.mp hd with rfl | hd
    · exact h.1
    · exact ih h.2 d hd
theorem wid_all {ds : List D} (h : ∀ d ∈ ds, wid d = true) : widA ds = true := by
  induction ds with
  | nil => rfl
  | cons x r ih => rw [widA, h x List.mem_cons_self, ih fun d hd => h d (List.mem_cons_of_mem _ hd)]; rfl
theorem Safe.mem {ds : List D} (h : Safe (.list ds)) : ∀ d ∈ ds, Safe d := fun d hd => by
  have h1 := h.lay
  have h2 := h.dep
  have h3 := h.wd
  rw [PyData.canLay0] at h1
  rw [PyData.depth] at h2
  rw [wid, Bool.and_eq_true] at h3
  have := depth_mem hd
  exact ⟨canLay_mem hd h1, by omega, wid_mem h3.2 d hd⟩
theorem Safe.len {ds : List D} (h : Safe (.list ds)) : ds.length < 64 := by
  have h3 := h.wd
  rw [wid, Bool.and_eq_true, decide_eq_true_eq] at h3
  exact h3.1
theorem Safe.list {ds : List D} (h : ∀ d ∈ ds, Safe d) (hd : ∀ d ∈ ds, d.depth ≤ 59) (hl : ds.length < 64) : Safe (.list ds) := by
  refine ⟨?_, ?_, ?_⟩
  · rw [PyData.canLay0]; exact lay_all fun d hd => (h d hd).lay
  · rw [PyData.depth]; have := dep_all hd; omega
  · rw [wid, decide_eq_true hl, wid_all fun d hd => (h d hd).wd]; rfl
theorem Safe.shaped {d : D} (h : Safe d) : SeqAt.shaped d = true := shaped_of h.lay (Nat.le_trans h.dep (by decide))
theorem noTok_lay : ∀ {d : D}, d.canLay0 = true → noTok d = true := fun {d} h =>
  PyData.rec (motive_1 := fun d => d.canLay0 = true → noTok d = true) (motive_2 := fun ds => PyData.canLayAll0 ds = true → noTokA ds = true) (motive_3 := fun _ => True) (motive_4 := fun _ => True)
    (fun _ => rfl) (fun _ _ => rfl) (fun _ _ => rfl) (fun _ _ => rfl) (fun xs ih h => by rw [noTok]; exact ih (by rw [PyData.canLay0] at h; exact h)) (fun xs ih h => by rw [noTok]; exact ih (by rw [PyData.canLay0] at h; exact h))
    (fun xs _ h => absurd h (by simp [PyData.canLay0])) (fun _ => rfl) (fun x xs h1 h2 h => by rw [PyData.canLayAll0, Bool.and_eq_true] at h; rw [noTokA, h1 h.1, h2 h.2]; rfl) trivial (fun _ _ _ _ => trivial) (fun _ _ _ _ => trivial) d h
theorem Safe.tok {d : D} (h : Safe d) : noTok d = true := noTok_lay h.lay
theorem Safe.sub {ds es : List D} (h : Safe (.list ds)) (hs : ∀ d ∈ es, d ∈ ds) (hl : es.length ≤ ds.length) : Safe (.list es) := by
  refine Safe.list (fun d hd => h.mem d (hs d hd)) (fun d hd => ?_) (by have := h.len; omega)
  have h2 := h.dep
  rw [PyData.depth] at h2
  have := depth_mem (hs d hd)
  omega
theorem dNe_nil {es : List D} (h : SeqAt.shaped (.list es) = true) : dNe (.list es) (.list []) = some (.bool (!es.isEmpty)) := by
  show (if SeqAt.shaped (.list es) = true ∧ SeqAt.shaped (.list []) = true then _ else _) = _
  rw [if_pos ⟨h, rfl⟩]
  cases es with
  | nil => rfl
  | cons x r => rfl
/-! ### ints in any data -/
theorem isIntsD_map : ∀ l : List Int, isIntsD (l.map PyData.int) = some l
  | [] => rfl
  | x :: r => by rw [List.map_cons, isIntsD, isIntsD_map r]; rfl
/-- what is_row, is_group compute of any datum -/
def rowD (m : Int) : D → Bool
  | .list ds => match isIntsD ds with
    | some l => rowB m l
    | none => false
  | _ => false
def lenDD : D → Nat
  | .list ds => ds.length
  | _ => 0
def grpD (m : Int) (d : D) : Bool := rowD m d && decide (1 < lenDD d)
def toRow : D → List Int
  | .list ds => (isIntsD ds).getD []
  | _ => []
theorem rowD_dI (m : Int) (l : List Int) : rowD m (dI l) = rowB m l := by
  show (match isIntsD (l.map PyData.int) with
    | some l => rowB m l
    | none => false) = _
  rw [isIntsD_map]
theorem grpD_dI (m : Int) (l : List Int) : grpD m (dI l) = (rowB m l && decide (1 < l.length)) := by
  unfold grpD
  rw [rowD_dI, show lenDD (dI l) = l.length from List.length_map _]
theorem toRow_dI (l : List Int) : toRow (dI l) = l := by
  show (isIntsD _).getD [] = l
  rw [isIntsD_map]; rfl
/-- what is_parting computes of any datum -/
def judge : D → Bool
  | .list ds => decide (ds.length < 20) && (ds.all (grpD (ds.length + 1)) && partB (ds.map toRow))
  | _ => false
theorem judge_dL {ls : List (List Int)} (hl : ls.length < 20) (hr : ∀ g ∈ ls, rowB (ls.length + 1) g = true ∧ 1 < g.length) : judge (dL ls) = partB ls := by
  show (decide ((ls.map dI).length < 20) && ((ls.map dI).all (grpD ((ls.map dI).length + 1)) && partB ((ls.map dI).map toRow))) = _
  have e : (ls.map dI).map toRow = ls := by rw [List.map_map]; conv => rhs; rw [← List.map_id ls]
                                            exact List.map_congr_left fun g _ => toRow_dI g
  have a : (ls.map dI).all (grpD ((ls.map dI).length + 1)) = true := List.all_eq_true.mpr fun d hd => by
    obtain ⟨g, hg, rfl⟩ := List.mem_map.mp hd
    rw [List.length_map, grpD_dI, (hr g hg).1, decide_eq_true (hr g hg).2]; rfl
  rw [e, a, List.length_map, decide_eq_true hl]
  rfl
theorem Nest.Of.judge {t : Nest} {n : Nat} (h : t.Of n) (hn : n ≤ 20) : judge (dL t.lots) = true := by
  have p := h.parting hn
  rw [judge_dL p.few fun g hg => ⟨(p.row g hg).1, (p.row g hg).2.1⟩]
  exact h.partB hn
/-! ### ascending -/
end J
namespace J
open PySem PySem.Spec PyProof.Rows L2
theorem sum_len_le {c : Nat} : ∀ {ds : List D}, (∀ d ∈ ds, d.shown.length ≤ c) → ((PyData.shownAll ds).map (·.length)).sum ≤ c * ds.length ∧ (PyData.shownAll ds).length = ds.length
  | [], _ => ⟨by simp [PyData.shownAll], by simp [PyData.shownAll]⟩
  | d :: r, h => by
    obtain ⟨h1, h2⟩ := sum_len_le (ds := r) fun x hx => h x (List.mem_cons_of_mem _ hx)
    have h3 := h d List.mem_cons_self
    simp only [PyData.shownAll, List.map_cons, List.sum_cons, List.length_cons]
    refine ⟨?_, by omega⟩
    rw [Nat.mul_succ]
    omega
theorem Ok.tuple {ds : List D} {n c : Nat} (h : ∀ d ∈ ds, Ok d n c) : Ok (.tuple ds) (n + 1) (3 + (c + 2) * ds.length) := by
  refine ⟨?_, ?_, ?_, ?_⟩
  · simp only [PyData.canLay0]; exact lay_all fun d hd => (h d hd).lay
  · have := dep_all fun d hd => (h d hd).dep
    simp only [PyData.depth]; omega
  · simp only [PyData.showable]; exact PySem.Spec.showableAll_of fun d hd => (h d hd).sho
  · have h1 := tupleText_len_le (PyData.shownAll ds)
    obtain ⟨h2, h3⟩ := sum_len_le fun d hd => (h d hd).len
    simp only [PyData.shown]
    rw [h3] at h1
    rw [Nat.add_mul]
    omega
/-- laid out, shallow, short, of short lists -/
def Nice (n c : Nat) (d : D) : Prop := Ok d n c ∧ wid d = true
theorem Nice.mono {n c m e : Nat} {d : D} (h : Nice n c d) (h1 : n ≤ m) (h2 : c ≤ e) : Nice m e d := ⟨h.1.mono h1 h2, h.2⟩
theorem Nice.list {n c : Nat} {ds : List D} (h : ∀ d ∈ ds, Nice n c d) (hl : ds.length < 64) : Nice (n + 1) (2 + (c + 2) * ds.length) (.list ds) :=
  ⟨Ok.list fun d hd => (h d hd).1, by rw [wid, decide_eq_true hl, wid_all fun d hd => (h d hd).2]; rfl⟩
theorem Nice.tuple {n c : Nat} {ds : List D} (h : ∀ d ∈ ds, Nice n c d) (hl : ds.length < 64) : Nice (n + 1) (3 + (c + 2) * ds.length) (.tuple ds) :=
  ⟨Ok.tuple fun d hd => (h d hd).1, by rw [wid, decide_eq_true hl, wid_all fun d hd => (h d hd).2]; rfl⟩
theorem Nice.int {x : Int} (h0 : 0 ≤ x) (h : x < 1000) : Nice 1 3 (.int x) := ⟨Ok.int (by decide) (by decide) h0 h, rfl⟩
theorem Nice.row {l : List Int} (h : ∀ x ∈ l, 0 ≤ x ∧ x < 1000) (hl : l.length ≤ 25) : Nice 2 130 (dI l) :=
  (Nice.list (n := 1) (c := 3) (ds := l.map PyData.int) (fun d hd => by obtain ⟨x, hx, rfl⟩ := List.mem_map.mp hd; exact Nice.int (h x hx).1 (h x hx).2) (by rw [List.length_map]; omega)).mono (Nat.le_refl _) (by rw [List.length_map]; omega)
theorem Nice.safe {n c : Nat} {d : D} (h : Nice n c d) (hn : n ≤ 60) : Safe d := ⟨h.1.lay, Nat.le_trans h.1.dep hn, h.2⟩
theorem pln_lay : ∀ {d : D}, d.canLay0 = true → pln d = true := fun {d} h =>
  PyData.rec (motive_1 := fun d => d.canLay0 = true → pln d = true) (motive_2 := fun ds => PyData.canLayAll0 ds = true → plnA ds = true) (motive_3 := fun _ => True) (motive_4 := fun _ => True)
    (fun _ => rfl) (fun _ _ => rfl) (fun _ _ => rfl) (fun _ _ => rfl) (fun xs ih h => by rw [pln]; exact ih (by rw [PyData.canLay0] at h; exact h)) (fun xs ih h => by rw [pln]; exact ih (by rw [PyData.canLay0] at h; exact h))
    (fun xs _ h => absurd h (by simp [PyData.canLay0])) (fun _ => rfl) (fun x xs h1 h2 h => by rw [PyData.canLayAll0, Bool.and_eq_true] at h; rw [plnA, h1 h.1, h2 h.2]; rfl) trivial (fun _ _ _ _ => trivial) (fun _ _ _ _ => trivial) d h
/-- an object that a judge may be asked about -/
structure Ob (d : D) : Prop where
  saf : Safe d ∨ d = .dict []
  pl : pln d = true
  dep : d.depth ≤ 10
  sho : d.showable = true
  len : d.shown.length ≤ 10000
theorem Nice.ob {n c : Nat} {d : D} (h : Nice n c d) (hn : n ≤ 10) (hc : c ≤ 10000) : Ob d := ⟨.inl (h.safe (by omega)), pln_lay h.1.lay, Nat.le_trans h.1.dep hn, h.1.sho, Nat.le_trans h.1.len hc⟩
theorem Ob.tok {d : D} (h : Ob d) : noTok d = true := by
  rcases h.saf with h | h
  · exact h.tok
  · subst h; rfl
end J
namespace J
open PySem PySem.Spec PyProof.Rows L2
/-! own slots and dicts, step by step (without M9) -/
theorem fz_one {i : Nat} {env : Env} {x : Slot} : (fz [i] env).set i x = env.set i x := by
  apply List.ext_getElem?
  intro j
  rw [List.getElem?_set, List.getElem?_set]
  have hl : (fz [i] env).length = env.length := fzI_len [i] 0 env
  by_cases c : i = j
  · subst c
    rw [if_pos rfl, if_pos rfl, hl]
  · rw [if_neg c, if_neg c, fz_get]
    have : [i].contains j = false := by simp; exact fun e => c e.symm
    rw [this]
    cases env[j]? with
    | none => rfl
    | some s => show some (fzS false s) = some s; rw [fzS_ff]
theorem rng_comp (n : Nat) : (List.range' 0 n).map (fun i : Nat => PyData.int i) = (comp n).map PyData.int := by
  unfold comp
  rw [List.map_map, List.range_eq_range']
  rfl
theorem forL_cons {i : Nat} {body : Sv} {d : D} {r : List D} {env env1 : Env} {s s1 : STO} {R : Option (Out × Env × STO)} (hi : i < env.length) (hd : noTok d = true)
    (h : body (env.set i (.sh d)) s = some (.nx, env1, s1)) (h2 : forL (bN i) body r env1 s1 = R) : forL (bN i) body (d :: r) env s = R := by
  rw [forL]
  simp only [bN, Option.bind_some]
  rw [if_pos ⟨by simp [allLt, hi], hd⟩]
  show ((body (env.set i (.sh d)) s).bind _) = _
  rw [h]
  exact h2
/-! dicts, step by step -/
section
variable {f g h fp fi fv : Ev} {vw : VW} {env : Env} {s s1 s2 s3 : STO} {d d1 d2 d3 kd : D} {t : Bool} {es es' : List (D × D)} {j : Nat}
end
/-! a dict of rows by the numbers 1, 2, .. -/
def gE : Nat → List (List Int) → List (D × D)
  | _, [] => []
  | j, g :: r => (.int ((j + 1 : Nat) : Int), dI g) :: gE (j + 1) r
end J
namespace K50
open PySem PySem.Spec PyProof.Rows L2 J
theorem eSl_ok {f : Ev} {lo hi : VW → STO → Option (Option Int × STO)} {vw : VW} {s s1 s2 s3 : STO} {d1 d : D} {o1 o2 : Option Int} (h1 : f vw s = some (d1, s1)) (h2 : lo vw s1 = some (o1, s2)) (h3 : hi vw s2 = some (o2, s3)) (h4 : dSl d1 o1 o2 = some d) : eSl f lo hi vw s = some (d, s3) := by
  unfold eSl
  rw [h1, Option.bind_some, h2, Option.bind_some, h3, Option.bind_some, h4]
  rfl
theorem oS_ok {f : Ev} {vw : VW} {s s1 : STO} {i : Int} (h : f vw s = some (.int i, s1)) : oS f vw s = some (some i, s1) := by
  unfold oS
  rw [h]
  rfl
theorem oN_ok {vw : VW} {s : STO} : oN vw s = some (none, s) := rfl
def plainS (p : STO) : Prop := ∀ n, p.all (cellLt n) = true
theorem tokLt_ints (n : Nat) : ∀ l : List Int, tokLtA n (l.map PyData.int) = true
  | [] => rfl
  | x :: r => by rw [List.map_cons, tokLtA, tokLt_ints n r]; rfl
theorem tokLt_dI (n : Nat) (l : List Int) : tokLt n (dI l) = true := by
  show tokLt n (.list (l.map PyData.int)) = true
  rw [tokLt]; exact tokLt_ints n l
theorem len_cutL {α : Type} {l : List α} {a b : Option Int} : (cutL l a b).length ≤ l.length := by
  unfold cutL
  rw [List.length_take, List.length_drop]
  omega
theorem cutL_map {α β : Type} (f : α → β) (l : List α) (a b : Option Int) : cutL (l.map f) a b = (cutL l a b).map f := by
  unfold cutL
  rw [List.length_map, List.map_take, List.map_drop]
theorem many_in_eq (ls : List (List Int)) (s : STO) : F_many_in [dL ls] s = some (.int (ls.length + 1), s) := by
  refine fnD_rt (e1 := [.sh (dL ls)]) (s1 := s) ?_ (fin_self _ _)
  unfold b_many_in
  exact sSeq_rt (sRet_ok (eBin_ok (eOp_ok (aC_ok (eVar_ok rfl) aN_ok) rfl) eC_ok (by show some (PyData.int (((ls.map dI).length : Nat) + 1)) = _; rw [List.length_map])))
theorem tokLt_rows (n : Nat) : ∀ l : List (List Int), tokLtA n (l.map dI) = true
  | [] => rfl
  | x :: r => by rw [List.map_cons, tokLtA, tokLt_dI, tokLt_rows n r]; rfl
theorem tokLt_dL (n : Nat) (l : List (List Int)) : tokLt n (dL l) = true := by
  show tokLt n (.list (l.map dI)) = true
  rw [tokLt]; exact tokLt_rows n l
theorem noTk_dI (l : List Int) : noTk (some (dI l)) = some (dI l) := by unfold noTk; rw [Option.bind_some, if_pos (tokLt_dI 0 l)]
theorem noTk_dL (l : List (List Int)) : noTk (some (dL l)) = some (dL l) := by unfold noTk; rw [Option.bind_some, if_pos (tokLt_dL 0 l)]
theorem eVarI {l : List Int} {vw : VW} {s : STO} {i : Nat} (h : vw[i]? = some (some (dI l))) : eVar i (vw.map noTk) s = some (dI l, s) := eVar_ok (by rw [List.getElem?_map, h]; exact congrArg some (noTk_dI l))
theorem eVarL {l : List (List Int)} {vw : VW} {s : STO} {i : Nat} (h : vw[i]? = some (some (dL l))) : eVar i (vw.map noTk) s = some (dL l, s) := eVar_ok (by rw [List.getElem?_map, h]; exact congrArg some (noTk_dL l))
end K50
namespace K50
open PySem PySem.Spec PyProof.Rows L2 J
theorem sPar_ok {i j k1 k2 : Nat} {f g : Ev} {env : J.Env} {s s1 s2 : STO} {d1 d2 : D} (h1 : f (see [] env) s = some (d1, s1)) (h2 : g (see [] env) s1 = some (d2, s2)) (hi : decide (i < env.length) = true := by rfl) (hj : decide (j < env.length) = true := by rfl) : sPar i j k1 k2 [] [] f g env s = some (.nx, (env.set i (mkS k1 d1)).set j (mkS k2 d2), s2) := by
  unfold sPar
  rw [if_pos ⟨of_decide_eq_true hi, of_decide_eq_true hj⟩, h1, Option.bind_some, fzIf_nil, h2]
  show some (Out.nx, ((fzIf k2 d2 [] s2 env).set i _).set j _, s2) = _
  rw [fzIf_nil]
theorem wnPl_ne {l : List (List Int)} {item : Int} (h : item < 0 → ∃ g, l[(0 - item).toNat - 1]? = some g ∧ g ≠ []) : wnPl l item ≠ [] := by
  unfold wnPl
  split
  · exact List.cons_ne_nil _ _
  · rename_i hn
    obtain ⟨g, hg, hg2⟩ := h (by omega)
    rw [List.getD_eq_getElem?_getD, hg]
    exact hg2
def wnOk (l : List (List Int)) (item : Int) : Prop := item < 0 → ∃ g, l[(0 - item).toNat - 1]? = some g ∧ g ≠ []
theorem wn_ok {l : List (List Int)} {item : Int} {b : Nat} (h : wnOk l item) (hl : ∀ g ∈ l, g.length ≤ b ∧ g ≠ []) : ∀ g ∈ wn l item, g.length ≤ b + 2 ∧ g ≠ [] := by
  intro g hg
  unfold wn at hg
  rcases List.mem_append.mp hg with hg | hg
  · obtain ⟨g0, h0, rfl⟩ := List.mem_map.mp hg
    have := hl g0 h0
    unfold Nest.upG
    split
    · refine ⟨by rw [List.length_append]; show g0.length + 1 ≤ _; omega, by simp⟩
    · exact ⟨by omega, this.2⟩
  · rw [List.mem_singleton.mp hg]
    refine ⟨?_, by simp⟩
    rw [List.length_append]
    show (wnPl l item).length + 1 ≤ _
    unfold wnPl
    split
    · show 1 + 1 ≤ _; omega
    · rename_i hn
      obtain ⟨g, hg1, _⟩ := h (by omega)
      rw [List.getD_eq_getElem?_getD, hg1]
      have := hl g (List.mem_of_getElem? hg1)
      show g.length + 1 ≤ _
      omega
theorem wnOk_of {l : List (List Int)} {i : Nat} {item : Int} (hl : l.length = i) (hg : ∀ g ∈ l, g ≠ []) (h : 0 - (i + 1 : Int) < item) : wnOk l item := by
  intro hn
  have h1 : (0 - item).toNat - 1 < l.length := by omega
  exact ⟨l[(0 - item).toNat - 1], List.getElem?_eq_getElem h1, hg _ (List.getElem_mem h1)⟩
theorem wn_fold_len : ∀ (row : List Int) (l : List (List Int)), (row.foldl wn l).length = l.length + row.length
  | [], l => rfl
  | a :: row, l => by rw [List.foldl_cons, wn_fold_len row, wn_len, List.length_cons]; omega
end K50
namespace K50
open PySem PySem.Spec PyProof.Rows L2 J
/-! ### the bag of draws, a cell -/
abbrev bagC (cs : List Int) (i d st c : Int) : Cell := .lst [dI cs, .int i, .int d, .int st, .int c]
structure BagNum (n : Nat) (cs : List Int) (i : Nat) (d st c : Int) : Prop where
  nn : ∀ x ∈ cs, 0 ≤ x
  i : i ≤ cs.length
  len : cs.length ≤ 63
  d : 0 ≤ d
  st : 0 ≤ st ∧ st < 2147483647
  c : 0 ≤ c ∧ c ≤ n
/-- a bag that has been asked at most n times, behind the cells p and ahead of the cells q -/
def Bag (n : Nat) (p q s : STO) : Prop := ∃ cs i d st c, s = p ++ bagC cs (i : Nat) d st c :: q ∧ BagNum n cs i d st c
theorem Bag.mono {n m : Nat} {p q s : STO} (h : Bag n p q s) (hl : n ≤ m) : Bag m p q s := by
  obtain ⟨cs, i, d, st, c, e, h⟩ := h
  exact ⟨cs, i, d, st, c, e, h.nn, h.i, h.len, h.d, h.st, h.c.1, by have := h.c.2; omega⟩
theorem Bag.len {n : Nat} {p q s : STO} (h : Bag n p q s) : s.length = p.length + 1 + q.length := by
  obtain ⟨cs, i, d, st, c, rfl, _⟩ := h
  rw [List.length_append, List.length_cons]; omega
theorem Bag.fin {n m : Nat} {p q s s' : STO} (h : Bag n p q s) (h' : Bag m p q s') (d : D) : fin s d s' = some (d, s') := fin_len d (by rw [h.len, h'.len])
theorem Bag.plain {n : Nat} {p q s : STO} (h : Bag n p q s) (hp : plainS p) (hq : plainS q) : plainS s := by
  obtain ⟨cs, i, d, st, c, rfl, _⟩ := h
  intro n
  rw [List.all_append, List.all_cons, hp n, hq n, Bool.and_true, Bool.true_and]
  show tokLtA n [dI cs, _, _, _, _] = true
  rw [tokLtA, tokLt_dI]
  rfl
theorem Bag.first {n : Nat} {p q s : STO} {x : Cell} (h : Bag n p q s) (hp : p[0]? = some x) : s[0]? = some x := by
  obtain ⟨cs, i, d, st, c, rfl, _⟩ := h
  have : 0 < p.length := (List.getElem?_eq_some_iff.mp hp).1
  rw [List.getElem?_append_left this]
  exact hp
theorem ix_tok {p q : STO} {ds : List D} {i : Int} {d : D} (h : atI ds i = some d) : dIdx (p ++ .lst ds :: q) (tokD p.length) (.int i) = some d := by
  have e := isTok_tok p.length
  unfold tokD at e ⊢
  unfold dIdx
  simp only
  rw [e, Option.bind_some, mid_cell, Option.bind_some]
  exact h
theorem sSto_mid {p q : STO} {ds : List D} {d : D} {f1 f2 f3 : Ev} {env : J.Env} {n : Int} {m : Nat} (h1 : f3 (see [] env) (p ++ .lst ds :: q) = some (d, p ++ .lst ds :: q)) (h2 : f1 (see [] env) (p ++ .lst ds :: q) = some (tokD p.length, p ++ .lst ds :: q)) (h3 : f2 (see [] env) (p ++ .lst ds :: q) = some (.int n, p ++ .lst ds :: q)) (h4 : ixN ds.length n = some m) : sSto [] f1 f2 f3 env (p ++ .lst ds :: q) = some (.nx, env, p ++ .lst (ds.set m d) :: q) := by
  rw [sSto_ok h1 h2 h3 mid_cell h4, mid_set]
/-- one turn of the stirring -/
theorem stir_turn {p q : STO} {cs : List Int} {i d st c f : Int} {a1 a3 a4 : Slot} (hs : 0 ≤ st ∧ st < 2147483647) (hc : 0 ≤ c ∧ c < 2 ^ 60) (hf : 0 ≤ f ∧ f < 2 ^ 60) : ∃ st' f', 0 ≤ st' ∧ st' < 2147483647 ∧ 0 ≤ f' ∧ f' < (f + 1) * 2 ^ 30 ∧
    ∃ m, l__law_stirred_1 [.sh (tokD p.length), a1, .sh (.int f), a3, a4] (p ++ bagC cs i d st c :: q) = some (.nx, [.sh (tokD p.length), a1, .sh (.int f'), a3, .sh (.int m)], p ++ bagC cs i d st' (c + 1) :: q) := by
  obtain ⟨m, em⟩ : ∃ m, m = st ^ (3 : Int).toNat + 69621 * st + 1031 * (c + 1) + 1 := ⟨_, rfl⟩
  have g1 : 0 ≤ m % 2147483647 ∧ m % 2147483647 < 2147483647 := ⟨Int.emod_nonneg _ (by decide), Int.emod_lt_of_pos _ (by decide)⟩
  refine ⟨m % 2147483647, f * 134217728 + m % 2147483647 / 16, g1.1, g1.2, by omega, by omega, m, ?_⟩
  unfold l__law_stirred_1
  refine sSeq_nx (sSto_mid (d := .int (c + 1)) (n := 4) (m := 4) ?_ (eVar_ok rfl) eC_ok rfl) ?_
  · repeat' first | ((with_reducible show eC _ _ _ = _); exact eC_ok) | ((with_reducible show aN _ _ = _); exact aN_ok) | ((with_reducible show oN _ _ = _); exact oN_ok) | ((with_reducible show eVar _ _ _ = _); exact eVar_ok rfl) | ((with_reducible show dIdx _ _ _ = _); exact ix_tok rfl) | with_reducible apply aC_ok | with_reducible apply aApp_ok | with_reducible apply eCall_ok | with_reducible apply eBin_ok | with_reducible apply eUn_ok | with_reducible apply eOp_ok | with_reducible apply eIdx_ok | with_reducible apply eLst_ok | with_reducible apply eTup_ok | with_reducible apply bT_ok | with_reducible apply nT_ok | with_reducible apply oS_ok | with_reducible apply eSl_ok | ((with_reducible show dAdd _ _ = _); rfl) | ((with_reducible show dSub _ _ = _); rfl) | ((with_reducible show dNeg _ = _); rfl) | ((with_reducible show dNot _ = _); rfl) | ((with_reducible show cLen _ = _); rfl) | ((with_reducible show cInt _ = _); rfl) | ((with_reducible show cAbs _ = _); rfl) | ((with_reducible show decide _ = _); rfl) | ((with_reducible show dIsi _ _ = _); rfl) | ((with_reducible show cList _ = _); rfl) | ((with_reducible show dIsi2 _ _ _ = _); rfl) | ((with_reducible show cMax _ = _); rfl) | ((with_reducible show cMin _ = _); rfl) | ((with_reducible show pick _ _ _ = _); rfl) | ((with_reducible show dBits _ = _); rfl) | ((with_reducible show dIdx _ _ _ = _); rfl)
  refine sSeq_nx (sSet_ok (d := .int m) (s1 := p ++ bagC cs i d st (c + 1) :: q) ?_) ?_
  · rw [em]
    repeat' first | ((with_reducible show eC _ _ _ = _); exact eC_ok) | ((with_reducible show aN _ _ = _); exact aN_ok) | ((with_reducible show oN _ _ = _); exact oN_ok) | ((with_reducible show eVar _ _ _ = _); exact eVar_ok rfl) | ((with_reducible show dIdx _ _ _ = _); exact ix_tok rfl) | ((with_reducible show dPow _ _ = _); exact dPow_ok (by omega) (by decide)) | ((with_reducible show dMul _ _ = _); exact dMul_ok (by decide) (by omega)) | with_reducible apply aC_ok | with_reducible apply aApp_ok | with_reducible apply eCall_ok | with_reducible apply eBin_ok | with_reducible apply eUn_ok | with_reducible apply eOp_ok | with_reducible apply eIdx_ok | with_reducible apply eLst_ok | with_reducible apply eTup_ok | with_reducible apply bT_ok | with_reducible apply nT_ok | with_reducible apply oS_ok | with_reducible apply eSl_ok | ((with_reducible show dAdd _ _ = _); rfl) | ((with_reducible show dSub _ _ = _); rfl) | ((with_reducible show dNeg _ = _); rfl) | ((with_reducible show dNot _ = _); rfl) | ((with_reducible show cLen _ = _); rfl) | ((with_reducible show cInt _ = _); rfl) | ((with_reducible show cAbs _ = _); rfl) | ((with_reducible show decide _ = _); rfl) | ((with_reducible show dIsi _ _ = _); rfl) | ((with_reducible show cList _ = _); rfl) | ((with_reducible show dIsi2 _ _ _ = _); rfl) | ((with_reducible show cMax _ = _); rfl) | ((with_reducible show cMin _ = _); rfl) | ((with_reducible show pick _ _ _ = _); rfl) | ((with_reducible show dBits _ = _); rfl) | ((with_reducible show dIdx _ _ _ = _); rfl)
  have hm : dMod (.int m) (.int 2147483647) = some (.int (m % 2147483647)) := dMod_ok (by decide)
  generalize m % 2147483647 = u at g1 hm ⊢
  refine sSeq_nx (sSto_mid (ds := [dI cs, .int i, .int d, .int st, .int (c + 1)]) (d := .int u) (n := 3) (m := 3) ?_ (eVar_ok rfl) eC_ok rfl) ?_
  · repeat' first | ((with_reducible show eC _ _ _ = _); exact eC_ok) | ((with_reducible show aN _ _ = _); exact aN_ok) | ((with_reducible show oN _ _ = _); exact oN_ok) | ((with_reducible show eVar _ _ _ = _); exact eVar_ok rfl) | ((with_reducible show dMod _ _ = _); exact hm) | with_reducible apply aC_ok | with_reducible apply aApp_ok | with_reducible apply eCall_ok | with_reducible apply eBin_ok | with_reducible apply eUn_ok | with_reducible apply eOp_ok | with_reducible apply eIdx_ok | with_reducible apply eLst_ok | with_reducible apply eTup_ok | with_reducible apply bT_ok | with_reducible apply nT_ok | with_reducible apply oS_ok | with_reducible apply eSl_ok | ((with_reducible show dAdd _ _ = _); rfl) | ((with_reducible show dSub _ _ = _); rfl) | ((with_reducible show dNeg _ = _); rfl) | ((with_reducible show dNot _ = _); rfl) | ((with_reducible show cLen _ = _); rfl) | ((with_reducible show cInt _ = _); rfl) | ((with_reducible show cAbs _ = _); rfl) | ((with_reducible show decide _ = _); rfl) | ((with_reducible show dIsi _ _ = _); rfl) | ((with_reducible show cList _ = _); rfl) | ((with_reducible show dIsi2 _ _ _ = _); rfl) | ((with_reducible show cMax _ = _); rfl) | ((with_reducible show cMin _ = _); rfl) | ((with_reducible show pick _ _ _ = _); rfl) | ((with_reducible show dBits _ = _); rfl) | ((with_reducible show dIdx _ _ _ = _); rfl)
  refine sSeq_nx (e1 := [.sh (tokD p.length), a1, .sh (.int (f * 134217728 + u / 16)), a3, .sh (.int m)]) (s1 := p ++ bagC cs i d u (c + 1) :: q) (sSet_ok (d := .int (f * 134217728 + u / 16)) (s1 := p ++ bagC cs i d u (c + 1) :: q) ?_) rfl
  repeat' first | ((with_reducible show eC _ _ _ = _); exact eC_ok) | ((with_reducible show aN _ _ = _); exact aN_ok) | ((with_reducible show oN _ _ = _); exact oN_ok) | ((with_reducible show eVar _ _ _ = _); exact eVar_ok rfl) | ((with_reducible show dIdx _ _ _ = _); exact ix_tok (ds := [dI cs, .int i, .int d, .int u, .int (c + 1)]) rfl) | ((with_reducible show dMul _ _ = _); exact dMul_ok (by omega) (by decide)) | ((with_reducible show dFdiv _ _ = _); exact dFdiv_ok (by decide) (by decide)) | with_reducible apply aC_ok | with_reducible apply aApp_ok | with_reducible apply eCall_ok | with_reducible apply eBin_ok | with_reducible apply eUn_ok | with_reducible apply eOp_ok | with_reducible apply eIdx_ok | with_reducible apply eLst_ok | with_reducible apply eTup_ok | with_reducible apply bT_ok | with_reducible apply nT_ok | with_reducible apply oS_ok | with_reducible apply eSl_ok | ((with_reducible show dAdd _ _ = _); rfl) | ((with_reducible show dSub _ _ = _); rfl) | ((with_reducible show dNeg _ = _); rfl) | ((with_reducible show dNot _ = _); rfl) | ((with_reducible show cLen _ = _); rfl) | ((with_reducible show cInt _ = _); rfl) | ((with_reducible show cAbs _ = _); rfl) | ((with_reducible show decide _ = _); rfl) | ((with_reducible show dIsi _ _ = _); rfl) | ((with_reducible show cList _ = _); rfl) | ((with_reducible show dIsi2 _ _ _ = _); rfl) | ((with_reducible show cMax _ = _); rfl) | ((with_reducible show cMin _ = _); rfl) | ((with_reducible show pick _ _ _ = _); rfl) | ((with_reducible show dBits _ = _); rfl) | ((with_reducible show dIdx _ _ _ = _); rfl)
theorem stir_loop {p q : STO} {cs : List Int} {i d : Int} {a1 : Slot} : ∀ (k j : Nat) (st c f : Int) (a3 a4 : Slot), k ≤ 2 → 0 ≤ st ∧ st < 2147483647 → 0 ≤ c ∧ c < 2 ^ 50 + j → j + k ≤ 2 → 0 ≤ f ∧ f + 1 ≤ 2 ^ (30 * j) →
    ∃ st' f' a3' a4', 0 ≤ st' ∧ st' < 2147483647 ∧ 0 ≤ f' ∧ f' < 2 ^ 100 ∧ forL (bN 3) l__law_stirred_1 (rgD (j : Int) 1 k) [.sh (tokD p.length), a1, .sh (.int f), a3, a4] (p ++ bagC cs i d st c :: q) = some (.nx, [.sh (tokD p.length), a1, .sh (.int f'), a3', a4'], p ++ bagC cs i d st' (c + k) :: q)
  | 0, j, st, c, f, a3, a4, hk, hs, hc, hj, hf => ⟨st, f, a3, a4, hs.1, hs.2, hf.1, by
      have : j = 0 ∨ j = 1 ∨ j = 2 := by omega
      rcases this with rfl | rfl | rfl <;> omega, by rw [show c + ((0 : Nat) : Int) = c by omega]; rfl⟩
  | k + 1, j, st, c, f, a3, a4, hk, hs, hc, hj, hf => by
    have hj2 : j = 0 ∨ j = 1 := by omega
    obtain ⟨st1, f1, h1, h2, h3, h4, m, e1⟩ := stir_turn (p := p) (q := q) (cs := cs) (i := i) (d := d) (a1 := a1) (a3 := .sh (.int j)) (a4 := a4) hs (c := c) ⟨hc.1, by omega⟩ (f := f) ⟨hf.1, by rcases hj2 with rfl | rfl <;> omega⟩
    obtain ⟨st2, f2, b3, b4, g1, g2, g3, g4, e2⟩ := stir_loop (p := p) (q := q) (cs := cs) (i := i) (d := d) (a1 := a1) k (j + 1) st1 (c + 1) f1 (.sh (.int j)) (.sh (.int m)) (by omega) ⟨h1, h2⟩ ⟨by omega, by omega⟩ (by omega) ⟨h3, by rcases hj2 with rfl | rfl <;> omega⟩
    refine ⟨st2, f2, b3, b4, g1, g2, g3, g4, ?_⟩
    have er : rgD (j : Int) 1 (k + 1) = .int j :: rgD ((j + 1 : Nat) : Int) 1 k := by
      unfold rgD
      rw [List.range_succ_eq_map, List.map_cons, List.map_map]
      refine congr (congrArg _ ?_) (List.map_congr_left fun i _ => ?_)
      · simp
      · simp only [Function.comp]
        congr 1
        omega
    rw [er]
    rw [show c + ((k + 1 : Nat) : Int) = c + 1 + k by omega]
    exact forL_cons (by simp) rfl e1 e2
theorem bits_lt {w : Int} (h0 : 0 < w) (hw : w < 2 ^ 40) : ∃ k : Nat, k < 2 ∧ ((Builtin.Int.intBits w : Nat) : Int) / 27 = k := by
  refine ⟨Builtin.Int.intBits w / 27, ?_, by omega⟩
  have : Builtin.Int.intBits w ≤ 40 := by
    unfold Builtin.Int.intBits
    split
    · omega
    · rename_i h
      have h1 : w.natAbs < 2 ^ 40 := by omega
      have := (Nat.log2_lt (by omega)).mpr h1
      omega
  omega
theorem stirred_eq {n : Nat} {p q : STO} {cs : List Int} {i : Nat} {d st c w : Int} (h : BagNum n cs i d st c) (hn : n < 2 ^ 50) (h0 : 0 < w) (hw : w < 2 ^ 40) : ∃ v st' c', 0 ≤ v ∧ v < w ∧ BagNum (n + 2) cs i d st' c' ∧ F__law_stirred [tokD p.length, .int w] (p ++ bagC cs i d st c :: q) = some (.int v, p ++ bagC cs i d st' c' :: q) := by
  obtain ⟨k, hk, ek⟩ := bits_lt h0 hw
  have hc := h.c
  obtain ⟨st', f', a3, a4, g1, g2, g3, g4, e1⟩ := stir_loop (p := p) (q := q) (cs := cs) (i := i) (d := d) (a1 := .sh (.int w)) (k + 1) 0 st c 0 .no .no (by omega) h.st ⟨hc.1, by omega⟩ (by omega) (by decide)
  refine ⟨f' % w, st', c + ((k + 1 : Nat) : Int), Int.emod_nonneg _ (by omega), Int.emod_lt_of_pos _ h0, ⟨h.nn, h.i, h.len, h.d, ⟨g1, g2⟩, by omega, by omega⟩, ?_⟩
  refine fnD_rt (d := .int (f' % w)) (e1 := [.sh (tokD p.length), .sh (.int w), .sh (.int f'), a3, a4]) (s1 := p ++ bagC cs i d st' (c + ((k + 1 : Nat) : Int)) :: q) ?_ (fin_len _ (by simp))
  unfold b__law_stirred
  refine sSeq_nx (sSet_ok (d := .int 0) eC_ok) ?_
  refine sSeq_nx (sFor0_ok (ds := rgD ((0 : Nat) : Int) 1 (k + 1)) (s1 := p ++ bagC cs i d st c :: q) (iU_ok (d := .int ((k + 1 : Nat) : Int)) ?_ ?_) e1) ?_
  · have e2 : dFdiv (.int ((Builtin.Int.intBits w : Nat) : Int)) (.int 27) = some (.int (k : Int)) := by rw [← ek]; exact dFdiv_ok (by decide) (by decide)
    have e3 : dAdd (.int 1) (.int (k : Int)) = some (.int ((k + 1 : Nat) : Int)) := by show some (PyData.int (1 + (k : Int))) = _; congr 2; omega
    repeat' first | ((with_reducible show eC _ _ _ = _); exact eC_ok) | ((with_reducible show aN _ _ = _); exact aN_ok) | ((with_reducible show oN _ _ = _); exact oN_ok) | ((with_reducible show eVar _ _ _ = _); exact eVar_ok rfl) | ((with_reducible show dFdiv _ _ = _); exact e2) | ((with_reducible show dAdd _ _ = _); exact e3) | with_reducible apply aC_ok | with_reducible apply aApp_ok | with_reducible apply eCall_ok | with_reducible apply eBin_ok | with_reducible apply eUn_ok | with_reducible apply eOp_ok | with_reducible apply eIdx_ok | with_reducible apply eLst_ok | with_reducible apply eTup_ok | with_reducible apply bT_ok | with_reducible apply nT_ok | with_reducible apply oS_ok | with_reducible apply eSl_ok | ((with_reducible show dAdd _ _ = _); rfl) | ((with_reducible show dSub _ _ = _); rfl) | ((with_reducible show dNeg _ = _); rfl) | ((with_reducible show dNot _ = _); rfl) | ((with_reducible show cLen _ = _); rfl) | ((with_reducible show cInt _ = _); rfl) | ((with_reducible show cAbs _ = _); rfl) | ((with_reducible show decide _ = _); rfl) | ((with_reducible show dIsi _ _ = _); rfl) | ((with_reducible show cList _ = _); rfl) | ((with_reducible show dIsi2 _ _ _ = _); rfl) | ((with_reducible show cMax _ = _); rfl) | ((with_reducible show cMin _ = _); rfl) | ((with_reducible show pick _ _ _ = _); rfl) | ((with_reducible show dBits _ = _); rfl) | ((with_reducible show dIdx _ _ _ = _); rfl)
  · rw [rg1_eq, if_pos (inRg_nat (by omega))]; rfl
  · refine sSeq_rt (sRet_ok ?_)
    repeat' first | ((with_reducible show eC _ _ _ = _); exact eC_ok) | ((with_reducible show aN _ _ = _); exact aN_ok) | ((with_reducible show oN _ _ = _); exact oN_ok) | ((with_reducible show eVar _ _ _ = _); exact eVar_ok rfl) | ((with_reducible show dMod _ _ = _); exact dMod_ok h0) | with_reducible apply aC_ok | with_reducible apply aApp_ok | with_reducible apply eCall_ok | with_reducible apply eBin_ok | with_reducible apply eUn_ok | with_reducible apply eOp_ok | with_reducible apply eIdx_ok | with_reducible apply eLst_ok | with_reducible apply eTup_ok | with_reducible apply bT_ok | with_reducible apply nT_ok | with_reducible apply oS_ok | with_reducible apply eSl_ok | ((with_reducible show dAdd _ _ = _); rfl) | ((with_reducible show dSub _ _ = _); rfl) | ((with_reducible show dNeg _ = _); rfl) | ((with_reducible show dNot _ = _); rfl) | ((with_reducible show cLen _ = _); rfl) | ((with_reducible show cInt _ = _); rfl) | ((with_reducible show cAbs _ = _); rfl) | ((with_reducible show decide _ = _); rfl) | ((with_reducible show dIsi _ _ = _); rfl) | ((with_reducible show cList _ = _); rfl) | ((with_reducible show dIsi2 _ _ _ = _); rfl) | ((with_reducible show cMax _ = _); rfl) | ((with_reducible show cMin _ = _); rfl) | ((with_reducible show pick _ _ _ = _); rfl) | ((with_reducible show dBits _ = _); rfl) | ((with_reducible show dIdx _ _ _ = _); rfl)
/-- one draw -/
theorem draw_eq {n : Nat} {p q s : STO} (h : Bag n p q s) (hn : n < 2 ^ 50) {w : Int} (h0 : 0 < w) (hw : w < 2 ^ 40) : ∃ v s', F__law_draw [tokD p.length, .int w] s = some (.int v, s') ∧ 0 ≤ v ∧ v < w ∧ Bag (n + 2) p q s' := by
  obtain ⟨cs, i, d, st, c, rfl, h⟩ := h
  have hwa : w.natAbs < 2 ^ 250 := by omega
  have hlen : ((cs.map PyData.int).length : Nat) = cs.length := List.length_map _
  -- behind the choice
  have tail : ∀ (i' : Nat) (d' : Int), 0 ≤ d' → i' ≤ cs.length → (∀ x, sSeq (sSet 2 0 [] (eBin dMod (eOp cInt (aC (eIdx (eVar 0) (eC (.int 2))) aN)) (eVar 1)))
    (sSeq (sSto [] (eVar 0) (eC (.int 2)) (eBin dFdiv (eIdx (eVar 0) (eC (.int 2))) (eVar 1)))
    (sSeq (sRet [] (eVar 2))
    sNil)) [.sh (tokD p.length), .sh (.int w), x] (p ++ bagC cs i' d' st c :: q) = some (.rt (.int (d' % w)), [.sh (tokD p.length), .sh (.int w), .sh (.int (d' % w))], p ++ bagC cs i' (d' / w) st c :: q)) := by
    intro i' d' hd hi x
    refine sSeq_nx (sSet_ok (d := .int (d' % w)) (s1 := p ++ bagC cs i' d' st c :: q) ?_) ?_
    · repeat' first | ((with_reducible show eC _ _ _ = _); exact eC_ok) | ((with_reducible show aN _ _ = _); exact aN_ok) | ((with_reducible show oN _ _ = _); exact oN_ok) | ((with_reducible show eVar _ _ _ = _); exact eVar_ok rfl) | ((with_reducible show dIdx _ _ _ = _); exact ix_tok rfl) | ((with_reducible show dMod _ _ = _); exact dMod_ok h0) | with_reducible apply aC_ok | with_reducible apply aApp_ok | with_reducible apply eCall_ok | with_reducible apply eBin_ok | with_reducible apply eUn_ok | with_reducible apply eOp_ok | with_reducible apply eIdx_ok | with_reducible apply eLst_ok | with_reducible apply eTup_ok | with_reducible apply bT_ok | with_reducible apply nT_ok | with_reducible apply oS_ok | with_reducible apply eSl_ok | ((with_reducible show dAdd _ _ = _); rfl) | ((with_reducible show dSub _ _ = _); rfl) | ((with_reducible show dNeg _ = _); rfl) | ((with_reducible show dNot _ = _); rfl) | ((with_reducible show cLen _ = _); rfl) | ((with_reducible show cInt _ = _); rfl) | ((with_reducible show cAbs _ = _); rfl) | ((with_reducible show decide _ = _); rfl) | ((with_reducible show dIsi _ _ = _); rfl) | ((with_reducible show cList _ = _); rfl) | ((with_reducible show dIsi2 _ _ _ = _); rfl) | ((with_reducible show cMax _ = _); rfl) | ((with_reducible show cMin _ = _); rfl) | ((with_reducible show pick _ _ _ = _); rfl) | ((with_reducible show dBits _ = _); rfl) | ((with_reducible show dIdx _ _ _ = _); rfl)
    refine sSeq_nx (sSto_mid (d := .int (d' / w)) (n := 2) (m := 2) ?_ (eVar_ok rfl) eC_ok rfl) ?_
    · repeat' first | ((with_reducible show eC _ _ _ = _); exact eC_ok) | ((with_reducible show aN _ _ = _); exact aN_ok) | ((with_reducible show oN _ _ = _); exact oN_ok) | ((with_reducible show eVar _ _ _ = _); exact eVar_ok rfl) | ((with_reducible show dIdx _ _ _ = _); exact ix_tok rfl) | ((with_reducible show dFdiv _ _ = _); exact dFdiv_ok h0 hwa) | with_reducible apply aC_ok | with_reducible apply aApp_ok | with_reducible apply eCall_ok | with_reducible apply eBin_ok | with_reducible apply eUn_ok | with_reducible apply eOp_ok | with_reducible apply eIdx_ok | with_reducible apply eLst_ok | with_reducible apply eTup_ok | with_reducible apply bT_ok | with_reducible apply nT_ok | with_reducible apply oS_ok | with_reducible apply eSl_ok | ((with_reducible show dAdd _ _ = _); rfl) | ((with_reducible show dSub _ _ = _); rfl) | ((with_reducible show dNeg _ = _); rfl) | ((with_reducible show dNot _ = _); rfl) | ((with_reducible show cLen _ = _); rfl) | ((with_reducible show cInt _ = _); rfl) | ((with_reducible show cAbs _ = _); rfl) | ((with_reducible show decide _ = _); rfl) | ((with_reducible show dIsi _ _ = _); rfl) | ((with_reducible show cList _ = _); rfl) | ((with_reducible show dIsi2 _ _ _ = _); rfl) | ((with_reducible show cMax _ = _); rfl) | ((with_reducible show cMin _ = _); rfl) | ((with_reducible show pick _ _ _ = _); rfl) | ((with_reducible show dBits _ = _); rfl) | ((with_reducible show dIdx _ _ _ = _); rfl)
    exact sSeq_rt (sRet_ok (eVar_ok rfl))
  by_cases hd : d = 0
  · subst hd
    have t1 : bT (eBin dEq (eIdx (eVar 0) (eC (.int 2))) (eC (.int 0))) (see [] [.sh (tokD p.length), .sh (.int w), .no]) (p ++ bagC cs i 0 st c :: q) = some (true, p ++ bagC cs i 0 st c :: q) := by repeat' first | ((with_reducible show eC _ _ _ = _); exact eC_ok) | ((with_reducible show aN _ _ = _); exact aN_ok) | ((with_reducible show oN _ _ = _); exact oN_ok) | ((with_reducible show eVar _ _ _ = _); exact eVar_ok rfl) | ((with_reducible show dIdx _ _ _ = _); exact ix_tok rfl) | ((with_reducible show dEq _ _ = _); exact dEq_t rfl) | with_reducible apply aC_ok | with_reducible apply aApp_ok | with_reducible apply eCall_ok | with_reducible apply eBin_ok | with_reducible apply eUn_ok | with_reducible apply eOp_ok | with_reducible apply eIdx_ok | with_reducible apply eLst_ok | with_reducible apply eTup_ok | with_reducible apply bT_ok | with_reducible apply nT_ok | with_reducible apply oS_ok | with_reducible apply eSl_ok | ((with_reducible show dAdd _ _ = _); rfl) | ((with_reducible show dSub _ _ = _); rfl) | ((with_reducible show dNeg _ = _); rfl) | ((with_reducible show dNot _ = _); rfl) | ((with_reducible show cLen _ = _); rfl) | ((with_reducible show cInt _ = _); rfl) | ((with_reducible show cAbs _ = _); rfl) | ((with_reducible show decide _ = _); rfl) | ((with_reducible show dIsi _ _ = _); rfl) | ((with_reducible show cList _ = _); rfl) | ((with_reducible show dIsi2 _ _ _ = _); rfl) | ((with_reducible show cMax _ = _); rfl) | ((with_reducible show cMin _ = _); rfl) | ((with_reducible show pick _ _ _ = _); rfl) | ((with_reducible show dBits _ = _); rfl) | ((with_reducible show dIdx _ _ _ = _); rfl)
    by_cases hi : i < cs.length
    · have hx := h.nn _ (List.getElem_mem hi)
      refine ⟨cs[i] % w, p ++ bagC cs (i + 1 : Nat) (cs[i] / w) st c :: q, ?_, Int.emod_nonneg _ (by omega), Int.emod_lt_of_pos _ h0, cs, i + 1, _, _, _, rfl, h.nn, hi, h.len, Int.ediv_nonneg hx (by omega), h.st, h.c.1, by have := h.c.2; omega⟩
      refine fnD_rt (d := .int (cs[i] % w)) (e1 := [.sh (tokD p.length), .sh (.int w), .sh (.int (cs[i] % w))]) (s1 := p ++ bagC cs (i + 1 : Nat) (cs[i] / w) st c :: q) ?_ (fin_len _ (by simp))
      unfold b__law_draw
      have hlt : dLt (.int (i : Nat)) (.int ((cs.map PyData.int).length : Nat)) = some (.bool true) := dLt_t (by rw [hlen]; omega)
      have t2 : bT (eBin dLt (eIdx (eVar 0) (eC (.int 1))) (eOp cLen (aC (eIdx (eVar 0) (eC (.int 0))) aN))) (see [] [.sh (tokD p.length), .sh (.int w), .no]) (p ++ bagC cs i 0 st c :: q) = some (true, p ++ bagC cs i 0 st c :: q) := by repeat' first | ((with_reducible show eC _ _ _ = _); exact eC_ok) | ((with_reducible show aN _ _ = _); exact aN_ok) | ((with_reducible show oN _ _ = _); exact oN_ok) | ((with_reducible show eVar _ _ _ = _); exact eVar_ok rfl) | ((with_reducible show dIdx _ _ _ = _); exact ix_tok rfl) | ((with_reducible show dLt _ _ = _); exact hlt) | with_reducible apply aC_ok | with_reducible apply aApp_ok | with_reducible apply eCall_ok | with_reducible apply eBin_ok | with_reducible apply eUn_ok | with_reducible apply eOp_ok | with_reducible apply eIdx_ok | with_reducible apply eLst_ok | with_reducible apply eTup_ok | with_reducible apply bT_ok | with_reducible apply nT_ok | with_reducible apply oS_ok | with_reducible apply eSl_ok | ((with_reducible show dAdd _ _ = _); rfl) | ((with_reducible show dSub _ _ = _); rfl) | ((with_reducible show dNeg _ = _); rfl) | ((with_reducible show dNot _ = _); rfl) | ((with_reducible show cLen _ = _); rfl) | ((with_reducible show cInt _ = _); rfl) | ((with_reducible show cAbs _ = _); rfl) | ((with_reducible show decide _ = _); rfl) | ((with_reducible show dIsi _ _ = _); rfl) | ((with_reducible show cList _ = _); rfl) | ((with_reducible show dIsi2 _ _ _ = _); rfl) | ((with_reducible show cMax _ = _); rfl) | ((with_reducible show cMin _ = _); rfl) | ((with_reducible show pick _ _ _ = _); rfl) | ((with_reducible show dBits _ = _); rfl) | ((with_reducible show dIdx _ _ _ = _); rfl)
      refine sSeq_nx (e1 := [.sh (tokD p.length), .sh (.int w), .no]) (s1 := p ++ bagC cs (i + 1 : Nat) cs[i] st c :: q) (sIf_t (aT_t t1 t2) ?_) (tail (i + 1) cs[i] hx hi _)
      · refine sSeq_nx (sSto_mid (d := .int cs[i]) (n := 2) (m := 2) ?_ (eVar_ok rfl) eC_ok rfl) ?_
        · have hat : dIdx (p ++ bagC cs i 0 st c :: q) (dI cs) (.int (i : Nat)) = some (.int cs[i]) := atI_nat rfl (by rw [List.getElem?_map, List.getElem?_eq_getElem hi]; rfl)
          repeat' first | ((with_reducible show eC _ _ _ = _); exact eC_ok) | ((with_reducible show aN _ _ = _); exact aN_ok) | ((with_reducible show oN _ _ = _); exact oN_ok) | ((with_reducible show eVar _ _ _ = _); exact eVar_ok rfl) | ((with_reducible show dIdx _ _ _ = _); exact hat) | ((with_reducible show dIdx _ _ _ = _); exact ix_tok rfl) | with_reducible apply aC_ok | with_reducible apply aApp_ok | with_reducible apply eCall_ok | with_reducible apply eBin_ok | with_reducible apply eUn_ok | with_reducible apply eOp_ok | with_reducible apply eIdx_ok | with_reducible apply eLst_ok | with_reducible apply eTup_ok | with_reducible apply bT_ok | with_reducible apply nT_ok | with_reducible apply oS_ok | with_reducible apply eSl_ok | ((with_reducible show dAdd _ _ = _); rfl) | ((with_reducible show dSub _ _ = _); rfl) | ((with_reducible show dNeg _ = _); rfl) | ((with_reducible show dNot _ = _); rfl) | ((with_reducible show cLen _ = _); rfl) | ((with_reducible show cInt _ = _); rfl) | ((with_reducible show cAbs _ = _); rfl) | ((with_reducible show decide _ = _); rfl) | ((with_reducible show dIsi _ _ = _); rfl) | ((with_reducible show cList _ = _); rfl) | ((with_reducible show dIsi2 _ _ _ = _); rfl) | ((with_reducible show cMax _ = _); rfl) | ((with_reducible show cMin _ = _); rfl) | ((with_reducible show pick _ _ _ = _); rfl) | ((with_reducible show dBits _ = _); rfl) | ((with_reducible show dIdx _ _ _ = _); rfl)
        refine sSeq_nx (e1 := [.sh (tokD p.length), .sh (.int w), .no]) (s1 := p ++ bagC cs (i + 1 : Nat) cs[i] st c :: q) (sSto_mid (ds := [dI cs, .int (i : Nat), .int cs[i], .int st, .int c]) (d := .int (i + 1 : Nat)) (n := 1) (m := 1) ?_ (eVar_ok rfl) eC_ok rfl) rfl
        repeat' first | ((with_reducible show eC _ _ _ = _); exact eC_ok) | ((with_reducible show aN _ _ = _); exact aN_ok) | ((with_reducible show oN _ _ = _); exact oN_ok) | ((with_reducible show eVar _ _ _ = _); exact eVar_ok rfl) | ((with_reducible show dIdx _ _ _ = _); exact ix_tok rfl) | with_reducible apply aC_ok | with_reducible apply aApp_ok | with_reducible apply eCall_ok | with_reducible apply eBin_ok | with_reducible apply eUn_ok | with_reducible apply eOp_ok | with_reducible apply eIdx_ok | with_reducible apply eLst_ok | with_reducible apply eTup_ok | with_reducible apply bT_ok | with_reducible apply nT_ok | with_reducible apply oS_ok | with_reducible apply eSl_ok | ((with_reducible show dAdd _ _ = _); rfl) | ((with_reducible show dSub _ _ = _); rfl) | ((with_reducible show dNeg _ = _); rfl) | ((with_reducible show dNot _ = _); rfl) | ((with_reducible show cLen _ = _); rfl) | ((with_reducible show cInt _ = _); rfl) | ((with_reducible show cAbs _ = _); rfl) | ((with_reducible show decide _ = _); rfl) | ((with_reducible show dIsi _ _ = _); rfl) | ((with_reducible show cList _ = _); rfl) | ((with_reducible show dIsi2 _ _ _ = _); rfl) | ((with_reducible show cMax _ = _); rfl) | ((with_reducible show cMin _ = _); rfl) | ((with_reducible show pick _ _ _ = _); rfl) | ((with_reducible show dBits _ = _); rfl) | ((with_reducible show dIdx _ _ _ = _); rfl)
    · obtain ⟨v, st', c', g1, g2, g3, e1⟩ := stirred_eq (p := p) (q := q) h hn h0 hw
      refine ⟨v, _, ?_, g1, g2, cs, i, 0, st', c', rfl, g3⟩
      refine fnD_rt (d := .int v) (e1 := [.sh (tokD p.length), .sh (.int w), .no]) (s1 := p ++ bagC cs i 0 st' c' :: q) ?_ (fin_len _ (by simp))
      unfold b__law_draw
      have hlt : dLt (.int (i : Nat)) (.int ((cs.map PyData.int).length : Nat)) = some (.bool false) := dLt_f (by rw [hlen]; omega)
      have t2 : bT (eBin dLt (eIdx (eVar 0) (eC (.int 1))) (eOp cLen (aC (eIdx (eVar 0) (eC (.int 0))) aN))) (see [] [.sh (tokD p.length), .sh (.int w), .no]) (p ++ bagC cs i 0 st c :: q) = some (false, p ++ bagC cs i 0 st c :: q) := by repeat' first | ((with_reducible show eC _ _ _ = _); exact eC_ok) | ((with_reducible show aN _ _ = _); exact aN_ok) | ((with_reducible show oN _ _ = _); exact oN_ok) | ((with_reducible show eVar _ _ _ = _); exact eVar_ok rfl) | ((with_reducible show dIdx _ _ _ = _); exact ix_tok rfl) | ((with_reducible show dLt _ _ = _); exact hlt) | with_reducible apply aC_ok | with_reducible apply aApp_ok | with_reducible apply eCall_ok | with_reducible apply eBin_ok | with_reducible apply eUn_ok | with_reducible apply eOp_ok | with_reducible apply eIdx_ok | with_reducible apply eLst_ok | with_reducible apply eTup_ok | with_reducible apply bT_ok | with_reducible apply nT_ok | with_reducible apply oS_ok | with_reducible apply eSl_ok | ((with_reducible show dAdd _ _ = _); rfl) | ((with_reducible show dSub _ _ = _); rfl) | ((with_reducible show dNeg _ = _); rfl) | ((with_reducible show dNot _ = _); rfl) | ((with_reducible show cLen _ = _); rfl) | ((with_reducible show cInt _ = _); rfl) | ((with_reducible show cAbs _ = _); rfl) | ((with_reducible show decide _ = _); rfl) | ((with_reducible show dIsi _ _ = _); rfl) | ((with_reducible show cList _ = _); rfl) | ((with_reducible show dIsi2 _ _ _ = _); rfl) | ((with_reducible show cMax _ = _); rfl) | ((with_reducible show cMin _ = _); rfl) | ((with_reducible show pick _ _ _ = _); rfl) | ((with_reducible show dBits _ = _); rfl) | ((with_reducible show dIdx _ _ _ = _); rfl)
      exact sSeq_rt (sIf_f (aT_t t1 t2) (sSeq_rt (sIf_t t1 (sSeq_rt (sRet_ok (eCall_ok (aApp_ok (aC_ok (eVar_ok rfl) (aC_ok (eVar_ok rfl) aN_ok)) aN_ok) e1))))))
  · have t1 : bT (eBin dEq (eIdx (eVar 0) (eC (.int 2))) (eC (.int 0))) (see [] [.sh (tokD p.length), .sh (.int w), .no]) (p ++ bagC cs i d st c :: q) = some (false, p ++ bagC cs i d st c :: q) := by repeat' first | ((with_reducible show eC _ _ _ = _); exact eC_ok) | ((with_reducible show aN _ _ = _); exact aN_ok) | ((with_reducible show oN _ _ = _); exact oN_ok) | ((with_reducible show eVar _ _ _ = _); exact eVar_ok rfl) | ((with_reducible show dIdx _ _ _ = _); exact ix_tok rfl) | ((with_reducible show dEq _ _ = _); exact dEq_f hd) | with_reducible apply aC_ok | with_reducible apply aApp_ok | with_reducible apply eCall_ok | with_reducible apply eBin_ok | with_reducible apply eUn_ok | with_reducible apply eOp_ok | with_reducible apply eIdx_ok | with_reducible apply eLst_ok | with_reducible apply eTup_ok | with_reducible apply bT_ok | with_reducible apply nT_ok | with_reducible apply oS_ok | with_reducible apply eSl_ok | ((with_reducible show dAdd _ _ = _); rfl) | ((with_reducible show dSub _ _ = _); rfl) | ((with_reducible show dNeg _ = _); rfl) | ((with_reducible show dNot _ = _); rfl) | ((with_reducible show cLen _ = _); rfl) | ((with_reducible show cInt _ = _); rfl) | ((with_reducible show cAbs _ = _); rfl) | ((with_reducible show decide _ = _); rfl) | ((with_reducible show dIsi _ _ = _); rfl) | ((with_reducible show cList _ = _); rfl) | ((with_reducible show dIsi2 _ _ _ = _); rfl) | ((with_reducible show cMax _ = _); rfl) | ((with_reducible show cMin _ = _); rfl) | ((with_reducible show pick _ _ _ = _); rfl) | ((with_reducible show dBits _ = _); rfl) | ((with_reducible show dIdx _ _ _ = _); rfl)
    have hd0 := h.d
    refine ⟨d % w, p ++ bagC cs i (d / w) st c :: q, ?_, Int.emod_nonneg _ (by omega), Int.emod_lt_of_pos _ h0, cs, i, _, _, _, rfl, h.nn, h.i, h.len, Int.ediv_nonneg hd0 (by omega), h.st, h.c.1, by have := h.c.2; omega⟩
    refine fnD_rt (d := .int (d % w)) (e1 := [.sh (tokD p.length), .sh (.int w), .sh (.int (d % w))]) (s1 := p ++ bagC cs i (d / w) st c :: q) ?_ (fin_len _ (by simp))
    unfold b__law_draw
    exact sSeq_nx (sIf_f (aT_f t1) (sSeq_nx (sIf_f t1 rfl) rfl)) (tail i d hd0 h.i _)
end K50
namespace J
open PySem PySem.Spec PyProof.Rows L2
theorem eIf_b {t : EvT} {f g : Ev} {vw : VW} {s s1 : STO} {b : Bool} {R : Option (D × STO)} (h1 : t vw s = some (b, s1)) (h2 : b = true → f vw s1 = R) (h3 : b = false → g vw s1 = R) : eIf t f g vw s = R := by
  unfold eIf
  rw [h1, Option.bind_some]
  cases b with
  | true => exact h2 rfl
  | false => exact h3 rfl
theorem dNe_bool (a b : Bool) : dNe (.bool a) (.bool b) = some (.bool (a != b)) := by cases a <;> cases b <;> rfl
theorem dEq_bool (a b : Bool) : dEq (.bool a) (.bool b) = some (.bool (a == b)) := by cases a <;> cases b <;> rfl
theorem dNe_f {i j : Int} (h : i = j) : dNe (.int i) (.int j) = some (.bool false) := by rw [dNe_int, decide_eq_true h]; rfl
theorem eChain_b {o1 o2 : D → D → Option D} {f g h : Ev} {vw : VW} {s : STO} {d1 d2 d3 : D} {b1 b2 : Bool} (h1 : f vw s = some (d1, s)) (h2 : g vw s = some (d2, s)) (h3 : h vw s = some (d3, s)) (k1 : o1 d1 d2 = some (.bool b1)) (k2 : o2 d2 d3 = some (.bool b2)) : eChain o1 o2 f g h vw s = some (.bool (b1 && b2), s) := by
  unfold eChain
  rw [h1, Option.bind_some, h2, Option.bind_some, k1, Option.bind_some]
  cases b1 with
  | true => simp only; rw [h3, Option.bind_some, k2]; rfl
  | false => rfl
theorem eAnd_b {f g : Ev} {vw : VW} {s : STO} {a b : Bool} (h1 : f vw s = some (.bool a, s)) (h2 : g vw s = some (.bool b, s)) : eAnd f g vw s = some (.bool (a && b), s) := by
  cases a with
  | true => exact eAnd_t h1 h2
  | false => exact eAnd_f h1
theorem dGt_int (i j : Int) : dGt (.int i) (.int j) = some (.bool (decide (j < i))) := rfl
theorem dGe_int (i j : Int) : dGe (.int i) (.int j) = some (.bool (decide (j ≤ i))) := rfl
theorem len_dI {f : Ev} {vw : VW} {s s1 : STO} {l : List Int} (h : f vw s = some (dI l, s1)) : eOp cLen (aC f aN) vw s = some (.int (l.length : Nat), s1) := eOp_ok (aC_ok h aN_ok) (by show some (PyData.int ((l.map PyData.int).length : Nat)) = _; rw [List.length_map])
theorem idx_dI {s : STO} {l : List Int} {k : Nat} (h : k < l.length) : dIdx s (dI l) (.int (k : Nat)) = some (.int l[k]) := atI_nat rfl (by rw [List.getElem?_map, List.getElem?_eq_getElem h]; rfl)
theorem idx_dL {s : STO} {l : List (List Int)} {k : Nat} (h : k < l.length) : dIdx s (dL l) (.int (k : Nat)) = some (dI l[k]) := atI_nat rfl (by rw [List.getElem?_map, List.getElem?_eq_getElem h]; rfl)
theorem dAdd_dIs {a b : List Int} (h : a.length + b.length ≤ 16777216) : dAdd (dI a) (dI b) = some (dI (a ++ b)) := by
  show (if (a.map PyData.int).length + (b.map PyData.int).length ≤ 16777216 then _ else _) = _
  rw [List.length_map, List.length_map, if_pos h, ← List.map_append]
theorem dAdd_dLs {a b : List (List Int)} (h : a.length + b.length ≤ 16777216) : dAdd (dL a) (dL b) = some (dL (a ++ b)) := by
  show (if (a.map dI).length + (b.map dI).length ≤ 16777216 then _ else _) = _
  rw [List.length_map, List.length_map, if_pos h, ← List.map_append]
theorem sAppI {i k : Nat} {g : Ev} {env : Env} {s s1 : STO} {d : D} {ds : List D} (h1 : g (see [] env) s = some (d, s1)) (h2 : env[i]? = some (.ow (k + 1) (.list ds))) (hl : ds.length < 16777216) : sApp i [] k g env s = some (.nx, env.set i (.ow (k + 1) (.list (ds ++ [d]))), s1) := by
  unfold sApp
  rw [h1, Option.bind_some, fzIf_nil, h2]
  show (if k = k ∧ ds.length < 16777216 then _ else _) = _
  rw [if_pos ⟨rfl, hl⟩]
end J
namespace K50
open PySem PySem.Spec PyProof.Rows L2 J
/-! ### the law's own functions on lists -/
/-- what is compared with itself -/
def alk : Nat → D → Bool
  | 0, _ => false
  | n + 1, .list ds => decide (ds.length ≤ 1000) && ds.all (alk n)
  | n + 1, .tuple ds => decide (ds.length ≤ 1000) && ds.all (alk n)
  | _ + 1, .bool _ => true
  | _ + 1, .int _ => true
  | _ + 1, .str _ => true
  | _ + 1, _ => false
theorem atI_list {ds : List D} {k : Nat} {x : D} (h : ds[k]? = some x) (s : STO) : dIdx s (.list ds) (.int (k : Nat)) = some x := atI_nat rfl h
theorem atI_tuple {ds : List D} {k : Nat} {x : D} (h : ds[k]? = some x) (s : STO) : dIdx s (.tuple ds) (.int (k : Nat)) = some x := atI_nat rfl h
theorem c_alike {R : FnD} {d : D} {ds : List D} {s : STO} (hd : d = .list ds ∨ d = .tuple ds) (hl : ds.length ≤ 1000) (h : ∀ x ∈ ds, R [x, x] s = some (.bool true, s)) (hlen : eOp cLen (aC (eVar 1) aN) (see [] [.sh d, .sh d, .no]) s = some (.int (ds.length : Nat), s)) : c__law_alike_1 R (see [] [.sh d, .sh d, .no]) s = some (.list ((comp ds.length).map fun _ => PyData.bool true), s) := by
  unfold c__law_alike_1
  refine eComp_map (comp ds.length) PyData.int (fun k => [(2, .int k)]) (fun _ => .bool true) (iU_ok hlen (rg1_ok (by omega))) (by rw [comp_len]; omega) (fun _ _ => rfl) fun k hk => ?_
  have hk' := mem_comp.mp hk
  obtain ⟨n, rfl⟩ : ∃ n : Nat, k = n := ⟨k.toNat, by omega⟩
  have hn : n < ds.length := by omega
  have e1 : dIdx s d (.int (n : Nat)) = some ds[n] := by
    rcases hd with rfl | rfl
    · exact atI_list (List.getElem?_eq_getElem hn) s
    · exact atI_tuple (List.getElem?_eq_getElem hn) s
  have e2 := h _ (List.getElem_mem hn)
  have e3 : eIdx (eVar 0) (eVar 2) (setV (wipeV (see [] [.sh d, .sh d, .no]) [2]) [(2, .int (n : Nat))]) s = some (ds[n], s) := eIdx_ok (eVar_ok rfl) (eVar_ok rfl) e1
  have e4 : eIdx (eVar 1) (eVar 2) (setV (wipeV (see [] [.sh d, .sh d, .no]) [2]) [(2, .int (n : Nat))]) s = some (ds[n], s) := eIdx_ok (eVar_ok rfl) (eVar_ok rfl) e1
  exact eCall_ok (aApp_ok (aC_ok e3 (aC_ok e4 aN_ok)) aN_ok) e2
theorem cAll_true (l : List Int) : cAll [.list (l.map fun _ => PyData.bool true)] = some (.bool true) := by
  have := cAll_map (fun _ : Int => true) l
  rw [List.all_eq_true.mpr fun _ _ => rfl] at this
  exact this
theorem alike_eq : ∀ (n : Nat) (d : D), alk n d = true → ∀ s, F__law_alike n [d, d] s = some (.bool true, s)
  | 0, d, h, s => by cases h
  | n + 1, d, h, s => by
    refine fnD_rt (d := .bool true) (e1 := [.sh d, .sh d, .no]) (s1 := s) ?_ (fin_self _ _)
    have hseq : ∀ ds : List D, (d = .list ds ∨ d = .tuple ds) → ds.length ≤ 1000 → (∀ x ∈ ds, alk n x = true) → b__law_alike (F__law_alike n) [.sh d, .sh d, .no] s = some (.rt (.bool true), [.sh d, .sh d, .no], s) := by
      intro ds hd hl ha
      have hlen : eOp cLen (aC (eVar 1) aN) (see [] [.sh d, .sh d, .no]) s = some (.int (ds.length : Nat), s) := by
        rcases hd with rfl | rfl
        · repeat' first | exact eC_ok | exact aN_ok | exact oN_ok | exact eVar_ok rfl | apply aC_ok | apply aApp_ok | apply eCall_ok | apply eBin_ok | apply eUn_ok | apply eOp_ok | apply eIdx_ok | apply eLst_ok | apply eTup_ok | apply bT_ok | apply nT_ok | apply oS_ok | apply eSl_ok | rfl
        · repeat' first | exact eC_ok | exact aN_ok | exact oN_ok | exact eVar_ok rfl | apply aC_ok | apply aApp_ok | apply eCall_ok | apply eBin_ok | apply eUn_ok | apply eOp_ok | apply eIdx_ok | apply eLst_ok | apply eTup_ok | apply bT_ok | apply nT_ok | apply oS_ok | apply eSl_ok | rfl
      have hlen0 : eOp cLen (aC (eVar 0) aN) (see [] [.sh d, .sh d, .no]) s = some (.int (ds.length : Nat), s) := by
        rcases hd with rfl | rfl
        · repeat' first | exact eC_ok | exact aN_ok | exact oN_ok | exact eVar_ok rfl | apply aC_ok | apply aApp_ok | apply eCall_ok | apply eBin_ok | apply eUn_ok | apply eOp_ok | apply eIdx_ok | apply eLst_ok | apply eTup_ok | apply bT_ok | apply nT_ok | apply oS_ok | apply eSl_ok | rfl
        · repeat' first | exact eC_ok | exact aN_ok | exact oN_ok | exact eVar_ok rfl | apply aC_ok | apply aApp_ok | apply eCall_ok | apply eBin_ok | apply eUn_ok | apply eOp_ok | apply eIdx_ok | apply eLst_ok | apply eTup_ok | apply bT_ok | apply nT_ok | apply oS_ok | apply eSl_ok | rfl
      have e1 := c_alike (R := F__law_alike n) hd hl (fun x hx => alike_eq n x (ha x hx) s) hlen
      have i1 : dIsi2 "list" "tuple" d = some (.bool true) := by rcases hd with rfl | rfl <;> rfl
      obtain ⟨b, i2⟩ : ∃ b, dIsi "list" d = some (.bool b) := by rcases hd with rfl | rfl <;> exact ⟨_, rfl⟩
      have i3 : dNe (.bool b) (.bool b) = some (.bool false) := by rw [dNe_bool]; cases b <;> rfl
      have i4 : dNe (.int (ds.length : Nat)) (.int (ds.length : Nat)) = some (.bool false) := dNe_f rfl
      unfold b__law_alike
      refine sSeq_rt (sIf_t (bT_ok (eUn_ok (eVar_ok rfl) i1)) (sSeq_nx (sIf_f (oT_f (nT_ok (b := true) (bT_ok (eUn_ok (eVar_ok rfl) i1))) (bT_ok (eBin_ok (eUn_ok (eVar_ok rfl) i2) (eUn_ok (eVar_ok rfl) i2) i3))) rfl) ?_))
      refine sSeq_nx (sIf_f (bT_ok (eBin_ok hlen0 hlen i4)) rfl) ?_
      exact sSeq_rt (sRet_ok (eOp_ok (aC_ok e1 aN_ok) (cAll_true _)))
    have hsc : isScal d = true → dIsi2 "list" "tuple" d = some (.bool false) → (∃ b, dIsi "bool" d = some (.bool b)) → (∃ b, dIsi "int" d = some (.bool b)) → (∃ b, dIsi "str" d = some (.bool b)) → dEq d d = some (.bool true) → b__law_alike (F__law_alike n) [.sh d, .sh d, .no] s = some (.rt (.bool true), [.sh d, .sh d, .no], s) := by
      rintro _ i1 ⟨b2, i2⟩ ⟨b3, i3⟩ ⟨b4, i4⟩ i5
      have n2 : dNe (.bool b2) (.bool b2) = some (.bool false) := by rw [dNe_bool]; cases b2 <;> rfl
      have n3 : dNe (.bool b3) (.bool b3) = some (.bool false) := by rw [dNe_bool]; cases b3 <;> rfl
      have n4 : dEq (.bool b4) (.bool b4) = some (.bool true) := by rw [dEq_bool]; cases b4 <;> rfl
      unfold b__law_alike
      refine sSeq_nx (sIf_f (bT_ok (eUn_ok (eVar_ok rfl) i1)) rfl) ?_
      refine sSeq_nx (sIf_f (oT_f (bT_ok (eBin_ok (eUn_ok (eVar_ok rfl) i2) (eUn_ok (eVar_ok rfl) i2) n2)) (bT_ok (eBin_ok (eUn_ok (eVar_ok rfl) i3) (eUn_ok (eVar_ok rfl) i3) n3))) rfl) ?_
      exact sSeq_rt (sRet_ok (eAnd_t (eBin_ok (eUn_ok (eVar_ok rfl) i4) (eUn_ok (eVar_ok rfl) i4) n4) (eBin_ok (eVar_ok rfl) (eVar_ok rfl) i5)))
    cases d with
    | list ds =>
      unfold alk at h
      rw [Bool.and_eq_true, decide_eq_true_eq, List.all_eq_true] at h
      exact hseq ds (.inl rfl) h.1 h.2
    | tuple ds =>
      unfold alk at h
      rw [Bool.and_eq_true, decide_eq_true_eq, List.all_eq_true] at h
      exact hseq ds (.inr rfl) h.1 h.2
    | bool b => exact hsc rfl rfl ⟨_, rfl⟩ ⟨_, rfl⟩ ⟨_, rfl⟩ (by rw [dEq_bool]; cases b <;> rfl)
    | int i => exact hsc rfl rfl ⟨_, rfl⟩ ⟨_, rfl⟩ ⟨_, rfl⟩ (dEq_t rfl)
    | none => cases h
    | str x => exact hsc rfl rfl ⟨_, rfl⟩ ⟨_, rfl⟩ ⟨_, rfl⟩ (by show some (PyData.bool (x == x)) = _; rw [beq_self_eq_true])
    | dict es => cases h
theorem alk_dI {n : Nat} {l : List Int} (h : l.length ≤ 1000) : alk (n + 2) (dI l) = true := by
  show (decide ((l.map PyData.int).length ≤ 1000) && (l.map PyData.int).all (alk (n + 1))) = true
  rw [List.length_map, decide_eq_true h, List.all_map]
  exact List.all_eq_true.mpr fun _ _ => rfl
theorem alk_dL {n : Nat} {l : List (List Int)} (h : l.length ≤ 1000) (h2 : ∀ g ∈ l, g.length ≤ 1000) : alk (n + 3) (dL l) = true := by
  show (decide ((l.map dI).length ≤ 1000) && (l.map dI).all (alk (n + 2))) = true
  rw [List.length_map, decide_eq_true h, List.all_map]
  exact List.all_eq_true.mpr fun g hg => alk_dI (h2 g hg)
/-! the cut -/
end K50
namespace K50
open PySem PySem.Spec PyProof.Rows L2 J
/-! ### the law's reading of a coming list -/
theorem by_in {D0 : D} {M : D} {k : Nat} {a : Int} {pr : List Int} {s : STO} {x5 x6 : Slot} (hp : (a :: pr).length ≤ 1000) : ∀ (ls acc : List (List Int)) (x5 x6 : Slot), (∀ g ∈ ls, g.length ≤ 1000) → acc.length + ls.length ≤ 1000 →
    ∃ y5 y6, forL (bN 5) l__law_by_1 (ls.map dI) [.sh D0, .sh M, .sh (.int (k : Nat)), .sh (dI (a :: pr)), .ow 1 (dL acc), x5, x6] s = some (.nx, [.sh D0, .sh M, .sh (.int (k : Nat)), .sh (dI (a :: pr)), .ow 1 (dL (acc ++ ls.map (Nest.upG (a :: pr) ((k + 1 : Nat) : Int)))), y5, y6], s)
  | [], acc, x5, x6, _, _ => ⟨x5, x6, by rw [show acc ++ ([] : List (List Int)).map (Nest.upG (a :: pr) ((k + 1 : Nat) : Int)) = acc from List.append_nil _]; rfl⟩
  | g :: ls, acc, x5, x6, hg, hl => by
    rw [List.length_cons] at hl
    have hg1 := hg g List.mem_cons_self
    obtain ⟨y5, y6, ih⟩ := by_in (D0 := D0) (M := M) (k := k) (s := s) (x5 := x5) (x6 := x6) hp ls (acc ++ [Nest.upG (a :: pr) ((k + 1 : Nat) : Int) g]) (.sh (dI g)) (.sh (.bool (decide (a ∈ g) && decide ((a :: pr).length < g.length)))) (fun o ho => hg o (List.mem_cons_of_mem _ ho)) (by rw [List.length_append]; show acc.length + 1 + _ ≤ _; omega)
    refine ⟨y5, y6, ?_⟩
    rw [List.append_assoc] at ih
    refine forL_cons (by simp) (noTok_dI g) ?_ ih
    show l__law_by_1 [.sh D0, .sh M, .sh (.int (k : Nat)), .sh (dI (a :: pr)), .ow 1 (dL acc), .sh (dI g), x6] s = _
    unfold l__law_by_1
    have hgt : dGt (.int (g.length : Nat)) (.int ((a :: pr).length : Nat)) = some (.bool (decide ((a :: pr).length < g.length))) := by
      rw [dGt_int]; congr 2; exact decide_eq_decide.mpr (by omega)
    refine sSeq_nx (sSet_ok (d := .bool (decide (a ∈ g) && decide ((a :: pr).length < g.length))) (s1 := s) (eAnd_b (eBin_ok (eIdx_ok (eVar_ok rfl) eC_ok (idx_dI (k := 0) (by simp))) (eVar_ok rfl) (dIn_int _ _)) (eBin_ok (len_dI (eVar_ok rfl)) (len_dI (eVar_ok rfl)) hgt))) ?_
    have e2 : eIf (bT (eVar 6)) (eBin dAdd (eVar 5) (eLst (aC (eBin dAdd (eVar 2) (eC (.int 1))) aN))) (eVar 5) (see [] [.sh D0, .sh M, .sh (.int (k : Nat)), .sh (dI (a :: pr)), .ow 1 (dL acc), .sh (dI g), .sh (.bool (decide (a ∈ g) && decide ((a :: pr).length < g.length)))]) s = some (dI (Nest.upG (a :: pr) ((k + 1 : Nat) : Int) g), s) := by
      unfold Nest.upG
      show _ = some (dI (if (a :: pr).length < g.length ∧ a ∈ g then g ++ [((k + 1 : Nat) : Int)] else g), s)
      refine eIf_b (bT_ok (eVar_ok rfl)) (fun h => ?_) fun h => ?_
      · rw [Bool.and_eq_true, decide_eq_true_eq, decide_eq_true_eq] at h
        rw [if_pos ⟨h.2, h.1⟩]
        exact eBin_ok (eVar_ok rfl) (eLst_ok (ds := [.int ((k + 1 : Nat) : Int)]) (aC_ok (eBin_ok (eVar_ok rfl) eC_ok rfl) aN_ok)) (dAdd_dIs (b := [((k + 1 : Nat) : Int)]) (by simp; omega))
      · have : ¬ ((a :: pr).length < g.length ∧ a ∈ g) := fun z => by
          rw [decide_eq_true z.1, decide_eq_true z.2] at h; cases h
        rw [if_neg this]
        exact eVar_ok rfl
    refine sSeq_nx (e1 := [.sh D0, .sh M, .sh (.int (k : Nat)), .sh (dI (a :: pr)), .ow 1 (dL (acc ++ [Nest.upG (a :: pr) ((k + 1 : Nat) : Int) g])), .sh (dI g), .sh (.bool (decide (a ∈ g) && decide ((a :: pr).length < g.length)))]) (s1 := s) ?_ rfl
    have e3 := sAppI (i := 4) (k := 0) (ds := acc.map dI) (env := [.sh D0, .sh M, .sh (.int (k : Nat)), .sh (dI (a :: pr)), .ow 1 (dL acc), .sh (dI g), .sh (.bool (decide (a ∈ g) && decide ((a :: pr).length < g.length)))]) e2 rfl (by rw [List.length_map]; omega)
    refine e3.trans ?_
    unfold dL
    rw [List.map_append]
    rfl
theorem by_turn {row : List Int} {l : List (List Int)} {k : Nat} {s : STO} {x3 x4 x5 x6 : Slot} (hl : l.length = k) (hk : k < row.length) (hr : row.length ≤ 30) (hg : ∀ g ∈ l, g.length ≤ 2 * k ∧ g ≠ []) (hx : wnOk l row[k]) :
    ∃ y3 y4 y5 y6, l__law_by_2 [.sh (dI row), .sh (dL l), .sh (.int (k : Nat)), x3, x4, x5, x6] s = some (.nx, [.sh (dI row), .sh (dL (wn l row[k])), .sh (.int (k : Nat)), y3, y4, y5, y6], s) := by
  have hrow : ∀ vw : VW, vw[0]? = some (some (dI row)) → vw[2]? = some (some (.int (k : Nat))) → eIdx (eVar 0) (eVar 2) vw s = some (.int row[k], s) := fun vw h0 h2 => eIdx_ok (eVar_ok h0) (eVar_ok h2) (idx_dI hk)
  have e1 : (eIf (bT (eBin dGe (eIdx (eVar 0) (eVar 2)) (eC (.int 0)))) (eLst (aC (eIdx (eVar 0) (eVar 2)) aN)) (eIdx (eVar 1) (eBin dSub (eBin dSub (eC (.int 0)) (eIdx (eVar 0) (eVar 2))) (eC (.int 1))))) (see [] [.sh (dI row), .sh (dL l), .sh (.int (k : Nat)), x3, x4, x5, x6]) s = some (dI (wnPl l row[k]), s) := by
    unfold wnPl
    refine eIf_b (bT_ok (eBin_ok (hrow _ rfl rfl) eC_ok (dGe_int _ _))) (fun h => ?_) fun h => ?_
    · rw [decide_eq_true_eq] at h
      rw [if_pos h]
      exact eLst_ok (aC_ok (hrow _ rfl rfl) aN_ok)
    · rw [decide_eq_false_iff_not] at h
      rw [if_neg h]
      obtain ⟨g, h1, h2⟩ := hx (by omega)
      have hi := (List.getElem?_eq_some_iff.mp h1).1
      refine eIdx_ok (eVar_ok rfl) (eBin_ok (eBin_ok eC_ok (hrow _ rfl rfl) rfl) eC_ok rfl) ?_
      rw [List.getD_eq_getElem?_getD, List.getElem?_eq_getElem hi]
      rw [show (0 : Int) - row[k] - 1 = (((0 - row[k]).toNat - 1 : Nat) : Int) by omega]
      exact idx_dL hi
  have hne := wnPl_ne hx
  have hpl : (wnPl l row[k]).length ≤ 1000 := by
    unfold wnPl
    split
    · show 1 ≤ 1000; omega
    · rename_i hn
      obtain ⟨g, h1, _⟩ := hx (by omega)
      rw [List.getD_eq_getElem?_getD, h1]
      have := (hg g (List.mem_of_getElem? h1)).1
      show g.length ≤ 1000
      omega
  unfold wn
  rw [hl]
  generalize wnPl l row[k] = pl at e1 hne hpl
  cases pl with
  | nil => exact absurd rfl hne
  | cons a pr =>
    obtain ⟨y5, y6, e2⟩ := by_in (D0 := dI row) (M := dL l) (k := k) (s := s) (x5 := x5) (x6 := x6) hpl l [] x5 x6 (fun g h => by have := (hg g h).1; omega) (by simp; omega)
    rw [List.nil_append] at e2
    refine ⟨.sh (dI (a :: pr)), .sh (dL (l.map (Nest.upG (a :: pr) ((k + 1 : Nat) : Int)))), fzS false y5, fzS false y6, ?_⟩
    unfold l__law_by_2
    refine sSeq_nx (sSet_ok e1) ?_
    refine sSeq_nx (e1 := [.sh (dI row), .sh (dL l), .sh (.int (k : Nat)), .sh (dI (a :: pr)), .ow 1 (dL []), x5, x6]) (s1 := s) (sSet_ok (d := .list []) (s1 := s) (eLst_ok aN_ok)) ?_
    refine sSeq_nx (sFor_ok (ds := l.map dI) (s1 := s) (iVal_l (eVar_ok rfl)) (by rw [fz, fzI_nil]; exact e2)) ?_
    have e3 : (eBin dAdd (eVar 4) (eLst (aC (eBin dAdd (eVar 3) (eLst (aC (eBin dAdd (eVar 2) (eC (.int 1))) aN))) aN))) (see [4] [.sh (dI row), .sh (dL l), .sh (.int (k : Nat)), .sh (dI (a :: pr)), .ow 1 (dL (l.map (Nest.upG (a :: pr) ((k + 1 : Nat) : Int)))), y5, y6]) s = some (dL (l.map (Nest.upG (a :: pr) ((k + 1 : Nat) : Int)) ++ [(a :: pr) ++ [((k + 1 : Nat) : Int)]]), s) := by
      refine eBin_ok (eVar_ok rfl) (eLst_ok (ds := [dI ((a :: pr) ++ [((k + 1 : Nat) : Int)])]) (aC_ok (eBin_ok (eVar_ok rfl) (eLst_ok (ds := [.int ((k + 1 : Nat) : Int)]) (aC_ok (eBin_ok (eVar_ok rfl) eC_ok rfl) aN_ok)) (dAdd_dIs (b := [((k + 1 : Nat) : Int)]) (by simp at hpl ⊢; omega))) aN_ok)) (dAdd_dLs (b := [(a :: pr) ++ [((k + 1 : Nat) : Int)]]) (by simp; omega))
    refine sSeq_nx (e1 := [.sh (dI row), .sh (dL (l.map (Nest.upG (a :: pr) ((k + 1 : Nat) : Int)) ++ [(a :: pr) ++ [((k + 1 : Nat) : Int)]])), .sh (.int (k : Nat)), .sh (dI (a :: pr)), .sh (dL (l.map (Nest.upG (a :: pr) ((k + 1 : Nat) : Int)))), fzS false y5, fzS false y6]) (s1 := s) ?_ rfl
    rw [sSet_okM e3 rfl]
    unfold fzIf
    rw [if_neg (by show ¬ ((false && _) = true); simp)]
    rfl
theorem itm_get : ∀ (row : List Int) (i k : Nat) (h : k < row.length), itm i row → 0 - ((i + k : Nat) : Int) - 1 < row[k] ∧ row[k] < ((i + k : Nat) : Int) + 1
  | x :: r, i, 0, _, h => by
    have := h.1; have := h.2.1
    show _ < x ∧ x < _
    omega
  | x :: r, i, k + 1, hk, h => by
    have hk2 : k < r.length := by simpa using hk
    have := itm_get r (i + 1) k hk2 h.2.2
    show _ < r[k] ∧ r[k] < _
    omega
theorem by_loop {row : List Int} {s : STO} (hr : row.length ≤ 30) (ho : itm 0 row) : ∀ (n k : Nat) (l : List (List Int)) (x2 x3 x4 x5 x6 : Slot), k + n = row.length → l = (row.take k).foldl wn [] → (∀ g ∈ l, g.length ≤ 2 * k ∧ g ≠ []) →
    ∃ y2 y3 y4 y5 y6, forL (bN 2) l__law_by_2 ((List.range' k n).map fun i : Nat => PyData.int i) [.sh (dI row), .sh (dL l), x2, x3, x4, x5, x6] s = some (.nx, [.sh (dI row), .sh (dL (row.foldl wn [])), y2, y3, y4, y5, y6], s)
  | 0, k, l, x2, x3, x4, x5, x6, hk, hl, _ => ⟨x2, x3, x4, x5, x6, by
      rw [hl, List.take_of_length_le (by omega)]; rfl⟩
  | n + 1, k, l, x2, x3, x4, x5, x6, hk, hl, hg => by
    have hlen : l.length = k := by rw [hl, wn_fold_len, List.length_nil, List.length_take]; omega
    have hkr : k < row.length := by omega
    have hi := itm_get row 0 k hkr ho
    have hx : wnOk l row[k] := wnOk_of hlen (fun g h => (hg g h).2) (by omega)
    obtain ⟨y3, y4, y5, y6, e1⟩ := by_turn (s := s) (x3 := x3) (x4 := x4) (x5 := x5) (x6 := x6) hlen hkr hr hg hx
    have h2 : wn l row[k] = (row.take (k + 1)).foldl wn [] := by
      rw [List.take_succ_eq_append_getElem hkr, List.foldl_append, ← hl]; rfl
    obtain ⟨z2, z3, z4, z5, z6, e2⟩ := by_loop hr ho n (k + 1) (wn l row[k]) (.sh (.int (k : Nat))) y3 y4 y5 y6 (by omega) h2 (fun g h => by
      have := wn_ok hx hg g h
      exact ⟨by omega, this.2⟩)
    refine ⟨z2, z3, z4, z5, z6, ?_⟩
    rw [List.range'_succ, List.map_cons]
    exact forL_cons (by simp) rfl e1 e2
theorem by_eq {row : List Int} {s : STO} (hr : row.length ≤ 30) (ho : itm 0 row) : F__law_by [dI row] s = some (dL (pf row), s) := by
  obtain ⟨y2, y3, y4, y5, y6, e1⟩ := by_loop (s := s) hr ho row.length 0 [] .no .no .no .no .no (by omega) rfl (fun g h => nomatch h)
  rw [rng_comp] at e1
  refine fnD_rt (d := dL (pf row)) (e1 := [.sh (dI row), .sh (dL (row.foldl wn [])), y2, y3, y4, y5, y6]) (s1 := s) ?_ (fin_self _ _)
  unfold b__law_by
  refine sSeq_nx (sSet_ok (d := .list []) (eLst_ok aN_ok)) ?_
  refine sSeq_nx (sFor0_ok (ds := (comp row.length).map PyData.int) (s1 := s) (iU_ok (len_dI (eVar_ok rfl)) (rg1_ok (by omega))) e1) ?_
  have hl := wn_fold_len row []
  rw [List.length_nil] at hl
  exact sSeq_rt (sRet_ok (eUn_ok (eVar_ok rfl) (dSort_dL (by omega))))
/-! the maker of a group -/
end K50
namespace K50
open PySem PySem.Spec PyProof.Rows L2 J
/-! ### the coming list of a nest -/
/-! a coming list, its nest, and what the program tells of it -/
structure Row (row : List Int) : Prop where
  itm : J.itm 0 row
  len : row.length < 20
abbrev lotsR (row : List Int) : List (List Int) := (tree row).lots
section
variable {row : List Int}
theorem Row.of (h : Row row) : (tree row).Of (row.length + 1) := tree_of h.itm
theorem Row.ll (h : Row row) : (lotsR row).length = row.length := by have h1 : (lotsR row).length + 1 = row.length + 1 := h.of.lots_len; omega
theorem Row.pf (h : Row row) : pf row = lotsR row := pf_lots h.itm
theorem Row.wide (h : Row row) : ∀ g ∈ lotsR row, g.Pairwise (· < ·) ∧ g.length ≤ 20 := by
  intro g hg
  obtain ⟨X, hX, rfl⟩ := Nest.mem_lots.mp hg
  refine ⟨Nest.folk_asc (Nest.gr_nodup hX h.of.nodup), ?_⟩
  rw [Nest.len_folk]
  have := (Nest.gr_sublist hX).length_le
  have h2 := h.of.len
  have := h.len
  omega
theorem Row.parting (h : Row row) : Parting (lotsR row) := h.of.parting (by have := h.len; omega)
theorem Row.many (h : Row row) (s : STO) : F_many_in [dL (lotsR row)] s = some (.int (row.length + 1), s) := by rw [many_in_eq, h.ll]
end
/-! who leaves no trace -/
end K50
namespace K50
open PySem PySem.Spec PyProof.Rows L2 J
/-! ### a drawn coming list -/
theorem Bag.next {n m : Nat} {p q s : STO} (h : Bag n p q s) (hl : n ≤ m) : Bag m p q s := h.mono hl
theorem row_turn {n : Nat} {p q s : STO} (hg : Bag n p q s) (hn : n < 2 ^ 40) {W : Slot} {bent : Int} (hb : 0 ≤ bent ∧ bent < 5) {row : List Int} {k : Nat} (hk : row.length = k) (hk2 : k < 30) {x5 : Slot} :
    ∃ x y5 s', l__law_row_1 [.sh (tokD p.length), W, .sh (.int bent), .ow 1 (dI row), .sh (.int (k : Nat)), x5] s = some (.nx, [.sh (tokD p.length), W, .sh (.int bent), .ow 1 (dI (row ++ [x])), .sh (.int (k : Nat)), y5], s') ∧ Bag (n + 4) p q s' ∧ 0 - (k : Int) ≤ x ∧ x ≤ k := by
  obtain ⟨v, s1, e1, v0, v1, g1⟩ := draw_eq hg (by omega) (w := 2 * (k : Int) + 1) (by omega) (by omega)
  obtain ⟨j, s2, e2, j0, j1, g2⟩ := draw_eq g1 (by omega) (w := 2) (by decide) (by decide)
  have hj : j = 0 ∨ j = 1 := by omega
  obtain ⟨z, ez, z0⟩ : ∃ z, dIdx s2 (.list [.int (0 - (k : Int)), .int (v - k)]) (.int j) = some (.int z) ∧ 0 - (k : Int) ≤ z ∧ z ≤ k := by
    rcases hj with rfl | rfl
    · exact ⟨_, rfl, by omega, by omega⟩
    · exact ⟨_, rfl, by omega, by omega⟩
  have hbs : bent = 0 ∨ bent = 1 ∨ bent = 2 ∨ bent = 3 ∨ bent = 4 := by omega
  obtain ⟨x, ex, x0⟩ : ∃ x, dIdx s2 (.list [.int (v - k), .int (0 - (k : Int)), .int (k : Nat), .int 0, .int z]) (.int bent) = some (.int x) ∧ 0 - (k : Int) ≤ x ∧ x ≤ k := by
    rcases hbs with rfl | rfl | rfl | rfl | rfl
    · exact ⟨_, rfl, by omega, by omega⟩
    · exact ⟨_, rfl, by omega, by omega⟩
    · exact ⟨_, rfl, by omega, by omega⟩
    · exact ⟨_, rfl, by omega, by omega⟩
    · exact ⟨_, rfl, z0⟩
  refine ⟨x, .sh (.int (v - k)), s2, ?_, g2.mono (by omega), x0⟩
  unfold l__law_row_1
  have hm : dMul (.int 2) (.int (k : Nat)) = some (.int (2 * (k : Int))) := dMul_ok (by decide) (by omega)
  refine sSeq_nx (sSet_ok (d := .int (v - k)) (s1 := s1) ?_) ?_
  · repeat' first | ((with_reducible show eC _ _ _ = _); exact eC_ok) | ((with_reducible show aN _ _ = _); exact aN_ok) | ((with_reducible show oN _ _ = _); exact oN_ok) | ((with_reducible show eVar _ _ _ = _); exact eVar_ok rfl) | ((with_reducible show dMul _ _ = _); exact hm) | ((with_reducible show F__law_draw _ _ = _); exact e1) | with_reducible apply aC_ok | with_reducible apply aApp_ok | with_reducible apply eCall_ok | with_reducible apply eBin_ok | with_reducible apply eUn_ok | with_reducible apply eOp_ok | with_reducible apply eIdx_ok | with_reducible apply eLst_ok | with_reducible apply eTup_ok | with_reducible apply bT_ok | with_reducible apply nT_ok | with_reducible apply oS_ok | with_reducible apply eSl_ok | ((with_reducible show dAdd _ _ = _); rfl) | ((with_reducible show dSub _ _ = _); rfl) | ((with_reducible show dNeg _ = _); rfl) | ((with_reducible show dNot _ = _); rfl) | ((with_reducible show cLen _ = _); rfl) | ((with_reducible show cInt _ = _); rfl) | ((with_reducible show cAbs _ = _); rfl) | ((with_reducible show decide _ = _); rfl) | ((with_reducible show dIsi _ _ = _); rfl) | ((with_reducible show cList _ = _); rfl) | ((with_reducible show dIsi2 _ _ _ = _); rfl) | ((with_reducible show cMax _ = _); rfl) | ((with_reducible show cMin _ = _); rfl) | ((with_reducible show pick _ _ _ = _); rfl) | ((with_reducible show dBits _ = _); rfl) | ((with_reducible show dIdx _ _ _ = _); rfl)
  refine sSeq_nx (e1 := [.sh (tokD p.length), W, .sh (.int bent), .ow 1 (dI (row ++ [x])), .sh (.int (k : Nat)), .sh (.int (v - k))]) (s1 := s2) ?_ rfl
  refine (sAppI (i := 3) (k := 0) (d := .int x) (s1 := s2) (ds := row.map PyData.int) ?_ rfl (by rw [List.length_map]; omega)).trans ?_
  · repeat' first | ((with_reducible show eC _ _ _ = _); exact eC_ok) | ((with_reducible show aN _ _ = _); exact aN_ok) | ((with_reducible show oN _ _ = _); exact oN_ok) | ((with_reducible show eVar _ _ _ = _); exact eVar_ok rfl) | ((with_reducible show F__law_draw _ _ = _); exact e2) | ((with_reducible show dIdx _ _ _ = _); exact ez) | ((with_reducible show dIdx _ _ _ = _); exact ex) | with_reducible apply aC_ok | with_reducible apply aApp_ok | with_reducible apply eCall_ok | with_reducible apply eBin_ok | with_reducible apply eUn_ok | with_reducible apply eOp_ok | with_reducible apply eIdx_ok | with_reducible apply eLst_ok | with_reducible apply eTup_ok | with_reducible apply bT_ok | with_reducible apply nT_ok | with_reducible apply oS_ok | with_reducible apply eSl_ok | ((with_reducible show dAdd _ _ = _); rfl) | ((with_reducible show dSub _ _ = _); rfl) | ((with_reducible show dNeg _ = _); rfl) | ((with_reducible show dNot _ = _); rfl) | ((with_reducible show cLen _ = _); rfl) | ((with_reducible show cInt _ = _); rfl) | ((with_reducible show cAbs _ = _); rfl) | ((with_reducible show decide _ = _); rfl) | ((with_reducible show dIsi _ _ = _); rfl) | ((with_reducible show cList _ = _); rfl) | ((with_reducible show dIsi2 _ _ _ = _); rfl) | ((with_reducible show cMax _ = _); rfl) | ((with_reducible show cMin _ = _); rfl) | ((with_reducible show pick _ _ _ = _); rfl) | ((with_reducible show dBits _ = _); rfl) | ((with_reducible show dIdx _ _ _ = _); rfl)
  · unfold dI
    rw [List.map_append]
    rfl
theorem row_loop {p q : STO} {W : Slot} {bent : Int} (hb : 0 ≤ bent ∧ bent < 5) : ∀ (m k n : Nat) (s : STO) (row : List Int) (x4 x5 : Slot), Bag n p q s → n + 4 * m < 2 ^ 39 → k + m < 30 → row.length = k → itm 0 row →
    ∃ row' y4 y5 s', forL (bN 4) l__law_row_1 ((List.range' k m).map fun i : Nat => PyData.int i) [.sh (tokD p.length), W, .sh (.int bent), .ow 1 (dI row), x4, x5] s = some (.nx, [.sh (tokD p.length), W, .sh (.int bent), .ow 1 (dI row'), y4, y5], s') ∧ Bag (n + 4 * m) p q s' ∧ row'.length = k + m ∧ itm 0 row'
  | 0, k, n, s, row, x4, x5, hg, hn, hk, hl, ho => ⟨row, x4, x5, s, rfl, hg, hl, ho⟩
  | m + 1, k, n, s, row, x4, x5, hg, hn, hk, hl, ho => by
    obtain ⟨x, y5, s1, e1, g1, x0⟩ := row_turn hg (by omega) (W := W) hb hl (by omega) (x5 := x5)
    obtain ⟨row', z4, z5, s2, e2, g2, l2, o2⟩ := row_loop hb (W := W) m (k + 1) (n + 4) s1 (row ++ [x]) (.sh (.int (k : Nat))) y5 g1 (by omega) (by omega) (by rw [List.length_append, hl]; rfl) ((itm_snoc row 0 x).mpr ⟨ho, by omega, by omega⟩)
    refine ⟨row', z4, z5, s2, ?_, g2.mono (by omega), by omega, o2⟩
    rw [List.range'_succ, List.map_cons]
    exact forL_cons (by simp) rfl e1 e2
theorem law_row_eq {n : Nat} {p q s : STO} (hg : Bag n p q s) (hn : n < 2 ^ 38) {w : Nat} (h0 : 0 < w) (hw : w < 30) : ∃ row s', F__law_row [tokD p.length, .int (w : Nat)] s = some (dI row, s') ∧ Bag (n + 200) p q s' ∧ row.length + 1 = w ∧ itm 0 row := by
  obtain ⟨b, s1, e1, b0, b1, g1⟩ := draw_eq hg (by omega) (w := 5) (by decide) (by decide)
  obtain ⟨row, y4, y5, s2, e2, g2, l2, o2⟩ := row_loop ⟨b0, b1⟩ (W := .sh (.int (w : Nat))) (w - 1) 0 (n + 2) s1 [] .no .no g1 (by omega) (by omega) rfl trivial
  rw [rng_comp] at e2
  refine ⟨row, s2, ?_, g2.mono (by omega), by omega, o2⟩
  refine fnD_rt (d := dI row) (e1 := [.sh (tokD p.length), .sh (.int (w : Nat)), .sh (.int b), .ow 1 (dI row), y4, y5]) (s1 := s2) ?_ (hg.fin g2 _)
  unfold b__law_row
  refine sSeq_nx (sPar_ok (d1 := .int b) (d2 := .list []) (eCall_ok (aApp_ok (aC_ok (eVar_ok rfl) (aC_ok eC_ok aN_ok)) aN_ok) e1) (eLst_ok aN_ok)) ?_
  refine sSeq_nx (sFor0_ok (ds := (comp (w - 1)).map PyData.int) (s1 := s1) (iU_ok (d := .int ((w - 1 : Nat) : Int)) (eBin_ok (eVar_ok rfl) eC_ok ?_) (rg1_ok (by omega))) e2) (sSeq_rt (sRet_ok (eVar_ok rfl)))
  show some (PyData.int ((w : Int) - 1)) = _
  congr 2
  omega
/-! the bag of a script -/
theorem bag_loop {D0 : D} {x2 : Slot} {s : STO} : ∀ (ns : List Int) (st : Int) (x2 : Slot), 0 ≤ st ∧ st < 2147483647 → ∃ st' y2, 0 ≤ st' ∧ st' < 2147483647 ∧ forL (bN 2) l__law_bag_1 (ns.map PyData.int) [.sh D0, .sh (.int st), x2] s = some (.nx, [.sh D0, .sh (.int st'), y2], s)
  | [], st, x2, h => ⟨st, x2, h.1, h.2, rfl⟩
  | a :: ns, st, x2, h => by
    have g1 : 0 ≤ (st * 48271 + a % 2147483629 + 1) % 2147483647 ∧ (st * 48271 + a % 2147483629 + 1) % 2147483647 < 2147483647 := ⟨Int.emod_nonneg _ (by decide), Int.emod_lt_of_pos _ (by decide)⟩
    obtain ⟨st', y2, h1, h2, ih⟩ := bag_loop (D0 := D0) (x2 := x2) (s := s) ns _ (.sh (.int a)) g1
    refine ⟨st', y2, h1, h2, forL_cons (by simp) rfl ?_ ih⟩
    show l__law_bag_1 [.sh D0, .sh (.int st), .sh (.int a)] s = _
    have hm : dMul (.int st) (.int 48271) = some (.int (st * 48271)) := dMul_ok (by omega) (by decide)
    have h5 : dMod (.int a) (.int 2147483629) = some (.int (a % 2147483629)) := dMod_ok (by decide)
    have h6 : dMod (.int (st * 48271 + a % 2147483629 + 1)) (.int 2147483647) = some (.int ((st * 48271 + a % 2147483629 + 1) % 2147483647)) := dMod_ok (by decide)
    generalize (st * 48271 + a % 2147483629 + 1) % 2147483647 = u at h6 ⊢
    unfold l__law_bag_1
    refine sSeq_nx (sSet_ok (d := .int u) (s1 := s) ?_) rfl
    repeat' first | ((with_reducible show eC _ _ _ = _); exact eC_ok) | ((with_reducible show aN _ _ = _); exact aN_ok) | ((with_reducible show oN _ _ = _); exact oN_ok) | ((with_reducible show eVar _ _ _ = _); exact eVar_ok rfl) | ((with_reducible show dMul _ _ = _); exact hm) | ((with_reducible show dMod _ _ = _); exact h5) | ((with_reducible show dMod _ _ = _); exact h6) | with_reducible apply aC_ok | with_reducible apply aApp_ok | with_reducible apply eCall_ok | with_reducible apply eBin_ok | with_reducible apply eUn_ok | with_reducible apply eOp_ok | with_reducible apply eIdx_ok | with_reducible apply eLst_ok | with_reducible apply eTup_ok | with_reducible apply bT_ok | with_reducible apply nT_ok | with_reducible apply oS_ok | with_reducible apply eSl_ok | ((with_reducible show dAdd _ _ = _); rfl) | ((with_reducible show dSub _ _ = _); rfl) | ((with_reducible show dNeg _ = _); rfl) | ((with_reducible show dNot _ = _); rfl) | ((with_reducible show cLen _ = _); rfl) | ((with_reducible show cInt _ = _); rfl) | ((with_reducible show cAbs _ = _); rfl) | ((with_reducible show decide _ = _); rfl) | ((with_reducible show dIsi _ _ = _); rfl) | ((with_reducible show cList _ = _); rfl) | ((with_reducible show dIsi2 _ _ _ = _); rfl) | ((with_reducible show cMax _ = _); rfl) | ((with_reducible show cMin _ = _); rfl) | ((with_reducible show pick _ _ _ = _); rfl) | ((with_reducible show dBits _ = _); rfl) | ((with_reducible show dIdx _ _ _ = _); rfl)
theorem bag_eq (ns : List Int) (hl : ns.length ≤ 63) (s : STO) : ∃ cs st, F__law_bag [skD (ns.map PyData.int)] s = some (.list [dI cs, .int ((0 : Nat) : Int), .int 0, .int st, .int 0], s) ∧ BagNum 0 cs 0 0 st 0 := by
  obtain ⟨ms, em⟩ : ∃ ms, ms = cutL ns none (some 63) := ⟨_, rfl⟩
  have hms : ms.length ≤ 63 := by rw [em]; exact Nat.le_trans len_cutL hl
  have hsl : dSlSk (skD (ns.map PyData.int)) none (some 63) = some (dI ms) := by
    show some (PyData.list (cutL (ns.map PyData.int) none (some 63))) = _
    rw [cutL_map, ← em]
  have hi : ∀ vw : VW, vw[0]? = some (some (skD (ns.map PyData.int))) → iVal (eSlSk (eVar 0) oN (oS (eC (.int 63)))) vw s = some (ms.map PyData.int, s) := fun vw h0 => by
    refine iVal_l ?_
    unfold eSlSk
    rw [eVar_ok h0, Option.bind_some]
    show ((dSlSk (skD (ns.map PyData.int)) none (some 63)).map fun d => (d, s)) = _
    rw [hsl]
    rfl
  generalize hsk : skD (ns.map PyData.int) = sk at hi
  obtain ⟨st, y2, h1, h2, e1⟩ := bag_loop (D0 := sk) (x2 := .no) (s := s) ms 251 .no (by decide)
  have k1 : dPow (.int 10) (.int 60) = some (.int ((10 : Int) ^ (60 : Int).toNat)) := dPow_ok (by decide) (by decide)
  have k2 : dPow (.int ((10 : Int) ^ (60 : Int).toNat)) (.int 10) = some (.int (((10 : Int) ^ (60 : Int).toNat) ^ (10 : Int).toNat)) := dPow_ok (by decide) (by decide)
  have kp : 0 < (((10 : Int) ^ (60 : Int).toNat) ^ (10 : Int).toNat) := by decide
  generalize ((10 : Int) ^ (60 : Int).toNat) ^ (10 : Int).toNat = K at k2 kp
  have e2 : c__law_bag_1 (see [] [.sh sk, .sh (.int st), y2]) s = some (dI (ms.map fun c => (if c < 0 then -c else c) % K), s) := by
    unfold c__law_bag_1
    have := eComp_map (fi := iVal (eSlSk (eVar 0) oN (oS (eC (.int 63))))) (bd := bN 2) (fe := (eBin dMod (eOp cInt (aC (eOp cAbs (aC (eVar 2) aN)) aN)) (eBin dPow (eBin dPow (eC (.int 10)) (eC (.int 60))) (eC (.int 10))))) (own := [2]) (vw := see [] [.sh sk, .sh (.int st), y2]) (s := s) ms PyData.int (fun c => [(2, .int c)]) (fun c => .int ((if c < 0 then -c else c) % K)) (hi _ rfl) (by omega) (fun _ _ => rfl) (fun c _ => ?_)
    · rw [this]
      show some (PyData.list _, s) = some (PyData.list ((List.map _ _).map _), s)
      rw [List.map_map]
      rfl
    · have e5 : (setV (wipeV (see [] [.sh sk, .sh (.int st), y2]) [2]) [(2, .int c)])[2]? = some (some (.int c)) := by cases y2 <;> rfl
      exact eBin_ok (eOp_ok (aC_ok (eOp_ok (aC_ok (eVar_ok e5) aN_ok) rfl) aN_ok) rfl) (eBin_ok (eBin_ok eC_ok eC_ok k1) eC_ok k2) (dMod_ok kp)
  refine ⟨ms.map fun c => (if c < 0 then -c else c) % K, st, ?_, fun x hx => ?_, Nat.zero_le _, by rw [List.length_map]; exact hms, by decide, ⟨h1, h2⟩, by decide⟩
  · refine fnD_rt (d := .list [dI (ms.map fun c => (if c < 0 then -c else c) % K), .int ((0 : Nat) : Int), .int 0, .int st, .int 0]) (e1 := [.sh sk, .sh (.int st), y2]) (s1 := s) ?_ (fin_self _ _)
    unfold b__law_bag
    refine sSeq_nx (sSet_ok (d := .int 251) eC_ok) ?_
    refine sSeq_nx (sFor_ok (ds := ms.map PyData.int) (s1 := s) (hi _ rfl) (by rw [fz, fzI_nil]; exact e1)) ?_
    refine sSeq_rt (sRet_ok (eLst_ok (aC_ok e2 (aC_ok eC_ok (aC_ok eC_ok (aC_ok (eVar_ok rfl) (aC_ok eC_ok aN_ok)))))))
  · obtain ⟨c, _, rfl⟩ := List.mem_map.mp hx
    exact Int.emod_nonneg _ (by omega)
/-! ### one leaves after another -/
theorem Row.alike {row : List Int} (h : Row row) (s : STO) : F__law_alike 6 [dL (lotsR row), dL (lotsR row)] s = some (.bool true, s) := alike_eq 6 _ (alk_dL (by rw [h.ll]; have := h.len; omega) fun g hg => by have := (h.wide g hg).2; omega) s
end K50
namespace J
open PySem Builtin Builtin.Str StrLaws
/-! texts as lists of signs: split, replace, words -/
abbrev St (l : List Nat) : Str := ⟨l.toArray⟩
theorem St_app (a b : List Nat) : St a ++ St b = St (a ++ b) := Str.ext' (by rw [Str.cps_append]; simp)
theorem St_len (l : List Nat) : (St l).length = l.length := by simp [Str.length]
theorem St_toList (x : Str) : St x.cps.toList = x := Str.ext' (by simp)
theorem St_inj {a b : List Nat} (h : St a = St b) : a = b := by
  have := congrArg (fun x : Str => x.cps.toList) h
  simpa using this
def occL (c k : Nat) : List Nat → List Nat
  | [] => []
  | a :: r => if a = c then k :: occL c (k + 1) r else occL c (k + 1) r
theorem occ_run (x : Str) (c limit : Nat) (hl : x.length < limit) : ∀ (l pre : List Nat) (f : Array Nat) (free : Nat), x.cps.toList = pre ++ l → f.size ≤ pre.length → free ≤ pre.length →
    (forIn (List.range' pre.length (l.length + 1)) (f, free) (occBody x ⟨#[c]⟩ x.length limit)).run.fst.toList = f.toList ++ occL c pre.length l
  | [], pre, f, free, e, h1, h2 => by
    rw [show List.range' pre.length (([] : List Nat).length + 1) = [pre.length] from rfl, List.forIn_cons]
    unfold occBody
    have hn : ¬ (((f.size < limit ∧ free ≤ pre.length) ∧ pre.length + (⟨#[c]⟩ : Str).length ≤ x.length) ∧ subAt x ⟨#[c]⟩ pre.length = true) := fun h => by
      have := (subAt_one x c pre.length).mp ⟨h.1.2, h.2⟩
      rw [e, List.append_nil, List.getElem?_eq_none (Nat.le_refl _)] at this
      cases this
    rw [if_neg hn]
    simp [occL]
  | a :: r, pre, f, free, e, h1, h2 => by
    have hx : x.length = pre.length + (r.length + 1) := by
      have := congrArg List.length e
      rw [List.length_append, List.length_cons] at this
      simpa [Str.length] using this
    rw [show (a :: r).length + 1 = (r.length + 1) + 1 from rfl, List.range'_succ, List.forIn_cons]
    unfold occBody
    have hget : x.cps.toList[pre.length]? = some a := by
      rw [e, List.getElem?_append_right (Nat.le_refl _), Nat.sub_self]
      rfl
    have hp : (pre ++ [a]).length = pre.length + 1 := by simp
    by_cases hc : a = c
    · have hy : ((f.size < limit ∧ free ≤ pre.length) ∧ pre.length + (⟨#[c]⟩ : Str).length ≤ x.length) ∧ subAt x ⟨#[c]⟩ pre.length = true := by
        have := (subAt_one x c pre.length).mpr (by rw [hget, hc])
        exact ⟨⟨⟨by omega, h2⟩, this.1⟩, this.2⟩
      rw [if_pos hy]
      have ih := occ_run x c limit hl r (pre ++ [a]) (f.push pre.length) (pre.length + (⟨#[c]⟩ : Str).length) (by rw [e]; simp) (by rw [Array.size_push, hp]; omega) (by rw [hp]; exact Nat.le_refl _)
      rw [hp] at ih
      refine Eq.trans ih ?_
      rw [Array.toList_push, occL, if_pos hc, List.append_assoc]
      rfl
    · have hn : ¬ (((f.size < limit ∧ free ≤ pre.length) ∧ pre.length + (⟨#[c]⟩ : Str).length ≤ x.length) ∧ subAt x ⟨#[c]⟩ pre.length = true) := fun h => by
        have := (subAt_one x c pre.length).mp ⟨h.1.2, h.2⟩
        rw [hget] at this
        exact hc (Option.some.inj this)
      rw [if_neg hn]
      have ih := occ_run x c limit hl r (pre ++ [a]) f free (by rw [e]; simp) (by rw [hp]; omega) (by rw [hp]; omega)
      rw [hp] at ih
      refine Eq.trans ih ?_
      rw [occL, if_neg hc]
theorem occ_one (l : List Nat) (c : Nat) : occurrences (St l) ⟨#[c]⟩ 0 (St l).length ((St l).length + 1) = occL c 0 l := by
  rw [occ_eq]
  have := occ_run (St l) c ((St l).length + 1) (Nat.lt_succ_self _) l [] #[] 0 (by simp) (Nat.le_refl _) (Nat.le_refl _)
  rw [show (St l).length + 1 - 0 = l.length + 1 by rw [St_len]; omega]
  simpa using this
def splitC (c : Nat) (acc : List Nat) : List Nat → List (List Nat)
  | [] => [acc]
  | b :: r => if b = c then acc :: splitC c [] r else splitC c (acc ++ [b]) r
theorem sub_mid {x : Str} {pre acc r : List Nat} (e : x.cps.toList = pre ++ (acc ++ r)) : strSub x pre.length (pre.length + acc.length) = St acc := by
  refine Str.ext' (Array.toList_inj.mp ?_)
  rw [strSub_toList, e, List.drop_left, show pre.length + acc.length - pre.length = acc.length by omega, List.take_left]
theorem parts_split (x : Str) (c : Nat) : ∀ (l pre acc : List Nat), x.cps.toList = pre ++ (acc ++ l) → partsFrom x 1 pre.length (occL c (pre.length + acc.length) l) = (splitC c acc l).map St
  | [], pre, acc, e => by
    have hx : x.length = pre.length + acc.length := by
      have := congrArg List.length e
      simpa [Str.length] using this
    show [strSub x pre.length x.length] = [St acc]
    rw [hx, sub_mid e]
  | b :: r, pre, acc, e => by
    rw [occL, splitC]
    by_cases hb : b = c
    · rw [if_pos hb, if_pos hb]
      have ih := parts_split x c r (pre ++ acc ++ [b]) [] (by rw [e]; simp)
      have hp : (pre ++ acc ++ [b]).length = pre.length + acc.length + 1 := by simp; omega
      rw [hp] at ih
      show strSub x pre.length (pre.length + acc.length) :: partsFrom x 1 (pre.length + acc.length + 1) (occL c (pre.length + acc.length + 1) r) = St acc :: (splitC c [] r).map St
      rw [sub_mid e]
      congr 1
    · rw [if_neg hb, if_neg hb]
      have ih := parts_split x c r pre (acc ++ [b]) (by rw [e]; simp)
      rw [← ih, List.length_append, List.length_singleton, Nat.add_assoc]
theorem parts_one (l : List Nat) (c : Nat) : partsBetween (St l) (occL c 0 l) 1 = (splitC c [] l).map St := by
  rw [partsBetween_eq]
  exact parts_split (St l) c l [] [] (by simp)
theorem splitC_ne (c : Nat) : ∀ (l acc : List Nat), splitC c acc l ≠ []
  | [], acc => by simp [splitC]
  | b :: r, acc => by
    rw [splitC]
    split
    · simp
    · exact splitC_ne c r _
theorem part_none {l : List Nat} {c : Nat} (h : occL c 0 l = []) : [St l] = (splitC c [] l).map St := by
  have := parts_one l c
  rw [h, partsBetween_eq] at this
  rw [← this]
  show [St l] = [strSub (St l) 0 (St l).length]
  rw [sub_whole]
theorem split_one (l : List Nat) {c : Nat} (hc : c < 256) : Txt.split (St l) ⟨#[c]⟩ = (splitC c [] l).map St := by
  unfold Txt.split
  have hk : PySem.Builtin.Str.strKind ⟨#[c]⟩ = 1 := by
    unfold PySem.Builtin.Str.strKind
    rw [if_pos (by simp [hc])]
  have hk2 : 1 ≤ PySem.Builtin.Str.strKind (St l) := by
    unfold PySem.Builtin.Str.strKind
    split
    · exact Nat.le_refl _
    · split <;> omega
  rw [occ_one]
  by_cases h : (decide ((St l).length < (⟨#[c]⟩ : Str).length) || decide (PySem.Builtin.Str.strKind (St l) < PySem.Builtin.Str.strKind ⟨#[c]⟩)) = true
  · rw [if_pos h]
    rw [hk, Bool.or_eq_true, decide_eq_true_eq, decide_eq_true_eq] at h
    rcases h with h | h
    · have h1 : (⟨#[c]⟩ : Str).length = 1 := rfl
      rw [St_len, h1] at h
      have : l = [] := List.eq_nil_of_length_eq_zero (by omega)
      subst this
      rfl
    · omega
  · rw [if_neg h]
    by_cases h2 : (occL c 0 l).isEmpty = true
    · rw [if_pos h2]
      exact part_none (List.isEmpty_iff.mp h2)
    · rw [if_neg h2]
      exact parts_one l c
def replL (c : Nat) (z l : List Nat) : List Nat := l.flatMap fun b => if b = c then z else [b]
theorem join_splitC (c : Nat) (z : List Nat) : ∀ (l acc : List Nat), Str.join (St z) ((splitC c acc l).map St) = St (acc ++ replL c z l)
  | [], acc => by
    show St acc = St (acc ++ [])
    rw [List.append_nil]
  | b :: r, acc => by
    rw [splitC]
    by_cases hb : b = c
    · rw [if_pos hb]
      have ih := join_splitC c z r []
      cases hs : splitC c [] r with
      | nil => exact absurd hs (splitC_ne c r [])
      | cons p q =>
        rw [hs] at ih
        show St acc ++ St z ++ Str.join (St z) ((p :: q).map St) = _
        rw [ih, St_app, St_app]
        unfold replL
        rw [List.flatMap_cons, if_pos hb, List.nil_append, List.append_assoc]
    · rw [if_neg hb, join_splitC c z r (acc ++ [b])]
      unfold replL
      rw [List.flatMap_cons, if_neg hb, List.append_assoc]
theorem repl_one (l z : List Nat) (c : Nat) : Txt.replace (St l) ⟨#[c]⟩ (St z) = St (replL c z l) := by
  unfold Txt.replace
  rw [occ_one]
  have h1 : ((⟨#[c]⟩ : Str).length == 0) = false := rfl
  rw [h1, Bool.false_and, Bool.or_false, glued_eq_join]
  have key := join_splitC c z l []
  rw [List.nil_append] at key
  by_cases h2 : (occL c 0 l).isEmpty = true
  · rw [if_pos h2]
    rw [← part_none (List.isEmpty_iff.mp h2)] at key
    exact key
  · rw [if_neg h2, show (⟨#[c]⟩ : Str).length = 1 from rfl, parts_one]
    exact key
/-! words -/
def stepL (st : List (List Nat) × List Nat) (c : Nat) : List (List Nat) × List Nat := if Unicode.isSpace c = true then (if st.2 = [] then st else (st.1 ++ [st.2], [])) else (st.1, st.2 ++ [c])
def finL (st : List (List Nat) × List Nat) : List (List Nat) := if st.2 = [] then st.1 else st.1 ++ [st.2]
def mapS (st : List (List Nat) × List Nat) : KWd.St := (st.1.map St, St st.2)
theorem len_nil {l : List Nat} : (St l).length = 0 ↔ l = [] := by rw [St_len]; exact List.length_eq_zero_iff
theorem step_map (st : List (List Nat) × List Nat) (c : Nat) : KWd.step (mapS st) c = mapS (stepL st c) := by
  unfold KWd.step stepL mapS
  by_cases h : Unicode.isSpace c = true
  · rw [if_pos h, if_pos h]
    by_cases h2 : st.2 = []
    · rw [if_pos h2, if_pos (len_nil.mpr h2)]
    · rw [if_neg h2, if_neg (fun z => h2 (len_nil.mp z))]
      show (st.1.map St ++ [St st.2], Str.empty) = ((st.1 ++ [st.2]).map St, St [])
      rw [List.map_append]
      rfl
  · rw [if_neg h, if_neg h]
    show (st.1.map St, St st.2 ++ St [c]) = (st.1.map St, St (st.2 ++ [c]))
    rw [St_app]
theorem fold_map : ∀ (l : List Nat) (st : List (List Nat) × List Nat), l.foldl KWd.step (mapS st) = mapS (l.foldl stepL st)
  | [], st => rfl
  | c :: r, st => by
    rw [List.foldl_cons, List.foldl_cons, step_map, fold_map r]
theorem words_one (l : List Nat) : Txt.words (St l) = (finL (l.foldl stepL ([], []))).map St := by
  rw [KWd.words_scan]
  unfold KWd.scan
  have h : (St l).cps.toList = l := by simp
  have h0 : (([], Str.empty) : KWd.St) = mapS ([], []) := rfl
  rw [h, h0, fold_map]
  unfold KWd.fin finL mapS
  generalize l.foldl stepL ([], []) = st
  by_cases h2 : st.2 = []
  · rw [if_pos h2, if_pos (len_nil.mpr h2)]
  · rw [if_neg h2, if_neg (fun z => h2 (len_nil.mp z)), List.map_append]
    rfl
theorem fin_blank (st : List (List Nat) × List Nat) {c : Nat} (h : Unicode.isSpace c = true) : finL (stepL st c) = finL st := by
  unfold stepL finL
  rw [if_pos h]
  by_cases h2 : st.2 = []
  · rw [if_pos h2, if_pos h2]
  · rw [if_neg h2, if_neg h2, if_pos rfl]
theorem fold_word : ∀ (w : List Nat) (ws : List (List Nat)) (run : List Nat), (∀ c ∈ w, Unicode.isSpace c = false) → w.foldl stepL (ws, run) = (ws, run ++ w)
  | [], ws, run, _ => by rw [List.append_nil]; rfl
  | c :: r, ws, run, h => by
    rw [List.foldl_cons]
    have hc := h c List.mem_cons_self
    unfold stepL
    rw [if_neg (by rw [hc]; exact Bool.false_ne_true)]
    show r.foldl stepL (ws, run ++ [c]) = _
    rw [fold_word r ws (run ++ [c]) fun x hx => h x (List.mem_cons_of_mem _ hx), List.append_assoc]
    rfl
/-! words with one blank between -/
theorem splitC_word {c : Nat} : ∀ (w : List Nat) (acc rest : List Nat), c ∉ w → splitC c acc (w ++ rest) = splitC c (acc ++ w) rest
  | [], acc, rest, _ => by rw [List.nil_append, List.append_nil]
  | b :: r, acc, rest, h => by
    have hb : ¬ b = c := fun z => h (by rw [z]; exact List.mem_cons_self)
    rw [List.cons_append, splitC, if_neg hb, splitC_word r (acc ++ [b]) rest fun z => h (List.mem_cons_of_mem _ z), List.append_assoc]
    rfl
def joinL (c : Nat) : List (List Nat) → List Nat
  | [] => []
  | [w] => w
  | w :: v :: r => w ++ c :: joinL c (v :: r)
theorem joinL_St (c : Nat) : ∀ ws : List (List Nat), Str.join (St [c]) (ws.map St) = St (joinL c ws)
  | [] => rfl
  | [w] => rfl
  | w :: v :: r => by
    show St w ++ St [c] ++ Str.join (St [c]) ((v :: r).map St) = St (w ++ c :: joinL c (v :: r))
    rw [joinL_St c (v :: r), St_app, St_app, List.append_assoc]
    rfl
theorem split_joinL {c : Nat} : ∀ (ws : List (List Nat)), ws ≠ [] → (∀ w ∈ ws, c ∉ w) → splitC c [] (joinL c ws) = ws
  | [], h, _ => absurd rfl h
  | [w], _, h => by
    have := splitC_word w [] [] (h w List.mem_cons_self)
    rw [List.append_nil, List.nil_append] at this
    exact this
  | w :: v :: r, _, h => by
    show splitC c [] (w ++ c :: joinL c (v :: r)) = _
    rw [splitC_word w [] _ (h w List.mem_cons_self), List.nil_append, splitC, if_pos rfl, split_joinL (v :: r) (by simp) fun x hx => h x (List.mem_cons_of_mem _ hx)]
end J
namespace K50
open PySem PySem.Spec PyProof.Rows L2 J
/-! numbers as texts -/
def dg (i : Int) : List Nat := (Str.ofString (toString i)).cps.toList
theorem dg_St (i : Int) : St (dg i) = Str.ofString (toString i) := St_toList _
instance : SGc c_number_in_1 := by unfold c_number_in_1; infer_instance
instance : SGd F_number_in := by unfold F_number_in b_number_in; infer_instance
instance : SGd F_integer_in := by unfold F_integer_in b_integer_in; infer_instance
def okD (i : Int) : Bool := (dg i).all (fun c => !(Unicode.isSpace c) && decide (c ≠ 40 ∧ c ≠ 41 ∧ c ≠ 32)) && decide (dg i ≠ []) && decide ((dg i).length ≤ 3) && decide (dg i ≠ [45]) && gives F_integer_in [.str (St (dg i))] (.int i)
theorem okD_all : ((List.range 39).all fun k => okD ((k : Int) - 19)) = true := by decide +kernel
theorem okN_all : ((List.range 20).all fun k => gives F_number_in [.str (St (dg (k : Int)))] (.int (k : Int))) = true := by decide +kernel
structure Dg (i : Int) : Prop where
  sp : ∀ c ∈ dg i, Unicode.isSpace c = false
  br : ∀ c ∈ dg i, c ≠ 40 ∧ c ≠ 41 ∧ c ≠ 32
  ne : dg i ≠ []
  len : (dg i).length ≤ 3
  dash : dg i ≠ [45]
  rd : ∀ s, F_integer_in [.str (St (dg i))] s = some (.int i, s)
theorem dg_ok {i : Int} (h : -19 ≤ i ∧ i ≤ 19) : Dg i := by
  have hk := List.all_eq_true.mp okD_all (i + 19).toNat (List.mem_range.mpr (by omega))
  rw [show ((i + 19).toNat : Int) - 19 = i by omega] at hk
  unfold okD at hk
  rw [Bool.and_eq_true, Bool.and_eq_true, Bool.and_eq_true, Bool.and_eq_true, decide_eq_true_eq, decide_eq_true_eq, decide_eq_true_eq] at hk
  obtain ⟨⟨⟨⟨h1, h2⟩, h3⟩, h4⟩, h5⟩ := hk
  have h6 : ∀ c ∈ dg i, Unicode.isSpace c = false ∧ c ≠ 40 ∧ c ≠ 41 ∧ c ≠ 32 := fun c hc => by
    have := List.all_eq_true.mp h1 c hc
    rw [Bool.and_eq_true, decide_eq_true_eq] at this
    exact ⟨by simpa using this.1, this.2⟩
  exact ⟨fun c hc => (h6 c hc).1, fun c hc => (h6 c hc).2, h2, h3, h4, fun s => gives_any h5⟩
theorem number_rd {i : Int} (h : 0 ≤ i ∧ i < 20) (s : STO) : F_number_in [.str (St (dg i))] s = some (.int i, s) := by
  have hk := List.all_eq_true.mp okN_all i.toNat (List.mem_range.mpr (by omega))
  rw [show ((i.toNat : Nat) : Int) = i by omega] at hk
  exact gives_any hk
theorem cStr_dg {i : Int} (h : -19 ≤ i ∧ i ≤ 19) : cStr [.int i] = some (.str (St (dg i))) := by
  show (if i.natAbs.log2 < 1920 then some (PyData.str (Str.ofString (toString i))) else none) = _
  rw [if_pos, dg_St]
  have : i.natAbs < 2 ^ 5 := by omega
  by_cases h0 : i.natAbs = 0
  · rw [h0]; decide
  · have := (Nat.log2_lt h0).mpr this
    omega
end K50
namespace J
/-! exchanges of a nest -/
namespace Nest
/-- X and s are both halves of P -/
def Kid (P X s : Nest) : Prop := P = nd X s ∨ P = nd s X
theorem Kid.mem {P X s : Nest} (k : Kid P X s) {x : Int} : x ∈ P.lv ↔ x ∈ X.lv ∨ x ∈ s.lv := by
  rcases k with rfl | rfl <;> simp [lv, or_comm]
theorem Kid.len {P X s : Nest} (k : Kid P X s) : P.lv.length = X.lv.length + s.lv.length := by
  rcases k with rfl | rfl <;> simp [lv] <;> omega
theorem Kid.gr {P X s : Nest} (k : Kid P X s) {Y : Nest} : Y ∈ P.gr ↔ Y = P ∨ Y ∈ X.gr ∨ Y ∈ s.gr := by
  rcases k with rfl | rfl <;> simp [Nest.gr, or_comm]
theorem Kid.perm {P X s : Nest} (k : Kid P X s) : P.lv.Perm (X.lv ++ s.lv) := by
  rcases k with rfl | rfl
  · exact .refl _
  · exact List.perm_append_comm
theorem Kid.nd {P X s : Nest} (k : Kid P X s) (h : P.lv.Nodup) : X.lv.Nodup ∧ s.lv.Nodup ∧ ∀ x ∈ X.lv, x ∉ s.lv := by
  have := List.nodup_append.mp ((k.perm.nodup_iff).mp h)
  exact ⟨this.1, this.2.1, fun x h1 h2 => this.2.2 x h1 x h2 rfl⟩
theorem folk_ext {X Y : Nest} (hx : X.lv.Nodup) (hy : Y.lv.Nodup) (h : ∀ x, x ∈ X.lv ↔ x ∈ Y.lv) : X.folk = Y.folk := asc_ext (folk_asc hx) (folk_asc hy) fun x => by rw [mem_folk, mem_folk, h]
/-- one inner node replaced by another of the same folk -/
theorem replace {P Q : Nest} (hq : Q.lv.Perm P.lv) (hQ : Q ∈ Q.gr) : ∀ {t : Nest}, t.lv.Nodup → P ∈ t.gr → ∃ t' : Nest, t'.lv.Perm t.lv ∧ Q ∈ t'.gr ∧ ∀ g, g ∈ t'.gr.map folk ↔ (∃ Y ∈ t.gr, Y ∉ P.gr ∧ Y.folk = g) ∨ g ∈ Q.gr.map folk
  | lf _, _, h => by simp [Nest.gr] at h
  | .nd a b, hn, h => by
    have hd := List.nodup_append.mp hn
    have h' := h
    simp only [Nest.gr, List.mem_cons, List.mem_append] at h
    by_cases e : P = .nd a b
    · subst e
      refine ⟨Q, hq, hQ, fun g => ⟨.inr, ?_⟩⟩
      rintro (⟨Y, h1, h2, _⟩ | h1)
      · exact absurd h1 h2
      · exact h1
    have hout : Nest.nd a b ∉ P.gr := fun q => by
      rcases gr_len h' with r | r
      · exact e r
      · have := (gr_sublist q).length_le; omega
    rcases h with h | h | h
    · exact absurd h e
    · obtain ⟨u, h1, h2, h3⟩ := replace hq hQ hd.1 h
      have hp : (Nest.nd u b).lv.Perm (Nest.nd a b).lv := List.Perm.append_right _ h1
      refine ⟨.nd u b, hp, by simp [Nest.gr, h2], fun g => ?_⟩
      have hf : (Nest.nd u b).folk = (Nest.nd a b).folk := folk_ext ((List.Perm.nodup_iff hp).mpr hn) hn fun x => hp.mem_iff
      have hb : ∀ Y ∈ b.gr, Y ∉ P.gr := fun Y hY q => hd.2.2 _ ((gr_sublist h).subset ((gr_sublist q).subset Y.mn_mem)) _ ((gr_sublist hY).subset Y.mn_mem) rfl
      simp only [Nest.gr, List.map_cons, List.mem_cons, List.map_append, List.mem_append, h3]
      constructor
      · rintro (r | (⟨Y, r1, r2, r3⟩ | r) | r)
        · exact .inl ⟨_, .inl rfl, hout, by rw [r, hf]⟩
        · exact .inl ⟨Y, .inr (.inl r1), r2, r3⟩
        · exact .inr r
        · obtain ⟨Y, r1, r2⟩ := List.mem_map.mp r
          exact .inl ⟨Y, .inr (.inr r1), hb Y r1, r2⟩
      · rintro (⟨Y, rfl | r1 | r1, r2, r3⟩ | r)
        · exact .inl (by rw [← r3, hf])
        · exact .inr (.inl (.inl ⟨Y, r1, r2, r3⟩))
        · exact .inr (.inr (List.mem_map.mpr ⟨Y, r1, r3⟩))
        · exact .inr (.inl (.inr r))
    · obtain ⟨u, h1, h2, h3⟩ := replace hq hQ hd.2.1 h
      have hp : (Nest.nd a u).lv.Perm (Nest.nd a b).lv := List.Perm.append_left _ h1
      refine ⟨.nd a u, hp, by simp [Nest.gr, h2], fun g => ?_⟩
      have hf : (Nest.nd a u).folk = (Nest.nd a b).folk := folk_ext ((List.Perm.nodup_iff hp).mpr hn) hn fun x => hp.mem_iff
      have hb : ∀ Y ∈ a.gr, Y ∉ P.gr := fun Y hY q => hd.2.2 _ ((gr_sublist hY).subset Y.mn_mem) _ ((gr_sublist h).subset ((gr_sublist q).subset Y.mn_mem)) rfl
      simp only [Nest.gr, List.map_cons, List.mem_cons, List.map_append, List.mem_append, h3]
      constructor
      · rintro (r | r | (⟨Y, r1, r2, r3⟩ | r))
        · exact .inl ⟨_, .inl rfl, hout, by rw [r, hf]⟩
        · obtain ⟨Y, r1, r2⟩ := List.mem_map.mp r
          exact .inl ⟨Y, .inr (.inl r1), hb Y r1, r2⟩
        · exact .inl ⟨Y, .inr (.inr r1), r2, r3⟩
        · exact .inr r
      · rintro (⟨Y, rfl | r1 | r1, r2, r3⟩ | r)
        · exact .inl (by rw [← r3, hf])
        · exact .inr (.inl (List.mem_map.mpr ⟨Y, r1, r3⟩))
        · exact .inr (.inr (.inl ⟨Y, r1, r2, r3⟩))
        · exact .inr (.inr (.inr r))
end Nest
end J
namespace J
namespace Nest
theorem join_folk {c s : Nest} : sZ (c.folk ++ s.folk) = (nd c s).folk := by
  unfold folk
  exact sZ_eq ((sZ_perm _).append (sZ_perm _))
/-- both halves of a lot, in the order in which they are told -/
theorem halves_of {t X : Nest} {h : Int} {r : List Int} (hn : t.lv.Nodup) (hX : X ∈ t.gr) (e : X.folk = h :: r) : ∃ c d, Kid X c d ∧ h ∈ c.lv ∧ firstOf t.lots (h :: r) h = c.folk ∧ restOf t.lots h r = d.folk := by
  obtain ⟨a, b, rfl⟩ := gr_nd hX
  rcases parts_of hn hX e with ⟨h1, h2, h3⟩ | ⟨h1, h2, h3⟩
  · exact ⟨a, b, .inl rfl, h1, h2, h3⟩
  · exact ⟨b, a, .inr rfl, h1, h2, h3⟩
def halves (L : List (List Int)) : List Int → List (List Int)
  | [] => []
  | h :: r => [firstOf L (h :: r) h, restOf L h r]
end Nest
end J
namespace K50
open PySem PySem.Spec PyProof.Rows L2 J
theorem cLen_dI (l : List Int) : cLen [dI l] = some (.int l.length) := by
  show some (PyData.int ((l.map PyData.int).length : Nat)) = _
  rw [List.length_map]
theorem cLen_dL (l : List (List Int)) : cLen [dL l] = some (.int l.length) := by
  show some (PyData.int ((l.map dI).length : Nat)) = _
  rw [List.length_map]
/-! the text of a nest -/
def txt : Nest → List Nat
  | .lf p => dg p
  | .nd a b => if a.mn ≤ b.mn then 40 :: (txt a ++ (32 :: (txt b ++ [41]))) else 40 :: (txt b ++ (32 :: (txt a ++ [41])))
theorem txt_kid {X c d : Nest} {h : Int} {r : List Int} (hn : X.lv.Nodup) (k : Nest.Kid X c d) (e : X.folk = h :: r) (hc : h ∈ c.lv) : txt X = 40 :: (txt c ++ (32 :: (txt d ++ [41]))) := by
  obtain ⟨_, _, dj⟩ := k.nd hn
  obtain ⟨q, hq⟩ := Nest.folk_head X
  rw [e] at hq
  have hx : h = X.mn := (List.cons.inj hq).1
  have h1 := Nest.mn_le c h hc
  rcases k with rfl | rfl
  · have : (Nest.nd c d).mn = min c.mn d.mn := rfl
    show (if c.mn ≤ d.mn then _ else _) = _
    rw [if_pos (by omega)]
  · have : (Nest.nd d c).mn = min d.mn c.mn := rfl
    show (if d.mn ≤ c.mn then _ else _) = _
    rw [if_neg (fun z => ?_)]
    have hd : h = d.mn := by omega
    exact dj h hc (hd ▸ Nest.mn_mem d)
def inR (X : Nest) : Prop := ∀ x ∈ X.lv, -19 ≤ x ∧ x ≤ 19
theorem inR.kid {X c d : Nest} (k : Nest.Kid X c d) (h : inR X) : inR c ∧ inR d := ⟨fun x hx => h x (k.mem.mpr (.inl hx)), fun x hx => h x (k.mem.mpr (.inr hx))⟩
theorem txt_len : ∀ X : Nest, inR X → (txt X).length + 3 ≤ 6 * X.lv.length
  | .lf p, h => by
    have := (dg_ok (h p (List.mem_singleton.mpr rfl))).len
    show (dg p).length + 3 ≤ 6 * 1
    omega
  | .nd a b, h => by
    have ha := txt_len a fun x hx => h x (List.mem_append_left _ hx)
    have hb := txt_len b fun x hx => h x (List.mem_append_right _ hx)
    have hl : (Nest.nd a b).lv.length = a.lv.length + b.lv.length := List.length_append
    rw [hl, txt]
    split
    all_goals
      simp only [List.length_cons, List.length_append, List.length_nil]
      omega
theorem dAdd_St {a b : List Nat} (h : a.length + b.length ≤ 16777216) : dAdd (.str (St a)) (.str (St b)) = some (.str (St (a ++ b))) := by
  show (if (St a).length + (St b).length ≤ 16777216 then _ else _) = _
  rw [if_pos (by rw [St_len, St_len]; exact h), St_app]
theorem q40 : Str.ofString "(" = St [40] := by decide +kernel
theorem s40 : PyData.str (Str.ofString "(") = .str (St [40]) := congrArg PyData.str q40
theorem q41 : Str.ofString ")" = St [41] := by decide +kernel
theorem s41 : PyData.str (Str.ofString ")") = .str (St [41]) := congrArg PyData.str q41
theorem q32 : Str.ofString " " = St [32] := by decide +kernel
theorem s32 : PyData.str (Str.ofString " ") = .str (St [32]) := congrArg PyData.str q32
/-- what both writers say at a group -/
theorem text_sum {f g : Ev} {vw : VW} {s : STO} {a b : List Nat} (h1 : f vw s = some (.str (St a), s)) (h2 : g vw s = some (.str (St b), s)) (ha : a.length ≤ 1000) (hb : b.length ≤ 1000) :
    eBin dAdd (eBin dAdd (eBin dAdd (eBin dAdd (eC (.str "(")) f) (eC (.str " "))) g) (eC (.str ")")) vw s = some (.str (St (40 :: (a ++ (32 :: (b ++ [41]))))), s) := by
  rw [s40, s41, s32]
  have e : 40 :: (a ++ (32 :: (b ++ [41]))) = ((([40] ++ a) ++ [32]) ++ b) ++ [41] := by simp
  rw [e]
  refine eBin_ok (eBin_ok (eBin_ok (eBin_ok eC_ok h1 (dAdd_St ?_)) eC_ok (dAdd_St ?_)) h2 (dAdd_St ?_)) eC_ok (dAdd_St ?_)
  all_goals
    simp only [List.length_cons, List.length_append, List.length_nil]
    omega
section
variable {t : Nest} {m : Nat} (ht : t.Of m) (hm : m ≤ 20)
include ht hm
theorem text_of_eq : ∀ (X : Nest) (n : Nat), X.dep < n → (∀ Y ∈ X.gr, Y ∈ t.gr) → X.lv.Nodup → inR X → X.lv.length ≤ 20 → ∀ s, F_text_of n [dL t.lots, dI X.folk] s = some (.str (St (txt X)), s)
  | .lf p, n + 1, _, _, _, hR, _, s => by
    show fnD 4 (b_text_of (F_text_of n)) [dL t.lots, dI [p]] s = _
    refine fnD_rt (e1 := [.sh (dL t.lots), .sh (dI [p]), .no, .no]) (s1 := s) ?_ (fin_self _ _)
    unfold b_text_of
    exact sSeq_rt (sIf_t (bT_ok (b := true) (eBin_ok (eOp_ok (aC_ok (eVar_ok rfl) aN_ok) (cLen_dI [p])) eC_ok rfl)) (sSeq_rt (sRet_ok (eOp_ok (aC_ok (eIdx_ok (d1 := dI [p]) (d2 := .int 0) (eVar_ok rfl) eC_ok rfl) aN_ok) (cStr_dg (hR p (List.mem_singleton.mpr rfl)))))))
  | .nd a b, n + 1, hd, hN, hX, hR, hl, s => by
    have hlen := Nest.len_folk (Nest.nd a b)
    have hl2 : (Nest.nd a b).lv.length = a.lv.length + b.lv.length := List.length_append
    have la := a.lv_pos
    have lb := b.lv_pos
    have hdep : (Nest.nd a b).dep = max a.dep b.dep + 1 := rfl
    have hgr : (Nest.nd a b).gr = Nest.nd a b :: (a.gr ++ b.gr) := rfl
    obtain ⟨na, nb, _⟩ := Nest.Kid.nd (.inl rfl : Nest.Kid (Nest.nd a b) a b) hX
    obtain ⟨Ra, Rb⟩ := hR.kid (.inl rfl)
    have ia := text_of_eq a n (by omega) (fun Y hY => hN Y (by rw [hgr]; exact List.mem_cons_of_mem _ (List.mem_append_left _ hY))) na Ra (by omega) s
    have ib := text_of_eq b n (by omega) (fun Y hY => hN Y (by rw [hgr]; exact List.mem_cons_of_mem _ (List.mem_append_right _ hY))) nb Rb (by omega) s
    cases e : (Nest.nd a b).folk with
    | nil => rw [e] at hlen; simp at hlen; omega
    | cons h r =>
      obtain ⟨c, d, k, hc, f1, f2⟩ := Nest.halves_of ht.nodup (hN _ (by rw [hgr]; exact List.mem_cons_self)) e
      have hp := parts_in_eq t.lots h r s (by rw [← e, hlen]; omega)
      unfold restOf at f2
      rw [f1, ← f1, f2, f1] at hp
      rw [txt_kid hX k e hc]
      obtain ⟨Rc, Rd⟩ := hR.kid k
      have kl := k.len
      have tc := txt_len c Rc
      have td := txt_len d Rd
      have ic : F_text_of n [dL t.lots, dI c.folk] s = some (.str (St (txt c)), s) := by
        rcases k with k | k <;> (injection k with k1 k2; subst k1 k2; assumption)
      have id' : F_text_of n [dL t.lots, dI d.folk] s = some (.str (St (txt d)), s) := by
        rcases k with k | k <;> (injection k with k1 k2; subst k1 k2; assumption)
      show fnD 4 (b_text_of (F_text_of n)) [dL t.lots, dI (h :: r)] s = _
      refine fnD_rt (e1 := [.sh (dL t.lots), .sh (dI (h :: r)), .sh (dI c.folk), .sh (dI d.folk)]) (s1 := s) ?_ (fin_self _ _)
      unfold b_text_of
      have hr1 : (h :: r).length = a.lv.length + b.lv.length := by rw [← e, hlen, hl2]
      refine sSeq_nx (e1 := [.sh (dL t.lots), .sh (dI (h :: r)), .no, .no]) (s1 := s) (sIf_f (bT_ok (b := false) (eBin_ok (eOp_ok (aC_ok (eVar_ok rfl) aN_ok) (cLen_dI (h :: r))) eC_ok ?_)) rfl) ?_
      · show some (PyData.bool (decide (((h :: r).length : Int) = 1))) = _
        rw [decide_eq_false (by omega)]
      refine sSeq_nx (e1 := [.sh (dL t.lots), .sh (dI (h :: r)), .sh (dI c.folk), .sh (dI d.folk)]) (s1 := s) ?_ ?_
      · unfold sBind
        have : eCall F_parts_in [0, 1] (aApp (aC (eVar 0) (aC (eVar 1) aN)) aN) (see [] [.sh (dL t.lots), .sh (dI (h :: r)), .no, .no]) s = some (.list [dI c.folk, dI d.folk], s) := eCall_ok (aApp_ok (aC_ok (eVar_ok rfl) (aC_ok (eVar_ok rfl) aN_ok)) aN_ok) hp
        rw [this]
        rfl
      exact sSeq_rt (sRet_ok (text_sum (eCall_ok (aApp_ok (aC_ok (eVar_ok rfl) (aC_ok (eVar_ok rfl) aN_ok)) aN_ok) ic) (eCall_ok (aApp_ok (aC_ok (eVar_ok rfl) (aC_ok (eVar_ok rfl) aN_ok)) aN_ok) id') (by omega) (by omega)))
end
end K50
namespace K50
open PySem PySem.Spec PyProof.Rows L2 J
theorem idx0 {h : Int} {r : List Int} {vw : VW} {s : STO} {i : Nat} (hv : vw[i]? = some (some (dI (h :: r)))) : eIdx (eVar i) (eC (.int 0)) vw s = some (.int h, s) := eIdx_ok (d1 := dI (h :: r)) (d2 := .int 0) (eVar_ok hv) eC_ok (atI_nat (j := 0) rfl)
theorem lenV {l : List Int} {vw : VW} {s : STO} {i : Nat} (hv : vw[i]? = some (some (dI l))) : eOp cLen (aC (eVar i) aN) vw s = some (.int l.length, s) := eOp_ok (aC_ok (eVar_ok hv) aN_ok) (cLen_dI l)
theorem lt_step (R : FnD) (ls : List (List Int)) (h : Int) (r first other : List Int) (s : STO) (x y : J.Slot) :
    l__law_text_1 R [.sh (dL ls), .sh (dI (h :: r)), .sh (dI first), .sh (dI other), x, y] s = some (.nx, [.sh (dL ls), .sh (dI (h :: r)), .sh (dI (firstStep (h :: r) h first other)), .sh (dI other), x, y], s) := by
  have hch : eChain dLt dLt (eOp cLen (aC (eVar 2) aN)) (eOp cLen (aC (eVar 3) aN)) (eOp cLen (aC (eVar 1) aN)) (see [] [.sh (dL ls), .sh (dI (h :: r)), .sh (dI first), .sh (dI other), x, y]) s = some (.bool (decide ((first.length : Int) < other.length) && decide ((other.length : Int) < (h :: r).length)), s) :=
    eChain_b (lenV rfl) (lenV rfl) (lenV rfl) rfl rfl
  unfold l__law_text_1 firstStep
  by_cases h3 : h ∈ other
  · have hin : bT (eBin dIn (eIdx (eVar 1) (eC (.int 0))) (eVar 3)) (see [] [.sh (dL ls), .sh (dI (h :: r)), .sh (dI first), .sh (dI other), x, y]) s = some (true, s) := bT_ok (eBin_ok (idx0 rfl) (eVar_ok rfl) (by rw [dIn_int, decide_eq_true h3]))
    by_cases h1 : first.length < other.length ∧ other.length < (h :: r).length
    · rw [if_pos ⟨h1.1, h1.2, h3⟩]
      refine sSeq_nx (e1 := [.sh (dL ls), .sh (dI (h :: r)), .sh (dI other), .sh (dI other), x, y]) (s1 := s) (sIf_t (s1 := s) (aT_t (R := some (true, s)) hin ?_) ?_) rfl
      · exact bT_ok (by rw [hch, decide_eq_true (by omega), decide_eq_true (by omega)]; rfl)
      · exact sSeq_nx (sSet_ok (eVar_ok rfl)) rfl
    · rw [if_neg (fun z => h1 ⟨z.1, z.2.1⟩)]
      refine sSeq_nx (e1 := [.sh (dL ls), .sh (dI (h :: r)), .sh (dI first), .sh (dI other), x, y]) (s1 := s) (sIf_f (s1 := s) (aT_t (R := some (false, s)) hin ?_) rfl) rfl
      refine bT_ok ?_
      rw [hch]
      have : (decide ((first.length : Int) < other.length) && decide ((other.length : Int) < (h :: r).length)) = false := by
        rw [Bool.and_eq_false_iff, decide_eq_false_iff_not, decide_eq_false_iff_not]
        omega
      rw [this]
  · have hin : bT (eBin dIn (eIdx (eVar 1) (eC (.int 0))) (eVar 3)) (see [] [.sh (dL ls), .sh (dI (h :: r)), .sh (dI first), .sh (dI other), x, y]) s = some (false, s) := bT_ok (eBin_ok (idx0 rfl) (eVar_ok rfl) (by rw [dIn_int, decide_eq_false h3]))
    rw [if_neg (fun z => h3 z.2.2)]
    exact sSeq_nx (e1 := [.sh (dL ls), .sh (dI (h :: r)), .sh (dI first), .sh (dI other), x, y]) (s1 := s) (sIf_f (aT_f hin) rfl) rfl
theorem lt_loop (R : FnD) (h : Int) (r : List Int) (ls0 : List (List Int)) (s : STO) (x y : J.Slot) : ∀ (ls : List (List Int)) (first : List Int) (z : J.Slot),
    ∃ z', forL (bN 3) (l__law_text_1 R) (ls.map dI) [.sh (dL ls0), .sh (dI (h :: r)), .sh (dI first), z, x, y] s = some (.nx, [.sh (dL ls0), .sh (dI (h :: r)), .sh (dI (ls.foldl (firstStep (h :: r) h) first)), z', x, y], s)
  | [], first, z => ⟨z, rfl⟩
  | o :: ls, first, z => by
    obtain ⟨z', ih⟩ := lt_loop R h r ls0 s x y ls (firstStep (h :: r) h first o) (.sh (dI o))
    refine ⟨z', ?_⟩
    rw [List.map_cons]
    rw [forL]
    simp only [bN, Option.bind_some]
    rw [if_pos ⟨by rfl, noTok_dI o⟩]
    show ((l__law_text_1 R [.sh (dL ls0), .sh (dI (h :: r)), .sh (dI first), .sh (dI o), x, y] s).bind _) = _
    rw [lt_step]
    simp only [Option.bind_some]
    exact ih
theorem lt_rest (R : FnD) (g f : List Int) (s : STO) (hl : g.length ≤ 1000) {vw : VW} (h1 : vw[1]? = some (some (dI g))) (h2 : vw[2]? = some (some (dI f))) (h6 : vw.length = 6) : c__law_text_1 R vw s = some (dI (g.filter fun x => !decide (x ∈ f)), s) := by
  unfold c__law_text_1
  refine eComp_pure g PyData.int (fun x => [(5, .int x)]) (fun x => !decide (x ∈ f)) _ ?_ (by omega) (fun _ _ => rfl) (fun x _ => ?_) fun x _ _ => ?_
  · simp [iVal, eVar, h1]
  · have := dNotIn_int x f
    have hv : (setV (wipeV vw [5]) [(5, PyData.int x)])[2]? = some (some (dI f)) := by simp [setV, wipeV, h2]
    have h5 : (setV (wipeV vw [5]) [(5, PyData.int x)])[5]? = some (some (.int x)) := by simp [setV, wipeV, h6]
    exact bT_ok (eBin_ok (eVar_ok h5) (eVar_ok hv) this)
  · have h5 : (setV (wipeV vw [5]) [(5, PyData.int x)])[5]? = some (some (.int x)) := by simp [setV, wipeV, h6]
    exact eVar_ok h5
section
variable {t : Nest} {m : Nat} (ht : t.Of m) (hm : m ≤ 20)
include ht hm
theorem law_text_eq : ∀ (X : Nest) (n : Nat), X.dep < n → (∀ Y ∈ X.gr, Y ∈ t.gr) → X.lv.Nodup → inR X → X.lv.length ≤ 20 → ∀ s, F__law_text n [dL t.lots, dI X.folk] s = some (.str (St (txt X)), s)
  | .lf p, n + 1, _, _, _, hR, _, s => by
    show fnD 6 (b__law_text (F__law_text n)) [dL t.lots, dI [p]] s = _
    refine fnD_rt (e1 := [.sh (dL t.lots), .sh (dI [p]), .no, .no, .no, .no]) (s1 := s) ?_ (fin_self _ _)
    unfold b__law_text
    exact sSeq_rt (sIf_t (bT_ok (b := true) (eBin_ok (lenV rfl) eC_ok rfl)) (sSeq_rt (sRet_ok (eOp_ok (aC_ok (idx0 rfl) aN_ok) (cStr_dg (hR p (List.mem_singleton.mpr rfl)))))))
  | .nd a b, n + 1, hd, hN, hX, hR, hl, s => by
    have hlen := Nest.len_folk (Nest.nd a b)
    have hl2 : (Nest.nd a b).lv.length = a.lv.length + b.lv.length := List.length_append
    have la := a.lv_pos
    have lb := b.lv_pos
    have hdep : (Nest.nd a b).dep = max a.dep b.dep + 1 := rfl
    have hgr : (Nest.nd a b).gr = Nest.nd a b :: (a.gr ++ b.gr) := rfl
    obtain ⟨na, nb, _⟩ := Nest.Kid.nd (.inl rfl : Nest.Kid (Nest.nd a b) a b) hX
    obtain ⟨Ra, Rb⟩ := hR.kid (.inl rfl)
    have ia := law_text_eq a n (by omega) (fun Y hY => hN Y (by rw [hgr]; exact List.mem_cons_of_mem _ (List.mem_append_left _ hY))) na Ra (by omega) s
    have ib := law_text_eq b n (by omega) (fun Y hY => hN Y (by rw [hgr]; exact List.mem_cons_of_mem _ (List.mem_append_right _ hY))) nb Rb (by omega) s
    cases e : (Nest.nd a b).folk with
    | nil => rw [e] at hlen; simp at hlen; omega
    | cons h r =>
      obtain ⟨c, d, k, hc, f1, f2⟩ := Nest.halves_of ht.nodup (hN _ (by rw [hgr]; exact List.mem_cons_self)) e
      unfold restOf at f2
      rw [f1] at f2
      have f0 : t.lots.foldl (firstStep (h :: r) h) [h] = c.folk := f1
      rw [txt_kid hX k e hc]
      obtain ⟨Rc, Rd⟩ := hR.kid k
      have kl := k.len
      have tc := txt_len c Rc
      have td := txt_len d Rd
      have ic : F__law_text n [dL t.lots, dI c.folk] s = some (.str (St (txt c)), s) := by
        rcases k with k | k <;> (injection k with k1 k2; subst k1 k2; assumption)
      have id' : F__law_text n [dL t.lots, dI d.folk] s = some (.str (St (txt d)), s) := by
        rcases k with k | k <;> (injection k with k1 k2; subst k1 k2; assumption)
      have hr1 : (h :: r).length = a.lv.length + b.lv.length := by rw [← e, hlen, hl2]
      obtain ⟨z', hloop⟩ := lt_loop (F__law_text n) h r t.lots s .no .no t.lots [h] .no
      rw [f0] at hloop
      have hcm := lt_rest (F__law_text n) (h :: r) c.folk s (by omega) (vw := see [] [.sh (dL t.lots), .sh (dI (h :: r)), .sh (dI c.folk), z', .no, .no]) rfl rfl rfl
      rw [f2] at hcm
      show fnD 6 (b__law_text (F__law_text n)) [dL t.lots, dI (h :: r)] s = _
      refine fnD_rt (e1 := [.sh (dL t.lots), .sh (dI (h :: r)), .sh (dI c.folk), z', .sh (dI d.folk), .no]) (s1 := s) ?_ (fin_self _ _)
      unfold b__law_text
      refine sSeq_nx (e1 := [.sh (dL t.lots), .sh (dI (h :: r)), .no, .no, .no, .no]) (s1 := s) (sIf_f (bT_ok (b := false) (eBin_ok (lenV rfl) eC_ok ?_)) rfl) ?_
      · show some (PyData.bool (decide (((h :: r).length : Int) = 1))) = _
        rw [decide_eq_false (by omega)]
      refine sSeq_nx (e1 := [.sh (dL t.lots), .sh (dI (h :: r)), .sh (dI [h]), .no, .no, .no]) (s1 := s) (sSet_ok (eLst_ok (aC_ok (idx0 rfl) aN_ok))) ?_
      refine sSeq_nx (e1 := [.sh (dL t.lots), .sh (dI (h :: r)), .sh (dI c.folk), z', .no, .no]) (s1 := s) (sFor_ok (ds := t.lots.map dI) (s1 := s) (iVal_l (eVar_ok rfl)) (by rw [fz, fzI_nil]; exact hloop)) ?_
      refine sSeq_nx (e1 := [.sh (dL t.lots), .sh (dI (h :: r)), .sh (dI c.folk), z', .sh (dI d.folk), .no]) (s1 := s) (sSet_ok hcm) ?_
      exact sSeq_rt (sRet_ok (text_sum (eCall_ok (aApp_ok (aC_ok (eVar_ok rfl) (aC_ok (eVar_ok rfl) aN_ok)) aN_ok) ic) (eCall_ok (aApp_ok (aC_ok (eVar_ok rfl) (aC_ok (eVar_ok rfl) aN_ok)) aN_ok) id') (by omega) (by omega)))
end
end K50
namespace K50
open PySem PySem.Spec PyProof.Rows L2 J
/-! the nest with its halves in the text's order -/
def ord : Nest → Nest
  | .lf p => .lf p
  | .nd a b => if a.mn ≤ b.mn then .nd (ord a) (ord b) else .nd (ord b) (ord a)
def tx : Nest → List Nat
  | .lf p => dg p
  | .nd a b => 40 :: (tx a ++ (32 :: (tx b ++ [41])))
theorem txt_ord : ∀ t : Nest, txt t = tx (ord t)
  | .lf p => rfl
  | .nd a b => by
    rw [txt, ord]
    split
    · rw [tx, txt_ord a, txt_ord b]
    · rw [tx, txt_ord a, txt_ord b]
theorem ord_lv : ∀ t : Nest, (ord t).lv.Perm t.lv
  | .lf p => .refl _
  | .nd a b => by
    rw [ord]
    split
    · exact (ord_lv a).append (ord_lv b)
    · exact ((ord_lv b).append (ord_lv a)).trans List.perm_append_comm
theorem ord_folk (t : Nest) : (ord t).folk = t.folk := sZ_eq (ord_lv t)
theorem ord_gr : ∀ t : Nest, ((ord t).gr.map Nest.folk).Perm (t.gr.map Nest.folk)
  | .lf p => .refl _
  | .nd a b => by
    have hf := ord_folk (.nd a b)
    rw [ord] at hf ⊢
    have ha := ord_gr a
    have hb := ord_gr b
    split at hf
    · rename_i h
      rw [if_pos h]
      show ((Nest.nd (ord a) (ord b)).folk :: ((ord a).gr ++ (ord b).gr).map Nest.folk).Perm ((Nest.nd a b).folk :: (a.gr ++ b.gr).map Nest.folk)
      rw [hf, List.map_append, List.map_append]
      exact (ha.append hb).cons _
    · rename_i h
      rw [if_neg h]
      show ((Nest.nd (ord b) (ord a)).folk :: ((ord b).gr ++ (ord a).gr).map Nest.folk).Perm ((Nest.nd a b).folk :: (a.gr ++ b.gr).map Nest.folk)
      rw [hf, List.map_append, List.map_append]
      exact ((hb.append ha).trans List.perm_append_comm).cons _
/-! signs and words -/
theorem replL_app (c : Nat) (z a b : List Nat) : replL c z (a ++ b) = replL c z a ++ replL c z b := by unfold replL; rw [List.flatMap_append]
theorem replL_cons (c : Nat) (z : List Nat) (x : Nat) (a : List Nat) : replL c z (x :: a) = (if x = c then z else [x]) ++ replL c z a := by unfold replL; rw [List.flatMap_cons]
theorem replL_nil (c : Nat) (z : List Nat) : replL c z [] = [] := rfl
theorem replL_none (c : Nat) (z : List Nat) : ∀ l : List Nat, c ∉ l → replL c z l = l
  | [], _ => rfl
  | x :: r, h => by
    rw [replL_cons, if_neg (fun e => h (by rw [e]; exact List.mem_cons_self)), replL_none c z r fun e => h (List.mem_cons_of_mem _ e)]
    rfl
def rx (l : List Nat) : List Nat := replL 41 [32, 41, 32] (replL 40 [32, 40, 32] l)
theorem rx_nd (a b : Nest) : rx (tx (.nd a b)) = [32, 40, 32] ++ (rx (tx a) ++ ([32] ++ (rx (tx b) ++ [32, 41, 32]))) := by
  unfold rx
  rw [tx]
  simp only [replL_app, replL_cons, replL_nil, List.append_nil, List.cons_append, List.nil_append, if_true, show ¬ (32 = 40) by decide, show ¬ (32 = 41) by decide, show ¬ (41 = 40) by decide, show ¬ (40 = 41) by decide, if_false, List.append_assoc]
theorem rx_lf {p : Int} (h : -19 ≤ p ∧ p ≤ 19) : rx (tx (.lf p)) = dg p := by
  have d := dg_ok h
  unfold rx
  have h1 : (40 : Nat) ∉ dg p := fun e => (d.br 40 e).1 rfl
  have h2 : (41 : Nat) ∉ dg p := fun e => (d.br 41 e).2.1 rfl
  rw [tx, replL_none _ _ _ h1, replL_none _ _ _ h2]
def tk : Nest → List (List Nat)
  | .lf p => [dg p]
  | .nd a b => [40] :: (tk a ++ (tk b ++ [[41]]))
theorem sp32 : Unicode.isSpace 32 = true := by decide +kernel
theorem sp40 : Unicode.isSpace 40 = false := by decide +kernel
theorem sp41 : Unicode.isSpace 41 = false := by decide +kernel
theorem st_blank0 (ws : List (List Nat)) : stepL (ws, []) 32 = (ws, []) := by unfold stepL; rw [if_pos sp32, if_pos rfl]
theorem st_blank (ws : List (List Nat)) {r : List Nat} (h : r ≠ []) : stepL (ws, r) 32 = (ws ++ [r], []) := by unfold stepL; rw [if_pos sp32, if_neg h]
theorem st_sign (ws : List (List Nat)) (r : List Nat) {c : Nat} (h : Unicode.isSpace c = false) : stepL (ws, r) c = (ws, r ++ [c]) := by unfold stepL; rw [if_neg (by rw [h]; exact Bool.false_ne_true)]
theorem rx_fold : ∀ (u : Nest), inR u → ∀ ws : List (List Nat), (rx (tx u) ++ [32]).foldl stepL (ws, []) = (ws ++ tk u, [])
  | .lf p, h, ws => by
    have hp := h p (List.mem_singleton.mpr rfl)
    have d := dg_ok hp
    rw [rx_lf hp, List.foldl_append, fold_word _ _ _ d.sp, List.nil_append]
    exact st_blank ws d.ne
  | .nd a b, h, ws => by
    have ia := rx_fold a fun x hx => h x (List.mem_append_left _ hx)
    have ib := rx_fold b fun x hx => h x (List.mem_append_right _ hx)
    have e : rx (tx (.nd a b)) ++ [32] = [32, 40, 32] ++ ((rx (tx a) ++ [32]) ++ ((rx (tx b) ++ [32]) ++ [41, 32, 32])) := by rw [rx_nd]; simp
    have e1 : ([32, 40, 32] : List Nat).foldl stepL (ws, []) = (ws ++ [[40]], []) := by
      show stepL (stepL (stepL (ws, []) 32) 40) 32 = _
      rw [st_blank0, st_sign _ _ sp40, st_blank _ (by simp)]
      rfl
    have e2 : ∀ vs : List (List Nat), ([41, 32, 32] : List Nat).foldl stepL (vs, []) = (vs ++ [[41]], []) := fun vs => by
      show stepL (stepL (stepL (vs, []) 41) 32) 32 = _
      rw [st_sign _ _ sp41, List.nil_append, st_blank vs (r := [41]) (by simp), st_blank0]
    rw [e, List.foldl_append, e1, List.foldl_append, ia, List.foldl_append, ib, e2]
    show (_, _) = (ws ++ ([40] :: (tk a ++ (tk b ++ [[41]]))), _)
    simp
theorem rx_words (u : Nest) (h : inR u) : Txt.words (St (rx (tx u))) = (tk u).map St := by
  rw [words_one]
  have := rx_fold u h []
  rw [List.foldl_append, List.nil_append] at this
  have h2 : stepL ((rx (tx u)).foldl stepL ([], [])) 32 = (tk u, []) := this
  rw [← fin_blank _ sp32, h2]
  rfl
theorem rx_len : ∀ (u : Nest), inR u → (rx (tx u)).length + 7 ≤ 10 * u.lv.length
  | .lf p, h => by
    have hp := h p (List.mem_singleton.mpr rfl)
    rw [rx_lf hp]
    have := (dg_ok hp).len
    show (dg p).length + 7 ≤ 10 * 1
    omega
  | .nd a b, h => by
    have ha := rx_len a fun x hx => h x (List.mem_append_left _ hx)
    have hb := rx_len b fun x hx => h x (List.mem_append_right _ hx)
    have hl : (Nest.nd a b).lv.length = a.lv.length + b.lv.length := List.length_append
    rw [hl, rx_nd]
    simp only [List.length_cons, List.length_append, List.length_nil]
    omega
def post : Nest → List (List Int)
  | .lf _ => []
  | .nd a b => post a ++ (post b ++ [(Nest.nd a b).folk])
theorem post_perm : ∀ u : Nest, (post u).Perm (u.gr.map Nest.folk)
  | .lf _ => .refl _
  | .nd a b => by
    show (post a ++ (post b ++ [(Nest.nd a b).folk])).Perm ((Nest.nd a b).folk :: (a.gr ++ b.gr).map Nest.folk)
    rw [List.map_append, ← List.append_assoc]
    exact (List.perm_append_comm).trans (((post_perm a).append (post_perm b)).cons _)
theorem post_lots (t : Nest) : sR (post (ord t)) = t.lots := sR_eq ((post_perm _).trans (ord_gr t))
end K50
namespace K50
open PySem PySem.Spec PyProof.Rows L2 J
theorem sApp_ok {i k : Nat} {g : Ev} {env : J.Env} {s s1 : STO} {d : D} {ds : List D} (h1 : g (see [] env) s = some (d, s1)) (h2 : env[i]? = some (.ow (k + 1) (.list ds))) (hl : ds.length < 16777216) : sApp i [] k g env s = some (.nx, env.set i (.ow (k + 1) (.list (ds ++ [d]))), s1) := by
  unfold sApp
  rw [h1, Option.bind_some, fzIf_nil, h2]
  show (if k = k ∧ ds.length < 16777216 then _ else _) = _
  rw [if_pos ⟨rfl, hl⟩]
theorem ixN_last (n : Nat) : ixN (n + 1) (-1) = some n := by
  unfold ixN
  rw [if_neg (by decide), if_pos (by omega)]
  congr 1
  omega
theorem last_map (L : List (List Int)) (g : List Int) : ((L ++ [g]).map dI)[L.length]? = some (dI g) := by
  rw [List.map_append, List.getElem?_append_right (by rw [List.length_map]; exact Nat.le_refl _), List.length_map, Nat.sub_self]
  rfl
theorem set_last (L : List (List Int)) (g h : List Int) : ((L ++ [g]).map dI).set L.length (dI h) = (L ++ [h]).map dI := by
  rw [List.map_append, List.map_append, List.set_append_right _ _ (by rw [List.length_map]; exact Nat.le_refl _), List.length_map, Nat.sub_self]
  rfl
theorem scal_ints : ∀ l : List Int, (l.map PyData.int).all isScal = true
  | [] => rfl
  | x :: r => by rw [List.map_cons, List.all_cons, scal_ints r]; rfl
theorem sSrtPop_ok {m l : Nat} {env : J.Env} {s : STO} {L : List (List Int)} {g : List Int} (h : env[m]? = some (.ow 2 (dL (L ++ [g])))) (hlm : l ≠ m) (hl : l < env.length) (hg : g.length ≤ 1000) :
    sSrtPop m l env s = some (.nx, (env.set m (.ow 2 (dL L))).set l (.ow 1 (dI (sZ g))), s) := by
  unfold sSrtPop
  rw [h]
  have e1 : ((L ++ [g]).map dI).length - 1 = L.length := by rw [List.length_map, List.length_append]; rfl
  show (match ((L ++ [g]).map dI)[((L ++ [g]).map dI).length - 1]? with | some (.list es) => _ | _ => none) = _
  rw [e1, last_map]
  show (if l ≠ m ∧ l < env.length ∧ sortOk (g.map PyData.int) = true ∧ (g.map PyData.int).length ≤ 16777216 ∧ (g.map PyData.int).all isScal = true then _ else none) = _
  rw [if_pos ⟨hlm, hl, sortOk_dI g, by rw [List.length_map]; omega, scal_ints g⟩, srt_dI]
  have e2 : ((L ++ [g]).map dI).dropLast = L.map dI := by rw [List.map_append]; exact List.dropLast_concat
  rw [e2]
theorem sAppExt_ok {i l m : Nat} {env : J.Env} {s : STO} {F L : List (List Int)} {q es : List Int} (h1 : env[i]? = some (.ow 2 (dL F))) (h2 : env[l]? = some (.ow 1 (dI es))) (h3 : env[m]? = some (.ow 2 (dL (L ++ [q])))) (hil : i ≠ l) (him : i ≠ m) (hlm : l ≠ m) (hF : F.length ≤ 1000) (hq : q.length ≤ 1000) (he : es.length ≤ 1000) :
    sAppExt i l m (-1) env s = some (.nx, ((env.set i (.ow 2 (dL (F ++ [es])))).set l .no).set m (.ow 2 (dL (L ++ [q ++ es]))), s) := by
  unfold sAppExt
  rw [h1, h2, h3]
  show (if i ≠ l ∧ i ≠ m ∧ l ≠ m ∧ (F.map dI).length < 16777216 ∧ (es.map PyData.int).all isScal = true then (ixN ((L ++ [q]).map dI).length (-1)).bind _ else none) = _
  rw [if_pos ⟨hil, him, hlm, by rw [List.length_map]; omega, scal_ints es⟩, show ((L ++ [q]).map dI).length = L.length + 1 by rw [List.length_map, List.length_append]; rfl, ixN_last, Option.bind_some, last_map]
  show (if (q.map PyData.int).length + (es.map PyData.int).length ≤ 16777216 then some (Out.nx, ((env.set i (.ow 2 (.list (F.map dI ++ [dI es])))).set l .no).set m (.ow 2 (.list (((L ++ [q]).map dI).set L.length (.list (q.map PyData.int ++ es.map PyData.int))))), s) else none) = _
  rw [if_pos (by rw [List.length_map, List.length_map]; omega)]
  have e1 : F.map dI ++ [dI es] = (F ++ [es]).map dI := by rw [List.map_append]; rfl
  have e2 : PyData.list (q.map PyData.int ++ es.map PyData.int) = dI (q ++ es) := by show _ = PyData.list ((q ++ es).map PyData.int); rw [List.map_append]
  rw [e1, e2, set_last]
/-! the loop over the words -/
abbrev gE (x : D) (S F : List (List Int)) (y3 y4 y5 : J.Slot) : J.Env := [.sh x, .ow 2 (dL S), .ow 2 (dL F), y3, y4, y5]
theorem eqS {a b : List Nat} {vw : VW} {s : STO} {i : Nat} (h : vw[i]? = some (some (.str (St a)))) : bT (eBin dEq (eVar i) (eC (.str (St b)))) vw s = some (decide (a = b), s) := by
  refine bT_ok (eBin_ok (eVar_ok h) eC_ok ?_)
  show some (PyData.bool (St a == St b)) = _
  congr 2
  by_cases e : a = b
  · rw [e, decide_eq_true rfl, beq_self_eq_true]
  · rw [decide_eq_false e]
    exact beq_eq_false_iff_ne.mpr fun z => e (St_inj z)
theorem gi_open {x : D} {S F : List (List Int)} {y4 y5 : J.Slot} {s : STO} (hS : S.length ≤ 1000) :
    l_groups_in_1 (gE x S F (.sh (.str (St [40]))) y4 y5) s = some (.nx, gE x (S ++ [[]]) F (.sh (.str (St [40]))) y4 y5, s) := by
  unfold l_groups_in_1
  rw [s40]
  refine sSeq_nx (e1 := gE x (S ++ [[]]) F (.sh (.str (St [40]))) y4 y5) (s1 := s) (sIf_t (s1 := s) ((eqS rfl).trans rfl) ?_) rfl
  refine sSeq_nx (e1 := gE x (S ++ [[]]) F (.sh (.str (St [40]))) y4 y5) (s1 := s) ?_ rfl
  refine (sApp_ok (k := 1) (d := dI []) (ds := S.map dI) (s1 := s) (eLst_ok aN_ok) rfl (by rw [List.length_map]; omega)).trans ?_
  have e1 : S.map dI ++ [dI []] = (S ++ [[]]).map dI := by rw [List.map_append]; rfl
  rw [e1]
  rfl
theorem gi_num {x : D} {S F : List (List Int)} {top : List Int} {y4 y5 : J.Slot} {s : STO} {p : Int} (hp : 0 ≤ p ∧ p < 20) (hS : S.length ≤ 1000) (ht : top.length ≤ 20) :
    l_groups_in_1 (gE x (S ++ [top]) F (.sh (.str (St (dg p)))) y4 y5) s = some (.nx, gE x (S ++ [top ++ [p]]) F (.sh (.str (St (dg p)))) y4 (.sh (.int p)), s) := by
  have d := dg_ok (i := p) (by omega)
  have n40 : ¬ dg p = [40] := fun e => (d.br 40 (by rw [e]; exact List.mem_cons_self)).1 rfl
  have n41 : ¬ dg p = [41] := fun e => (d.br 41 (by rw [e]; exact List.mem_cons_self)).2.1 rfl
  unfold l_groups_in_1
  rw [s40, s41]
  refine sSeq_nx (e1 := gE x (S ++ [top ++ [p]]) F (.sh (.str (St (dg p)))) y4 (.sh (.int p))) (s1 := s) (sIf_f (s1 := s) ((eqS rfl).trans (by rw [decide_eq_false n40])) ?_) rfl
  refine sSeq_nx (e1 := gE x (S ++ [top ++ [p]]) F (.sh (.str (St (dg p)))) y4 (.sh (.int p))) (s1 := s) (sIf_f (s1 := s) ((eqS rfl).trans (by rw [decide_eq_false n41])) ?_) rfl
  refine sSeq_nx (e1 := gE x (S ++ [top]) F (.sh (.str (St (dg p)))) y4 (.sh (.int p))) (s1 := s) (sSet_ok (eCall_ok (aApp_ok (aC_ok (eVar_ok rfl) aN_ok) aN_ok) (number_rd hp s))) ?_
  refine sSeq_nx (e1 := gE x (S ++ [top]) F (.sh (.str (St (dg p)))) y4 (.sh (.int p))) (s1 := s) (sIfP_f ?_ rfl) ?_
  · refine oT_f (s1 := []) (bT_ok (b := false) (eBin_ok (d1 := .int p) (eVar_ok rfl) eC_ok rfl)) (oT_f (s1 := []) (bT_ok (b := false) (eBin_ok (d1 := .int p) (eVar_ok rfl) eC_ok (dGe_f (by omega)))) (bT_ok (b := false) (eBin_ok (d1 := .int top.length) (eOp_ok (aC_ok (d := dI top) (eIdx_ok (d1 := dL (S ++ [top])) (d2 := .int (-1)) (s2 := []) (eVarL rfl) rfl ?_) aN_ok) (cLen_dI top)) eC_ok (dGt_f (by omega)))))
    show L2.atI ((S ++ [top]).map dI) (-1) = some (dI top)
    rw [List.map_append]
    exact atI_last _ _
  · refine sSeq_nx (e1 := gE x (S ++ [top ++ [p]]) F (.sh (.str (St (dg p)))) y4 (.sh (.int p))) (s1 := s) ?_ rfl
    refine (sApp1_ok (k := 0) (n := -1) (m := S.length) (d := .int p) (ds := (S ++ [top]).map dI) (es := top.map PyData.int) (s1 := s) (s2 := s) rfl (eVar_ok rfl) rfl ?_ (last_map S top) (by rw [List.length_map]; omega)).trans ?_
    · rw [show ((S ++ [top]).map dI).length = S.length + 1 by rw [List.length_map, List.length_append]; rfl, ixN_last]
    · have e2 : PyData.list (top.map PyData.int ++ [.int p]) = dI (top ++ [p]) := by show _ = PyData.list ((top ++ [p]).map PyData.int); rw [List.map_append]; rfl
      rw [e2, set_last]
      rfl
theorem gi_close {x : D} {S F : List (List Int)} {top inner : List Int} {y4 y5 : J.Slot} {s : STO} (hS : S.length ≤ 1000) (hF : F.length ≤ 1000) (ht : top.length ≤ 1000) (hi : inner.length ≤ 1000) :
    l_groups_in_1 (gE x (S ++ [top] ++ [inner]) F (.sh (.str (St [41]))) y4 y5) s = some (.nx, gE x (S ++ [top ++ sZ inner]) (F ++ [sZ inner]) (.sh (.str (St [41]))) .no y5, s) := by
  unfold l_groups_in_1
  rw [s40, s41]
  refine sSeq_nx (e1 := gE x (S ++ [top ++ sZ inner]) (F ++ [sZ inner]) (.sh (.str (St [41]))) .no y5) (s1 := s) (sIf_f (s1 := s) ((eqS rfl).trans rfl) ?_) rfl
  refine sSeq_nx (e1 := gE x (S ++ [top ++ sZ inner]) (F ++ [sZ inner]) (.sh (.str (St [41]))) .no y5) (s1 := s) (sIf_t (s1 := s) ((eqS rfl).trans rfl) ?_) rfl
  refine sSeq_nx (e1 := gE x (S ++ [top] ++ [inner]) F (.sh (.str (St [41]))) y4 y5) (s1 := s) (sIfP_f ?_ rfl) ?_
  · refine bT_ok (b := false) (eBin_ok (d1 := .int (S ++ [top] ++ [inner]).length) (eOp_ok (aC_ok (eVarL rfl) aN_ok) (cLen_dL _)) eC_ok (dEq_f ?_))
    simp only [List.length_append, List.length_singleton]
    omega
  · refine sSeq_nx (e1 := gE x (S ++ [top]) F (.sh (.str (St [41]))) (.ow 1 (dI (sZ inner))) y5) (s1 := s) ((sSrtPop_ok (L := S ++ [top]) (g := inner) rfl (by decide) (by show 4 < 6; decide) hi).trans rfl) ?_
    refine sSeq_nx (e1 := gE x (S ++ [top ++ sZ inner]) (F ++ [sZ inner]) (.sh (.str (St [41]))) .no y5) (s1 := s) ((sAppExt_ok (F := F) (L := S) (q := top) (es := sZ inner) rfl rfl rfl (by decide) (by decide) (by decide) hF ht (by rw [(sZ_perm inner).length_eq]; exact hi)).trans rfl) rfl
end K50
namespace K50
open PySem PySem.Spec PyProof.Rows L2 J
abbrev wD (w : List Nat) : D := PyData.str (St w)
def inP (u : Nest) : Prop := ∀ x ∈ u.lv, 0 ≤ x ∧ x < 20
theorem inP.inR {u : Nest} (h : inP u) : inR u := fun x hx => by have := h x hx; omega
theorem folk_lf (p : Int) : (Nest.lf p).folk = [p] := rfl
theorem post_len : ∀ u : Nest, (post u).length + 1 = u.lv.length
  | .lf _ => rfl
  | .nd a b => by
    have ha := post_len a
    have hb := post_len b
    have hl : (Nest.nd a b).lv.length = a.lv.length + b.lv.length := List.length_append
    rw [hl, post, List.length_append, List.length_append, List.length_singleton]
    omega
theorem gi_loop {x : D} {s : STO} : ∀ (u : Nest), inP u → ∀ (S : List (List Int)) (top : List Int) (F : List (List Int)) (y3 y4 y5 : J.Slot), top.length + u.lv.length ≤ 20 → S.length + u.lv.length ≤ 100 → F.length + u.lv.length ≤ 100 →
    ∃ z3 z4 z5, ∀ (rest : List D) (R : Option (Out × J.Env × STO)), forL (bN 3) l_groups_in_1 rest (gE x (S ++ [top ++ u.folk]) (F ++ post u) z3 z4 z5) s = R → forL (bN 3) l_groups_in_1 ((tk u).map wD ++ rest) (gE x (S ++ [top]) F y3 y4 y5) s = R
  | .lf p, hp, S, top, F, y3, y4, y5, h1, h2, h3 => by
    have hl : (Nest.lf p).lv.length = 1 := rfl
    rw [hl] at h1 h2 h3
    refine ⟨.sh (wD (dg p)), y4, .sh (.int p), fun rest R h => ?_⟩
    rw [folk_lf, show post (.lf p) = [] from rfl, List.append_nil] at h
    exact forL_cons (i := 3) (by show 3 < 6; decide) rfl (gi_num (hp p (List.mem_singleton.mpr rfl)) (by omega) (by omega)) h
  | .nd a b, hp, S, top, F, y3, y4, y5, h1, h2, h3 => by
    have hl : (Nest.nd a b).lv.length = a.lv.length + b.lv.length := List.length_append
    have la := a.lv_pos
    have lb := b.lv_pos
    have pa := post_len a
    have pb := post_len b
    have fa := Nest.len_folk a
    have fb := Nest.len_folk b
    rw [hl] at h1 h2 h3
    obtain ⟨a3, a4, a5, ha⟩ := gi_loop (x := x) (s := s) a (fun z hz => hp z (List.mem_append_left _ hz)) (S ++ [top]) [] F (.sh (wD [40])) y4 y5 (by simp; omega) (by simp; omega) (by omega)
    obtain ⟨b3, b4, b5, hb⟩ := gi_loop (x := x) (s := s) b (fun z hz => hp z (List.mem_append_right _ hz)) (S ++ [top]) a.folk (F ++ post a) a3 a4 a5 (by omega) (by simp; omega) (by simp; omega)
    refine ⟨.sh (wD [41]), .no, b5, fun rest R h => ?_⟩
    have e : (tk (.nd a b)).map wD ++ rest = wD [40] :: ((tk a).map wD ++ ((tk b).map wD ++ (wD [41] :: rest))) := by
      show (([40] :: (tk a ++ (tk b ++ [[41]]))).map wD) ++ rest = _
      simp
    rw [e]
    refine forL_cons (i := 3) (by show 3 < 6; decide) rfl (gi_open (S := S ++ [top]) (y4 := y4) (y5 := y5) (by simp; omega)) (ha _ _ ?_)
    rw [List.nil_append]
    refine hb _ _ (forL_cons (i := 3) (by show 3 < 6; decide) rfl (gi_close (S := S) (F := F ++ post a ++ post b) (top := top) (inner := a.folk ++ b.folk) (y4 := b4) (y5 := b5) (by omega) (by simp; omega) (by omega) (by simp; omega)) ?_)
    rw [Nest.join_folk]
    rw [show F ++ post (.nd a b) = F ++ post a ++ post b ++ [(Nest.nd a b).folk] by rw [post]; simp] at h
    exact h
theorem dRepl1 {l : List Nat} (h : l.length ≤ 10000) : dRepl (Str.ofString "(") (Str.ofString " ( ") (.str (St l)) = some (.str (St (replL 40 [32, 40, 32] l))) := by
  have e2 : Str.ofString " ( " = St [32, 40, 32] := by decide +kernel
  rw [q40, e2]
  show (if (St l).length + ((St l).length + 1) * (St [32, 40, 32]).length ≤ 16777216 then _ else none) = _
  rw [if_pos (by rw [St_len, St_len]; simp; omega)]
  exact congrArg (fun z => some (PyData.str z)) (repl_one l [32, 40, 32] 40)
theorem dRepl2 {l : List Nat} (h : l.length ≤ 10000) : dRepl (Str.ofString ")") (Str.ofString " ) ") (.str (St l)) = some (.str (St (replL 41 [32, 41, 32] l))) := by
  have e2 : Str.ofString " ) " = St [32, 41, 32] := by decide +kernel
  rw [q41, e2]
  show (if (St l).length + ((St l).length + 1) * (St [32, 41, 32]).length ≤ 16777216 then _ else none) = _
  rw [if_pos (by rw [St_len, St_len]; simp; omega)]
  exact congrArg (fun z => some (PyData.str z)) (repl_one l [32, 41, 32] 41)
theorem replL_len (c : Nat) (z : List Nat) (hz : z.length ≤ 3) : ∀ l : List Nat, (replL c z l).length ≤ 3 * l.length
  | [] => Nat.zero_le _
  | x :: r => by
    have := replL_len c z hz r
    rw [replL_cons, List.length_append, List.length_cons]
    split
    · omega
    · simp; omega
theorem full_strs : ∀ l : List (List Nat), J.full 1 (.list (l.map wD)) = true
  | l => by
    show (l.map wD).all (J.full 0) = true
    rw [List.all_eq_true]
    intro d hd
    obtain ⟨w, _, rfl⟩ := List.mem_map.mp hd
    rfl
theorem tx_len : ∀ u : Nest, inR u → (tx u).length + 3 ≤ 6 * u.lv.length
  | .lf p, h => by
    have := (dg_ok (h p (List.mem_singleton.mpr rfl))).len
    show (dg p).length + 3 ≤ 6 * 1
    omega
  | .nd a b, h => by
    have ha := tx_len a fun x hx => h x (List.mem_append_left _ hx)
    have hb := tx_len b fun x hx => h x (List.mem_append_right _ hx)
    have hl : (Nest.nd a b).lv.length = a.lv.length + b.lv.length := List.length_append
    rw [hl, tx]
    simp only [List.length_cons, List.length_append, List.length_nil]
    omega
theorem groups_in_eq {u : Nest} (hp : inP u) (hl : u.lv.length ≤ 20) (s : STO) : F_groups_in [.str (St (tx u))] s = some (dL (sR (post u)), s) := by
  have hR := hp.inR
  have hx := rx_len u hR
  have htl := tx_len u hR
  have hwords : iVal0 1 (eUn dWords (eUn (dRepl ")" " ) ") (eUn (dRepl "(" " ( ") (eVar 0)))) (see [] (gE (.str (St (tx u))) [[]] [] .no .no .no)) s = some ((tk u).map wD, s) := by
    have h1 := replL_len 40 [32, 40, 32] (by simp) (tx u)
    have e : eUn dWords (eUn (dRepl ")" " ) ") (eUn (dRepl "(" " ( ") (eVar 0))) (see [] (gE (.str (St (tx u))) [[]] [] .no .no .no)) s = some (.list ((tk u).map wD), s) := by
      refine eUn_ok (d1 := .str (St (rx (tx u)))) (eUn_ok (d1 := .str (St (replL 40 [32, 40, 32] (tx u)))) (eUn_ok (d1 := .str (St (tx u))) (eVar_ok rfl) (dRepl1 (by omega))) (dRepl2 (by omega))) ?_
      show (if (St (rx (tx u))).length + 2 ≤ 16777216 then _ else none) = _
      rw [if_pos (by rw [St_len]; omega), rx_words u hR, List.map_map]
      rfl
    unfold iVal0
    rw [e]
    show (if J.full 1 (.list ((tk u).map wD)) = true then _ else none) = _
    rw [if_pos (full_strs _)]
  obtain ⟨z3, z4, z5, hloop⟩ := gi_loop (x := .str (St (tx u))) (s := s) u hp [] [] [] .no .no .no (by simp; omega) (by simp; omega) (by simp; omega)
  have hloop := hloop [] _ rfl
  rw [List.append_nil] at hloop
  refine fnD_rt (e1 := gE (.str (St (tx u))) [u.folk] (post u) z3 z4 z5) (s1 := s) ?_ (fin_self _ _)
  unfold b_groups_in
  refine sSeq_nx (e1 := gE (.str (St (tx u))) [[]] [] .no .no .no) (s1 := s) (sPar_ok (d1 := dL [[]]) (d2 := dL []) (s1 := s) (eLst_ok (aC_ok (eLst_ok aN_ok) aN_ok)) (eLst_ok aN_ok)) ?_
  refine sSeq_nx (e1 := gE (.str (St (tx u))) [u.folk] (post u) z3 z4 z5) (s1 := s) (sFor0_ok (s1 := s) hwords (hloop.trans rfl)) ?_
  refine sSeq_rt (sIfP_t ?_ ?_)
  · exact bT_ok (b := true) (eBin_ok (d1 := .int 1) (eOp_ok (aC_ok (eVarL rfl) aN_ok) (cLen_dL [u.folk])) eC_ok rfl)
  · show (dSort (dL (post u))).map _ = _
    rw [dSort_dL (by have := post_len u; omega)]
    rfl
end K50
namespace K50
open PySem PySem.Spec PyProof.Rows L2 J
section
variable {t : Nest} {m : Nat} (ht : t.Of m) (hm : m ≤ 20)
include ht hm
theorem of_inP : inP t := fun x hx => by
  have := ht.mem.mp hx
  omega
theorem of_pos : 1 ≤ m := by
  have := t.lv_pos
  have := ht.len
  omega
theorem text_root (s : STO) : F_text_of 22 [dL t.lots, dI (comp m)] s = some (.str (St (txt t)), s) := by
  have hd := t.dep_lt
  have hl := ht.len
  rw [← ht.folk]
  exact text_of_eq ht hm t 22 (by omega) (fun _ h => h) ht.nodup (of_inP ht hm).inR (by omega) s
theorem law_root (s : STO) : F__law_text 22 [dL t.lots, dI (comp m)] s = some (.str (St (txt t)), s) := by
  have hd := t.dep_lt
  have hl := ht.len
  rw [← ht.folk]
  exact law_text_eq ht hm t 22 (by omega) (fun _ h => h) ht.nodup (of_inP ht hm).inR (by omega) s
theorem whole_or (s : STO) : eOrL (eCall F_whole_of [0] (aApp (aC (eCall F_many_in [0] (aApp (aC (eVar 0) aN) aN)) aN) aN)) (eLst (aC (eC (.int 0)) aN)) (see [] [.sh (dL t.lots)]) s = some (dI (comp m), s) := by
  have hl := ht.lots_len
  have h1 := of_pos ht hm
  have e1 : eCall F_many_in [0] (aApp (aC (eVar 0) aN) aN) (see [] [.sh (dL t.lots)]) s = some (.int (m : Nat), s) := by
    refine (eCall_ok (aApp_ok (aC_ok (eVar_ok rfl) aN_ok) aN_ok) (many_in_eq t.lots s)).trans ?_
    rw [show ((t.lots.length : Int) + 1) = (m : Int) by omega]
  by_cases h2 : m = 1
  · subst h2
    have e2 : eCall F_whole_of [0] (aApp (aC (eCall F_many_in [0] (aApp (aC (eVar 0) aN) aN)) aN) aN) (see [] [.sh (dL t.lots)]) s = some (.list [], s) := by
      refine eCall_ok (aApp_ok (aC_ok e1 aN_ok) aN_ok) ?_
      refine fnD_rt (e1 := [.sh (.int 1)]) (s1 := s) ?_ (fin_self _ _)
      unfold b_whole_of
      exact sSeq_rt (sRet_ok (eIf_f (bT_ok (b := false) (eBin_ok (d1 := .int 1) (eVar_ok rfl) eC_ok rfl)) (eLst_ok aN_ok)))
    unfold eOrL
    rw [e2]
    rfl
  · have e2 : eCall F_whole_of [0] (aApp (aC (eCall F_many_in [0] (aApp (aC (eVar 0) aN) aN)) aN) aN) (see [] [.sh (dL t.lots)]) s = some (dI (comp m), s) := by
      refine eCall_ok (aApp_ok (aC_ok e1 aN_ok) aN_ok) ?_
      refine fnD_rt (e1 := [.sh (.int (m : Nat))]) (s1 := s) ?_ (fin_self _ _)
      unfold b_whole_of
      exact sSeq_rt (sRet_ok (eIf_t (bT_ok (eBin_ok (eVar_ok rfl) eC_ok (dGt_t (by omega)))) (eLRg_comp (eVar_ok rfl) (by omega))))
    unfold eOrL
    rw [e2]
    obtain ⟨k, rfl⟩ : ∃ k, m = k + 1 := ⟨m - 1, by omega⟩
    have hc : ∃ x r, comp (k + 1) = x :: r := by
      cases h : comp (k + 1) with
      | nil => have := congrArg List.length h; simp [comp] at this
      | cons x r => exact ⟨x, r, rfl⟩
    obtain ⟨x, r, hc⟩ := hc
    rw [hc]
    rfl
theorem parting_text_eq (s : STO) : F_parting_text [dL t.lots] s = some (.str (St (txt t)), s) := by
  refine fnD_rt (e1 := [.sh (dL t.lots)]) (s1 := s) ?_ (fin_self _ _)
  unfold b_parting_text
  exact sSeq_rt (sRet_ok (eCall_ok (aApp_ok (aC_ok (eVar_ok rfl) (aC_ok (whole_or ht hm s) aN_ok)) aN_ok) (text_root ht hm s)))
theorem write_parting_eq (s : STO) : F_write_parting [dL t.lots] s = some (.str (St (txt t)), s) := by
  refine fnD_rt (e1 := [.sh (dL t.lots)]) (s1 := s) ?_ (fin_self _ _)
  unfold b_write_parting
  exact sSeq_rt (sRet_ok (eCall_ok (aApp_ok (aC_ok (eVar_ok rfl) aN_ok) aN_ok) (parting_text_eq ht hm s)))
theorem read_parting_eq (s : STO) : F_read_parting [.str (St (txt t))] s = some (dL t.lots, s) := by
  have hl := ht.len
  have hg : F_groups_in [.str (St (txt t))] s = some (dL t.lots, s) := by
    rw [txt_ord, groups_in_eq (u := ord t) (fun x hx => of_inP ht hm x ((ord_lv t).mem_iff.mp hx)) (by rw [(ord_lv t).length_eq]; omega) s, post_lots]
  refine fnD_rt (d := dL t.lots) (e1 := [.sh (.str (St (txt t))), .ow 2 (dL t.lots)]) (s1 := s) ?_ (fin_self _ _)
  unfold b_read_parting
  refine sSeq_nx (e1 := [.sh (.str (St (txt t))), .ow 2 (dL t.lots)]) (s1 := s) ((sSet_ok (i := 1) (env := [.sh (.str (St (txt t))), .no]) (d := dL t.lots) (eCall_ok (aApp_ok (aC_ok (eVar_ok rfl) aN_ok) aN_ok) hg)).trans rfl) ?_
  refine sSeq_nx (e1 := [.sh (.str (St (txt t))), .ow 2 (dL t.lots)]) (s1 := s) (sIfP_f ?_ rfl) rfl
  refine oT_f (s1 := []) (bT_ok (b := false) (eBin_ok (d1 := dL t.lots) (eVarL rfl) eC_ok rfl)) (oT_f (s1 := []) (nT_ok (b := true) (bT_ok (eCall_ok (aApp_ok (aC_ok (eVarL rfl) aN_ok) aN_ok) (is_parting_true (ht.parting hm) [])))) (bT_ok (b := false) (eBin_ok (eCall_ok (aApp_ok (aC_ok (eVarL rfl) aN_ok) aN_ok) (parting_text_eq ht hm [])) (d2 := .str (St (txt t))) (eVar_ok rfl) ?_)))
  show some (PyData.bool (!(St (txt t) == St (txt t)))) = _
  rw [beq_self_eq_true]
  rfl
end
end K50
namespace K50
open PySem PySem.Spec PyProof.Rows L2 J
/-! coming lists as texts -/
theorem itm_bnd : ∀ {row : List Int} {i : Nat}, J.itm i row → row.length + i ≤ 19 → ∀ x ∈ row, -19 ≤ x ∧ x ≤ 19
  | [], _, _, _, x, hx => nomatch hx
  | y :: r, i, h, hl, x, hx => by
    obtain ⟨h1, h2, h3⟩ := h
    rw [List.length_cons] at hl
    rcases List.mem_cons.mp hx with rfl | hx
    · omega
    · exact itm_bnd h3 (by omega) x hx
theorem Row.bnd {row : List Int} (h : Row row) : ∀ x ∈ row, -19 ≤ x ∧ x ≤ 19 := itm_bnd h.itm (by have := h.len; omega)
def rowT (row : List Int) : List Nat := if row = [] then [45] else joinL 32 (row.map dg)
theorem q45 : Str.ofString "-" = St [45] := by decide +kernel
theorem isStrs_map : ∀ ys : List Str, isStrs (ys.map PyData.str) = some ys
  | [] => rfl
  | y :: r => by
    show (isStrs (r.map PyData.str)).map (y :: ·) = _
    rw [isStrs_map r]
    rfl
theorem strs_comp {row : List Int} (hb : ∀ x ∈ row, -19 ≤ x ∧ x ≤ 19) (hl : row.length ≤ 1000) {i j : Nat} {vw : VW} {s : STO} (h : vw[i]? = some (some (dI row))) (hj : j < vw.length) :
    eComp (iVal (eVar i)) (bN j) tY (eOp cStr (aC (eVar j) aN)) [j] vw s = some (.list (row.map fun c => wD (dg c)), s) := by
  refine eComp_map row PyData.int (fun c => [(j, .int c)]) (fun c => wD (dg c)) (iVal_l (eVar_ok h)) (by omega) (fun _ _ => rfl) fun c hc => ?_
  have e5 : (setV (wipeV vw [j]) [(j, .int c)])[j]? = some (some (.int c)) := by simp [setV, wipeV, hj]
  exact eOp_ok (aC_ok (eVar_ok e5) aN_ok) (cStr_dg (hb c hc))
theorem sum_dg : ∀ row : List Int, (∀ x ∈ row, -19 ≤ x ∧ x ≤ 19) → (((row.map fun c => St (dg c))).map (·.length)).sum ≤ 3 * row.length
  | [], _ => Nat.zero_le _
  | x :: r, h => by
    have ih := sum_dg r fun y hy => h y (List.mem_cons_of_mem _ hy)
    have := (dg_ok (h x List.mem_cons_self)).len
    rw [List.map_cons, List.map_cons, List.sum_cons, List.length_cons, St_len]
    omega
theorem join_row {row : List Int} (hb : ∀ x ∈ row, -19 ≤ x ∧ x ≤ 19) (hl : row.length ≤ 1000) : dJoin (.str (Str.ofString " ")) (.list (row.map fun c => wD (dg c))) = some (.str (St (joinL 32 (row.map dg)))) := by
  have e : (row.map fun c => wD (dg c)) = (row.map fun c => St (dg c)).map PyData.str := by rw [List.map_map]; rfl
  have h1 := sum_dg row hb
  rw [q32, e]
  show (isStrs _).bind _ = _
  rw [isStrs_map, Option.bind_some, if_pos]
  · have e2 : (row.map fun c => St (dg c)) = (row.map dg).map St := by rw [List.map_map]; rfl
    show some (PyData.str (Builtin.Str.glued (St [32]) (row.map fun c => St (dg c)))) = _
    rw [StrLaws.glued_eq_join, e2, joinL_St]
  · show _ + (row.map fun c => St (dg c)).length * (St [32]).length ≤ _
    rw [List.length_map, St_len]
    simp only [List.length_singleton]
    omega
theorem shaped_dI' (l : List Int) : SeqAt.shaped (.list (l.map PyData.int)) = true := by
  have := sortOk_dI l
  unfold sortOk at this
  rw [Bool.and_eq_true] at this
  exact this.2
theorem dNe_row (row : List Int) : dNe (dI row) (.list []) = some (.bool (decide (row ≠ []))) := by
  refine (dNe_nil (shaped_dI' row)).trans ?_
  cases row <;> rfl
/-- the text that is due -/
theorem due_row {row : List Int} (hb : ∀ x ∈ row, -19 ≤ x ∧ x ≤ 19) (hl : row.length ≤ 1000) {i : Nat} {vw : VW} {s : STO} {f : Ev} (h : vw[i]? = some (some (dI row))) (hf : row ≠ [] → f vw s = some (.str (St (joinL 32 (row.map dg))), s)) :
    eIf (bT (eBin dNe (eVar i) (eLst aN))) f (eC (.str (Str.ofString "-"))) vw s = some (.str (St (rowT row)), s) := by
  have ht : bT (eBin dNe (eVar i) (eLst aN)) vw s = some (decide (row ≠ []), s) := bT_ok (eBin_ok (eVar_ok h) (eLst_ok aN_ok) (dNe_row row))
  unfold rowT
  by_cases e : row = []
  · rw [if_pos e, q45]
    exact eIf_f (ht.trans (by rw [decide_eq_false (fun z => z e)])) eC_ok
  · rw [if_neg e]
    exact eIf_t (ht.trans (by rw [decide_eq_true e])) (hf e)
theorem row_of_eq {row : List Int} (hb : ∀ x ∈ row, -19 ≤ x ∧ x ≤ 19) (hl : row.length ≤ 1000) (s : STO) : F_row_of [dI row] s = some (.str (St (joinL 32 (row.map dg))), s) := by
  refine fnD_rt (e1 := [.sh (dI row), .no]) (s1 := s) ?_ (fin_self _ _)
  unfold b_row_of
  exact sSeq_rt (sRet_ok (eBin_ok eC_ok (strs_comp hb hl (i := 0) (j := 1) rfl (by show 1 < 2; decide)) (join_row hb hl)))
theorem write_coming_eq {row : List Int} (h : Row row) (s : STO) : F_write_coming [dI row] s = some (.str (St (rowT row)), s) := by
  have hl : row.length ≤ 1000 := by have := h.len; omega
  refine fnD_rt (e1 := [.sh (dI row)]) (s1 := s) ?_ (fin_self _ _)
  unfold b_write_coming
  exact sSeq_rt (sRet_ok (due_row h.bnd hl rfl fun _ => eCall_ok (aApp_ok (aC_ok (eVar_ok rfl) aN_ok) aN_ok) (row_of_eq h.bnd hl s)))
/-! read -/
theorem rc_turn {x y : D} {f : List Int} {v : Int} {k : Nat} {a3 a4 a5 : J.Slot} {s : STO} (hk : k < 19) (h1 : 0 - ((k : Int) + 1) < v) (h2 : v < k + 1) (hf : f.length ≤ 100) :
    l_read_coming_1 [.sh x, .sh y, .ow 1 (dI f), .sh (.int (k : Nat)), .sh (wD (dg v)), a5] s = some (.nx, [.sh x, .sh y, .ow 1 (dI (f ++ [v])), .sh (.int (k : Nat)), .sh (wD (dg v)), .sh (.int v)], s) := by
  have d := dg_ok (i := v) (by omega)
  unfold l_read_coming_1
  refine sSeq_nx (e1 := [.sh x, .sh y, .ow 1 (dI f), .sh (.int (k : Nat)), .sh (wD (dg v)), .sh (.int v)]) (s1 := s) (sSet_ok (eCall_ok (aApp_ok (aC_ok (eVar_ok rfl) aN_ok) aN_ok) (d.rd s))) ?_
  refine sSeq_nx (e1 := [.sh x, .sh y, .ow 1 (dI f), .sh (.int (k : Nat)), .sh (wD (dg v)), .sh (.int v)]) (s1 := s) (sIf_f (s1 := s) (oT_f (s1 := s) (bT_ok (b := false) (eBin_ok (d1 := .int v) (eVar_ok rfl) eC_ok rfl)) (oT_f (s1 := s) (bT_ok (b := false) (eBin_ok (d1 := .int (k : Nat)) (d2 := .int 19) (eVar_ok rfl) rfl (dEq_f (by omega)))) (bT_ok (b := false) (eBin_ok (d1 := .int (if v < 0 then -v else v)) (d2 := .int (k : Nat)) (eOp_ok (aC_ok (eVar_ok rfl) aN_ok) rfl) (eVar_ok rfl) (dGt_f (by split <;> omega)))))) rfl) ?_
  refine sSeq_nx (e1 := [.sh x, .sh y, .ow 1 (dI (f ++ [v])), .sh (.int (k : Nat)), .sh (wD (dg v)), .sh (.int v)]) (s1 := s) ?_ rfl
  refine (sApp_ok (k := 0) (d := .int v) (ds := f.map PyData.int) (s1 := s) (eVar_ok rfl) rfl (by rw [List.length_map]; omega)).trans ?_
  have e1 : f.map PyData.int ++ [.int v] = (f ++ [v]).map PyData.int := by rw [List.map_append]; rfl
  rw [e1]
  rfl
theorem rc_loop {x y : D} {s : STO} : ∀ (row : List Int) (k : Nat) (f : List Int) (a3 a4 a5 : J.Slot), J.itm k row → row.length + k ≤ 19 → f.length + row.length ≤ 100 →
    ∃ z3 z4 z5, forL (bT2 3 4) l_read_coming_1 (enD (row.map fun c => wD (dg c)) k) [.sh x, .sh y, .ow 1 (dI f), a3, a4, a5] s = some (.nx, [.sh x, .sh y, .ow 1 (dI (f ++ row)), z3, z4, z5], s)
  | [], k, f, a3, a4, a5, _, _, _ => ⟨a3, a4, a5, by rw [List.append_nil]; rfl⟩
  | v :: r, k, f, a3, a4, a5, h, hl, hf => by
    obtain ⟨h1, h2, h3⟩ := h
    rw [List.length_cons] at hl hf
    obtain ⟨z3, z4, z5, ih⟩ := rc_loop (x := x) (y := y) (s := s) r (k + 1) (f ++ [v]) (.sh (.int (k : Nat))) (.sh (wD (dg v))) (.sh (.int v)) h3 (by omega) (by simp; omega)
    refine ⟨z3, z4, z5, ?_⟩
    rw [List.map_cons, enD, forL]
    simp only [bT2, Option.bind_some]
    rw [if_pos ⟨rfl, rfl⟩]
    show ((l_read_coming_1 [.sh x, .sh y, .ow 1 (dI f), .sh (.int (k : Nat)), .sh (wD (dg v)), a5] s).bind _) = _
    rw [rc_turn (a3 := a3) (a4 := a4) (by omega) h1 h2 (by omega)]
    simp only [Option.bind_some]
    rw [ih, List.append_assoc]
    rfl
theorem read_coming_eq {row : List Int} (h : Row row) (s : STO) : F_read_coming [.str (St (rowT row))] s = some (dI row, s) := by
  have hb := h.bnd
  have hlen := h.len
  have hjl : ∀ ws : List (List Nat), (∀ w ∈ ws, w.length ≤ 3) → (joinL 32 ws).length ≤ 4 * ws.length := by
    intro ws
    induction ws with
    | nil => intro _; exact Nat.zero_le _
    | cons w r ih =>
      intro hw
      have hw1 := hw w List.mem_cons_self
      have ih := ih fun z hz => hw z (List.mem_cons_of_mem _ hz)
      cases r with
      | nil => show w.length ≤ 4 * 1; omega
      | cons v q =>
        show (w ++ 32 :: joinL 32 (v :: q)).length ≤ _
        rw [List.length_append, List.length_cons]
        simp only [List.length_cons] at ih ⊢
        omega
  have hsp : ∀ l : List Nat, l.length ≤ 1000 → dSplit (.str (St l)) (.str (Str.ofString " ")) = some (.list ((splitC 32 [] l).map wD)) := fun l hl => by
    rw [q32]
    show (if ((St [32]).length == 0) = false ∧ (St l).length + 2 ≤ 16777216 then some (PyData.list ((Txt.split (St l) (St [32])).map PyData.str)) else none) = _
    rw [if_pos ⟨rfl, by rw [St_len]; omega⟩, split_one l (by decide), List.map_map]
    rfl
  by_cases e : row = []
  · subst e
    show F_read_coming [.str (St [45])] s = _
    refine fnD_rt (d := dI []) (e1 := [.sh (wD [45]), .sh (.list [wD [45]]), .ow 1 (dI []), .no, .no, .no]) (s1 := s) ?_ (fin_self _ _)
    unfold b_read_coming
    refine sSeq_nx (e1 := [.sh (wD [45]), .sh (.list [wD [45]]), .ow 1 (dI []), .no, .no, .no]) (s1 := s) ((sPar_ok (env := [.sh (wD [45]), .no, .no, .no, .no, .no]) (d1 := .list [wD [45]]) (d2 := dI []) (s1 := s) (s2 := s) (eBin_ok (eVar_ok rfl) eC_ok (hsp [45] (by decide))) (eLst_ok aN_ok)).trans rfl) ?_
    rw [q45]
    refine sSeq_rt (sIf_t (s1 := s) (bT_ok (b := true) (eBin_ok (d1 := wD [45]) (d2 := wD [45]) (eIdx_ok (d1 := .list [wD [45]]) (d2 := .int 0) (eVar_ok rfl) eC_ok rfl) eC_ok ?_)) ?_)
    · show some (PyData.bool (St [45] == St [45])) = _
      rw [beq_self_eq_true]
    refine sSeq_nx (e1 := [.sh (wD [45]), .sh (.list [wD [45]]), .ow 1 (dI []), .no, .no, .no]) (s1 := s) (sIf_f (s1 := s) (bT_ok (b := false) (eBin_ok (d1 := .int 1) (eOp_ok (aC_ok (eVar_ok rfl) aN_ok) rfl) eC_ok rfl)) rfl) ?_
    exact sSeq_rt (sRet_ok (eLst_ok aN_ok))
  · have hne : row.map dg ≠ [] := fun z => e (List.map_eq_nil_iff.mp z)
    have hno : ∀ w ∈ row.map dg, (32 : Nat) ∉ w := fun w hw => by
      obtain ⟨c, hc, rfl⟩ := List.mem_map.mp hw
      exact fun z => ((dg_ok (hb c hc)).br 32 z).2.2 rfl
    have hl3 : ∀ w ∈ row.map dg, w.length ≤ 3 := fun w hw => by
      obtain ⟨c, hc, rfl⟩ := List.mem_map.mp hw
      exact (dg_ok (hb c hc)).len
    have hj := hjl _ hl3
    rw [List.length_map] at hj
    have hw := hsp (joinL 32 (row.map dg)) (by omega)
    rw [split_joinL _ hne hno, List.map_map] at hw
    have hw : dSplit (.str (St (joinL 32 (row.map dg)))) (.str (Str.ofString " ")) = some (.list (row.map fun c => wD (dg c))) := hw
    have ht : rowT row = joinL 32 (row.map dg) := if_neg e
    rw [ht]
    generalize joinL 32 (row.map dg) = l at hw
    obtain ⟨z3, z4, z5, hloop⟩ := rc_loop (x := wD l) (y := .list (row.map fun c => wD (dg c))) (s := s) row 0 [] .no .no .no h.itm (by omega) (by simp; omega)
    rw [List.nil_append] at hloop
    obtain ⟨v, r, rfl⟩ : ∃ v r, row = v :: r := by
      cases row with
      | nil => exact absurd rfl e
      | cons v r => exact ⟨v, r, rfl⟩
    have hd := dg_ok (hb v List.mem_cons_self)
    refine fnD_rt (d := dI (v :: r)) (e1 := [.sh (wD l), .sh (.list ((v :: r).map fun c => wD (dg c))), .ow 1 (dI (v :: r)), z3, z4, z5]) (s1 := s) ?_ (fin_self _ _)
    unfold b_read_coming
    refine sSeq_nx (e1 := [.sh (wD l), .sh (.list ((v :: r).map fun c => wD (dg c))), .ow 1 (dI []), .no, .no, .no]) (s1 := s) ((sPar_ok (env := [.sh (wD l), .no, .no, .no, .no, .no]) (d1 := .list ((v :: r).map fun c => wD (dg c))) (d2 := dI []) (s1 := s) (s2 := s) (eBin_ok (eVar_ok rfl) eC_ok hw) (eLst_ok aN_ok)).trans rfl) ?_
    rw [q45]
    refine sSeq_nx (e1 := [.sh (wD l), .sh (.list ((v :: r).map fun c => wD (dg c))), .ow 1 (dI []), .no, .no, .no]) (s1 := s) (sIf_f (s1 := s) (bT_ok (b := false) (eBin_ok (d1 := wD (dg v)) (d2 := wD [45]) (eIdx_ok (d1 := .list ((v :: r).map fun c => wD (dg c))) (d2 := .int 0) (eVar_ok rfl) eC_ok (atI_nat (j := 0) rfl)) eC_ok ?_)) rfl) ?_
    · show some (PyData.bool (St (dg v) == St [45])) = _
      rw [beq_eq_false_iff_ne.mpr fun z => hd.dash (St_inj z)]
    refine sSeq_nx (e1 := [.sh (wD l), .sh (.list ((v :: r).map fun c => wD (dg c))), .ow 1 (dI (v :: r)), z3, z4, z5]) (s1 := s) (sFor_ok (ds := enD ((v :: r).map fun c => wD (dg c)) 0) (s1 := s) rfl (by rw [fz, fzI_nil]; exact hloop)) ?_
    rfl
end K50
namespace K50
open PySem PySem.Spec PyProof.Rows L2 J
theorem ok_item {x : Int} (h : -19 ≤ x ∧ x ≤ 19) : Ok (.int x) 1 3 := by
  have h0 := Ok.int (x := 0) (k := 1) (by decide) (by decide) (by decide) (by decide)
  refine ⟨rfl, h0.dep, ?_, ?_⟩
  · simp only [PyData.showable]
    refine decide_eq_true ?_
    have : x.natAbs < 2 ^ 5 := by omega
    by_cases h0 : x.natAbs = 0
    · rw [h0]; decide
    · have := (Nat.log2_lt h0).mpr this
      omega
  rw [PyData.shown_int]
  have := (dg_ok h).len
  unfold dg at this
  rw [Array.length_toList] at this
  exact this
theorem repr_pair {row : List Int} (h : Row row) : ∃ x : Str, dRepr (.list [dI row, dL (tree row).lots]) = some (.str x) := by
  have o1 : Ok (dI row) 3 2100 := by
    refine (Ok.list (n := 1) (c := 3) fun d hd => ?_).mono (by decide) ?_
    · obtain ⟨x, hx, rfl⟩ := List.mem_map.mp hd
      exact ok_item (h.bnd x hx)
    · rw [List.length_map]
      have := h.len
      omega
  have o2 : Ok (dL (tree row).lots) 3 2100 := Ok.lots h.of (by have := h.len; omega)
  have o3 : Ok (.list [dI row, dL (tree row).lots]) 4 (2 + (2100 + 2) * 2) := Ok.list (ds := [dI row, dL (tree row).lots]) fun d hd => by
    rcases List.mem_cons.mp hd with rfl | hd
    · exact o1
    · rw [List.mem_singleton.mp hd]; exact o2
  exact ⟨_, o3.repr (by decide) (by decide)⟩
theorem told_tok {a : List (List Int)} {b : List Int} : noTk (some (.list [dL a, dI b])) = some (.list [dL a, dI b]) := by
  unfold noTk
  rw [Option.bind_some, if_pos]
  show (tokLt 0 (dL a) && (tokLt 0 (dI b) && true)) = true
  rw [tokLt_dL, tokLt_dI]
  rfl
theorem alike_both {row : List Int} (h : Row row) (s : STO) : F__law_alike 6 [.list [dL (tree row).lots, dI row], .list [dL (tree row).lots, dI row]] s = some (.bool true, s) := by
  refine alike_eq 6 _ ?_ s
  have h1 : alk 5 (dL (tree row).lots) = true := alk_dL (n := 2) (by have := h.ll; have := h.len; show (lotsR row).length ≤ 1000; omega) fun g hg => by have := (h.wide g hg).2; omega
  have h2 : alk 5 (dI row) = true := alk_dI (n := 3) (by have := h.len; omega)
  show (decide (2 ≤ 1000) && (alk 5 _ && (alk 5 _ && true))) = true
  rw [h1, h2]
  rfl
section
variable {n : Nat} {s : STO} (hg : Bag n [] [] s) (hn : n < 2 ^ 37)
include hg hn
theorem wide_eq {k : Nat} (hk : k < 8) {sk : D} {a3 a4 a5 a6 a7 : J.Slot} : ∃ w s', 0 < w ∧ w ≤ 20 ∧ Bag (n + 2) [] [] s' ∧
    eIdx (eLst (aC (eBin dAdd (eC (.int 1)) (eCall F__law_draw [0, 1] (aApp (aC (eVar 1) (aC (eC (.int 20)) aN)) aN))) (aC (eC (.int 20)) aN))) (eOp cInt (aC (eBin dGt (eVar 2) (eC (.int 6))) aN)) (see [] [.sh sk, .sh (tokD 0), .sh (.int (k : Nat)), a3, a4, a5, a6, a7, .no]) s = some (.int (w : Nat), s') := by
  obtain ⟨v, s1, e1, v0, v1, g1⟩ := draw_eq hg (by omega) (w := 20) (by decide) (by decide)
  have el : eLst (aC (eBin dAdd (eC (.int 1)) (eCall F__law_draw [0, 1] (aApp (aC (eVar 1) (aC (eC (.int 20)) aN)) aN))) (aC (eC (.int 20)) aN)) (see [] [.sh sk, .sh (tokD 0), .sh (.int (k : Nat)), a3, a4, a5, a6, a7, .no]) s = some (.list [.int (1 + v), .int 20], s1) :=
    eLst_ok (aC_ok (eBin_ok eC_ok (eCall_ok (aApp_ok (aC_ok (eVar_ok rfl) (aC_ok eC_ok aN_ok)) aN_ok) e1) rfl) (aC_ok eC_ok aN_ok))
  by_cases h6 : 6 < k
  · refine ⟨20, s1, by decide, by decide, g1, eIdx_ok (d2 := .int 1) el (eOp_ok (aC_ok (d := .bool true) (eBin_ok (d1 := .int (k : Nat)) (eVar_ok rfl) eC_ok (dGt_t (by omega))) aN_ok) rfl) (atI_nat (j := 1) rfl)⟩
  · refine ⟨(1 + v).toNat, s1, by omega, by omega, g1, ?_⟩
    have e2 : eIdx (eLst (aC (eBin dAdd (eC (.int 1)) (eCall F__law_draw [0, 1] (aApp (aC (eVar 1) (aC (eC (.int 20)) aN)) aN))) (aC (eC (.int 20)) aN))) (eOp cInt (aC (eBin dGt (eVar 2) (eC (.int 6))) aN)) (see [] [.sh sk, .sh (tokD 0), .sh (.int (k : Nat)), a3, a4, a5, a6, a7, .no]) s = some (.int (1 + v), s1) := eIdx_ok (d2 := .int 0) el (eOp_ok (aC_ok (d := .bool false) (eBin_ok (d1 := .int (k : Nat)) (eVar_ok rfl) eC_ok (dGt_f (by omega))) aN_ok) rfl) (atI_nat (j := 0) rfl)
    rw [e2]
    congr 3
    omega
end
end K50
namespace K50
open PySem PySem.Spec PyProof.Rows L2 J
theorem upOk_row (row : List Int) : upOk (dI row) = true := by
  show (row.map PyData.int).all noL = true
  rw [List.all_eq_true]
  intro d hd
  obtain ⟨x, _, rfl⟩ := List.mem_map.mp hd
  rfl
theorem turn_eq {n : Nat} {s : STO} (hg : Bag n [] [] s) (hn : n < 2 ^ 37) {k : Nat} (hk : k < 8) {sk : D} {a3 a4 a5 a6 a7 : J.Slot} : ∃ s' b3 b4 b5 b6 b7, Bag (n + 202) [] [] s' ∧
    l_law_1 [.sh sk, .sh (tokD 0), .sh (.int (k : Nat)), a3, a4, a5, a6, a7, .no] s = some (.nx, [.sh sk, .sh (tokD 0), .sh (.int (k : Nat)), b3, b4, b5, b6, b7, .no], s') := by
  obtain ⟨w, s1, w0, w1, g1, e1⟩ := wide_eq hg hn hk (sk := sk) (a3 := a3) (a4 := a4) (a5 := a5) (a6 := a6) (a7 := a7)
  obtain ⟨row, s2, e2, g2, l2, o2⟩ := law_row_eq g1 (by omega) w0 (by omega)
  have h : Row row := ⟨o2, by omega⟩
  have ht := h.of
  have hm : row.length + 1 ≤ 20 := by omega
  obtain ⟨kp, hkp⟩ := repr_pair h
  have hby := by_eq (row := row) (s := s2) (by omega) o2
  rw [h.pf] at hby
  have hlots : lotsR row = (tree row).lots := rfl
  rw [hlots] at hby
  generalize hT1 : St (txt (tree row)) = T1
  generalize hT2 : St (rowT row) = T2
  let due : D := .list [.str T1, .str T2]
  let kk : J.Slot := .sh (.int (k : Nat))
  let L := (tree row).lots
  obtain ⟨g, r, hgr⟩ : ∃ g r, L ++ [[]] = g :: r := by
    cases hL : L ++ [[]] with
    | nil => simp at hL
    | cons g r => exact ⟨g, r, rfl⟩
  have hgl : g.length ≤ 1000 := by
    have : g ∈ L ++ [[]] := by rw [hgr]; exact List.mem_cons_self
    rcases List.mem_append.mp this with hx | hx
    · have := (h.wide g hx).2; omega
    · rw [List.mem_singleton.mp hx]; decide
  have hdue : alk 6 due = true := by
    show (decide (2 ≤ 1000) && (alk 5 (.str T1) && (alk 5 (.str T2) && true))) = true
    rfl
  refine ⟨s2, .sh (dI row), .sh (dL L), .sh (.str kp), .sh due, .ow 3 (.list [.list (((g :: r).map dI).set 0 (.list (g.map PyData.int ++ [.int 0]))), .list (row.map PyData.int ++ [.none])]), g2.mono (by omega), ?_⟩
  unfold l_law_1
  refine sSeq_nx (e1 := [.sh sk, .sh (tokD 0), kk, .sh (dI row), a4, a5, a6, a7, .no]) (s1 := s2) (sSet_ok (eCall_ok (aApp_ok (aC_ok (eVar_ok rfl) (aC_ok e1 aN_ok)) aN_ok) e2)) ?_
  refine sSeq_nx (e1 := [.sh sk, .sh (tokD 0), kk, .sh (dI row), .sh (dL L), a5, a6, a7, .no]) (s1 := s2) (sSet_ok (eCall_ok (aApp_ok (aC_ok (eVar_ok rfl) aN_ok) aN_ok) hby)) ?_
  refine sSeq_nx (e1 := [.sh sk, .sh (tokD 0), kk, .sh (dI row), .sh (dL L), .sh (.str kp), a6, a7, .no]) (s1 := s2) (sSet_ok (eUn_ok (eLst_ok (aC_ok (eVar_ok rfl) (aC_ok (eVar_ok rfl) aN_ok))) hkp)) ?_
  refine sSeq_nx (e1 := [.sh sk, .sh (tokD 0), kk, .sh (dI row), .sh (dL L), .sh (.str kp), .sh due, a7, .no]) (s1 := s2) (sSet_ok (d := due) (eLst_ok (aC_ok (d := .str T1) (eCall_ok (aApp_ok (aC_ok (eVar_ok rfl) (aC_ok (eLRg_comp (n := row.length + 1) (eBin_ok (lenV rfl) eC_ok rfl) (by omega)) aN_ok)) aN_ok) ((law_root ht hm s2).trans (by rw [hT1]))) (aC_ok (d := .str T2) ?_ aN_ok)))) ?_
  · rw [← hT2]
    refine due_row h.bnd (by omega) rfl fun _ => ?_
    unfold c_law_1
    exact eBin_ok eC_ok (strs_comp h.bnd (by omega) (i := 3) (j := 8) rfl (by show 8 < 9; decide)) (join_row h.bnd (by omega))
  have wp : F_write_parting [dL L] s2 = some (.str T1, s2) := (write_parting_eq ht hm s2).trans (by rw [hT1])
  have wc : F_write_coming [dI row] s2 = some (.str T2, s2) := (write_coming_eq h s2).trans (by rw [hT2])
  have rp : F_read_parting [.str T1] s2 = some (dL L, s2) := by rw [← hT1]; exact read_parting_eq ht hm s2
  have rc : F_read_coming [.str T2] s2 = some (dI row, s2) := by rw [← hT2]; exact read_coming_eq h s2
  refine sSeq_nx (e1 := [.sh sk, .sh (tokD 0), kk, .sh (dI row), .sh (dL L), .sh (.str kp), .sh due, a7, .no]) (s1 := s2) (sIf_f (s1 := s2) (oT_f (s1 := s2) (nT_ok (b := true) (bT_ok (eCall_ok (aApp_ok (aC_ok (d := due) (eLst_ok (aC_ok (eCall_ok (aC_ok (eVar_ok rfl) aN_ok) wp) (aC_ok (eCall_ok (aC_ok (eVar_ok rfl) aN_ok) wc) aN_ok))) (aC_ok (eVar_ok rfl) aN_ok)) aN_ok) (alike_eq 6 due hdue s2)))) (bT_ok (b := false) (eBin_ok (eUn_ok (eLst_ok (aC_ok (eVar_ok rfl) (aC_ok (eVar_ok rfl) aN_ok))) hkp) (eVar_ok rfl) (dNe_str kp)))) rfl) ?_
  refine sSeq_nx (e1 := [.sh sk, .sh (tokD 0), kk, .sh (dI row), .sh (dL L), .sh (.str kp), .sh due, .ow 3 (.list [dL L, dI row]), .no]) (s1 := s2) ((sSet_ok (i := 7) (k := 3) (env := [.sh sk, .sh (tokD 0), kk, .sh (dI row), .sh (dL L), .sh (.str kp), .sh due, a7, .no]) (d := .list [dL L, dI row]) (s1 := s2) (eLst_ok (aC_ok (eCall_ok (aC_ok (eIdx_ok (d1 := due) (d2 := .int 0) (eVar_ok rfl) eC_ok (atI_nat (j := 0) rfl)) aN_ok) rp) (aC_ok ?_ aN_ok)))).trans rfl) ?_
  · unfold eUp
    have : eCall F_read_coming [0] (aC (eIdx (eVar 6) (eC (.int 1))) aN) (see [] [.sh sk, .sh (tokD 0), kk, .sh (dI row), .sh (dL L), .sh (.str kp), .sh due, a7, .no]) s2 = some (dI row, s2) := eCall_ok (aC_ok (eIdx_ok (d1 := due) (d2 := .int 1) (eVar_ok rfl) eC_ok (atI_nat (j := 1) rfl)) aN_ok) rc
    rw [this, Option.bind_some, if_pos (upOk_row row)]
  refine sSeq_nx (e1 := [.sh sk, .sh (tokD 0), kk, .sh (dI row), .sh (dL L), .sh (.str kp), .sh due, .ow 3 (.list [dL L, dI row]), .no]) (s1 := s2) (sIfP_f (nT_ok (b := true) (bT_ok (eCall_ok (aApp_ok (aC_ok (d := .list [dL L, dI row]) (eVar_ok ?_) (aC_ok (eLst_ok (aC_ok (eVarL rfl) (aC_ok (eVarI rfl) aN_ok))) aN_ok)) aN_ok) (alike_both h [])))) rfl) ?_
  · exact congrArg some told_tok
  refine sSeq_nx (e1 := [.sh sk, .sh (tokD 0), kk, .sh (dI row), .sh (dL L), .sh (.str kp), .sh due, .ow 3 (.list [.list ((L ++ [[]]).map dI), dI row]), .no]) (s1 := s2) ((sApp1_ok (k := 1) (n := 0) (m := 0) (d := .list []) (ds := [dL L, dI row]) (es := L.map dI) (s1 := s2) (s2 := s2) eC_ok (eLst_ok aN_ok) rfl rfl rfl (by rw [List.length_map]; have := ht.lots_len; show (tree row).lots.length < _; omega)).trans ?_) ?_
  · have : L.map dI ++ [.list []] = (L ++ [[]]).map dI := by rw [List.map_append]; rfl
    rw [this]
    rfl
  rw [hgr]
  refine sSeq_nx (e1 := [.sh sk, .sh (tokD 0), kk, .sh (dI row), .sh (dL L), .sh (.str kp), .sh due, .ow 3 (.list [.list (((g :: r).map dI).set 0 (.list (g.map PyData.int ++ [.int 0]))), dI row]), .no]) (s1 := s2) ?_ ?_
  · unfold sAppC2
    show (ixN 2 0).bind _ = _
    rw [show ixN 2 0 = some 0 from rfl, Option.bind_some]
    show (ixN ((g :: r).map dI).length 0).bind _ = _
    rw [show ixN ((g :: r).map dI).length 0 = some 0 by unfold ixN; rw [if_pos (by decide), if_pos (by rw [List.length_map, List.length_cons]; omega)]; rfl, Option.bind_some]
    show (if (g.map PyData.int).length < 16777216 ∧ isScal (.int 0) = true then _ else none) = _
    rw [if_pos ⟨by rw [List.length_map]; omega, rfl⟩]
    rfl
  refine sSeq_nx (e1 := [.sh sk, .sh (tokD 0), kk, .sh (dI row), .sh (dL L), .sh (.str kp), .sh due, .ow 3 (.list [.list (((g :: r).map dI).set 0 (.list (g.map PyData.int ++ [.int 0]))), .list (row.map PyData.int ++ [.none])]), .no]) (s1 := s2) ((sApp1_ok (k := 1) (n := 1) (m := 1) (d := .none) (ds := [.list (((g :: r).map dI).set 0 (.list (g.map PyData.int ++ [.int 0]))), dI row]) (es := row.map PyData.int) (s1 := s2) (s2 := s2) eC_ok eC_ok rfl rfl rfl (by rw [List.length_map]; omega)).trans rfl) ?_
  refine sSeq_nx (sIf_f (s1 := s2) (nT_ok (b := true) (bT_ok (eCall_ok (aApp_ok (aC_ok (d := .list [dL L, dI row]) (eLst_ok (aC_ok (eCall_ok (aApp_ok (aC_ok (eIdx_ok (d1 := due) (d2 := .int 0) (eVar_ok rfl) eC_ok (atI_nat (j := 0) rfl)) aN_ok) aN_ok) rp) (aC_ok (eCall_ok (aApp_ok (aC_ok (eIdx_ok (d1 := due) (d2 := .int 1) (eVar_ok rfl) eC_ok (atI_nat (j := 1) rfl)) aN_ok) aN_ok) rc) aN_ok))) (aC_ok (eLst_ok (aC_ok (eVar_ok rfl) (aC_ok (eVar_ok rfl) aN_ok))) aN_ok)) aN_ok) (alike_both h s2)))) rfl) rfl
end K50
namespace K50
open PySem PySem.Spec PyProof.Rows L2 J
theorem turns {sk : D} : ∀ (j k : Nat) (n : Nat) (s : STO) (a2 a3 a4 a5 a6 a7 : J.Slot), k + j = 8 → Bag n [] [] s → n + 202 * j < 2 ^ 37 → ∃ n' s' b2 b3 b4 b5 b6 b7, Bag n' [] [] s' ∧
    forL (bN 2) l_law_1 ((List.range' k j).map fun i : Nat => PyData.int i) [.sh sk, .sh (tokD 0), a2, a3, a4, a5, a6, a7, .no] s = some (.nx, [.sh sk, .sh (tokD 0), b2, b3, b4, b5, b6, b7, .no], s')
  | 0, k, n, s, a2, a3, a4, a5, a6, a7, _, hg, _ => ⟨n, s, a2, a3, a4, a5, a6, a7, hg, rfl⟩
  | j + 1, k, n, s, a2, a3, a4, a5, a6, a7, hk, hg, hn => by
    obtain ⟨s1, b3, b4, b5, b6, b7, g1, e1⟩ := turn_eq hg (by omega) (k := k) (by omega) (sk := sk) (a3 := a3) (a4 := a4) (a5 := a5) (a6 := a6) (a7 := a7)
    obtain ⟨n', s', c2, c3, c4, c5, c6, c7, g2, e2⟩ := turns (sk := sk) j (k + 1) (n + 202) s1 (.sh (.int (k : Nat))) b3 b4 b5 b6 b7 (by omega) g1 (by omega)
    refine ⟨n', s', c2, c3, c4, c5, c6, c7, g2, ?_⟩
    rw [List.range'_succ, List.map_cons]
    exact forL_cons (i := 2) (by show 2 < 9; decide) rfl e1 e2
theorem r00 : Row [0, 0] := ⟨⟨by decide, by decide, by decide, by decide, trivial⟩, by decide⟩
theorem r012 : Row [0, -1, 2] := ⟨⟨by decide, by decide, by decide, by decide, by decide, by decide, trivial⟩, by decide⟩
theorem r01 : Row [0, -1] := ⟨⟨by decide, by decide, by decide, by decide, trivial⟩, by decide⟩
theorem r0 : Row [0] := ⟨⟨by decide, by decide, trivial⟩, by decide⟩
theorem rn : Row [] := ⟨trivial, by decide⟩
theorem w1 (s : STO) : F_write_parting [dL [[0, 1, 2], [0, 2]]] s = some (.str (Str.ofString "((0 2) 1)"), s) := by
  have := write_parting_eq r00.of (by decide) s
  rw [show (tree [0, 0]).lots = [[0, 1, 2], [0, 2]] by decide +kernel, show St (txt (tree [0, 0])) = Str.ofString "((0 2) 1)" by decide +kernel] at this
  exact this
theorem w2 (s : STO) : F_write_coming [dI [0, -1, 2]] s = some (.str (Str.ofString "0 -1 2"), s) := by
  have := write_coming_eq r012 s
  rw [show St (rowT [0, -1, 2]) = Str.ofString "0 -1 2" by decide +kernel] at this
  exact this
theorem w3 (s : STO) : F_write_parting [dL []] s = some (.str (Str.ofString "0"), s) := by
  have := write_parting_eq rn.of (by decide) s
  rw [show (tree []).lots = [] by decide +kernel, show St (txt (tree [])) = Str.ofString "0" by decide +kernel] at this
  exact this
theorem w4 (s : STO) : F_write_coming [dI []] s = some (.str (Str.ofString "-"), s) := by
  have := write_coming_eq rn s
  rw [show St (rowT []) = Str.ofString "-" by decide +kernel] at this
  exact this
theorem p1 (s : STO) : F_read_parting [.str (Str.ofString "((0 1) (2 3))")] s = some (dL [[0, 1], [0, 1, 2, 3], [2, 3]], s) := by
  have := read_parting_eq r012.of (by decide) s
  rw [show (tree [0, -1, 2]).lots = [[0, 1], [0, 1, 2, 3], [2, 3]] by decide +kernel, show St (txt (tree [0, -1, 2])) = Str.ofString "((0 1) (2 3))" by decide +kernel] at this
  exact this
theorem p2 (s : STO) : F_read_parting [.str (Str.ofString "0")] s = some (dL [], s) := by
  have := read_parting_eq rn.of (by decide) s
  rw [show (tree []).lots = [] by decide +kernel, show St (txt (tree [])) = Str.ofString "0" by decide +kernel] at this
  exact this
theorem p3 (s : STO) : F_read_coming [.str (Str.ofString "-")] s = some (dI [], s) := by
  have := read_coming_eq rn s
  rw [show St (rowT []) = Str.ofString "-" by decide +kernel] at this
  exact this
theorem p4 (s : STO) : F_read_coming [.str (Str.ofString "0")] s = some (dI [0], s) := by
  have := read_coming_eq r0 s
  rw [show St (rowT [0]) = Str.ofString "0" by decide +kernel] at this
  exact this
theorem p5 (s : STO) : F_read_coming [.str (Str.ofString "0 -1")] s = some (dI [0, -1], s) := by
  have := read_coming_eq r01 s
  rw [show St (rowT [0, -1]) = Str.ofString "0 -1" by decide +kernel] at this
  exact this
theorem sSet_self {i : Nat} {f : Ev} {env : J.Env} {s s1 : STO} {d : D} (h1 : f (see [i] env) s = some (d, s1)) (hi : decide (i < env.length) = true := by rfl) : sSet i 0 [i] f env s = some (.nx, env.set i (.sh d), s1) := by
  rw [sSet_okM h1 hi]
  unfold fzIf
  split
  · rfl
  · rw [fz_one]
    rfl
theorem callC {F : FnD} {d r : D} {vw : VW} {s : STO} (h : F [d] s = some (r, s)) : eCall F [0] (aApp (aC (eC d) aN) aN) vw s = some (r, s) := eCall_ok (aApp_ok (aC_ok eC_ok aN_ok) aN_ok) h
theorem callN {F : FnD} {r : D} {vw : VW} {s : STO} (h : F [.list []] s = some (r, s)) : eCall F [0] (aApp (aC (eLst aN) aN) aN) vw s = some (r, s) := eCall_ok (aApp_ok (aC_ok (eLst_ok aN_ok) aN_ok) aN_ok) h
theorem law_true : ∀ ns : List Int, ns.length ≤ 63 → fnD 9 b_law [skD (ns.map PyData.int)] [] = some (.bool true, []) := by
  intro ns hns
  obtain ⟨cs, st, e1, hbag⟩ := bag_eq ns hns []
  generalize hsk : skD (ns.map PyData.int) = sk at *
  have g0 : Bag 0 [] [] ([bagC cs ((0 : Nat) : Int) 0 st 0] : STO) := ⟨cs, 0, 0, st, 0, rfl, hbag⟩
  obtain ⟨n', s', b2, b3, b4, b5, b6, b7, g1, e2⟩ := turns (sk := sk) 8 0 0 _ .no .no .no .no .no .no rfl g0 (by decide)
  let t1 : List D := [.str (Str.ofString "((0 2) 1)"), .str (Str.ofString "0 -1 2"), .str (Str.ofString "0"), .str (Str.ofString "-")]
  let t2 : List D := [dL [[0, 1], [0, 1, 2, 3], [2, 3]], dL [], dI [], dI [0]]
  let T : List D := t1 ++ t2 ++ [dI [0, -1]]
  refine fnD_rt (d := .bool true) (e1 := [.sh sk, .sh (tokD 0), b2, b3, b4, b5, .sh (.list T), .sh (.list T), .no]) (s1 := s') ?_ ?_
  · unfold b_law
    have n1 : sNew 1 (eCall F__law_bag [0] (aApp (aC (eVar 0) aN) aN)) [.sh sk, .no, .no, .no, .no, .no, .no, .no, .no] [] = some (.nx, [.sh sk, .sh (tokD 0), .no, .no, .no, .no, .no, .no, .no], [bagC cs ((0 : Nat) : Int) 0 st 0]) := by
      have h1 := sSet_ok (i := 1) (k := 1) (env := [.sh sk, .no, .no, .no, .no, .no, .no, .no, .no]) (f := eCall F__law_bag [0] (aApp (aC (eVar 0) aN) aN)) (s := []) (eCall_ok (aApp_ok (aC_ok (eVar_ok rfl) aN_ok) aN_ok) e1)
      unfold sNew
      exact sSeq_nx h1 rfl
    refine sSeq_nx n1 ?_
    refine sSeq_nx (sFor0_ok (ds := (comp 8).map PyData.int) (iU_ok eC_ok (rg1_ok (n := 8) (by decide))) (R := some (.nx, [.sh sk, .sh (tokD 0), b2, b3, b4, b5, b6, b7, .no], s')) ?_) ?_
    · have : (comp 8).map PyData.int = (List.range' 0 8).map fun i : Nat => PyData.int i := rfl
      rw [this]
      exact e2
    refine sSeq_nx (e1 := [.sh sk, .sh (tokD 0), b2, b3, b4, b5, b6, .sh (.list t1), .no]) (s1 := s') (sSet_ok (eLst_ok (aC_ok (callC (w1 s')) (aC_ok (callC (w2 s')) (aC_ok (callN (w3 s')) (aC_ok (callN (w4 s')) aN_ok)))))) ?_
    refine sSeq_nx (e1 := [.sh sk, .sh (tokD 0), b2, b3, b4, b5, b6, .sh (.list (t1 ++ t2)), .no]) (s1 := s') (sSet_self (eBin_ok (d1 := .list t1) (d2 := .list t2) (eVar_ok rfl) (eLst_ok (aC_ok (callC (p1 s')) (aC_ok (callC (p2 s')) (aC_ok (callC (p3 s')) (aC_ok (callC (p4 s')) aN_ok))))) rfl)) ?_
    refine sSeq_nx (e1 := [.sh sk, .sh (tokD 0), b2, b3, b4, b5, b6, .sh (.list T), .no]) (s1 := s') (sSet_self (eBin_ok (d1 := .list (t1 ++ t2)) (d2 := .list [dI [0, -1]]) (eVar_ok rfl) (eLst_ok (aC_ok (callC (p5 s')) aN_ok)) rfl)) ?_
    refine sSeq_nx (e1 := [.sh sk, .sh (tokD 0), b2, b3, b4, b5, .sh (.list T), .sh (.list T), .no]) (s1 := s') (sSet_ok eC_ok) ?_
    refine sSeq_rt ?_
    unfold sRet
    have e3 : eCall (F__law_alike 6) [0, 1] (aApp (aC (eVar 7) (aC (eVar 6) aN)) aN) (see [7] [.sh sk, .sh (tokD 0), b2, b3, b4, b5, .sh (.list T), .sh (.list T), .no]) s' = some (.bool true, s') := eCall_ok (aApp_ok (aC_ok (eVar_ok rfl) (aC_ok (eVar_ok rfl) aN_ok)) aN_ok) (alike_eq 6 (.list T) (by decide +kernel) s')
    rw [e3]
    rfl
  · obtain ⟨cs', i', d', st', c', e, _⟩ := g1
    unfold fin
    rw [if_neg (by rw [e]; show ¬ 1 = 0; decide)]
    have ht : thaw ([] : STO).length (.bool true) s' = .bool true := rfl
    rw [ht, if_pos ⟨rfl, rfl⟩]
    rfl
end K50
open PySem PySem.W PyProof.Rows
set_option maxHeartbeats 0 in
theorem PySem.Challenge.cw_twopartings_k50_texts_written_and_read_holds : PySem.Challenge.rw_twopartings_k50_texts_written_and_read.Holds := by
  w_on; o_law; k_head; (case hw => w_witness2)
  k_fill
  refine J.walk_g (l := PySem.Challenge.rw_twopartings_k50_texts_written_and_read) (n := 63) (k := 26) (x := "script") rfl (by decide) rfl ⟨rfl, by decide, by decide⟩ (fun w h Y => PySem.W.kIn_of Y) ?F K50.law_true
  case F =>
    intro w mg fa h KX G hmg
    refine' K50.all_mk KX G hmg ?a0 ?l0 ?c0 ?k0 ?a1 ?l1 ?c1 ?k1 ?a2 ?l2 ?c2 ?k2 ?a3 ?l3 ?c3 ?k3 ?a4 ?l4 ?c4 ?k4 ?a5 ?l5 ?c5 ?k5 ?a6 ?l6 ?c6 ?k6 ?a7 ?l7 ?c7 ?k7 ?a8 ?l8 ?c8 ?k8 ?a9 ?l9 ?c9 ?k9 ?a10 ?l10 ?c10 ?k10 ?a11 ?l11 ?c11 ?k11 ?a12 ?l12 ?c12 ?k12 ?a13 ?l13 ?c13 ?k13 ?a14 ?l14 ?c14 ?k14 ?a15 ?l15 ?c15 ?k15 ?a16 ?l16 ?c16 ?k16 ?a17 ?l17 ?c17 ?k17 ?a18 ?l18 ?c18 ?k18 ?a19 ?l19 ?c19 ?k19 ?a20 ?l20 ?c20 ?k20 ?a21 ?l21 ?c21 ?k21 ?a22 ?l22 ?c22 ?k22 ?a23 ?l23 ?c23 ?k23 ?a24 ?l24 ?c24 ?k24 ?a25 ?l25 ?c25 ?k25 ?a26 ?l26 ?c26 ?k26 ?y_abs ?y_all ?y_bool ?y_enumerate ?y_int ?y_isinstance ?y_len ?y_list ?y_range ?y_repr ?y_sorted ?y_str ?y_tuple ?y_zip ?xc_DIGITS ?xc_MOST_PERSONS ?xc_NONE
    (case a0 => k_is); (case l0 => k_is); (case c0 => k_is); (case k0 => k_is); (case a1 => k_is); (case l1 => k_is); (case c1 => k_is); (case k1 => k_is); (case a2 => k_is); (case l2 => k_is); (case c2 => k_is); (case k2 => k_is); (case a3 => k_is); (case l3 => k_is); (case c3 => k_is); (case k3 => k_is); (case a4 => k_is); (case l4 => k_is); (case c4 => k_is); (case k4 => k_is); (case a5 => k_is); (case l5 => k_is); (case c5 => k_is); (case k5 => k_is); (case a6 => k_is); (case l6 => k_is); (case c6 => k_is); (case k6 => k_is); (case a7 => k_is); (case l7 => k_is); (case c7 => k_is); (case k7 => k_is); (case a8 => k_is); (case l8 => k_is); (case c8 => k_is); (case k8 => k_is); (case a9 => k_is); (case l9 => k_is); (case c9 => k_is); (case k9 => k_is); (case a10 => k_is); (case l10 => k_is); (case c10 => k_is); (case k10 => k_is); (case a11 => k_is); (case l11 => k_is); (case c11 => k_is); (case k11 => k_is); (case a12 => k_is); (case l12 => k_is); (case c12 => k_is); (case k12 => k_is); (case a13 => k_is); (case l13 => k_is); (case c13 => k_is); (case k13 => k_is); (case a14 => k_is); (case l14 => k_is); (case c14 => k_is); (case k14 => k_is); (case a15 => k_is); (case l15 => k_is); (case c15 => k_is); (case k15 => k_is); (case a16 => k_is); (case l16 => k_is); (case c16 => k_is); (case k16 => k_is); (case a17 => k_is); (case l17 => k_is); (case c17 => k_is); (case k17 => k_is); (case a18 => k_is); (case l18 => k_is); (case c18 => k_is); (case k18 => k_is); (case a19 => k_is); (case l19 => k_is); (case c19 => k_is); (case k19 => k_is); (case a20 => k_is); (case l20 => k_is); (case c20 => k_is); (case k20 => k_is); (case a21 => k_is); (case l21 => k_is); (case c21 => k_is); (case k21 => k_is); (case a22 => k_is); (case l22 => k_is); (case c22 => k_is); (case k22 => k_is); (case a23 => k_is); (case l23 => k_is); (case c23 => k_is); (case k23 => k_is); (case a24 => k_is); (case l24 => k_is); (case c24 => k_is); (case k24 => k_is); (case a25 => k_is); (case l25 => k_is); (case c25 => k_is); (case k25 => k_is); (case a26 => k_is); (case l26 => k_is); (case c26 => k_is); (case k26 => k_is); (case y_abs => k_is); (case y_all => k_is); (case y_bool => k_is); (case y_enumerate => k_is); (case y_int => k_is); (case y_isinstance => k_is); (case y_len => k_is); (case y_list => k_is); (case y_range => k_is); (case y_repr => k_is); (case y_sorted => k_is); (case y_str => k_is); (case y_tuple => k_is); (case y_zip => k_is); (case xc_DIGITS => first | k_is | kernel_rfl | decide +kernel); (case xc_MOST_PERSONS => first | k_is | kernel_rfl | decide +kernel); (case xc_NONE => first | k_is | kernel_rfl | decide +kernel)
