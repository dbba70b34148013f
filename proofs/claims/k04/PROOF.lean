import PyProof.Rows.All
import Wide.All
import OpenK.AllK
import Wide.FinOn
import HandS.ForMost
import HandS.ForExc
import HandS.IsInst
import HandS.Wide
import HandS.TupAny
import HandS.SortInts
import HandS.Walk
import HandS.Defaults
import HandS.CallLocal
import HandS.Style
import HandS.More
import HandS.Flow
import HandS.TryMany
import HandS.Text
import HandS.StrMore
import PyProof.ReprRoads
import KE.GoesNew
import KE.GoesEnum
import HandS.ListItems
import HandS.SetFor
import HandS.ExcInit
import HandS.Words
import HandS.Codes
import PyProof.ReprLen
import PySem.Challenge.RW_paperwide_k04_whole_raised_and_given
set_option Elab.async false
set_option linter.all false
set_option maxRecDepth 100000
set_option maxHeartbeats 4000000
/-! DL: values as plain data over the hand layer. -/
namespace DL
open PySem PySem.Spec PyProof.Rows L2

/-- data: tuples, frozen lists and dicts by value; an owned object by its number in the store -/
inductive Dt where
  | non
  | bl (b : Bool)
  | int (i : Int)
  | str (x : Str)
  | tup (ds : List Dt)
  | lst (ds : List Dt)
  | dct (kvs : List (Key × Dt))
  | ref (n : Nat)
  | fn (x : Str)

/-- an owned object -/
inductive MO where
  | gone
  | lst (ds : List Dt)
  | dct (kvs : List (Key × Dt))

abbrev Store := List MO
/-- what a name holds: a value, or the exception that is being handled -/
inductive DX where
  | vl (d : Dt)
  | ex (c : Str) (fs : List (Str × Dt))
abbrev EnvD := List (Option DX)

inductive Out (α : Type) where
  | ok (a : α) (S : Store)
  | exc (c : Str) (fs : List (Str × Dt)) (S : Store)
  | bad

def Out.bind {α β : Type} (o : Out α) (k : α → Store → Out β) : Out β :=
  match o with
  | .ok a S => k a S
  | .exc c fs S => .exc c fs S
  | .bad => .bad

/-- what the written part says; the addresses that the machine holds for itself meanwhile -/
structure Wr where
  K : PySem.W.Frag
  w : World
  mg : Str → Option Value
  B : List Addr
/-- the address a is an owned one -/
def Owned (W : Wr) (α : List Addr) (S : Store) (a : Addr) : Prop := (∃ (n : Nat) (mo : MO), α[n]? = some a ∧ S[n]? = some mo ∧ mo ≠ MO.gone) ∨ a ∈ W.B

/-- a tuple, a list of the written part -/
def KTup (K : PySem.W.Frag) (a : Addr) (xs : List V) : Prop :=
  ∃ (o : Obj) (its : Array Value) (n : Nat), K.lookup a = some o ∧ o.cls = .type "tuple" ∧ o.data = .seq its n ∧ its.size ≤ sizeLine ∧ Vals xs its.toList
def KLst (K : PySem.W.Frag) (a : Addr) (xs : List V) : Prop :=
  ∃ (its : List Value) (n : Nat), K.lookup a = some { cls := .type "list", data := .seq its.toArray n } ∧ its.length ≤ sizeLine ∧ Vals xs its
/-- a list as it lies, whoever holds it -/
def LstAt (K : PySem.W.Frag) (H : Hp) (a : Addr) (xs : List V) : Prop := Rd H a (.lst xs) ∨ KLst K a xs
theorem LstAt.sq {K : PySem.W.Frag} {H : Hp} {a : Addr} {xs : List V} (h : LstAt K H a xs) : SqL K H a xs := by
  rcases h with r | ⟨its, n, e, z, r⟩
  · exact .inl r
  · exact .inr ⟨_, its.toArray, n, e, rfl, rfl, rfl, by simpa using z, by simpa using r⟩
theorem LstAt.at_ {X : Cx} {pins : List (Addr × Obj)} {σ : L2.St} {H : Hp} {s : Shared} {a : Addr} {xs : List V} (I : Inv X pins σ H s) (h : LstAt X.K H a xs) :
    ∃ (its : List Value) (n : Nat), Vals xs its ∧ s.heap.get? a = some { cls := .type "list", data := .seq its.toArray n } ∧ xs.length ≤ sizeLine := by
  rcases h with r | ⟨its, n, e, z, r⟩
  · obtain ⟨z, its, n, rv, e⟩ := r.ok I.hok
    exact ⟨its, n, rv, e, z⟩
  · exact ⟨its, n, r, I.kIn a _ e, by rw [r.length]; exact z⟩
def OffT (W : Wr) (α : List Addr) (S : Store) (H : Hp) (a : Addr) (xs : List V) : Prop := (¬ Owned W α S a ∧ Rd H a (.tup xs)) ∨ KTup W.K a xs
def OffL (W : Wr) (α : List Addr) (S : Store) (H : Hp) (a : Addr) (xs : List V) : Prop := (¬ Owned W α S a ∧ Rd H a (.lst xs)) ∨ KLst W.K a xs
/-- a dict of the written part, its keys texts -/
def KDc (K : PySem.W.Frag) (w : World) (a : Addr) (kvs : List (Key × V)) : Prop :=
  ∃ (es : Array DictEntry) (n : Nat), L2.KDict K w a es n ∧ Paired (fun (e : DictEntry) (p : Key × V) => ∃ z t, p.1 = Sum.inr z ∧ e.key = Value.str z t ∧ RelV p.2 e.val) es.toList kvs
def OffD (W : Wr) (α : List Addr) (S : Store) (H : Hp) (a : Addr) (kvs : List (Key × V)) : Prop := (¬ Owned W α S a ∧ H a = some (.dK kvs)) ∨ KDc W.K W.w a kvs

mutual
inductive Rep (W : Wr) (α : List Addr) (S : Store) (H : Hp) : V → Dt → Prop
  | non : Rep W α S H .non .non
  | bl (b : Bool) : Rep W α S H (.bl b) (.bl b)
  | int (i : Int) : Rep W α S H (.int i) (.int i)
  | str (x : Str) : Rep W α S H (.str x) (.str x)
  | tup {a : Addr} {vs : List V} {ds : List Dt} : OffT W α S H a vs → Reps W α S H vs ds → Rep W α S H (.ref a) (.tup ds)
  | lst {a : Addr} {vs : List V} {ds : List Dt} : OffL W α S H a vs → Reps W α S H vs ds → Rep W α S H (.ref a) (.lst ds)
  | dct {a : Addr} {kvs : List (Key × V)} {kds : List (Key × Dt)} : OffD W α S H a kvs → KReps W α S H kvs kds → Rep W α S H (.ref a) (.dct kds)
  | ref {a : Addr} {n : Nat} : α[n]? = some a → Rep W α S H (.ref a) (.ref n)
  | fn {f : Addr} {x : Str} : W.mg x = some (.ref f) → Rep W α S H (.ref f) (.fn x)
inductive Reps (W : Wr) (α : List Addr) (S : Store) (H : Hp) : List V → List Dt → Prop
  | nil : Reps W α S H [] []
  | cons {v : V} {vs : List V} {d : Dt} {ds : List Dt} : Rep W α S H v d → Reps W α S H vs ds → Reps W α S H (v :: vs) (d :: ds)
inductive KReps (W : Wr) (α : List Addr) (S : Store) (H : Hp) : List (Key × V) → List (Key × Dt) → Prop
  | nil : KReps W α S H [] []
  | cons {k : Key} {v : V} {vs : List (Key × V)} {d : Dt} {ds : List (Key × Dt)} : Rep W α S H v d → KReps W α S H vs ds → KReps W α S H ((k, v) :: vs) ((k, d) :: ds)
end

/-- what may happen: numbers are given to new addresses; what is not owned stays, and is not owned later; what the machine holds stays -/
structure Ext (W : Wr) (α : List Addr) (S : Store) (H : Hp) (α' : List Addr) (S' : Store) (H' : Hp) : Prop where
  pre : ∀ (n : Nat) (a : Addr), α[n]? = some a → α'[n]? = some a
  keep : ∀ b o, ¬ Owned W α S b → H b = some o → ¬ Owned W α' S' b ∧ H' b = some o
  held : ∀ b ∈ W.B, H' b = H b

theorem Ext.refl {W : Wr} {α : List Addr} {S : Store} {H : Hp} : Ext W α S H α S H := ⟨fun _ _ h => h, fun _ _ h e => ⟨h, e⟩, fun _ _ => rfl⟩
theorem Ext.trans {W : Wr} {α α1 α2 : List Addr} {S S1 S2 : Store} {H H1 H2 : Hp} (a : Ext W α S H α1 S1 H1) (b : Ext W α1 S1 H1 α2 S2 H2) : Ext W α S H α2 S2 H2 :=
  ⟨fun n x h => b.pre n x (a.pre n x h), fun x o h e => let ⟨h1, e1⟩ := a.keep x o h e; b.keep x o h1 e1, fun x h => (b.held x h).trans (a.held x h)⟩

section
variable {W : Wr} {α α' : List Addr} {S S' : Store} {H H' : Hp}
theorem Rd.ext {a : Addr} {u : HO} (e : Ext W α S H α' S' H') (n : ¬ Owned W α S a) (r : Rd H a u) : ¬ Owned W α' S' a ∧ Rd H' a u := by
  rcases r with r | ⟨o, r⟩
  · exact ⟨(e.keep _ _ n r).1, .inl (e.keep _ _ n r).2⟩
  · exact ⟨(e.keep _ _ n r).1, .inr ⟨o, (e.keep _ _ n r).2⟩⟩
theorem OffT.ext {a : Addr} {xs : List V} (e : Ext W α S H α' S' H') (o : OffT W α S H a xs) : OffT W α' S' H' a xs := by
  rcases o with ⟨n, r⟩ | k
  · exact .inl (Rd.ext e n r)
  · exact .inr k
theorem OffD.ext {a : Addr} {xs : List (Key × V)} (e : Ext W α S H α' S' H') (o : OffD W α S H a xs) : OffD W α' S' H' a xs := by
  rcases o with ⟨n, r⟩ | k
  · exact .inl (e.keep _ _ n r)
  · exact .inr k
theorem OffL.ext {a : Addr} {xs : List V} (e : Ext W α S H α' S' H') (o : OffL W α S H a xs) : OffL W α' S' H' a xs := by
  rcases o with ⟨n, r⟩ | k
  · exact .inl (Rd.ext e n r)
  · exact .inr k
mutual
theorem Rep.ext (e : Ext W α S H α' S' H') : ∀ {v : V} {d : Dt}, Rep W α S H v d → Rep W α' S' H' v d
  | _, _, .non => .non
  | _, _, .bl b => .bl b
  | _, _, .int i => .int i
  | _, _, .str x => .str x
  | _, _, .tup o r => .tup (o.ext e) (Reps.ext e r)
  | _, _, .lst o r => .lst (o.ext e) (Reps.ext e r)
  | _, _, .dct o r => .dct (o.ext e) (KReps.ext e r)
  | _, _, .ref h => .ref (e.pre _ _ h)
  | _, _, .fn h => .fn h
theorem Reps.ext (e : Ext W α S H α' S' H') : ∀ {vs : List V} {ds : List Dt}, Reps W α S H vs ds → Reps W α' S' H' vs ds
  | _, _, .nil => .nil
  | _, _, .cons r t => .cons (Rep.ext e r) (Reps.ext e t)
theorem KReps.ext (e : Ext W α S H α' S' H') : ∀ {vs : List (Key × V)} {ds : List (Key × Dt)}, KReps W α S H vs ds → KReps W α' S' H' vs ds
  | _, _, .nil => .nil
  | _, _, .cons r t => .cons (Rep.ext e r) (KReps.ext e t)
end

/-! ### one address more is held: what was there does not lean on it -/
def Wr.hold (W : Wr) (D : Addr) : Wr := { W with B := D :: W.B }
variable {D : Addr}
theorem Owned.unhold {a : Addr} (h : Owned W α S a) : Owned (W.hold D) α S a := by
  rcases h with h | h
  · exact .inl h
  · exact .inr (List.mem_cons_of_mem _ h)
theorem Owned.hold {a : Addr} (h : Owned (W.hold D) α S a) (n : a ≠ D) : Owned W α S a := by
  rcases h with h | h
  · exact .inl h
  · exact .inr ((List.mem_cons.mp h).resolve_left n)
theorem Rd.ne {a : Addr} {u : HO} (r : Rd H a u) (h : H D = none) : a ≠ D := by
  rcases r with r | ⟨o, r⟩
  · exact ne_of_none r h
  · exact ne_of_none r h
theorem Rd.upd {a : Addr} {u o : HO} (r : Rd H a u) (n : a ≠ D) : Rd (upd H D o) a u := by
  rcases r with r | ⟨o', r⟩
  · exact .inl (by rw [upd_ne n]; exact r)
  · exact .inr ⟨o', by rw [upd_ne n]; exact r⟩
mutual
theorem Rep.hold (h : H D = none) {o : HO} : ∀ {v : V} {d : Dt}, Rep W α S H v d → Rep (W.hold D) α S (upd H D o) v d
  | _, _, .non => .non
  | _, _, .bl b => .bl b
  | _, _, .int i => .int i
  | _, _, .str x => .str x
  | _, _, .tup (.inl ⟨n, r⟩) q => .tup (.inl ⟨fun z => n (z.hold (Rd.ne r h)), Rd.upd r (Rd.ne r h)⟩) (Reps.hold h q)
  | _, _, .tup (.inr k) q => .tup (.inr k) (Reps.hold h q)
  | _, _, .lst (.inl ⟨n, r⟩) q => .lst (.inl ⟨fun z => n (z.hold (Rd.ne r h)), Rd.upd r (Rd.ne r h)⟩) (Reps.hold h q)
  | _, _, .lst (.inr k) q => .lst (.inr k) (Reps.hold h q)
  | _, _, .dct (.inl ⟨n, r⟩) q => .dct (.inl ⟨fun z => n (z.hold (ne_of_none r h)), (upd_ne (ne_of_none r h)).trans r⟩) (KReps.hold h q)
  | _, _, .dct (.inr k) q => .dct (.inr k) (KReps.hold h q)
  | _, _, .ref h => .ref h
  | _, _, .fn h => .fn h
theorem Reps.hold (h : H D = none) {o : HO} : ∀ {vs : List V} {ds : List Dt}, Reps W α S H vs ds → Reps (W.hold D) α S (upd H D o) vs ds
  | _, _, .nil => .nil
  | _, _, .cons r t => .cons (Rep.hold h r) (Reps.hold h t)
theorem KReps.hold (h : H D = none) {o : HO} : ∀ {vs : List (Key × V)} {ds : List (Key × Dt)}, KReps W α S H vs ds → KReps (W.hold D) α S (upd H D o) vs ds
  | _, _, .nil => .nil
  | _, _, .cons r t => .cons (Rep.hold h r) (KReps.hold h t)
end
/-- what is held is changed: nothing leans on it -/
theorem Rd.ne' {a : Addr} (n : ¬ Owned (W.hold D) α S a) : a ≠ D := fun z => n (.inr (by rw [z]; exact List.mem_cons_self))
mutual
theorem Rep.turn {o : HO} : ∀ {v : V} {d : Dt}, Rep (W.hold D) α S H v d → Rep (W.hold D) α S (upd H D o) v d
  | _, _, .non => .non
  | _, _, .bl b => .bl b
  | _, _, .int i => .int i
  | _, _, .str x => .str x
  | _, _, .tup (.inl ⟨n, r⟩) q => .tup (.inl ⟨n, Rd.upd r (Rd.ne' n)⟩) (Reps.turn q)
  | _, _, .tup (.inr k) q => .tup (.inr k) (Reps.turn q)
  | _, _, .lst (.inl ⟨n, r⟩) q => .lst (.inl ⟨n, Rd.upd r (Rd.ne' n)⟩) (Reps.turn q)
  | _, _, .lst (.inr k) q => .lst (.inr k) (Reps.turn q)
  | _, _, .dct (.inl ⟨n, r⟩) q => .dct (.inl ⟨n, (upd_ne (Rd.ne' n)).trans r⟩) (KReps.turn q)
  | _, _, .dct (.inr k) q => .dct (.inr k) (KReps.turn q)
  | _, _, .ref h => .ref h
  | _, _, .fn h => .fn h
theorem Reps.turn {o : HO} : ∀ {vs : List V} {ds : List Dt}, Reps (W.hold D) α S H vs ds → Reps (W.hold D) α S (upd H D o) vs ds
  | _, _, .nil => .nil
  | _, _, .cons r t => .cons (Rep.turn r) (Reps.turn t)
theorem KReps.turn {o : HO} : ∀ {vs : List (Key × V)} {ds : List (Key × Dt)}, KReps (W.hold D) α S H vs ds → KReps (W.hold D) α S (upd H D o) vs ds
  | _, _, .nil => .nil
  | _, _, .cons r t => .cons (Rep.turn r) (KReps.turn t)
end
/-! no longer held -/
mutual
theorem Rep.unhold : ∀ {v : V} {d : Dt}, Rep (W.hold D) α S H v d → Rep W α S H v d
  | _, _, .non => .non
  | _, _, .bl b => .bl b
  | _, _, .int i => .int i
  | _, _, .str x => .str x
  | _, _, .tup (.inl ⟨n, r⟩) q => .tup (.inl ⟨fun z => n z.unhold, r⟩) (Reps.unhold q)
  | _, _, .tup (.inr k) q => .tup (.inr k) (Reps.unhold q)
  | _, _, .lst (.inl ⟨n, r⟩) q => .lst (.inl ⟨fun z => n z.unhold, r⟩) (Reps.unhold q)
  | _, _, .lst (.inr k) q => .lst (.inr k) (Reps.unhold q)
  | _, _, .dct (.inl ⟨n, r⟩) q => .dct (.inl ⟨fun z => n z.unhold, r⟩) (KReps.unhold q)
  | _, _, .dct (.inr k) q => .dct (.inr k) (KReps.unhold q)
  | _, _, .ref h => .ref h
  | _, _, .fn h => .fn h
theorem Reps.unhold : ∀ {vs : List V} {ds : List Dt}, Reps (W.hold D) α S H vs ds → Reps W α S H vs ds
  | _, _, .nil => .nil
  | _, _, .cons r t => .cons (Rep.unhold r) (Reps.unhold t)
theorem KReps.unhold : ∀ {vs : List (Key × V)} {ds : List (Key × Dt)}, KReps (W.hold D) α S H vs ds → KReps W α S H vs ds
  | _, _, .nil => .nil
  | _, _, .cons r t => .cons (Rep.unhold r) (KReps.unhold t)
end
/-! taken away -/
def dropH (H : Hp) (D : Addr) : Hp := fun b => if b = D then none else H b
theorem dropH_ne {b : Addr} (n : b ≠ D) : dropH H D b = H b := if_neg n
theorem dropH_same : dropH H D D = none := if_pos rfl
theorem upd_dropH {o : HO} (h : H D = some o) : upd (dropH H D) D o = H := by
  funext b
  by_cases e : b = D
  · subst e; rw [upd_same, h]
  · rw [upd_ne e, dropH_ne e]
theorem Rd.drop {a : Addr} {u : HO} (r : Rd H a u) (n : a ≠ D) : Rd (dropH H D) a u := by
  rcases r with r | ⟨o', r⟩
  · exact .inl (by rw [dropH_ne n]; exact r)
  · exact .inr ⟨o', by rw [dropH_ne n]; exact r⟩
mutual
theorem Rep.drop : ∀ {v : V} {d : Dt}, Rep (W.hold D) α S H v d → Rep W α S (dropH H D) v d
  | _, _, .non => .non
  | _, _, .bl b => .bl b
  | _, _, .int i => .int i
  | _, _, .str x => .str x
  | _, _, .tup (.inl ⟨n, r⟩) q => .tup (.inl ⟨fun z => n z.unhold, Rd.drop r (Rd.ne' n)⟩) (Reps.drop' q)
  | _, _, .tup (.inr k) q => .tup (.inr k) (Reps.drop' q)
  | _, _, .lst (.inl ⟨n, r⟩) q => .lst (.inl ⟨fun z => n z.unhold, Rd.drop r (Rd.ne' n)⟩) (Reps.drop' q)
  | _, _, .lst (.inr k) q => .lst (.inr k) (Reps.drop' q)
  | _, _, .dct (.inl ⟨n, r⟩) q => .dct (.inl ⟨fun z => n z.unhold, (dropH_ne (Rd.ne' n)).trans r⟩) (KReps.drop q)
  | _, _, .dct (.inr k) q => .dct (.inr k) (KReps.drop q)
  | _, _, .ref h => .ref h
  | _, _, .fn h => .fn h
theorem Reps.drop' : ∀ {vs : List V} {ds : List Dt}, Reps (W.hold D) α S H vs ds → Reps W α S (dropH H D) vs ds
  | _, _, .nil => .nil
  | _, _, .cons r t => .cons (Rep.drop r) (Reps.drop' t)
theorem KReps.drop : ∀ {vs : List (Key × V)} {ds : List (Key × Dt)}, KReps (W.hold D) α S H vs ds → KReps W α S (dropH H D) vs ds
  | _, _, .nil => .nil
  | _, _, .cons r t => .cons (Rep.drop r) (KReps.drop t)
end
end
end DL

set_option Elab.async false
set_option linter.all false
set_option maxRecDepth 100000
set_option maxHeartbeats 4000000
namespace DL
open PySem PySem.Spec PyProof.Rows L2

abbrev Sl := L2.St
section
variable {W : Wr} {α α' : List Addr} {S S' : Store} {H H' : Hp}
theorem Reps.length : ∀ {vs : List V} {ds : List Dt}, Reps W α S H vs ds → vs.length = ds.length
  | _, _, .nil => rfl
  | _, _, .cons _ t => congrArg (· + 1) (Reps.length t)
theorem Reps.get : ∀ {vs : List V} {ds : List Dt} {i : Nat} {d : Dt}, Reps W α S H vs ds → ds[i]? = some d → ∃ v, vs[i]? = some v ∧ Rep W α S H v d
  | _, _, _, _, .nil, e => by simp at e
  | _, _, 0, _, .cons r _, e => by simp at e; subst e; exact ⟨_, rfl, r⟩
  | _, _, i + 1, _, .cons _ t, e => by
    obtain ⟨v, h1, h2⟩ := Reps.get (i := i) t (by simpa using e)
    exact ⟨v, by simpa using h1, h2⟩
theorem Reps.get' : ∀ {vs : List V} {ds : List Dt} {i : Nat} {v : V}, Reps W α S H vs ds → vs[i]? = some v → ∃ d, ds[i]? = some d ∧ Rep W α S H v d
  | _, _, _, _, .nil, e => by simp at e
  | _, _, 0, _, .cons r _, e => by simp at e; subst e; exact ⟨_, rfl, r⟩
  | _, _, i + 1, _, .cons _ t, e => by
    obtain ⟨v, h1, h2⟩ := Reps.get' (i := i) t (by simpa using e)
    exact ⟨v, by simpa using h1, h2⟩
theorem Reps.append : ∀ {vs : List V} {ds : List Dt} {vs' : List V} {ds' : List Dt}, Reps W α S H vs ds → Reps W α S H vs' ds' → Reps W α S H (vs ++ vs') (ds ++ ds')
  | _, _, _, _, .nil, q => q
  | _, _, _, _, .cons r t, q => .cons r (Reps.append t q)
theorem Reps.take : ∀ {vs : List V} {ds : List Dt} (n : Nat), Reps W α S H vs ds → Reps W α S H (vs.take n) (ds.take n)
  | _, _, 0, _ => by simp; exact .nil
  | _, _, n + 1, .nil => by simp; exact .nil
  | _, _, n + 1, .cons r t => by simp; exact .cons r (Reps.take n t)
theorem Reps.drop : ∀ {vs : List V} {ds : List Dt} (n : Nat), Reps W α S H vs ds → Reps W α S H (vs.drop n) (ds.drop n)
  | _, _, 0, r => by simpa using r
  | _, _, n + 1, .nil => by simp; exact .nil
  | _, _, n + 1, .cons r t => by simp; exact Reps.drop n t
theorem Reps.set {v : V} {d : Dt} (r : Rep W α S H v d) : ∀ {vs : List V} {ds : List Dt} (i : Nat), Reps W α S H vs ds → Reps W α S H (vs.set i v) (ds.set i d)
  | _, _, _, .nil => by simp; exact .nil
  | _, _, 0, .cons _ t => by simp; exact .cons r t
  | _, _, i + 1, .cons q t => by simp; exact .cons q (Reps.set r i t)
theorem Reps.snoc {vs : List V} {ds : List Dt} {v : V} {d : Dt} (r : Reps W α S H vs ds) (q : Rep W α S H v d) : Reps W α S H (vs ++ [v]) (ds ++ [d]) := r.append (.cons q .nil)

theorem OffT.sq {a : Addr} {xs : List V} (o : OffT W α S H a xs) : SqT W.K H a xs := by
  rcases o with ⟨_, r⟩ | k
  · exact .inl r
  · exact .inr k
theorem OffL.at_ {a : Addr} {xs : List V} (o : OffL W α S H a xs) : LstAt W.K H a xs := by
  rcases o with ⟨_, r⟩ | k
  · exact .inl r
  · exact .inr k
theorem OffL.sq {a : Addr} {xs : List V} (o : OffL W α S H a xs) : SqL W.K H a xs := o.at_.sq

/-- an owned object as it lies -/
def MRep (W : Wr) (α : List Addr) (S : Store) (H : Hp) (a : Addr) : MO → Prop
  | .gone => True
  | .lst ds => ∃ vs, H a = some (.lst vs) ∧ Reps W α S H vs ds
  | .dct kds => ∃ kvs, H a = some (.dK kvs) ∧ KReps W α S H kvs kds
structure Sim (W : Wr) (α : List Addr) (S : Store) (H : Hp) : Prop where
  len : α.length = S.length
  nd : α.Nodup
  obj : ∀ (n : Nat) (a : Addr) (mo : MO), α[n]? = some a → S[n]? = some mo → MRep W α S H a mo
  ne : ∀ (n : Nat) (a : Addr), α[n]? = some a → H a ≠ none
  bs : ∀ b ∈ W.B, H b ≠ none
  bd : ∀ b ∈ W.B, b ∉ α

theorem MRep.ext {a : Addr} {mo : MO} (e : Ext W α S H α' S' H') (h : H' a = H a) (m : MRep W α S H a mo) : MRep W α' S' H' a mo := by
  cases mo with
  | gone => trivial
  | lst ds => obtain ⟨vs, h1, r⟩ := m; exact ⟨vs, h.trans h1, r.ext e⟩
  | dct kds => obtain ⟨vs, h1, r⟩ := m; exact ⟨vs, h.trans h1, r.ext e⟩

/-- a new object by value -/
theorem Ext.new {p : Addr} {o : HO} (s : Sim W α S H) (hp : H p = none) : Ext W α S H α S (upd H p o) :=
  ⟨fun _ _ h => h, fun b x n e => ⟨n, by rw [upd_ne (ne_of_none e hp)]; exact e⟩, fun b hb => upd_ne fun z => s.bs b hb (by rw [z]; exact hp)⟩
theorem Sim.new {p : Addr} {o : HO} (s : Sim W α S H) (hp : H p = none) : Sim W α S (upd H p o) := by
  have up : ∀ b, H b ≠ none → upd H p o b ≠ none := fun b h => by
    by_cases hb : b = p
    · subst hb; rw [upd_same]; simp
    · rw [upd_ne hb]; exact h
  refine ⟨s.len, s.nd, fun n a mo h1 h2 => ?_, fun n a h => up a (s.ne n a h), fun b hb => up b (s.bs b hb), s.bd⟩
  have ne : a ≠ p := fun z => s.ne n a h1 (by rw [z]; exact hp)
  exact (s.obj n a mo h1 h2).ext (Ext.new s hp) (upd_ne ne)
theorem Sim.off {p : Addr} (s : Sim W α S H) (hp : H p = none) : ¬ Owned W α S p := fun z => by
  rcases z with ⟨n, _, h, _⟩ | z
  · exact s.ne n p h hp
  · exact s.bs p z hp

/-- a new owned object -/
theorem Ext.alloc {p : Addr} {o : HO} {mo : MO} (s : Sim W α S H) (hp : H p = none) : Ext W α S H (α ++ [p]) (S ++ [mo]) (upd H p o) := by
  refine ⟨fun n a h => ?_, fun b x nb e => ⟨?_, ?_⟩, fun b hb => upd_ne fun z => s.bs b hb (by rw [z]; exact hp)⟩
  · rw [List.getElem?_append_left (List.getElem?_eq_some_iff.mp h).1]; exact h
  · rintro (⟨n, m, h1, h2, h3⟩ | h)
    · by_cases hn : n < α.length
      · rw [List.getElem?_append_left hn] at h1
        rw [List.getElem?_append_left (s.len ▸ hn)] at h2
        exact nb (.inl ⟨n, m, h1, h2, h3⟩)
      · rw [List.getElem?_append_right (by omega)] at h1
        cases hz : n - α.length with
        | zero => rw [hz] at h1; simp at h1; rw [← h1, hp] at e; cases e
        | succ k => rw [hz] at h1; simp at h1
    · exact nb (.inr h)
  · rw [upd_ne (ne_of_none e hp)]; exact e
theorem Sim.alloc {p : Addr} {o : HO} {mo : MO} (s : Sim W α S H) (hp : H p = none) (hm : MRep W (α ++ [p]) (S ++ [mo]) (upd H p o) p mo) : Sim W (α ++ [p]) (S ++ [mo]) (upd H p o) := by
  have e : Ext W α S H (α ++ [p]) (S ++ [mo]) (upd H p o) := Ext.alloc s hp
  have hin : p ∉ α := fun z => by
    obtain ⟨n, hn⟩ := List.mem_iff_getElem?.mp z
    exact s.ne n p hn hp
  have up : ∀ b, H b ≠ none → upd H p o b ≠ none := fun b h => by
    by_cases hb : b = p
    · subst hb; rw [upd_same]; simp
    · rw [upd_ne hb]; exact h
  refine ⟨by simp [s.len], ?_, fun n a m h1 h2 => ?_, fun n a h => ?_, fun b hb => up b (s.bs b hb), fun b hb z => ?_⟩
  · rw [List.nodup_append]
    refine ⟨s.nd, by simp, fun x hx y hy => ?_⟩
    simp at hy; subst hy
    exact fun z => hin (z ▸ hx)
  · by_cases hn : n < α.length
    · rw [List.getElem?_append_left hn] at h1
      rw [List.getElem?_append_left (s.len ▸ hn)] at h2
      have ne : a ≠ p := fun z => s.ne n a h1 (by rw [z]; exact hp)
      exact (s.obj n a m h1 h2).ext e (upd_ne ne)
    · rw [List.getElem?_append_right (by omega)] at h1
      cases hz : n - α.length with
      | zero =>
        rw [hz] at h1; simp at h1; subst h1
        rw [List.getElem?_append_right (by rw [← s.len]; omega), ← s.len, hz] at h2
        simp at h2; subst h2
        exact hm
      | succ k => rw [hz] at h1; simp at h1
  · by_cases hn : n < α.length
    · rw [List.getElem?_append_left hn] at h
      exact up a (s.ne n a h)
    · rw [List.getElem?_append_right (by omega)] at h
      cases hz : n - α.length with
      | zero => rw [hz] at h; simp at h; subst h; rw [upd_same]; simp
      | succ k => rw [hz] at h; simp at h
  · rcases List.mem_append.mp z with z | z
    · exact s.bd b hb z
    · simp at z; exact s.bs b hb (by rw [z]; exact hp)

/-- an owned object is written -/
theorem Owned.set {n : Nat} {mo mo' : MO} {b : Addr} (h0 : S[n]? = some mo) (hg : mo ≠ MO.gone) (h : Owned W α (S.set n mo') b) : Owned W α S b := by
  rcases h with ⟨m, x, h1, h2, h3⟩ | h
  · by_cases hm : n = m
    · subst hm; exact .inl ⟨n, mo, h1, h0, hg⟩
    · rw [List.getElem?_set_ne hm] at h2; exact .inl ⟨m, x, h1, h2, h3⟩
  · exact .inr h
theorem Ext.write {n : Nat} {a : Addr} {mo mo' : MO} {o : HO} (s : Sim W α S H) (ha : α[n]? = some a) (h0 : S[n]? = some mo) (hg : mo ≠ MO.gone) : Ext W α S H α (S.set n mo') (upd H a o) := by
  refine ⟨fun _ _ h => h, fun b x nb e => ⟨fun z => nb (z.set h0 hg), ?_⟩, fun b hb => upd_ne fun z => s.bd b hb (z ▸ List.mem_of_getElem? ha)⟩
  have ne : b ≠ a := fun z => nb (.inl ⟨n, mo, z ▸ ha, h0, hg⟩)
  rw [upd_ne ne]; exact e
theorem Sim.write {n : Nat} {a : Addr} {mo mo' : MO} {o : HO} (s : Sim W α S H) (ha : α[n]? = some a) (h0 : S[n]? = some mo) (hg : mo ≠ MO.gone)
    (hm : MRep W α (S.set n mo') (upd H a o) a mo') : Sim W α (S.set n mo') (upd H a o) := by
  have e : Ext W α S H α (S.set n mo') (upd H a o) := Ext.write s ha h0 hg
  have up : ∀ b, H b ≠ none → upd H a o b ≠ none := fun b h => by
    by_cases hb : b = a
    · subst hb; rw [upd_same]; simp
    · rw [upd_ne hb]; exact h
  refine ⟨by simp [s.len], s.nd, fun m b x h1 h2 => ?_, fun m b h => up b (s.ne m b h), fun b hb => up b (s.bs b hb), s.bd⟩
  by_cases hmn : n = m
  · subst hmn
    rw [ha] at h1; cases h1
    rw [List.getElem?_set_self (List.getElem?_eq_some_iff.mp h0).1] at h2; cases h2
    exact hm
  · rw [List.getElem?_set_ne hmn] at h2
    have ne : b ≠ a := fun z => hmn (by
      subst z
      obtain ⟨l1, e1⟩ := List.getElem?_eq_some_iff.mp ha
      obtain ⟨l2, e2⟩ := List.getElem?_eq_some_iff.mp h1
      exact (List.getElem_inj s.nd).mp (e1.trans e2.symm))
    exact (s.obj m b x h1 h2).ext e (upd_ne ne)
/-- an owned object is frozen: by value from here on -/
theorem Sim.gone_not {n : Nat} {a : Addr} (s : Sim W α S H) (ha : α[n]? = some a) : ¬ Owned W α (S.set n MO.gone) a := by
  rintro (⟨m, x, h1, h2, h3⟩ | h)
  · have : n = m := by
      obtain ⟨l1, e1⟩ := List.getElem?_eq_some_iff.mp ha
      obtain ⟨l2, e2⟩ := List.getElem?_eq_some_iff.mp h1
      exact (List.getElem_inj s.nd).mp (e1.trans e2.symm)
    subst this
    by_cases hl : n < S.length
    · rw [List.getElem?_set_self hl] at h2; cases h2; exact h3 rfl
    · rw [List.getElem?_eq_none (by simpa using hl)] at h2; cases h2
  · exact s.bd a h (List.mem_of_getElem? ha)
theorem Ext.freeze {n : Nat} {mo : MO} (h0 : S[n]? = some mo) (hg : mo ≠ MO.gone) : Ext W α S H α (S.set n MO.gone) H :=
  ⟨fun _ _ h => h, fun b x nb e => ⟨fun z => nb (z.set h0 hg), e⟩, fun _ _ => rfl⟩
theorem Sim.freeze {n : Nat} {mo : MO} (s : Sim W α S H) (h0 : S[n]? = some mo) (hg : mo ≠ MO.gone) : Sim W α (S.set n MO.gone) H := by
  have e : Ext W α S H α (S.set n MO.gone) H := Ext.freeze h0 hg
  refine ⟨by simp [s.len], s.nd, fun m b x h1 h2 => ?_, s.ne, s.bs, s.bd⟩
  by_cases hmn : n = m
  · subst hmn
    rw [List.getElem?_set_self (List.getElem?_eq_some_iff.mp h0).1] at h2; cases h2
    trivial
  · rw [List.getElem?_set_ne hmn] at h2
    exact (s.obj m b x h1 h2).ext e rfl
theorem MRep.hold {D : Addr} {o : HO} {a : Addr} {mo : MO} (h : H D = none) (n : a ≠ D) (m : MRep W α S H a mo) : MRep (W.hold D) α S (upd H D o) a mo := by
  cases mo with
  | gone => trivial
  | lst ds => obtain ⟨vs, h1, r⟩ := m; exact ⟨vs, (upd_ne n).trans h1, r.hold h⟩
  | dct kds => obtain ⟨vs, h1, r⟩ := m; exact ⟨vs, (upd_ne n).trans h1, r.hold h⟩
theorem MRep.turn {D : Addr} {o : HO} {a : Addr} {mo : MO} (n : a ≠ D) (m : MRep (W.hold D) α S H a mo) : MRep (W.hold D) α S (upd H D o) a mo := by
  cases mo with
  | gone => trivial
  | lst ds => obtain ⟨vs, h1, r⟩ := m; exact ⟨vs, (upd_ne n).trans h1, r.turn⟩
  | dct kds => obtain ⟨vs, h1, r⟩ := m; exact ⟨vs, (upd_ne n).trans h1, r.turn⟩
theorem MRep.unhold {D : Addr} {a : Addr} {mo : MO} (m : MRep (W.hold D) α S H a mo) : MRep W α S H a mo := by
  cases mo with
  | gone => trivial
  | lst ds => obtain ⟨vs, h1, r⟩ := m; exact ⟨vs, h1, r.unhold⟩
  | dct kds => obtain ⟨vs, h1, r⟩ := m; exact ⟨vs, h1, r.unhold⟩
theorem Sim.hold {D : Addr} {o : HO} (s : Sim W α S H) (h : H D = none) : Sim (W.hold D) α S (upd H D o) := by
  have nD : ∀ (n : Nat) (a : Addr), α[n]? = some a → a ≠ D := fun n a e z => s.ne n a e (by rw [z]; exact h)
  have up : ∀ b, H b ≠ none → upd H D o b ≠ none := fun b h => by
    by_cases hb : b = D
    · subst hb; rw [upd_same]; simp
    · rw [upd_ne hb]; exact h
  refine ⟨s.len, s.nd, fun n a mo h1 h2 => (s.obj n a mo h1 h2).hold h (nD n a h1), fun n a e => up a (s.ne n a e), fun b hb => ?_, fun b hb z => ?_⟩
  · rcases List.mem_cons.mp hb with rfl | hb
    · rw [upd_same]; simp
    · exact up b (s.bs b hb)
  · rcases List.mem_cons.mp hb with rfl | hb
    · obtain ⟨n, hn⟩ := List.mem_iff_getElem?.mp z
      exact s.ne n b hn h
    · exact s.bd b hb z
theorem Sim.turn {D : Addr} {o : HO} (s : Sim (W.hold D) α S H) : Sim (W.hold D) α S (upd H D o) := by
  have nD : ∀ (n : Nat) (a : Addr), α[n]? = some a → a ≠ D := fun n a e z => s.bd D List.mem_cons_self (z ▸ List.mem_of_getElem? e)
  have up : ∀ b, H b ≠ none → upd H D o b ≠ none := fun b h => by
    by_cases hb : b = D
    · subst hb; rw [upd_same]; simp
    · rw [upd_ne hb]; exact h
  exact ⟨s.len, s.nd, fun n a mo h1 h2 => (s.obj n a mo h1 h2).turn (nD n a h1), fun n a e => up a (s.ne n a e), fun b hb => up b (s.bs b hb), s.bd⟩
theorem Sim.unhold {D : Addr} (s : Sim (W.hold D) α S H) : Sim W α S H :=
  ⟨s.len, s.nd, fun n a mo h1 h2 => (s.obj n a mo h1 h2).unhold, s.ne, fun b hb => s.bs b (List.mem_cons_of_mem _ hb), fun b hb => s.bd b (List.mem_cons_of_mem _ hb)⟩
theorem MRep.drop {D : Addr} {a : Addr} {mo : MO} (n : a ≠ D) (m : MRep (W.hold D) α S H a mo) : MRep W α S (dropH H D) a mo := by
  cases mo with
  | gone => trivial
  | lst ds => obtain ⟨vs, h1, r⟩ := m; exact ⟨vs, (dropH_ne n).trans h1, r.drop'⟩
  | dct kds => obtain ⟨vs, h1, r⟩ := m; exact ⟨vs, (dropH_ne n).trans h1, r.drop⟩
theorem Sim.drop {D : Addr} (s : Sim (W.hold D) α S H) (hB : D ∉ W.B) : Sim W α S (dropH H D) := by
  have nD : ∀ (n : Nat) (a : Addr), α[n]? = some a → a ≠ D := fun n a e z => s.bd D List.mem_cons_self (z ▸ List.mem_of_getElem? e)
  refine ⟨s.len, s.nd, fun n a mo h1 h2 => (s.obj n a mo h1 h2).drop (nD n a h1), fun n a e => ?_, fun b hb => ?_, fun b hb => s.bd b (List.mem_cons_of_mem _ hb)⟩
  · rw [dropH_ne (nD n a e)]; exact s.ne n a e
  · rw [dropH_ne (show b ≠ D from fun z => hB (z ▸ hb))]; exact s.bs b (List.mem_cons_of_mem _ hb)
theorem Ext.drop {D : Addr} (hD : H D = none) (hB : D ∉ W.B) (e : Ext W α S H α' S' H') : Ext W α S H α' S' (dropH H' D) := by
  refine ⟨e.pre, fun b x nb q => ?_, fun b hb => ?_⟩
  · obtain ⟨h1, h2⟩ := e.keep b x nb q
    exact ⟨h1, by rw [dropH_ne (ne_of_none q hD)]; exact h2⟩
  · rw [dropH_ne (show b ≠ D from fun z => hB (z ▸ hb))]; exact e.held b hb
/-- what happened while D was held, seen from before -/
theorem Ext.unhold {D : Addr} {o : HO} (h : H D = none) (hB : D ∉ W.B) (e : Ext (W.hold D) α S (upd H D o) α' S' H') : Ext W α S H α' S' H' := by
  refine ⟨e.pre, fun b x nb q => ?_, fun b hb => ?_⟩
  · have ne : b ≠ D := ne_of_none q h
    obtain ⟨h1, h2⟩ := e.keep b x (fun z => nb (z.hold ne)) (by rw [upd_ne ne]; exact q)
    exact ⟨fun z => h1 (by rcases z with z | z; exact .inl z; exact .inr (List.mem_cons_of_mem _ z)), h2⟩
  · have ne : b ≠ D := fun z => hB (z ▸ hb)
    rw [e.held b (List.mem_cons_of_mem _ hb), upd_ne ne]


/-! ### environments -/
/-- the exception that is being handled: its object is pinned, its fields lie in its own dict -/
def XOk (pn : List (Addr × Obj)) (W : Wr) (α : List Addr) (S : Store) (H : Hp) (v : V) (c : Str) (fs : List (Str × Dt)) : Prop :=
  ∃ (a : Addr) (oe : Obj) (C dd : Addr) (fvs : List (Str × V)), v = .ref a ∧ (a, oe) ∈ pn ∧ (∃ vs, oe.data = .fields vs) ∧ oe.cls = .ref C ∧ oe.dict = some dd ∧ W.mg c = some (.ref C) ∧ H dd = some (.xd fvs) ∧ ¬ Owned W α S dd ∧
    fvs.map (·.1) = fs.map (·.1) ∧ Reps W α S H (fvs.map (·.2)) (fs.map (·.2))
def RepX (pn : List (Addr × Obj)) (W : Wr) (α : List Addr) (S : Store) (H : Hp) (v : V) : DX → Prop
  | .vl d => Rep W α S H v d
  | .ex c fs => XOk pn W α S H v c fs
theorem RepX.ext {pn : List (Addr × Obj)} {v : V} {x : DX} (e : Ext W α S H α' S' H') (r : RepX pn W α S H v x) : RepX pn W α' S' H' v x := by
  cases x with
  | vl d => exact Rep.ext e r
  | ex c fs =>
    obtain ⟨a, oe, C, dd, fvs, h1, h2, h3, h4, h5, h6, h7, h8, h9, h10⟩ := r
    exact ⟨a, oe, C, dd, fvs, h1, h2, h3, h4, h5, h6, (e.keep _ _ h8 h7).2, (e.keep _ _ h8 h7).1, h9, h10.ext e⟩
theorem RepX.hold {pn : List (Addr × Obj)} {D : Addr} {o : HO} {v : V} {x : DX} (h : H D = none) (r : RepX pn W α S H v x) : RepX pn (W.hold D) α S (upd H D o) v x := by
  cases x with
  | vl d => exact Rep.hold h r
  | ex c fs =>
    obtain ⟨a, oe, C, dd, fvs, h1, h2, h3, h4, h5, h6, h7, h8, h9, h10⟩ := r
    have ne := ne_of_none h7 h
    exact ⟨a, oe, C, dd, fvs, h1, h2, h3, h4, h5, h6, (upd_ne ne).trans h7, fun z => h8 (z.hold ne), h9, h10.hold h⟩
theorem RepX.turn {pn : List (Addr × Obj)} {D : Addr} {o : HO} {v : V} {x : DX} (r : RepX pn (W.hold D) α S H v x) : RepX pn (W.hold D) α S (upd H D o) v x := by
  cases x with
  | vl d => exact Rep.turn r
  | ex c fs =>
    obtain ⟨a, oe, C, dd, fvs, h1, h2, h3, h4, h5, h6, h7, h8, h9, h10⟩ := r
    exact ⟨a, oe, C, dd, fvs, h1, h2, h3, h4, h5, h6, (upd_ne (Rd.ne' h8)).trans h7, h8, h9, h10.turn⟩
theorem RepX.unhold {pn : List (Addr × Obj)} {D : Addr} {v : V} {x : DX} (r : RepX pn (W.hold D) α S H v x) : RepX pn W α S H v x := by
  cases x with
  | vl d => exact Rep.unhold r
  | ex c fs =>
    obtain ⟨a, oe, C, dd, fvs, h1, h2, h3, h4, h5, h6, h7, h8, h9, h10⟩ := r
    exact ⟨a, oe, C, dd, fvs, h1, h2, h3, h4, h5, h6, h7, fun z => h8 z.unhold, h9, h10.unhold⟩
theorem RepX.pins {pn pn' : List (Addr × Obj)} {v : V} {x : DX} (k : ∀ p ∈ pn, p ∈ pn') (r : RepX pn W α S H v x) : RepX pn' W α S H v x := by
  cases x with
  | vl d => exact r
  | ex c fs =>
    obtain ⟨a, oe, C, dd, fvs, h1, h2, h3⟩ := r
    exact ⟨a, oe, C, dd, fvs, h1, k _ h2, h3⟩
structure REnv (pn : List (Addr × Obj)) (W : Wr) (α : List Addr) (S : Store) (H : Hp) (σ : Sl) (env : EnvD) : Prop where
  len : env.length = σ.length
  at_ : ∀ (i : Nat) (x : DX), env[i]? = some (some x) → ∃ v, σ[i]? = some (some v) ∧ RepX pn W α S H v x
section
variable {pn : List (Addr × Obj)}
theorem REnv.ext {σ : Sl} {env : EnvD} (e : Ext W α S H α' S' H') (r : REnv pn W α S H σ env) : REnv pn W α' S' H' σ env :=
  ⟨r.len, fun i d h => let ⟨v, h1, h2⟩ := r.at_ i d h; ⟨v, h1, h2.ext e⟩⟩
theorem REnv.setX {σ : Sl} {env : EnvD} {v : V} {d : DX} (r : REnv pn W α S H σ env) (q : RepX pn W α S H v d) (i : Nat) : REnv pn W α S H (σ.set i (some v)) (env.set i (some d)) := by
  refine ⟨by simp [r.len], fun j x h => ?_⟩
  by_cases hj : i = j
  · subst hj
    by_cases hl : i < env.length
    · rw [List.getElem?_set_self hl] at h; cases h
      exact ⟨v, List.getElem?_set_self (r.len ▸ hl), q⟩
    · rw [List.getElem?_eq_none (by simpa using hl)] at h; cases h
  · rw [List.getElem?_set_ne hj] at h
    rw [List.getElem?_set_ne hj]
    exact r.at_ j x h
theorem REnv.set {σ : Sl} {env : EnvD} {v : V} {d : Dt} (r : REnv pn W α S H σ env) (q : Rep W α S H v d) (i : Nat) : REnv pn W α S H (σ.set i (some v)) (env.set i (some (.vl d))) := r.setX (d := .vl d) q i
theorem REnv.forget {σ : Sl} {env : EnvD} (r : REnv pn W α S H σ env) (i : Nat) : REnv pn W α S H (σ.set i none) (env.set i none) := by
  refine ⟨by simp [r.len], fun j x h => ?_⟩
  by_cases hj : i = j
  · subst hj
    by_cases hl : i < env.length
    · rw [List.getElem?_set_self hl] at h; cases h
    · rw [List.getElem?_eq_none (by simpa using hl)] at h; cases h
  · rw [List.getElem?_set_ne hj] at h
    rw [List.getElem?_set_ne hj]
    exact r.at_ j x h
/-- the exceptions are let go -/
def dropX (env : EnvD) : EnvD := env.map fun o => match o with
  | some (.vl d) => some (.vl d)
  | _ => none
theorem REnv.dropX {pn' : List (Addr × Obj)} {σ : Sl} {env : EnvD} (r : REnv pn W α S H σ env) : REnv pn' W α S H σ (DL.dropX env) := by
  refine ⟨by simp [DL.dropX, r.len], fun i x h => ?_⟩
  unfold DL.dropX at h
  rw [List.getElem?_map] at h
  obtain ⟨o, h1, h2⟩ := Option.map_eq_some_iff.mp h
  cases o with
  | none => cases h2
  | some y =>
    cases y with
    | vl d => cases h2; exact r.at_ i _ h1
    | ex c fs => cases h2
theorem REnv.pins {pn' : List (Addr × Obj)} {σ : Sl} {env : EnvD} (k : ∀ p ∈ pn, p ∈ pn') (r : REnv pn W α S H σ env) : REnv pn' W α S H σ env :=
  ⟨r.len, fun i x h => let ⟨v, h1, h2⟩ := r.at_ i x h; ⟨v, h1, h2.pins k⟩⟩
end

/-! ### what is wanted behind -/
/-- an exception of an own class with fields -/
def XRep (W : Wr) (α : List Addr) (S : Store) (H : Hp) (c : Str) (fs : List (Str × Dt)) (cls : Value) (od : Option Addr) : Prop :=
  ∃ C, W.mg c = some (.ref C) ∧ cls = .ref C ∧ ((fs = [] ∧ od = none) ∨ ∃ dx fvs, od = some dx ∧ H dx = some (.xd fvs) ∧ ¬ Owned W α S dx ∧ fvs.map (·.1) = fs.map (·.1) ∧ Reps W α S H (fvs.map (·.2)) (fs.map (·.2)))

def PostG (W : Wr) {β γ : Type} (R : List Addr → Store → Hp → β → γ → Prop) (E : XK) (α : List Addr) (S : Store) (H : Hp) (Q : β → Hp → Prop) : Out γ → Prop
  | .ok d S' => ∀ α' v H', R α' S' H' v d → Sim W α' S' H' → Ext W α S H α' S' H' → Q v H'
  | .exc c fs S' => ∀ α' cls od H', XRep W α' S' H' c fs cls od → Sim W α' S' H' → Ext W α S H α' S' H' → E cls od H'
  | .bad => False
abbrev Post (W : Wr) (E : XK) (α : List Addr) (S : Store) (H : Hp) (Q : VK) : Out Dt → Prop := PostG W (Rep W) E α S H Q
abbrev PostA (W : Wr) (E : XK) (α : List Addr) (S : Store) (H : Hp) (Q : List V → Hp → Prop) : Out (List Dt) → Prop := PostG W (Reps W) E α S H Q
abbrev RB : List Addr → Store → Hp → Bool → Bool → Prop := fun _ _ _ b c => b = c
abbrev PostB (W : Wr) (E : XK) (α : List Addr) (S : Store) (H : Hp) (Q : Bool → Hp → Prop) : Out Bool → Prop := PostG W RB E α S H Q

theorem PostG.mono {β γ : Type} {R : List Addr → Store → Hp → β → γ → Prop} {E : XK} {Q : β → Hp → Prop} {o : Out γ} (e : Ext W α S H α' S' H') (h : PostG W R E α S H Q o) : PostG W R E α' S' H' Q o := by
  cases o with
  | ok d S1 => exact fun α1 v H1 r s x => h α1 v H1 r s (e.trans x)
  | exc c fs S1 => exact fun α1 cls od H1 r s x => h α1 cls od H1 r s (e.trans x)
  | bad => exact h
theorem PostG.bind {β γ β' γ' : Type} {R : List Addr → Store → Hp → β → γ → Prop} {R' : List Addr → Store → Hp → β' → γ' → Prop} {E : XK} {Q : β → Hp → Prop} {Q' : β' → Hp → Prop} {o : Out γ'} {k : γ' → Store → Out γ}
    (h : PostG W R E α S H Q (o.bind k)) (hk : ∀ α' v H' d S', R' α' S' H' v d → Sim W α' S' H' → Ext W α S H α' S' H' → PostG W R E α' S' H' Q (k d S') → Q' v H') : PostG W R' E α S H Q' o := by
  cases o with
  | ok d S1 => exact fun α1 v H1 r s x => hk α1 v H1 d S1 r s x (PostG.mono x h)
  | exc c fs S1 => exact h
  | bad => exact h.elim

/-- a new list is wanted: its items, and where it will lie -/
def PostF (W : Wr) (E : XK) (α : List Addr) (S : Store) (H : Hp) (Q : VK) : Out (List Dt) → Prop
  | .ok ds S' => ∀ α' H1 p vs, H1 p = none → Reps W α' S' H1 vs ds → Sim W α' S' H1 → Ext W α S H α' S' H1 → Q (.ref p) (upd H1 p (.lst vs))
  | .exc c fs S' => ∀ α' cls od H', XRep W α' S' H' c fs cls od → Sim W α' S' H' → Ext W α S H α' S' H' → E cls od H'
  | .bad => False
theorem PostF.mono {E : XK} {Q : VK} {o : Out (List Dt)} (e : Ext W α S H α' S' H') (h : PostF W E α S H Q o) : PostF W E α' S' H' Q o := by
  cases o with
  | ok d S1 => exact fun α1 H1 p vs n r s x => h α1 H1 p vs n r s (e.trans x)
  | exc c fs S1 => exact fun α1 cls od H1 r s x => h α1 cls od H1 r s (e.trans x)
  | bad => exact h
theorem PostF.bind {β' γ' : Type} {R' : List Addr → Store → Hp → β' → γ' → Prop} {E : XK} {Q : VK} {Q' : β' → Hp → Prop} {o : Out γ'} {k : γ' → Store → Out (List Dt)}
    (h : PostF W E α S H Q (o.bind k)) (hk : ∀ α' v H' d S', R' α' S' H' v d → Sim W α' S' H' → Ext W α S H α' S' H' → PostF W E α' S' H' Q (k d S') → Q' v H') : PostG W R' E α S H Q' o := by
  cases o with
  | ok d S1 => exact fun α1 v H1 r s x => hk α1 v H1 d S1 r s x (PostF.mono x h)
  | exc c fs S1 => exact h
  | bad => exact h.elim

inductive SO where
  | nx (env : EnvD) (S : Store)
  | rt (d : Dt) (S : Store)
  | bk (env : EnvD) (S : Store)
  | ct (env : EnvD) (S : Store)
  | exc (c : Str) (fs : List (Str × Dt)) (env : EnvD) (S : Store)
  | bad
def SPost (pn : List (Addr × Obj)) (W : Wr) (E : Sl → XK) (α : List Addr) (S : Store) (H : Hp) (D : Ends) : SO → Prop
  | .nx env S' => ∀ α' σ' H', REnv pn W α' S' H' σ' env → Sim W α' S' H' → Ext W α S H α' S' H' → D.nx σ' H'
  | .rt d S' => ∀ α' v H', Rep W α' S' H' v d → Sim W α' S' H' → Ext W α S H α' S' H' → D.rt v H'
  | .bk env S' => ∀ α' σ' H', REnv pn W α' S' H' σ' env → Sim W α' S' H' → Ext W α S H α' S' H' → D.bk σ' H'
  | .ct env S' => ∀ α' σ' H', REnv pn W α' S' H' σ' env → Sim W α' S' H' → Ext W α S H α' S' H' → D.ct σ' H'
  | .exc c fs env S' => ∀ α' σ' cls od H', REnv pn W α' S' H' σ' env → XRep W α' S' H' c fs cls od → Sim W α' S' H' → Ext W α S H α' S' H' → E σ' cls od H'
  | .bad => False
theorem SPost.mono {pn : List (Addr × Obj)} {E : Sl → XK} {D : Ends} {o : SO} (e : Ext W α S H α' S' H') (h : SPost pn W E α S H D o) : SPost pn W E α' S' H' D o := by
  cases o with
  | nx env S1 => exact fun α1 v H1 r s x => h α1 v H1 r s (e.trans x)
  | rt env S1 => exact fun α1 v H1 r s x => h α1 v H1 r s (e.trans x)
  | bk env S1 => exact fun α1 v H1 r s x => h α1 v H1 r s (e.trans x)
  | ct env S1 => exact fun α1 v H1 r s x => h α1 v H1 r s (e.trans x)
  | exc c fs env S1 => exact fun α1 σ1 cls od H1 r q s x => h α1 σ1 cls od H1 r q s (e.trans x)
  | bad => exact h
end

/-! ### the judgements -/
abbrev FE := EnvD → Store → Out Dt
abbrev FT := EnvD → Store → Out Bool
abbrev FA := EnvD → Store → Out (List Dt)
abbrev FS := EnvD → Store → SO
abbrev Cx.wr (X : Cx) (B : List Addr) : Wr := ⟨X.K, X.w, X.mg, B⟩

structure DE (X : Cx) (E : Sl → XK) (e : Expr) (f : FE) : Prop where
  ex : ∃ t, PE X e t ∧ ∀ B α σ H env S Q, REnv X.pn (Cx.wr X B) α S H σ env → Sim (Cx.wr X B) α S H → Post (Cx.wr X B) (E σ) α S H Q (f env S) → t σ H Q
structure DA (X : Cx) (E : Sl → XK) (es : List Expr) (f : FA) : Prop where
  ex : ∃ t, PA X es t ∧ ∀ B α σ H env S Q, REnv X.pn (Cx.wr X B) α S H σ env → Sim (Cx.wr X B) α S H → PostA (Cx.wr X B) (E σ) α S H Q (f env S) → t σ H Q
structure DT (X : Cx) (E : Sl → XK) (e : Expr) (f : FT) : Prop where
  ex : ∃ t, PT X e t ∧ ∀ B α σ H env S Q, REnv X.pn (Cx.wr X B) α S H σ env → Sim (Cx.wr X B) α S H → PostB (Cx.wr X B) (E σ) α S H Q (f env S) → t σ H Q
structure DW (X : Cx) (E : Sl → XK) (e : Expr) (f : FT) : Prop where
  ex : ∃ t, PW X e t ∧ ∀ B α σ H env S Q, REnv X.pn (Cx.wr X B) α S H σ env → Sim (Cx.wr X B) α S H → PostB (Cx.wr X B) (E σ) α S H Q (f env S) → t σ H Q
structure DS (X : Cx) (E : Sl → XK) (st : Stmt) (f : FS) : Prop where
  ex : ∃ t, PS X st t ∧ ∀ B α σ H env S D, REnv X.pn (Cx.wr X B) α S H σ env → Sim (Cx.wr X B) α S H → SPost X.pn (Cx.wr X B) E α S H D (f env S) → t D σ H
structure DSs (X : Cx) (E : Sl → XK) (sts : List Stmt) (f : FS) : Prop where
  ex : ∃ t, PSs X sts t ∧ ∀ B α σ H env S D, REnv X.pn (Cx.wr X B) α S H σ env → Sim (Cx.wr X B) α S H → SPost X.pn (Cx.wr X B) E α S H D (f env S) → t D σ H

/-! ### expressions -/
def slot : EnvD → Nat → Option Dt
  | [], _ => none
  | some (.vl d) :: _, 0 => some d
  | _ :: _, 0 => none
  | _ :: r, i + 1 => slot r i
theorem slot_get : ∀ (env : EnvD) (i : Nat) (d : Dt), slot env i = some d → env[i]? = some (some (.vl d))
  | [], _, _, h => by simp [slot] at h
  | some (.vl x) :: r, 0, d, h => by simp [slot] at h; simp [h]
  | some (.ex c fs) :: r, 0, d, h => by simp [slot] at h
  | none :: r, 0, d, h => by simp [slot] at h
  | o :: r, i + 1, d, h => by simp [slot] at h; simpa using slot_get r i d h
theorem slot_rep {pn : List (Addr × Obj)} {W : Wr} {α : List Addr} {S : Store} {H : Hp} {σ : Sl} {env : EnvD} {i : Nat} {d : Dt} (r : REnv pn W α S H σ env) (h : slot env i = some d) : ∃ v, σ[i]? = some (some v) ∧ Rep W α S H v d := r.at_ i _ (slot_get env i d h)
def cVar (i : Nat) : FE := fun env S => match slot env i with | some d => .ok d S | none => .bad
def cC (d : Dt) : FE := fun _ S => .ok d S
def cUn (op : Dt → Store → Out Dt) (a : FE) : FE := fun env S => (a env S).bind op
def cBin (op : Dt → Dt → Store → Out Dt) (a b : FE) : FE := fun env S => (a env S).bind fun x S1 => (b env S1).bind fun y S2 => op x y S2
def cNil : FA := fun _ S => .ok [] S
def cCons (a : FE) (r : FA) : FA := fun env S => (a env S).bind fun x S1 => (r env S1).bind fun xs S2 => .ok (x :: xs) S2
def cApp (op : List Dt → Store → Out Dt) (a : FA) : FE := fun env S => (a env S).bind op
def cIf (c : FT) (a b : FE) : FE := fun env S => (c env S).bind fun k S1 => if k = true then a env S1 else b env S1
def cAnd (a b : FE) : FE := fun env S => (a env S).bind fun x S1 => match x with | .bl true => b env S1 | .bl false => .ok (.bl false) S1 | _ => .bad
def cOr (a b : FE) : FE := fun env S => (a env S).bind fun x S1 => match x with | .bl false => b env S1 | .bl true => .ok (.bl true) S1 | _ => .bad
def opNot : Dt → Store → Out Dt := fun x S => match x with | .bl b => .ok (.bl (!b)) S | _ => .bad
def tVal (a : FE) : FT := fun env S => (a env S).bind fun x S1 => match x with | .bl b => .ok b S1 | _ => .bad
def tNot' (a : FT) : FT := fun env S => (a env S).bind fun k S1 => .ok (!k) S1
def tAnd' (a b : FT) : FT := fun env S => (a env S).bind fun k S1 => if k = true then b env S1 else .ok false S1
def tOr' (a b : FT) : FT := fun env S => (a env S).bind fun k S1 => if k = true then .ok true S1 else b env S1

section
variable {X : Cx} {E : Sl → XK} {a b : Expr} {fa fb : FE} {pos : Pos}
theorem de_var {x : Str} (i : Nat) (hN : X.N[i]? = some x := by rfl) (hv : Vis X.env.scope x := by first | exact Or.inl rfl | exact Or.inr (Or.inl rfl) | exact Or.inr (Or.inr rfl)) (hd : (x == ("__debug__" : Str)) = false := by decide)
    (hcd : (x == ("__classdict__" : Str)) = false := by decide) : DE X E (.Name x pos) (cVar i) := by
  refine ⟨_, pe_var hN hv hd hcd, fun B α σ H env S Q r s h => ?_⟩
  unfold cVar at h
  cases e : slot env i with
  | none => rw [e] at h; exact h.elim
  | some d =>
    rw [e] at h
    obtain ⟨v, h1, h2⟩ := slot_rep r e
    exact ⟨v, h1, h α v H h2 s Ext.refl⟩
/-- a constant -/
theorem de_c {e : Expr} {v : V} {d : Dt} (h : PE X e (tC v)) (r : ∀ B α S H, Rep (Cx.wr X B) α S H v d) : DE X E e (cC d) :=
  ⟨_, h, fun B α σ H env S Q _ s q => q α v H (r B α S H) s Ext.refl⟩
theorem de_int {i j} : DE X E (.Constant (.int i) j pos) (cC (.int i)) := de_c pe_int fun _ _ _ _ => .int i
theorem de_bl {b j} : DE X E (.Constant (.bool b) j pos) (cC (.bl b)) := de_c pe_bl fun _ _ _ _ => .bl b
theorem de_non {j} : DE X E (.Constant .none j pos) (cC .non) := de_c pe_non fun _ _ _ _ => .non
theorem de_str {x j} : DE X E (.Constant (.str x) j pos) (cC (.str x)) := de_c pe_str fun _ _ _ _ => .str x

/-- one operand, by values -/
def UnD (X : Cx) (f : Value → Sem Value) (op : Dt → Store → Out Dt) : Prop := ∃ r, UnR X f r ∧ ∀ B α S H E x d Q, Rep (Cx.wr X B) α S H x d → Sim (Cx.wr X B) α S H → Post (Cx.wr X B) E α S H Q (op d S) → r x H Q
def OpD (X : Cx) (f : Value → Value → Sem Value) (op : Dt → Dt → Store → Out Dt) : Prop :=
  ∃ r, OpR X f r ∧ ∀ B α S H E x y d e Q, Rep (Cx.wr X B) α S H x d → Rep (Cx.wr X B) α S H y e → Sim (Cx.wr X B) α S H → Post (Cx.wr X B) E α S H Q (op d e S) → r x y H Q
def IxD (X : Cx) (op : Dt → Dt → Store → Out Dt) : Prop :=
  ∃ r, IxR X r ∧ ∀ B α S H E x y d e Q, Rep (Cx.wr X B) α S H x d → Rep (Cx.wr X B) α S H y e → Sim (Cx.wr X B) α S H → Post (Cx.wr X B) E α S H Q (op d e S) → r x y H Q
def CallD (X : Cx) (f : Value) (op : List Dt → Store → Out Dt) : Prop :=
  ∃ r, CallR X f r ∧ ∀ B α S H E xs ds Q, Reps (Cx.wr X B) α S H xs ds → Sim (Cx.wr X B) α S H → Post (Cx.wr X B) E α S H Q (op ds S) → r xs H Q

theorem bin_of {op : Dt → Dt → Store → Out Dt} {r : V → V → Hp → VK → Prop} (hr : ∀ B α S H E x y d e Q, Rep (Cx.wr X B) α S H x d → Rep (Cx.wr X B) α S H y e → Sim (Cx.wr X B) α S H → Post (Cx.wr X B) E α S H Q (op d e S) → r x y H Q)
    {ta tb : TE} (ha : ∀ B α σ H env S Q, REnv X.pn (Cx.wr X B) α S H σ env → Sim (Cx.wr X B) α S H → Post (Cx.wr X B) (E σ) α S H Q (fa env S) → ta σ H Q)
    (hb : ∀ B α σ H env S Q, REnv X.pn (Cx.wr X B) α S H σ env → Sim (Cx.wr X B) α S H → Post (Cx.wr X B) (E σ) α S H Q (fb env S) → tb σ H Q) :
    ∀ B α σ H env S Q, REnv X.pn (Cx.wr X B) α S H σ env → Sim (Cx.wr X B) α S H → Post (Cx.wr X B) (E σ) α S H Q (cBin op fa fb env S) → tOp r ta tb σ H Q := by
  intro B α σ H env S Q rr s h
  refine ha B α σ H env S _ rr s (PostG.bind h fun α1 v H1 d S1 r1 s1 x1 h1 => ?_)
  refine hb B α1 σ H1 env S1 _ (rr.ext x1) s1 (PostG.bind h1 fun α2 u H2 e S2 r2 s2 x2 h2 => ?_)
  exact hr B α2 S2 H2 _ v u d e Q (r1.ext x2) r2 s2 h2
theorem de_bin {op : Operator} {f : Dt → Dt → Store → Out Dt} (ho : OpD X (binaryOp op) f) (ha : DE X E a fa) (hb : DE X E b fb) : DE X E (.BinOp a op b pos) (cBin f fa fb) := by
  obtain ⟨r, h1, h2⟩ := ho; obtain ⟨ta, a1, a2⟩ := ha; obtain ⟨tb, b1, b2⟩ := hb
  exact ⟨_, pe_op h1 a1 b1, bin_of h2 a2 b2⟩
theorem de_cmp {op : CmpOp} {f : Dt → Dt → Store → Out Dt} (ho : OpD X (compareOp op) f) (ha : DE X E a fa) (hb : DE X E b fb) (hm : behindInMarks op b = false := by first | rfl | exact nobehind _ (by decide) (by decide)) : DE X E (.Compare a [op] [b] pos) (cBin f fa fb) := by
  obtain ⟨r, h1, h2⟩ := ho; obtain ⟨ta, a1, a2⟩ := ha; obtain ⟨tb, b1, b2⟩ := hb
  exact ⟨_, pe_cmpR h1 a1 b1 hm, bin_of h2 a2 b2⟩
theorem de_ix {f : Dt → Dt → Store → Out Dt} (ho : IxD X f) (ha : DE X E a fa) (hb : DE X E b fb) (hs : PlainIx b := by exact fun _ _ => rfl) : DE X E (.Subscript a b pos) (cBin f fa fb) := by
  obtain ⟨r, h1, h2⟩ := ho; obtain ⟨ta, a1, a2⟩ := ha; obtain ⟨tb, b1, b2⟩ := hb
  exact ⟨_, pe_ix h1 a1 b1 hs, bin_of h2 a2 b2⟩
theorem de_un {op : UnaryOp} {f : Dt → Store → Out Dt} (ho : UnD X (unaryOp op) f) (ha : DE X E a fa) : DE X E (.UnaryOp op a pos) (cUn f fa) := by
  obtain ⟨r, h1, h2⟩ := ho; obtain ⟨ta, a1, a2⟩ := ha
  refine ⟨_, pe_un h1 a1, fun B α σ H env S Q rr s h => ?_⟩
  refine a2 B α σ H env S _ rr s (PostG.bind h fun α1 v H1 d S1 r1 s1 x1 h1 => ?_)
  exact h2 B α1 S1 H1 _ v d Q r1 s1 h1
/-- a comparison chain of two -/
def cChain (f g : Dt → Dt → Store → Out Dt) (a b c : FE) : FE := fun env S => (a env S).bind fun x S1 => (b env S1).bind fun y S2 => (f x y S2).bind fun z S3 =>
  match z with | .bl true => (c env S3).bind fun w S4 => g y w S4 | .bl false => .ok (.bl false) S3 | _ => .bad
theorem chain_of {c : Expr} {fc : FE} {f g : Dt → Dt → Store → Out Dt} {r r' : R2} {ta tb tc : TE}
    (h2 : ∀ B α S H E x y d e Q, Rep (Cx.wr X B) α S H x d → Rep (Cx.wr X B) α S H y e → Sim (Cx.wr X B) α S H → Post (Cx.wr X B) E α S H Q (f d e S) → r x y H Q)
    (h2' : ∀ B α S H E x y d e Q, Rep (Cx.wr X B) α S H x d → Rep (Cx.wr X B) α S H y e → Sim (Cx.wr X B) α S H → Post (Cx.wr X B) E α S H Q (g d e S) → r' x y H Q)
    (a2 : ∀ B α σ H env S Q, REnv X.pn (Cx.wr X B) α S H σ env → Sim (Cx.wr X B) α S H → Post (Cx.wr X B) (E σ) α S H Q (fa env S) → ta σ H Q)
    (b2 : ∀ B α σ H env S Q, REnv X.pn (Cx.wr X B) α S H σ env → Sim (Cx.wr X B) α S H → Post (Cx.wr X B) (E σ) α S H Q (fb env S) → tb σ H Q)
    (c2 : ∀ B α σ H env S Q, REnv X.pn (Cx.wr X B) α S H σ env → Sim (Cx.wr X B) α S H → Post (Cx.wr X B) (E σ) α S H Q (fc env S) → tc σ H Q) :
    ∀ B α σ H env S Q, REnv X.pn (Cx.wr X B) α S H σ env → Sim (Cx.wr X B) α S H → Post (Cx.wr X B) (E σ) α S H Q (cChain f g fa fb fc env S) → tChain r r' ta tb tc σ H Q := by
  intro B α σ H env S Q rr s h
  refine a2 B α σ H env S _ rr s (PostG.bind h fun α1 v H1 d S1 r1 s1 x1 h1 => ?_)
  refine b2 B α1 σ H1 env S1 _ (rr.ext x1) s1 (PostG.bind h1 fun α2 u H2 e S2 r2 s2 x2 h2q => ?_)
  refine h2 B α2 S2 H2 (E σ) v u d e _ (r1.ext x2) r2 s2 (PostG.bind h2q fun α3 z H3 zd S3 r3 s3 x3 h3 => ?_)
  cases zd with
  | bl k =>
    cases r3
    cases k with
    | true =>
      refine ⟨true, rfl, ?_⟩
      rw [if_pos rfl]
      refine c2 B α3 σ H3 env S3 _ (((rr.ext x1).ext x2).ext x3) s3 (PostG.bind h3 fun α4 q H4 qd S4 r4 s4 x4 h4 => ?_)
      exact h2' B α4 S4 H4 _ u q e qd Q ((r2.ext x3).ext x4) r4 s4 h4
    | false =>
      refine ⟨false, rfl, ?_⟩
      rw [if_neg (by decide)]
      exact h3 α3 _ H3 (.bl false) s3 Ext.refl
  | _ => exact h3.elim

theorem de_chain {op op' : CmpOp} {c : Expr} {fc : FE} {f g : Dt → Dt → Store → Out Dt} (ho : OpD X (compareOp op) f) (ho' : OpD X (compareOp op') g) (ha : DE X E a fa) (hb : DE X E b fb) (hc : DE X E c fc) (hm : lastMarks [op, op'] [b, c] = false := by rfl) : DE X E (.Compare a [op, op'] [b, c] pos) (cChain f g fa fb fc) := by
  obtain ⟨r, h1, h2⟩ := ho; obtain ⟨r', h1', h2'⟩ := ho'; obtain ⟨ta, a1, a2⟩ := ha; obtain ⟨tb, b1, b2⟩ := hb; obtain ⟨tc, c1, c2⟩ := hc
  exact ⟨_, pe_chain h1 h1' a1 b1 c1 hm, chain_of (c := c) h2 h2' a2 b2 c2⟩
theorem dt_chain {op op' : CmpOp} {c : Expr} {fc : FE} {f g : Dt → Dt → Store → Out Dt} (ho : OpD X (compareOp op) f) (ho' : OpD X (compareOp op') g) (ha : DE X E a fa) (hb : DE X E b fb) (hc : DE X E c fc) (hm : lastMarks [op, op'] [b, c] = false := by rfl) : DT X E (.Compare a [op, op'] [b, c] pos) (tVal (cChain f g fa fb fc)) := by
  obtain ⟨r, h1, h2⟩ := ho; obtain ⟨r', h1', h2'⟩ := ho'; obtain ⟨ta, a1, a2⟩ := ha; obtain ⟨tb, b1, b2⟩ := hb; obtain ⟨tc, c1, c2⟩ := hc
  refine ⟨_, pt_chain h1 h1' a1 b1 c1 hm, fun B α σ H env S Q rr s h => ?_⟩
  refine chain_of (c := c) h2 h2' a2 b2 c2 B α σ H env S _ rr s (PostG.bind h fun α1 v H1 d S1 r1 s1 x1 h1 => ?_)
  cases d with
  | bl k => cases r1; exact ⟨k, rfl, h1 α1 k H1 rfl s1 Ext.refl⟩
  | _ => exact h1.elim

/-- arguments -/
theorem da_nil : DA X E [] cNil := ⟨_, pa_nil, fun B α σ H env S Q _ s h => h α [] H .nil s Ext.refl⟩
theorem da_cons {e : Expr} {es : List Expr} {fe : FE} {fr : FA} (ha : DE X E e fe) (hr : DA X E es fr) (hs : starEach (e :: es) X.env = (false, eval e X.env) :: starEach es X.env := by rfl) : DA X E (e :: es) (cCons fe fr) := by
  obtain ⟨ta, a1, a2⟩ := ha; obtain ⟨tr, b1, b2⟩ := hr
  refine ⟨_, pa_cons a1 b1 hs, fun B α σ H env S Q rr s h => ?_⟩
  refine a2 B α σ H env S _ rr s (PostG.bind h fun α1 v H1 d S1 r1 s1 x1 h1 => ?_)
  refine b2 B α1 σ H1 env S1 _ (rr.ext x1) s1 (PostG.bind h1 fun α2 vs H2 ds S2 r2 s2 x2 h2 => ?_)
  exact h2 α2 _ H2 (.cons (r1.ext x2) r2) s2 Ext.refl
/-- a call of a builtin (by its id), of a built-in class -/
theorem app_of {op : List Dt → Store → Out Dt} {r : List V → Hp → VK → Prop} {t : TA} {fr : FA} (hr : ∀ B α S H E xs ds Q, Reps (Cx.wr X B) α S H xs ds → Sim (Cx.wr X B) α S H → Post (Cx.wr X B) E α S H Q (op ds S) → r xs H Q)
    (ha : ∀ B α σ H env S Q, REnv X.pn (Cx.wr X B) α S H σ env → Sim (Cx.wr X B) α S H → PostA (Cx.wr X B) (E σ) α S H Q (fr env S) → t σ H Q) :
    ∀ B α σ H env S Q, REnv X.pn (Cx.wr X B) α S H σ env → Sim (Cx.wr X B) α S H → Post (Cx.wr X B) (E σ) α S H Q (cApp op fr env S) → tCB r t σ H Q := by
  intro B α σ H env S Q rr s h
  refine ha B α σ H env S _ rr s (PostG.bind h fun α1 vs H1 ds S1 r1 s1 x1 h1 => ?_)
  exact hr B α1 S1 H1 _ vs ds Q r1 s1 h1
theorem de_callB {x : Str} {id : String} {p : Pos} {e : Expr} {es : List Expr} {fr : FA} {op : List Dt → Store → Out Dt} (hc : CallD X (.builtin id) op) (hg : Gl X x) (hm : X.mg x = none) (hv : bootBuiltins x = some (.builtin id)) (ha : DA X E (e :: es) fr)
    (hn : x ≠ "__name__" := by decide) (hd : (x == ("__debug__" : Str)) = false := by decide)
    (he : starEach (e :: es) X.env = (false, eval e X.env) :: starEach es X.env := by rfl) (hpl : (backTo pos (starEach es X.env)).any (·.1) = false := by rfl) : DE X E (.Call (.Name x p) (e :: es) [] pos) (cApp op fr) := by
  obtain ⟨r, h1, h2⟩ := hc; obtain ⟨t, a1, a2⟩ := ha
  exact ⟨_, pe_callB h1 hg hm hv a1 hn hd he hpl, app_of h2 a2⟩
theorem de_callTy {x : Str} {T : String} {p : Pos} {e : Expr} {es : List Expr} {fr : FA} {op : List Dt → Store → Out Dt} (hc : CallD X (.type T) op) (hg : Gl X x) (hm : X.mg x = none) (hv : bootBuiltins x = some (.type T)) (ha : DA X E (e :: es) fr)
    (hn : x ≠ "__name__" := by decide) (hd : (x == ("__debug__" : Str)) = false := by decide)
    (he : starEach (e :: es) X.env = (false, eval e X.env) :: starEach es X.env := by rfl) (hpl : (backTo pos (starEach es X.env)).any (·.1) = false := by rfl) : DE X E (.Call (.Name x p) (e :: es) [] pos) (cApp op fr) := by
  obtain ⟨r, h1, h2⟩ := hc; obtain ⟨t, a1, a2⟩ := ha
  exact ⟨_, pe_callTy h1 hg hm hv a1 hn hd he hpl, app_of h2 a2⟩

/-- and, or, not as values -/
theorem de_one {op} (h : DE X E a fa) : DE X E (.BoolOp op [a] pos) fa := by
  obtain ⟨t, h1, h2⟩ := h
  exact ⟨t, pe_one h1, h2⟩
theorem de_and {rest : List Expr} (ha : DE X E a fa) (hb : DE X E (.BoolOp .And (b :: rest) pos) fb) : DE X E (.BoolOp .And (a :: b :: rest) pos) (cAnd fa fb) := by
  obtain ⟨ta, a1, a2⟩ := ha; obtain ⟨tb, b1, b2⟩ := hb
  refine ⟨_, pe_and a1 b1, fun B α σ H env S Q rr s h => ?_⟩
  refine a2 B α σ H env S _ rr s (PostG.bind h fun α1 v H1 d S1 r1 s1 x1 h1 => ?_)
  cases d with
  | bl k =>
    cases r1
    refine ⟨k, rfl, ?_⟩
    cases k with
    | true => rw [if_pos rfl]; exact b2 B α1 σ H1 env S1 _ (rr.ext x1) s1 h1
    | false => rw [if_neg (by decide)]; exact h1 α1 _ H1 (.bl false) s1 Ext.refl
  | _ => exact h1.elim
theorem de_or {rest : List Expr} (ha : DE X E a fa) (hb : DE X E (.BoolOp .Or (b :: rest) pos) fb) : DE X E (.BoolOp .Or (a :: b :: rest) pos) (cOr fa fb) := by
  obtain ⟨ta, a1, a2⟩ := ha; obtain ⟨tb, b1, b2⟩ := hb
  refine ⟨_, pe_or a1 b1, fun B α σ H env S Q rr s h => ?_⟩
  refine a2 B α σ H env S _ rr s (PostG.bind h fun α1 v H1 d S1 r1 s1 x1 h1 => ?_)
  cases d with
  | bl k =>
    cases r1
    refine ⟨k, rfl, ?_⟩
    cases k with
    | false => rw [if_neg (by decide)]; exact b2 B α1 σ H1 env S1 _ (rr.ext x1) s1 h1
    | true => rw [if_pos rfl]; exact h1 α1 _ H1 (.bl true) s1 Ext.refl
  | _ => exact h1.elim
theorem de_not (ha : DE X E a fa) : DE X E (.UnaryOp .Not a pos) (cUn opNot fa) := by
  obtain ⟨ta, a1, a2⟩ := ha
  refine ⟨_, pe_not a1, fun B α σ H env S Q rr s h => ?_⟩
  refine a2 B α σ H env S _ rr s (PostG.bind h fun α1 v H1 d S1 r1 s1 x1 h1 => ?_)
  cases d with
  | bl k => cases r1; exact ⟨k, rfl, h1 α1 _ H1 (.bl _) s1 Ext.refl⟩
  | _ => exact h1.elim
theorem de_if {c : Expr} {fc : FT} (hc : DT X E c fc) (ha : DE X E a fa) (hb : DE X E b fb) : DE X E (.IfExp c a b pos) (cIf fc fa fb) := by
  obtain ⟨tc, c1, c2⟩ := hc; obtain ⟨ta, a1, a2⟩ := ha; obtain ⟨tb, b1, b2⟩ := hb
  refine ⟨_, pe_ifExp c1 a1 b1, fun B α σ H env S Q rr s h => ?_⟩
  refine c2 B α σ H env S _ rr s (PostG.bind h fun α1 k H1 d S1 r1 s1 x1 h1 => ?_)
  obtain rfl : k = d := r1
  cases k with
  | true => rw [if_pos rfl] at h1 ⊢; exact a2 B α1 σ H1 env S1 _ (rr.ext x1) s1 h1
  | false => rw [if_neg (by decide)] at h1 ⊢; exact b2 B α1 σ H1 env S1 _ (rr.ext x1) s1 h1

/-! ### tests -/
theorem dt_val (ha : DE X E a fa) (he : ∀ whole, isTrue a X.env whole = (do let v ← whole; standAt a.pos; holding [v] (truthy v)) := by intro _; rfl) : DT X E a (tVal fa) := by
  obtain ⟨ta, a1, a2⟩ := ha
  refine ⟨_, pt_val a1 he, fun B α σ H env S Q rr s h => ?_⟩
  refine a2 B α σ H env S _ rr s (PostG.bind h fun α1 v H1 d S1 r1 s1 x1 h1 => ?_)
  cases d with
  | bl k => cases r1; exact ⟨k, rfl, h1 α1 k H1 rfl s1 Ext.refl⟩
  | _ => exact h1.elim
theorem dt_cmp {op : CmpOp} {f : Dt → Dt → Store → Out Dt} (ho : OpD X (compareOp op) f) (ha : DE X E a fa) (hb : DE X E b fb) (hm : behindInMarks op b = false := by first | rfl | exact nobehind _ (by decide) (by decide)) : DT X E (.Compare a [op] [b] pos) (tVal (cBin f fa fb)) := by
  obtain ⟨r, h1, h2⟩ := ho; obtain ⟨ta, a1, a2⟩ := ha; obtain ⟨tb, b1, b2⟩ := hb
  refine ⟨_, pt_cmpR h1 a1 b1 hm, fun B α σ H env S Q rr s h => ?_⟩
  refine bin_of h2 a2 b2 B α σ H env S _ rr s (PostG.bind h fun α1 v H1 d S1 r1 s1 x1 h1 => ?_)
  cases d with
  | bl k => cases r1; exact ⟨k, rfl, h1 α1 k H1 rfl s1 Ext.refl⟩
  | _ => exact h1.elim
theorem dt_w {f : FT} (h : DW X E a f) : DT X E a f := by
  obtain ⟨t, h1, h2⟩ := h
  exact ⟨t, h1.pt, h2⟩
theorem dt_not {f : FT} (ha : DT X E a f) : DT X E (.UnaryOp .Not a pos) (tNot' f) := by
  obtain ⟨ta, a1, a2⟩ := ha
  refine ⟨_, pt_not a1, fun B α σ H env S Q rr s h => ?_⟩
  refine a2 B α σ H env S _ rr s (PostG.bind h fun α1 v H1 d S1 r1 s1 x1 h1 => ?_)
  obtain rfl : v = d := r1
  exact h1 α1 (!v) H1 rfl s1 Ext.refl
theorem dw_and1 {f : FT} (ha : DT X E a f) : DW X E (.BoolOp .And [a] pos) f := by
  obtain ⟨ta, a1, a2⟩ := ha
  exact ⟨_, pw_and1 a1, a2⟩
theorem dw_or1 {f : FT} (ha : DT X E a f) : DW X E (.BoolOp .Or [a] pos) f := by
  obtain ⟨ta, a1, a2⟩ := ha
  exact ⟨_, pw_or1 a1, a2⟩
theorem dw_and {rest : List Expr} {f g : FT} (ha : DT X E a f) (hb : DW X E (.BoolOp .And (b :: rest) pos) g) : DW X E (.BoolOp .And (a :: b :: rest) pos) (tAnd' f g) := by
  obtain ⟨ta, a1, a2⟩ := ha; obtain ⟨tb, b1, b2⟩ := hb
  refine ⟨_, pw_and a1 b1, fun B α σ H env S Q rr s h => ?_⟩
  refine a2 B α σ H env S _ rr s (PostG.bind h fun α1 v H1 d S1 r1 s1 x1 h1 => ?_)
  obtain rfl : v = d := r1
  cases v with
  | true => rw [if_pos rfl] at h1 ⊢; exact b2 B α1 σ H1 env S1 _ (rr.ext x1) s1 h1
  | false => rw [if_neg (by decide)] at h1 ⊢; exact h1 α1 false H1 rfl s1 Ext.refl
theorem dw_or {rest : List Expr} {f g : FT} (ha : DT X E a f) (hb : DW X E (.BoolOp .Or (b :: rest) pos) g) : DW X E (.BoolOp .Or (a :: b :: rest) pos) (tOr' f g) := by
  obtain ⟨ta, a1, a2⟩ := ha; obtain ⟨tb, b1, b2⟩ := hb
  refine ⟨_, pw_or a1 b1, fun B α σ H env S Q rr s h => ?_⟩
  refine a2 B α σ H env S _ rr s (PostG.bind h fun α1 v H1 d S1 r1 s1 x1 h1 => ?_)
  obtain rfl : v = d := r1
  cases v with
  | true => rw [if_pos rfl] at h1 ⊢; exact h1 α1 true H1 rfl s1 Ext.refl
  | false => rw [if_neg (by decide)] at h1 ⊢; exact b2 B α1 σ H1 env S1 _ (rr.ext x1) s1 h1
end
end DL

set_option Elab.async false
set_option linter.all false
set_option maxRecDepth 100000
set_option maxHeartbeats 4000000
namespace DL
open PySem PySem.Spec PyProof.Rows L2

section
variable {pn : List (Addr × Obj)} {W : Wr} {α α' : List Addr} {S S' : Store} {H H' : Hp}
theorem REnv.hold {D : Addr} {o : HO} {σ : Sl} {env : EnvD} (h : H D = none) (r : REnv pn W α S H σ env) : REnv pn (W.hold D) α S (upd H D o) σ env :=
  ⟨r.len, fun i d e => let ⟨v, h1, h2⟩ := r.at_ i d e; ⟨v, h1, h2.hold h⟩⟩
theorem REnv.turn {D : Addr} {o : HO} {σ : Sl} {env : EnvD} (r : REnv pn (W.hold D) α S H σ env) : REnv pn (W.hold D) α S (upd H D o) σ env :=
  ⟨r.len, fun i d e => let ⟨v, h1, h2⟩ := r.at_ i d e; ⟨v, h1, h2.turn⟩⟩
theorem REnv.unhold {D : Addr} {σ : Sl} {env : EnvD} (r : REnv pn (W.hold D) α S H σ env) : REnv pn W α S H σ env :=
  ⟨r.len, fun i d e => let ⟨v, h1, h2⟩ := r.at_ i d e; ⟨v, h1, h2.unhold⟩⟩
def wipeE (env : EnvD) : List Nat → EnvD
  | [] => env
  | v :: vs => (wipeE env vs).set v none
theorem REnv.wipe {σ : Sl} {env : EnvD} (r : REnv pn W α S H σ env) : ∀ vs : List Nat, REnv pn W α S H (wipe σ vs) (wipeE env vs)
  | [] => r
  | v :: vs => (REnv.wipe r vs).forget v
end

/-! ### statements -/
def sOut {γ : Type} (o : Out γ) (env : EnvD) (k : γ → Store → SO) : SO :=
  match o with
  | .ok a S => k a S
  | .exc c fs S => .exc c fs env S
  | .bad => .bad
theorem SPost.bind {pn : List (Addr × Obj)} {W : Wr} {α : List Addr} {S : Store} {H : Hp} {β γ : Type} {R : List Addr → Store → Hp → β → γ → Prop} {E : Sl → XK} {D : Ends} {Q' : β → Hp → Prop} {o : Out γ} {k : γ → Store → SO} {σ : Sl} {env : EnvD}
    (r : REnv pn W α S H σ env) (h : SPost pn W E α S H D (sOut o env k)) (hk : ∀ α' v H' d S', R α' S' H' v d → Sim W α' S' H' → Ext W α S H α' S' H' → SPost pn W E α' S' H' D (k d S') → Q' v H') : PostG W R (E σ) α S H Q' o := by
  cases o with
  | ok d S1 => exact fun α1 v H1 q s x => hk α1 v H1 d S1 q s x (SPost.mono x h)
  | exc c fs S1 => exact fun α1 cls od H1 q s x => h α1 σ cls od H1 (r.ext x) q s x
  | bad => exact h.elim

def sNext : FS := fun env S => .nx env S
def sSeq (f g : FS) : FS := fun env S => match f env S with
  | .nx e S1 => g e S1
  | o => o
def sIf (c : FT) (f g : FS) : FS := fun env S => sOut (c env S) env fun k S1 => if k = true then f env S1 else g env S1
def sSet (i : Nat) (e : FE) : FS := fun env S => sOut (e env S) env fun d S1 => .nx (env.set i (some (.vl d))) S1
def sExpr (e : FE) : FS := fun env S => sOut (e env S) env fun _ S1 => .nx env S1
def sRet (e : FE) : FS := fun env S => sOut (e env S) env fun d S1 => .rt d S1
def sRetN : FS := fun _ S => .rt .non S
def sBreak : FS := fun env S => .bk env S
def sCont : FS := fun env S => .ct env S
section
variable {X : Cx} {E : Sl → XK} {st : Stmt} {rest : List Stmt} {f g : FS} {e : Expr} {fe : FE} {pos : Pos}
theorem dss_nil : DSs X E [] sNext := ⟨_, pss_nil, fun B α σ H env S D r s h => h α σ H r s Ext.refl⟩
theorem dss_one (h : DS X E st f) : DSs X E [st] f := by
  obtain ⟨t, h1, h2⟩ := h
  exact ⟨_, pss_one h1, h2⟩
theorem dss_cons (h : DS X E st f) (k : DSs X E rest g) : DSs X E (st :: rest) (sSeq f g) := by
  obtain ⟨t, h1, h2⟩ := h; obtain ⟨u, k1, k2⟩ := k
  refine ⟨_, pss_cons h1 k1, fun B α σ H env S D r s q => ?_⟩
  refine h2 B α σ H env S _ r s ?_
  unfold sSeq at q
  cases hf : f env S with
  | nx e1 S1 =>
    rw [hf] at q
    exact fun α1 σ1 H1 r1 s1 x1 => k2 B α1 σ1 H1 e1 S1 D r1 s1 (SPost.mono x1 q)
  | rt d S1 => rw [hf] at q; exact q
  | bk d S1 => rw [hf] at q; exact q
  | ct d S1 => rw [hf] at q; exact q
  | exc c fs d S1 => rw [hf] at q; exact q
  | bad => rw [hf] at q; exact q
theorem ds_pass : DS X E (.Pass pos) sNext := ⟨_, ps_pass, fun B α σ H env S D r s h => h α σ H r s Ext.refl⟩
theorem ds_break : DS X E (.Break pos) sBreak := ⟨_, ps_break, fun B α σ H env S D r s h => h α σ H r s Ext.refl⟩
theorem ds_cont : DS X E (.Continue pos) sCont := ⟨_, ps_continue, fun B α σ H env S D r s h => h α σ H r s Ext.refl⟩
theorem ds_doc {x j pos'} : DS X E (.Expr (.Constant (.str x) j pos) pos') sNext := ⟨_, ps_doc, fun B α σ H env S D r s h => h α σ H r s Ext.refl⟩
theorem ds_expr (he : DE X E e fe) (hs : swapsWith e none pos.line X.env = pure false := by rfl) : DS X E (.Expr e pos) (sExpr fe) := by
  obtain ⟨t, a1, a2⟩ := he
  refine ⟨_, ps_expr a1 hs, fun B α σ H env S D r s h => ?_⟩
  exact a2 B α σ H env S _ r s (SPost.bind r h fun α1 v H1 d S1 r1 s1 x1 h1 => h1 α1 σ H1 (r.ext x1) s1 Ext.refl)
theorem ds_ret (he : DE X E e fe) : DS X E (.Return (some e) pos) (sRet fe) := by
  obtain ⟨t, a1, a2⟩ := he
  refine ⟨_, ps_ret a1, fun B α σ H env S D r s h => ?_⟩
  exact a2 B α σ H env S _ r s (SPost.bind r h fun α1 v H1 d S1 r1 s1 x1 h1 => h1 α1 v H1 r1 s1 Ext.refl)
theorem ds_retN : DS X E (.Return none pos) sRetN := ⟨_, ps_retN, fun B α σ H env S D r s h => h α .non H .non s Ext.refl⟩
theorem ds_if {c : Expr} {fc : FT} {a b : List Stmt} (hc : DT X E c fc) (ha : DSs X E a f) (hb : DSs X E b g) : DS X E (.If c a b pos) (sIf fc f g) := by
  obtain ⟨tc, c1, c2⟩ := hc; obtain ⟨ta, a1, a2⟩ := ha; obtain ⟨tb, b1, b2⟩ := hb
  refine ⟨_, ps_if c1 a1 b1, fun B α σ H env S D r s h => ?_⟩
  refine c2 B α σ H env S _ r s (SPost.bind r h fun α1 k H1 d S1 r1 s1 x1 h1 => ?_)
  obtain rfl : k = d := r1
  cases k with
  | true => rw [if_pos rfl] at h1 ⊢; exact a2 B α1 σ H1 env S1 D (r.ext x1) s1 h1
  | false => rw [if_neg (by decide)] at h1 ⊢; exact b2 B α1 σ H1 env S1 D (r.ext x1) s1 h1
theorem ds_set {x : Str} {pos' : Pos} (i : Nat) (hN : X.N.Nodup) (he : DE X E e fe) (hi : X.N[i]? = some x := by rfl) (hx : Loc X.env.scope x := by first | exact Or.inl rfl | exact Or.inr rfl)
    (hs : swapsWith e (some (.Name x pos')) pos.line X.env = pure false := by rfl) (hf : X.fn x = true ∨ X.env.scope.names.lookup x = some .local := by first | exact .inl rfl | exact .inr rfl | assumption) :
    DS X E (.Assign [.Name x pos'] e pos) (sSet i fe) := by
  obtain ⟨t, a1, a2⟩ := he
  refine ⟨_, ps_set hN hi hx a1 hs hf, fun B α σ H env S D r s h => ?_⟩
  exact a2 B α σ H env S _ r s (SPost.bind r h fun α1 v H1 d S1 r1 s1 x1 h1 => h1 α1 _ H1 ((r.ext x1).set r1 i) s1 Ext.refl)

/-! ### targets -/
abbrev FG := Dt → EnvD → Option EnvD
/-- but for the slots at is as it was -/
def But (is : List Nat) (σ σ' : Sl) : Prop := σ'.length = σ.length ∧ ∀ j, j ∉ is → σ'[j]? = σ[j]?
theorem But.refl {is : List Nat} {σ : Sl} : But is σ σ := ⟨rfl, fun _ _ => rfl⟩
theorem But.trans {is js : List Nat} {σ σ1 σ2 : Sl} (a : But is σ σ1) (b : But js σ1 σ2) : But (is ++ js) σ σ2 :=
  ⟨b.1.trans a.1, fun j h => (b.2 j fun z => h (List.mem_append_right _ z)).trans (a.2 j fun z => h (List.mem_append_left _ z))⟩
structure DG (X : Cx) (tg : Expr) (g : FG) (is : List Nat) : Prop where
  ex : ∃ t, PG X tg t ∧ ∀ B α σ H env S v d env' Q, REnv X.pn (Cx.wr X B) α S H σ env → Rep (Cx.wr X B) α S H v d → g d env = some env' → (∀ σ', REnv X.pn (Cx.wr X B) α S H σ' env' → But is σ σ' → Q σ' H) → t v σ H Q
structure DGs (X : Cx) (tgs : List Expr) (g : List Dt → EnvD → Option EnvD) (is : List Nat) : Prop where
  ex : ∃ t, PGs X tgs t ∧ ∀ B α σ H env S vs ds env' Q, REnv X.pn (Cx.wr X B) α S H σ env → Reps (Cx.wr X B) α S H vs ds → g ds env = some env' → (∀ σ', REnv X.pn (Cx.wr X B) α S H σ' env' → But is σ σ' → Q σ' H) → t vs σ H Q
def gN (i : Nat) : FG := fun d env => some (env.set i (some (.vl d)))
def gNilD : List Dt → EnvD → Option EnvD := fun ds env => match ds with | [] => some env | _ => none
def gConsD (g : FG) (r : List Dt → EnvD → Option EnvD) : List Dt → EnvD → Option EnvD := fun ds env => match ds with | d :: ds => (g d env).bind (r ds) | [] => none
def gTupD (n : Nat) (g : List Dt → EnvD → Option EnvD) : FG := fun d env => match d with | .tup ds => if ds.length = n then g ds env else none | _ => none
theorem dg_name {x : Str} (i : Nat) (hN : X.N.Nodup) (hi : X.N[i]? = some x := by rfl) (hx : Loc X.env.scope x := by first | exact Or.inl rfl | exact Or.inr rfl) (hf : X.fn x = true ∨ X.env.scope.names.lookup x = some .local := by first | exact .inl rfl | exact .inr rfl | assumption) :
    DG X (.Name x pos) (gN i) [i] := ⟨_, pg_name hN hi hx hf, fun B α σ H env S v d env' Q r q h hq => by
  cases h
  exact hq _ (r.set q i) ⟨by simp, fun j hj => List.getElem?_set_ne fun z => hj (by simp [z])⟩⟩
theorem dgs_nil : DGs X [] gNilD [] := ⟨_, pgs_nil, fun B α σ H env S vs ds env' Q r q h hq => by
  cases q with
  | nil => cases h; exact ⟨rfl, hq _ r But.refl⟩
  | cons _ _ => cases h⟩
theorem dgs_cons {es : List Expr} {g : FG} {gr : List Dt → EnvD → Option EnvD} {is js : List Nat} (h1 : DG X e g is) (h2 : DGs X es gr js) (hs : (assignEach (e :: es) X.env).map (·.2) = assign e X.env :: (assignEach es X.env).map (·.2) := by rfl) : DGs X (e :: es) (gConsD g gr) (is ++ js) := by
  obtain ⟨t, a1, a2⟩ := h1; obtain ⟨u, b1, b2⟩ := h2
  refine ⟨_, pgs_cons a1 b1 hs, fun B α σ H env S vs ds env' Q r q h hq => ?_⟩
  cases q with
  | nil => cases h
  | cons q qs =>
    rename_i v vs d ds
    obtain ⟨env1, e1, e2⟩ := Option.bind_eq_some_iff.mp h
    exact ⟨_, _, rfl, a2 B α σ H env S v d env1 _ r q e1 fun σ1 r1 b1' => b2 B α σ1 H env1 S vs ds env' _ r1 qs e2 fun σ2 r2 b2' => hq σ2 r2 (b1'.trans b2')⟩
theorem dg_tup {es : List Expr} {k n : Nat} {is : List Nat} {g : List Dt → EnvD → Option EnvD} (hc : X.calm = true) (h : DGs X es g is) (hn : (assignEach es X.env).length = n := by rfl) (hst : (assignEach es X.env).findIdx? (·.1) = none := by rfl) : DG X (.Tuple es k pos) (gTupD n g) is := by
  obtain ⟨t, a1, a2⟩ := h
  refine ⟨_, pg_tup hc a1 hn hst, fun B α σ H env S v d env' Q r q h hq => ?_⟩
  cases d with
  | tup ds =>
    unfold gTupD at h
    cases q with
    | tup o qs =>
      rename_i a vs
      by_cases hl : ds.length = n
      · simp only [hl, if_true] at h
        exact ⟨a, vs, rfl, o.sq, by rw [qs.length]; exact hl, a2 B α σ H env S vs ds env' Q r qs h hq⟩
      · simp only [hl, if_false] at h; cases h
  | _ => cases h
/-- a, b = e (a value that is a tuple) -/
def sAsg (g : FG) (e : FE) : FS := fun env S => sOut (e env S) env fun d S1 => match g d env with | some env1 => .nx env1 S1 | none => .bad
theorem ds_asg {tg : Expr} {g : FG} {is : List Nat} (he : DE X E e fe) (hg : DG X tg g is) (hs : swapsWithSole [tg] e pos.line X.env = pure false := by rfl) (hw : swappedStores [tg] e X.env = pure none := by rfl)
    (h1 : (assignEach [tg] X.env).map (·.2) = [assign tg X.env] := by rfl) : DS X E (.Assign [tg] e pos) (sAsg g fe) := by
  obtain ⟨t, a1, a2⟩ := he; obtain ⟨u, b1, b2⟩ := hg
  refine ⟨_, ps_asg a1 b1 hs hw h1, fun B α σ H env S D r s h => ?_⟩
  refine a2 B α σ H env S _ r s (SPost.bind r h fun α1 v H1 d S1 r1 s1 x1 h1 => ?_)
  cases hg : g d env with
  | none => simp only [hg] at h1; exact h1.elim
  | some env1 =>
    simp only [hg] at h1
    exact b2 B α1 σ H1 env S1 v d env1 _ (r.ext x1) r1 hg fun σ1 r2 _ => h1 α1 σ1 H1 r2 s1 Ext.refl
/-- a, b = x, y -/
def sPar (i j : Nat) (a b : FE) : FS := fun env S => sOut (a env S) env fun d S1 => sOut (b env S1) env fun d' S2 => .nx ((env.set i (some (.vl d))).set j (some (.vl d'))) S2
theorem ds_par {x y : Str} {a b : Expr} {fa fb : FE} {px py pt : Pos} {kt k2 pt2} (i j : Nat) (hc : X.calm = true) (hN : X.N.Nodup) (ha : DE X E a fa) (hb : DE X E b fb) (hi : X.N[i]? = some x := by rfl) (hj : X.N[j]? = some y := by rfl) (hij : i ≠ j := by decide)
    (hx : X.env.scope.names.lookup x = some .local := by rfl) (hy : X.env.scope.names.lookup y = some .local := by rfl)
    (hst : starEach [a, b] X.env = (false, eval a X.env) :: starEach [b] X.env := by rfl) (hst2 : starEach [b] X.env = (false, eval b X.env) :: starEach [] X.env := by rfl)
    (hw : swappedStores [.Tuple [.Name x px, .Name y py] kt pt] (.Tuple [a, b] k2 pt2) X.env = pure (some [x, y]) := by rfl)
    (hs : swapsWithSole [.Tuple [.Name x px, .Name y py] kt pt] (.Tuple [a, b] k2 pt2) pos.line X.env = pure false := by rfl) :
    DS X E (.Assign [.Tuple [.Name x px, .Name y py] kt pt] (.Tuple [a, b] k2 pt2) pos) (sPar i j fa fb) := by
  obtain ⟨t, a1, a2⟩ := ha; obtain ⟨u, b1, b2⟩ := hb
  refine ⟨_, ps_par hc hN hi hj hij hx hy (pa_cons a1 (pa_cons b1 pa_nil hst2) hst) hw hs, fun B α σ H env S D r s h => ?_⟩
  refine a2 B α σ H env S _ r s (SPost.bind r h fun α1 v H1 d S1 r1 s1 x1 h1 => ?_)
  refine b2 B α1 σ H1 env S1 _ (r.ext x1) s1 (SPost.bind (r.ext x1) h1 fun α2 w H2 d2 S2 r2 s2 x2 h2 => ?_)
  exact ⟨v, w, rfl, h2 α2 _ H2 ((((r.ext x1).ext x2).set (r1.ext x2) i).set r2 j) s2 Ext.refl⟩

/-! ### what is walked -/
/-- what stood by value stands -/
def Kept (W : Wr) (α : List Addr) (S : Store) (H H' : Hp) : Prop := ∀ b o, ¬ Owned W α S b → H b = some o → H' b = some o
/-- an item of a walk: a value, or a new pair of two -/
inductive Itm where
  | one (v : V)
  | two (v u : V)
def ItmRep (W : Wr) (α : List Addr) (S : Store) (H : Hp) : Itm → Dt → Prop
  | .one v, d => Rep W α S H v d
  | .two v u, d => ∃ d1 d2, d = .tup [d1, d2] ∧ Rep W α S H v d1 ∧ Rep W α S H u d2
def Gives (y : Itm) (H' : Hp) (x : V) (H'' : Hp) : Prop := match y with
  | .one v => H'' = H' ∧ x = v
  | .two v u => ∃ T, x = .ref T ∧ H' T = none ∧ H'' = upd H' T (.tup [v, u])
/-- the walk J gives the items one by one, as long as nothing that stood is touched -/
def ItOk (W : Wr) (α : List Addr) (S : Store) (H : Hp) (J : It) (items : List Dt) : Prop :=
  ∃ ys : List Itm, ys.length = items.length ∧ (∀ (i : Nat) (y : Itm) (d : Dt), ys[i]? = some y → items[i]? = some d → ItmRep W α S H y d) ∧
    ∀ H', Kept W α S H H' → (∀ i, i < items.length → J.go i H') ∧ J.stop items.length H' ∧ ∀ (i : Nat) (y : Itm) (x : V) (H'' : Hp), ys[i]? = some y → J.yld i H' x H'' → Gives y H' x H''
theorem ItmRep.ext {W : Wr} {α α' : List Addr} {S S' : Store} {H H' : Hp} (e : Ext W α S H α' S' H') : ∀ {y : Itm} {d : Dt}, ItmRep W α S H y d → ItmRep W α' S' H' y d
  | .one v, d, h => Rep.ext e h
  | .two v u, d, ⟨d1, d2, h, r1, r2⟩ => ⟨d1, d2, h, r1.ext e, r2.ext e⟩
theorem ItmRep.hold {W : Wr} {α : List Addr} {S : Store} {H : Hp} {D : Addr} {o : HO} (h : H D = none) : ∀ {y : Itm} {d : Dt}, ItmRep W α S H y d → ItmRep (W.hold D) α S (upd H D o) y d
  | .one v, d, q => Rep.hold h q
  | .two v u, d, ⟨d1, d2, e, r1, r2⟩ => ⟨d1, d2, e, r1.hold h, r2.hold h⟩
theorem ItmRep.turn {W : Wr} {α : List Addr} {S : Store} {H : Hp} {D : Addr} {o : HO} : ∀ {y : Itm} {d : Dt}, ItmRep (W.hold D) α S H y d → ItmRep (W.hold D) α S (upd H D o) y d
  | .one v, d, q => Rep.turn q
  | .two v u, d, ⟨d1, d2, e, r1, r2⟩ => ⟨d1, d2, e, r1.turn, r2.turn⟩
theorem Rep.new_tup {W : Wr} {α : List Addr} {S : Store} {H : Hp} {p : Addr} {vs : List V} {ds : List Dt} (s : Sim W α S H) (hp : H p = none) (r : Reps W α S H vs ds) : Rep W α S (upd H p (.tup vs)) (.ref p) (.tup ds) :=
  .tup (.inl ⟨s.off hp, .inl upd_same⟩) (r.ext (Ext.new s hp))
theorem Rep.new_lst {W : Wr} {α : List Addr} {S : Store} {H : Hp} {p : Addr} {vs : List V} {ds : List Dt} (s : Sim W α S H) (hp : H p = none) (r : Reps W α S H vs ds) : Rep W α S (upd H p (.lst vs)) (.ref p) (.lst ds) :=
  .lst (.inl ⟨s.off hp, .inl upd_same⟩) (r.ext (Ext.new s hp))
/-- an item is given -/
theorem Gives.rep {W : Wr} {α : List Addr} {S : Store} {H H' : Hp} {y : Itm} {d : Dt} {x : V} (g : Gives y H x H') (s : Sim W α S H) (r : ItmRep W α S H y d) : Rep W α S H' x d ∧ Sim W α S H' ∧ Ext W α S H α S H' := by
  cases y with
  | one v => obtain ⟨rfl, rfl⟩ := g; exact ⟨r, s, Ext.refl⟩
  | two v u =>
    obtain ⟨T, rfl, n, rfl⟩ := g
    obtain ⟨d1, d2, rfl, r1, r2⟩ := r
    exact ⟨Rep.new_tup s n (.cons r1 (.cons r2 .nil)), s.new n, Ext.new s n⟩
structure DI (X : Cx) (E : Sl → XK) (tg iter : Expr) (fi : FA) : Prop where
  ex : ∃ wi, PI X tg iter wi ∧ ∀ B α σ H env S R, REnv X.pn (Cx.wr X B) α S H σ env → Sim (Cx.wr X B) α S H → PostG (Cx.wr X B) (ItOk (Cx.wr X B)) (E σ) α S H R (fi env S) → wi σ H R

/-! ### for -/
def forL (g : FG) (body : FS) : List Dt → FS
  | [], env, S => .nx env S
  | d :: ds, env, S => match g d env with
    | none => .bad
    | some env1 => match body env1 S with
      | .nx e S1 => forL g body ds e S1
      | .ct e S1 => forL g body ds e S1
      | .bk e S1 => .nx e S1
      | .rt d S1 => .rt d S1
      | .exc c fs e S1 => .exc c fs e S1
      | .bad => .bad
def sFor (fi : FA) (g : FG) (body : FS) : FS := fun env S => sOut (fi env S) env fun items S1 => forL g body items env S1
theorem ds_for {tg iter : Expr} {body : List Stmt} {fi : FA} {g : FG} {fb : FS} {is : List Nat} (hp : PassesOwn (model X.prog X.w) X.A X.env X.xe) (hc : X.calm = true) (hi : DI X E tg iter fi) (hg : DG X tg g is) (hb : DSs X E body fb)
    (hs : ∀ x, foldedSetIterable iter X.env x = pure x := by intro _; rfl) : DS X E (.For tg iter body [] pos) (sFor fi g fb) := by
  obtain ⟨wi, i1, i2⟩ := hi; obtain ⟨tg', g1, g2⟩ := hg; obtain ⟨tb, b1, b2⟩ := hb
  refine ⟨_, ps_for hp hc i1 g1 b1 hs, fun B α σ H env S D r s h => ?_⟩
  refine i2 B α σ H env S _ r s (SPost.bind r h fun α1 J H1 items S1 r1 s1 x1 h1 => ?_)
  obtain ⟨ys, yl, yr, yj⟩ := r1
  refine ⟨fun i m σ' H' => i + m = items.length ∧ ∃ α' env' S', REnv X.pn (Cx.wr X B) α' S' H' σ' env' ∧ Sim (Cx.wr X B) α' S' H' ∧ Ext (Cx.wr X B) α1 S1 H1 α' S' H' ∧ SPost X.pn (Cx.wr X B) E α' S' H' D (forL g fb (items.drop i) env' S'),
    ⟨items.length, by omega, α1, env, S1, r.ext x1, s1, Ext.refl, h1⟩, ?_⟩
  rintro i m σ' H' ⟨him, α', env', S', r', s', x', h'⟩
  have kept : Kept (Cx.wr X B) α1 S1 H1 H' := fun b o n e => (x'.keep b o n e).2
  obtain ⟨jg, js, jy⟩ := yj H' kept
  by_cases hi : i < items.length
  · have e0 : items.drop i = items[i] :: items.drop (i + 1) := List.drop_eq_getElem_cons hi
    rw [e0] at h'
    have hy : i < ys.length := by omega
    refine .inr ⟨jg i hi, fun σ2 H2 => ∃ α2 env2 S2, REnv X.pn (Cx.wr X B) α2 S2 H2 σ2 env2 ∧ Sim (Cx.wr X B) α2 S2 H2 ∧ Ext (Cx.wr X B) α1 S1 H1 α2 S2 H2 ∧ SPost X.pn (Cx.wr X B) E α2 S2 H2 D (forL g fb (items.drop (i + 1)) env2 S2),
      fun σ2 H2 q => ⟨m - 1, by omega, by omega, q⟩, fun x H'' hyl => ?_⟩
    have gv := jy i ys[i] x H'' (List.getElem?_eq_getElem hy) hyl
    obtain ⟨rx, sx, xx⟩ := gv.rep s' ((yr i _ _ (List.getElem?_eq_getElem hy) (List.getElem?_eq_getElem hi)).ext x')
    unfold forL at h'
    cases hgd : g items[i] env' with
    | none => rw [hgd] at h'; exact h'.elim
    | some env1 =>
      rw [hgd] at h'
      simp only at h'
      refine g2 B α' σ' H'' env' S' x items[i] env1 _ (r'.ext xx) rx hgd fun σ3 r3 _ => ?_
      refine b2 B α' σ3 H'' env1 S' _ r3 sx ?_
      have x0 : Ext (Cx.wr X B) α1 S1 H1 α' S' H'' := x'.trans xx
      cases hb : fb env1 S' with
      | nx e2 S2 => rw [hb] at h'; exact fun α4 σ4 H4 r4 s4 x4 => ⟨α4, e2, S2, r4, s4, x0.trans x4, SPost.mono (xx.trans x4) h'⟩
      | ct e2 S2 => rw [hb] at h'; exact fun α4 σ4 H4 r4 s4 x4 => ⟨α4, e2, S2, r4, s4, x0.trans x4, SPost.mono (xx.trans x4) h'⟩
      | bk e2 S2 => rw [hb] at h'; exact SPost.mono (o := .nx e2 S2) xx h'
      | rt d2 S2 => rw [hb] at h'; exact SPost.mono (o := .rt d2 S2) xx h'
      | exc c fs e2 S2 => rw [hb] at h'; exact SPost.mono (o := .exc c fs e2 S2) xx h'
      | bad => rw [hb] at h'; exact h'.elim
  · have ei : i = items.length := by omega
    subst ei
    rw [List.drop_length] at h'
    exact .inl ⟨js, h' α' σ' H' r' s' Ext.refl⟩

/-! ### while -/
def whileL (c : FT) (body : FS) : Nat → FS
  | 0, _, _ => .bad
  | n + 1, env, S => sOut (c env S) env fun k S1 => if k = true then (match body env S1 with
      | .nx e S2 => whileL c body n e S2
      | .ct e S2 => whileL c body n e S2
      | .bk e S2 => .nx e S2
      | .rt d S2 => .rt d S2
      | .exc c fs e S2 => .exc c fs e S2
      | .bad => .bad) else .nx env S1
/-- with so many turns at most, by the state -/
def sWhile (fuel : EnvD → Store → Nat) (c : FT) (body : FS) : FS := fun env S => whileL c body (fuel env S) env S
theorem ds_while {c : Expr} {body : List Stmt} {fc : FT} {fb : FS} (fuel : EnvD → Store → Nat) (hp : PassesOwn (model X.prog X.w) X.A X.env X.xe) (hc : DT X E c fc) (hb : DSs X E body fb) : DS X E (.While c body [] pos) (sWhile fuel fc fb) := by
  obtain ⟨tc, c1, c2⟩ := hc; obtain ⟨tb, b1, b2⟩ := hb
  refine ⟨_, ps_while hp c1 b1, fun B α σ H env S D r s h => ?_⟩
  refine ⟨fun m σ' H' => ∃ α' env' S', REnv X.pn (Cx.wr X B) α' S' H' σ' env' ∧ Sim (Cx.wr X B) α' S' H' ∧ SPost X.pn (Cx.wr X B) E α' S' H' D (whileL fc fb m env' S'), ⟨_, α, env, S, r, s, h⟩, ?_⟩
  rintro m σ' H' ⟨α', env', S', r', s', h'⟩
  cases m with
  | zero => exact h'.elim
  | succ n =>
    unfold whileL at h'
    refine c2 B α' σ' H' env' S' _ r' s' (SPost.bind r' h' fun α1 k H1 d S1 r1 s1 x1 h1 => ?_)
    obtain rfl : k = d := r1
    cases k with
    | false => rw [if_neg (by decide)] at h1 ⊢; exact h1 α1 σ' H1 (r'.ext x1) s1 Ext.refl
    | true =>
      rw [if_pos rfl] at h1 ⊢
      refine ⟨fun σ2 H2 => ∃ α2 env2 S2, REnv X.pn (Cx.wr X B) α2 S2 H2 σ2 env2 ∧ Sim (Cx.wr X B) α2 S2 H2 ∧ SPost X.pn (Cx.wr X B) E α2 S2 H2 D (whileL fc fb n env2 S2), fun σ2 H2 q => ⟨n, by omega, q⟩, ?_⟩
      refine b2 B α1 σ' H1 env' S1 _ (r'.ext x1) s1 ?_
      cases hb : fb env' S1 with
      | nx e2 S2 => rw [hb] at h1; exact fun α4 σ4 H4 r4 s4 x4 => ⟨α4, e2, S2, r4, s4, SPost.mono x4 h1⟩
      | ct e2 S2 => rw [hb] at h1; exact fun α4 σ4 H4 r4 s4 x4 => ⟨α4, e2, S2, r4, s4, SPost.mono x4 h1⟩
      | bk e2 S2 => rw [hb] at h1; exact h1
      | rt d2 S2 => rw [hb] at h1; exact h1
      | exc c fs e2 S2 => rw [hb] at h1; exact h1
      | bad => rw [hb] at h1; exact h1.elim

/-! ### comprehensions: the new list is by value -/
def Out.only {γ : Type} : Out γ → Out γ
  | .ok a S => .ok a S
  | _ => .bad
def compL (g : FG) (ft : FT) (fe : FE) (env : EnvD) : List Dt → List Dt → Store → Out (List Dt)
  | [], acc, S => .ok acc S
  | d :: ds, acc, S => match g d env with
    | none => .bad
    | some env1 => (ft env1 S).only.bind fun k S1 => if k = true then (fe env1 S1).only.bind fun y S2 => compL g ft fe env ds (acc ++ [y]) S2 else compL g ft fe env ds acc S1
def cCompA (fi : FA) (vs : List Nat) (g : FG) (ft : FT) (fe : FE) : FA := fun env S => (fi env S).bind fun items S1 =>
  if items.length ≤ 16777216 then compL g ft fe (wipeE (dropX env) vs) items [] S1 else .bad
/-- a new list by value, an owned one -/
def cVal (f : FA) : FE := fun env S => (f env S).bind fun ys S2 => .ok (.lst ys) S2
def cOwn (f : FA) : FE := fun env S => (f env S).bind fun ys S2 => .ok (.ref S2.length) (S2 ++ [.lst ys])
abbrev cComp (fi : FA) (vs : List Nat) (g : FG) (ft : FT) (fe : FE) : FE := cVal (cCompA fi vs g ft fe)
theorem PostF.val {W : Wr} {α : List Addr} {S : Store} {H : Hp} {E : XK} {Q : VK} {o : Out (List Dt)} (h : Post W E α S H Q (o.bind fun ys S2 => .ok (.lst ys) S2)) : PostF W E α S H Q o := by
  cases o with
  | ok d S1 => exact fun α1 H1 p vs n r s x => h α1 _ _ (Rep.new_lst s n r) (s.new n) (x.trans (Ext.new s n))
  | exc c fs S1 => exact h
  | bad => exact h
theorem PostF.own {W : Wr} {α : List Addr} {S : Store} {H : Hp} {E : XK} {Q : VK} {o : Out (List Dt)} (h : Post W E α S H Q (o.bind fun ys S2 => .ok (.ref S2.length) (S2 ++ [.lst ys]))) : PostF W E α S H Q o := by
  cases o with
  | ok d S1 =>
    intro α1 H1 p vs n r s x
    have x2 : Ext W α1 S1 H1 (α1 ++ [p]) (S1 ++ [.lst d]) (upd H1 p (.lst vs)) := Ext.alloc s n
    refine h (α1 ++ [p]) _ _ (.ref ?_) (s.alloc n ⟨vs, upd_same, r.ext x2⟩) (x.trans x2)
    rw [List.getElem?_append_right (by rw [s.len]; omega), ← s.len]
    simp
  | exc c fs S1 => exact h
  | bad => exact h
abbrev E0d : Sl → XK := fun _ _ _ _ => False
structure DTs (X : Cx) (ifs : List Expr) (f : FT) : Prop where
  ex : ∃ t, PTs X ifs t ∧ ∀ B α σ H env S Q, REnv X.pn (Cx.wr X B) α S H σ env → Sim (Cx.wr X B) α S H → PostB (Cx.wr X B) (E0d σ) α S H Q (f env S) → t σ H Q
def tYesD : FT := fun _ S => .ok true S
theorem dts_nil : DTs X [] tYesD := ⟨_, pts_nil, fun B α σ H env S Q r s h => h α true H rfl s Ext.refl⟩
theorem dts_one {c : Expr} {fc : FT} (h : DT X E0d c fc) : DTs X [c] fc := by
  obtain ⟨t, a1, a2⟩ := h
  exact ⟨_, pts_one a1, a2⟩
theorem PostG.only {W : Wr} {β γ γ' : Type} {R : List Addr → Store → Hp → β → γ → Prop} {R' : List Addr → Store → Hp → β → γ' → Prop} {β' : Type} {R'' : List Addr → Store → Hp → β' → γ' → Prop} {E E' : XK} {α : List Addr} {S : Store} {H : Hp} {Q : β → Hp → Prop} {Q' : β' → Hp → Prop} {o : Out γ'} {k : γ' → Store → Out γ}
    (h : PostG W R E α S H Q (o.only.bind k)) (hk : ∀ α' v H' d S', R'' α' S' H' v d → Sim W α' S' H' → Ext W α S H α' S' H' → PostG W R E α' S' H' Q (k d S') → Q' v H') : PostG W R'' E' α S H Q' o := by
  cases o with
  | ok d S1 => exact fun α1 v H1 r s x => hk α1 v H1 d S1 r s x (PostG.mono x h)
  | exc c fs S1 => exact h.elim
  | bad => exact h.elim
theorem compL_snoc {g : FG} {ft : FT} {fe : FE} {env : EnvD} : ∀ {items acc ys : List Dt} {S S' : Store}, compL g ft fe env items acc S = .ok ys S' → ys.length ≤ acc.length + items.length
  | [], acc, ys, S, S', h => by unfold compL at h; cases h; simp
  | d :: ds, acc, ys, S, S', h => by
    unfold compL at h
    cases hg : g d env with
    | none => rw [hg] at h; cases h
    | some env1 =>
      rw [hg] at h
      simp only at h
      cases ht : ft env1 S with
      | ok k S1 =>
        rw [ht] at h
        simp only [Out.only, Out.bind] at h
        cases k with
        | true =>
          simp only [if_true] at h
          cases hf : fe env1 S1 with
          | ok y S2 =>
            rw [hf] at h
            simp only [Out.only, Out.bind] at h
            have := compL_snoc h
            simp only [List.length_append, List.length_cons, List.length_nil] at this ⊢
            omega
          | exc c fs S2 => rw [hf] at h; cases h
          | bad => rw [hf] at h; cases h
        | false =>
          simp only [Bool.false_eq_true, if_false] at h
          have := compL_snoc h
          simp only [List.length_cons]
          omega
      | exc c fs S1 => rw [ht] at h; cases h
      | bad => rw [ht] at h; cases h
theorem wipe_in {σ : Sl} {i : Nat} : ∀ {vs : List Nat}, i ∈ vs → i < σ.length → (wipe σ vs)[i]? = some none
  | v :: vs, h, hl => by
    unfold wipe
    by_cases hv : v = i
    · subst hv; exact List.getElem?_set_self (by rw [wipe_length]; exact hl)
    · rw [List.getElem?_set_ne hv]
      exact wipe_in ((List.mem_cons.mp h).resolve_left fun z => hv z.symm) hl
theorem wipe_but {vs is : List Nat} {σ σ' : Sl} (h : But is (wipe σ vs) σ') (hs : ∀ i ∈ is, i ∈ vs) : wipe σ' vs = wipe σ vs := by
  apply List.ext_getElem?
  intro j
  have hl : σ'.length = σ.length := by rw [h.1, wipe_length]
  by_cases hj : j ∈ vs
  · by_cases hjl : j < σ.length
    · rw [wipe_in hj hjl, wipe_in hj (by omega)]
    · rw [List.getElem?_eq_none (by rw [wipe_length]; omega), List.getElem?_eq_none (by rw [wipe_length]; omega)]
  · rw [wipe_out hj, h.2 j fun z => hj (hs j z)]
theorem tLc_of {tg iter elt : Expr} {fi : FA} {g : FG} {ft : FT} {fe : FE} {vs is : List Nat} {wi : TI} {tgt : TG} {tt : TT} {te : TE} (hvs : ∀ i ∈ is, i ∈ vs)
    (i2 : ∀ B α σ H env S R, REnv X.pn (Cx.wr X B) α S H σ env → Sim (Cx.wr X B) α S H → PostG (Cx.wr X B) (ItOk (Cx.wr X B)) (E σ) α S H R (fi env S) → wi σ H R)
    (g2 : ∀ B α σ H env S v d env' Q, REnv [] (Cx.wr X B) α S H σ env → Rep (Cx.wr X B) α S H v d → g d env = some env' → (∀ σ', REnv [] (Cx.wr X B) α S H σ' env' → But is σ σ' → Q σ' H) → tgt v σ H Q)
    (t2 : ∀ B α σ H env S Q, REnv [] (Cx.wr X B) α S H σ env → Sim (Cx.wr X B) α S H → PostB (Cx.wr X B) (E0d σ) α S H Q (ft env S) → tt σ H Q)
    (e2 : ∀ B α σ H env S Q, REnv [] (Cx.wr X B) α S H σ env → Sim (Cx.wr X B) α S H → Post (Cx.wr X B) (E0d σ) α S H Q (fe env S) → te σ H Q) :
    ∀ B α σ H env S Q, REnv X.pn (Cx.wr X B) α S H σ env → Sim (Cx.wr X B) α S H → PostF (Cx.wr X B) (E σ) α S H Q (cCompA fi vs g ft fe env S) → tLc wi tgt tt te vs σ H Q := by
  intro B α σ H env S Q r s h
  refine i2 B α σ H env S _ r s (PostF.bind h fun α1 J H1 items S1 r1 s1 x1 h1 => ?_)
  obtain ⟨ys, yl, yr, yj⟩ := r1
  by_cases hlen : items.length ≤ 16777216
  case neg => rw [if_neg hlen] at h1; exact h1.elim
  rw [if_pos hlen] at h1
  intro D hD
  have hDB : D ∉ B := fun z => s1.bs D z hD
  refine ⟨fun i m H' => i + m = items.length ∧ ∃ α' S' acc vacc, REnv X.pn ((Cx.wr X B).hold D) α' S' H' σ env ∧ Sim ((Cx.wr X B).hold D) α' S' H' ∧ Ext (Cx.wr X B) α1 S1 H1 α' S' H' ∧ H' D = some (.lst vacc) ∧ Reps ((Cx.wr X B).hold D) α' S' H' vacc acc ∧ acc.length ≤ i ∧
      (∀ (j : Nat) (y : Itm) (d : Dt), ys[j]? = some y → items[j]? = some d → ItmRep ((Cx.wr X B).hold D) α' S' H' y d) ∧
      PostF (Cx.wr X B) (E σ) α1 S1 H1 Q (compL g ft fe (wipeE (dropX env) vs) (items.drop i) acc S'), ⟨items.length, by omega, α1, S1, [], [], ?_⟩, ?_⟩
  · have x0 : Ext (Cx.wr X B) α1 S1 H1 α1 S1 (upd H1 D (.lst [])) := Ext.new s1 hD
    exact ⟨(r.ext x1).hold hD, s1.hold hD, x0, upd_same, .nil, by simp, fun j y d h1 h2 => (yr j y d h1 h2).hold hD, h1⟩
  rintro i m H' ⟨him, α', S', acc, vacc, r', s', x', hd', ra, hal, yr', h'⟩
  have kept : Kept (Cx.wr X B) α1 S1 H1 H' := fun b o n e => (x'.keep b o n e).2
  obtain ⟨jg, js, jy⟩ := yj H' kept
  by_cases hi : i < items.length
  case neg =>
    have ei : i = items.length := by omega
    subst ei
    rw [List.drop_length] at h'
    refine .inl ⟨js, ?_⟩
    have e5 := h' α' (dropH H' D) D vacc dropH_same (Reps.drop' (W := Cx.wr X B) ra) (Sim.drop (W := Cx.wr X B) s' hDB) (x'.drop hD hDB)
    rw [upd_dropH hd'] at e5
    exact e5
  have e0 : items.drop i = items[i] :: items.drop (i + 1) := List.drop_eq_getElem_cons hi
  rw [e0] at h'
  have hy : i < ys.length := by omega
  refine .inr ⟨jg i hi, fun H2 => ∃ α' S' acc vacc, REnv X.pn ((Cx.wr X B).hold D) α' S' H2 σ env ∧ Sim ((Cx.wr X B).hold D) α' S' H2 ∧ Ext (Cx.wr X B) α1 S1 H1 α' S' H2 ∧ H2 D = some (.lst vacc) ∧ Reps ((Cx.wr X B).hold D) α' S' H2 vacc acc ∧ acc.length ≤ i + 1 ∧
      (∀ (j : Nat) (y : Itm) (d : Dt), ys[j]? = some y → items[j]? = some d → ItmRep ((Cx.wr X B).hold D) α' S' H2 y d) ∧
      PostF (Cx.wr X B) (E σ) α1 S1 H1 Q (compL g ft fe (wipeE (dropX env) vs) (items.drop (i + 1)) acc S'),
    fun H2 q => ⟨m - 1, by omega, by omega, q⟩, fun x H'' hyl => ?_⟩
  have gv := jy i ys[i] x H'' (List.getElem?_eq_getElem hy) hyl
  obtain ⟨rx, sx, xx⟩ := gv.rep s' (yr' i _ _ (List.getElem?_eq_getElem hy) (List.getElem?_eq_getElem hi))
  unfold compL at h'
  cases hgd : g items[i] (wipeE (dropX env) vs) with
  | none => rw [hgd] at h'; exact h'.elim
  | some env1 =>
    rw [hgd] at h'
    simp only at h'
    have hD' : ∀ {α2 S2 H2}, Ext ((Cx.wr X B).hold D) α' S' H'' α2 S2 H2 → H2 D = some (.lst vacc) := fun {α2 S2 H2} e => by
      rw [e.held D List.mem_cons_self, xx.held D List.mem_cons_self]; exact hd'
    have out : ∀ {α2 S2 H2}, Ext ((Cx.wr X B).hold D) α' S' H'' α2 S2 H2 → Ext (Cx.wr X B) α1 S1 H1 α2 S2 H2 := fun {α2 S2 H2} e => by
      have e1 := xx.trans e
      refine ⟨fun n a q => e1.pre n a (x'.pre n a q), fun b o nb q => ?_, fun b hb => (e1.held b (List.mem_cons_of_mem _ hb)).trans (x'.held b hb)⟩
      obtain ⟨k1, k2⟩ := x'.keep b o nb q
      have ne : b ≠ D := ne_of_none q hD
      obtain ⟨k3, k4⟩ := e1.keep b o (fun z => k1 (z.hold ne)) k2
      exact ⟨fun z => k3 (by rcases z with z | z; exact .inl z; exact .inr (List.mem_cons_of_mem _ z)), k4⟩
    refine g2 (D :: B) α' (wipe σ vs) H'' (wipeE (dropX env) vs) S' x items[i] env1 _ ((((REnv.dropX (pn' := []) r').wipe vs).ext xx)) rx hgd fun σ3 r3 hw3 => ⟨wipe_but hw3 hvs, ?_⟩
    refine t2 (D :: B) α' σ3 H'' env1 S' _ r3 sx ?_
    cases ht : ft env1 S' with
    | bad => rw [ht] at h'; exact h'.elim
    | exc c fs S2 => rw [ht] at h'; exact h'.elim
    | ok k S2 =>
      rw [ht] at h'
      intro α2 k' H2 rk s2 x2
      obtain rfl : k' = k := rk
      simp only [Out.only, Out.bind] at h'
      cases k' with
      | false =>
        rw [if_neg (by decide)] at h' ⊢
        exact ⟨α2, S2, acc, vacc, (r'.ext xx).ext x2, s2, out x2, hD' x2, (ra.ext xx).ext x2, by omega, fun j y d q1 q2 => ((yr' j y d q1 q2).ext xx).ext x2, h'⟩
      | true =>
        rw [if_pos rfl] at h' ⊢
        refine e2 (D :: B) α2 σ3 H2 env1 S2 _ (r3.ext x2) s2 ?_
        cases hf : fe env1 S2 with
        | bad => rw [hf] at h'; exact h'.elim
        | exc c fs S3 => rw [hf] at h'; exact h'.elim
        | ok y S3 =>
          rw [hf] at h'
          simp only [Out.only, Out.bind] at h'
          intro α3 yv H3 ry s3 x3
          have x23 := x2.trans x3
          refine ⟨vacc, hD' x23, ?_, α3, S3, acc ++ [y], vacc ++ [yv], REnv.turn (W := Cx.wr X B) (D := D) (((r'.ext xx).ext x2).ext x3), Sim.turn (W := Cx.wr X B) (D := D) s3, ?_, upd_same, (Reps.turn (W := Cx.wr X B) (D := D) (((ra.ext xx).ext x2).ext x3)).snoc (Rep.turn (W := Cx.wr X B) (D := D) ry), by simp; omega, fun j y d q1 q2 => ItmRep.turn (W := Cx.wr X B) (D := D) ((((yr' j y d q1 q2).ext xx).ext x2).ext x3), h'⟩
          · rw [ra.length]
            show acc.length < 2 ^ 24
            omega
          · have e3 := out x23
            refine ⟨e3.pre, fun b o nb q => ?_, fun b hb => ?_⟩
            · obtain ⟨k3, k4⟩ := e3.keep b o nb q
              exact ⟨k3, by rw [upd_ne (ne_of_none q hD)]; exact k4⟩
            · have nb : b ≠ D := fun z => hDB (by rw [← z]; exact hb)
              rw [upd_ne nb]
              exact e3.held b hb
/-- the reading of f itself -/
def canE (K : PySem.W.Frag) (w : World) (mg : Str → Option Value) (E : Sl → XK) (f : FE) : TE := fun σ H Q => ∃ B α env S, REnv [] ⟨K, w, mg, B⟩ α S H σ env ∧ Sim ⟨K, w, mg, B⟩ α S H ∧ Post ⟨K, w, mg, B⟩ (E σ) α S H Q (f env S)
def canT (K : PySem.W.Frag) (w : World) (mg : Str → Option Value) (E : Sl → XK) (f : FT) : TT := fun σ H Q => ∃ B α env S, REnv [] ⟨K, w, mg, B⟩ α S H σ env ∧ Sim ⟨K, w, mg, B⟩ α S H ∧ PostB ⟨K, w, mg, B⟩ (E σ) α S H Q (f env S)
def canG (K : PySem.W.Frag) (w : World) (mg : Str → Option Value) (g : FG) (is : List Nat) : TG := fun v σ H Q => ∃ B α env S d env', REnv [] ⟨K, w, mg, B⟩ α S H σ env ∧ Rep ⟨K, w, mg, B⟩ α S H v d ∧ g d env = some env' ∧ ∀ σ', REnv [] ⟨K, w, mg, B⟩ α S H σ' env' → But is σ σ' → Q σ' H
theorem DE.can (hp : X.pn = []) (h : DE X E e fe) : PE X e (canE X.K X.w X.mg E fe) := by
  obtain ⟨t, h1, h2⟩ := h
  rw [hp] at h2
  exact ⟨fun pins s σ H Q I ⟨B, α, env, S, r, sm, q⟩ => h1.run pins s σ H Q I (h2 B α σ H env S Q r sm q)⟩
theorem DTs.can {ifs : List Expr} {ft : FT} (hp : X.pn = []) (h : DTs X ifs ft) : PTs X ifs (canT X.K X.w X.mg E0d ft) := by
  obtain ⟨t, h1, h2⟩ := h
  rw [hp] at h2
  exact ⟨fun pins s σ H Q I ⟨B, α, env, S, r, sm, q⟩ => h1.run pins s σ H Q I (h2 B α σ H env S Q r sm q)⟩
theorem DG.can {tg : Expr} {g : FG} {is : List Nat} (hp : X.pn = []) (h : DG X tg g is) : PG X tg (canG X.K X.w X.mg g is) := by
  obtain ⟨t, h1, h2⟩ := h
  rw [hp] at h2
  exact ⟨fun pins s σ H v u Q I r ⟨B, α, env, S, d, env', r', rd, e, q⟩ => h1.run pins s σ H v u Q I r (h2 B α σ H env S v d env' Q r' rd e q)⟩
section
variable {elt tg iter : Expr} {ifs : List Expr} {scope : Scope} {own : List (Str × Nat)} {fi : FA} {g : FG} {ft : FT} {is : List Nat}
theorem de_comp (hc : X.calm = true) (hN : X.N.Nodup) (hi : DI X E tg iter fi) (ok : BlkOk X.N X.env.scope scope own)
    (hvs : ∀ i ∈ is, i ∈ own.map (·.2))
    (hg : ∀ (s : Shared) (H : Hp) (C : Addr) (cl : List (Str × Addr)) (fp : List Addr), DG (X.blk s H scope (compEnvC scope cl C X.env) fp) tg g is)
    (ht : ∀ (s : Shared) (H : Hp) (C : Addr) (cl : List (Str × Addr)) (fp : List Addr), DTs (X.blk s H scope (compEnvC scope cl C X.env) fp) ifs ft)
    (he : ∀ (s : Shared) (H : Hp) (C : Addr) (cl : List (Str × Addr)) (fp : List Addr), DE (X.blk s H scope (compEnvC scope cl C X.env) fp) E0d elt fe)
    (hs : ∀ x, foldedSetIterable iter X.env x = pure x := by intro _; rfl) : DE X E (.ListComp elt [⟨tg, iter, ifs, 0⟩] scope pos) (cComp fi (own.map (·.2)) g ft fe) := by
  obtain ⟨wi, i1, i2⟩ := hi
  refine ⟨_, pe_lc (g := canG X.K X.w X.mg g is) (tt := canT X.K X.w X.mg E0d ft) (te := canE X.K X.w X.mg E0d fe) hc hN i1 ok (fun s H C cl fp => (hg s H C cl fp).can rfl) (fun s H C cl fp => (ht s H C cl fp).can rfl) (fun s H C cl fp => (he s H C cl fp).can rfl) hs, ?_⟩
  exact fun B α σ H env S Q r s h => tLc_of (elt := elt) (iter := iter) (tg := tg) hvs i2 (fun B α σ H env S v d env' Q r q h hq => ⟨B, α, env, S, d, env', r, q, h, hq⟩) (fun B α σ H env S Q r s h => ⟨B, α, env, S, r, s, h⟩) (fun B α σ H env S Q r s h => ⟨B, α, env, S, r, s, h⟩) B α σ H env S Q r s (PostF.val h)
/-- y = [..] -/
theorem ds_setComp {y : Str} {py : Pos} {spos : Pos} (i : Nat) (hc : X.calm = true) (hN : X.N.Nodup) (hi : DI X E tg iter fi) (ok : BlkOk X.N X.env.scope scope own)
    (hvs : ∀ i ∈ is, i ∈ own.map (·.2))
    (hg : ∀ (s : Shared) (H : Hp) (C : Addr) (cl : List (Str × Addr)) (fp : List Addr), DG (X.blk s H scope (compEnvC scope cl C X.env) fp) tg g is)
    (ht : ∀ (s : Shared) (H : Hp) (C : Addr) (cl : List (Str × Addr)) (fp : List Addr), DTs (X.blk s H scope (compEnvC scope cl C X.env) fp) ifs ft)
    (he : ∀ (s : Shared) (H : Hp) (C : Addr) (cl : List (Str × Addr)) (fp : List Addr), DE (X.blk s H scope (compEnvC scope cl C X.env) fp) E0d elt fe)
    (hsw : swapsWith (.ListComp elt [⟨tg, iter, ifs, 0⟩] scope pos) (some (.Name y py)) spos.line X.env = pure true)
    (hy : X.N[i]? = some y := by rfl) (hyl : X.env.scope.names.lookup y = some .local := by rfl)
    (hs : ∀ x, foldedSetIterable iter X.env x = pure x := by intro _; rfl) : DS X E (.Assign [.Name y py] (.ListComp elt [⟨tg, iter, ifs, 0⟩] scope pos) spos) (sSet i (cComp fi (own.map (·.2)) g ft fe)) := by
  obtain ⟨wi, i1, i2⟩ := hi
  refine ⟨_, ps_setLc (g := canG X.K X.w X.mg g is) (tt := canT X.K X.w X.mg E0d ft) (te := canE X.K X.w X.mg E0d fe) hc hN hy hyl hsw i1 ok (fun s H C cl fp => (hg s H C cl fp).can rfl) (fun s H C cl fp => (ht s H C cl fp).can rfl) (fun s H C cl fp => (he s H C cl fp).can rfl) hs, ?_⟩
  intro B α σ H env S D r s h
  refine tLc_of (elt := elt) (iter := iter) (tg := tg) hvs i2 (fun B α σ H env S v d env' Q r q h hq => ⟨B, α, env, S, d, env', r, q, h, hq⟩) (fun B α σ H env S Q r s h => ⟨B, α, env, S, r, s, h⟩) (fun B α σ H env S Q r s h => ⟨B, α, env, S, r, s, h⟩) B α σ H env S _ r s (PostF.val ?_)
  exact SPost.bind r h fun α1 v H1 d S1 r1 s1 x1 h1 => h1 α1 _ H1 ((r.ext x1).set r1 i) s1 Ext.refl
end

/-! ### what is let out is taken -/
def TkD (X : Cx) (E : Sl → XK) : Prop := Takes X (fun cls d σ H => E σ cls d H)
theorem TkD.at {X : Cx} {E : Sl → XK} (h : TkD X E) (σ : Sl) : PassesAt (L2.CX X.prog X.w) X σ (E σ) := passAt h σ
theorem TkD.none {X : Cx} : TkD X E0d := takes_none5
/-! ### defs -/
/-- a def's promise: it does what F does -/
def spD (K : PySem.W.Frag) (w : World) (mg : Str → Option Value) (F : List Dt → Store → Out Dt) : Sp := fun vs H Q E => ∃ B α ds S, Reps ⟨K, w, mg, B⟩ α S H vs ds ∧ Sim ⟨K, w, mg, B⟩ α S H ∧ Post ⟨K, w, mg, B⟩ E α S H Q (F ds S)
/-- the body, run: np parameters, nl further names -/
def fnBody (np nl : Nat) (body : FS) : List Dt → Store → Out Dt := fun ds S =>
  if ds.length = np then (match body (ds.map (fun d => some (DX.vl d)) ++ List.replicate nl none) S with
    | .nx _ S1 => .ok .non S1
    | .rt d S1 => .ok d S1
    | .exc c fs _ S1 => .exc c fs S1
    | _ => .bad) else .bad
theorem start_env {pn : List (Addr × Obj)} {W : Wr} {α : List Addr} {S : Store} {H : Hp} {N : List Str} {vs : List V} {ds : List Dt} {nl : Nat} (r : Reps W α S H vs ds) (hl : N.length = vs.length + nl) : REnv pn W α S H (L2.start N vs) (ds.map (fun d => some (DX.vl d)) ++ List.replicate nl none) := by
  have e : N.length - vs.length = nl := by omega
  unfold L2.start
  rw [e]
  refine ⟨by simp [r.length], fun i d h => ?_⟩
  by_cases hi : i < ds.length
  · rw [List.getElem?_append_left (by simpa using hi)] at h
    rw [List.getElem?_map] at h
    obtain ⟨x, hx, hx2⟩ := Option.map_eq_some_iff.mp h
    cases hx2
    obtain ⟨v, h1, h2⟩ := r.get hx
    refine ⟨v, ?_, h2⟩
    rw [List.getElem?_append_left (by rw [List.length_map]; exact (List.getElem?_eq_some_iff.mp h1).1), List.getElem?_map, h1]
    rfl
  · rw [List.getElem?_append_right (by simpa using hi)] at h
    have := List.mem_of_getElem? h
    simp at this
end
/-- a def keeps a promise, called where nothing is being shown (the guards: what repr looks for) -/
structure FnG (P : Program) (w : World) (K : PySem.W.Frag) (mg : Str → Option Value) (base : Heap) (k : Nat) (f : Addr) (fd : FuncData) (ps : List Str) (sp : Sp) : Prop where
  len : ∀ vs H Q E, sp vs H Q E → vs.length = ps.length
  go : ∀ (A : Around) (outer : List Env) (s : Shared) (H : Hp) (args : Args) (us : List Value) (vs : List V) (Q : VK) (E : XK), A.guards = some [] → Room k A → Env0 P w K mg base A outer s H → BindsTo s fd args (ps.zip us) → Vals vs us → sp vs H Q E →
    codeAny (model P w) A (.call (.ref f) args) (CR (L2.CX P w) outer P w H s Q E) s
section
variable {P : Program} {w : World} {K : PySem.W.Frag} {mg : Str → Option Value} {base : Heap}
theorem FnG.mono {j k : Nat} {f : Addr} {fd : FuncData} {ps : List Str} {sp : Sp} (F : FnG P w K mg base j f fd ps sp) (h : j ≤ k) : FnG P w K mg base k f fd ps sp :=
  ⟨F.len, fun A outer s H args us vs Q E hg hr => F.go A outer s H args us vs Q E hg (hr.mono h)⟩
theorem FnG.imp {k : Nat} {f : Addr} {fd : FuncData} {ps : List Str} {sp sp' : Sp} (F : FnG P w K mg base k f fd ps sp) (h : ∀ vs H Q E, sp' vs H Q E → sp vs H Q E) : FnG P w K mg base k f fd ps sp' :=
  ⟨fun vs H Q E q => F.len vs H Q E (h _ _ _ _ q), fun A outer s H args us vs Q E hg hr e0 hb hv hs => F.go A outer s H args us vs Q E hg hr e0 hb hv (h _ _ _ _ hs)⟩
/-- by its body, run at the parameters' values -/
theorem fnG_of {x qual : Str} {st : Stmt} {f : Addr} {fd : FuncData} {N ps : List Str} {k : Nat} {sp : Sp} {dV kV : Value}
    (Fx : ∃ (oc : Value) (od : Option Addr) (doc pm : Value) (an : Option Addr) (cdv ct : Value) (osl : Array (Option Value)), fd = PySem.W.fnOf x qual (defArgs st) (defBody st) (defScope st) dV kV doc pm an cdv ct ∧ K.lookup f = some ⟨oc, od, .func fd, osl⟩ ∧ PySem.W.codeIn K cdv qual = true)
    (Sc : FnScope N ps (defScope st)) (len : ∀ vs H Q E, sp vs H Q E → vs.length = ps.length)
    (hbody : ∀ (cdv : Value) (A : Around) (outer : List Env) (s : Shared) (H : Hp) (vs : List V) (Q : VK) (E : XK), A.guards = some [] → Room k (A.deeper (envOfC qual (defScope st) s.heap.objs.size f cdv)) → sp vs H Q E →
      ∃ t, PSs (cxOf (L2.CX P w) P w K mg base N qual (defScope st) f cdv A outer s H E) (defBody st) t ∧ t { nx := fun _ H' => Q .non H', rt := Q } (L2.start N vs) H) :
    FnG P w K mg base (k + 1) f fd ps sp := by
  obtain ⟨oc, od, doc, pm, an, cdv, ct, osl, rfl, lk, hcd⟩ := Fx
  refine ⟨len, fun A outer s H args us vs Q E hg hr e0 hb r hsp => ?_⟩
  have there : ∀ b o, base.get? b = some o → s.heap.get? b = some o := fun b o e => (e0.bs b o e).1
  have KX : K.In s.heap := e0.mod.kin.keeps there
  refine codeAny_call_function hr.depth (KX _ _ lk) rfl Sc.co Sc.gen rfl (PySem.W.codeRec_of KX hcd) (hb _ _ _ _ ?_)
  refine wpAny_newFunctionEnv_cells Sc.kind (fun ⟨n, v⟩ hy => (Sc.par n (List.of_mem_zip hy).1).imp id fun q => ⟨q, PySem.W.cellsFrom_some _ _ _ (.inl q)⟩) fun env he s1 x => ?_
  subst he
  refine ⟨(e0.mod.nolimit.keeps there).keeps x.toInCall.keep, codeAny_func ?_⟩
  obtain ⟨t, ht, hq⟩ := hbody cdv A outer s H vs Q E hg (hr.deeper _) hsp
  have I := inv_start (CX := L2.CX P w) (E := E) (qual := qual) (f := f) (cd := cdv) Sc hr.hd e0 (len _ _ _ _ hsp) r x
  refine wpAny_mono (ht.run [] s1 (L2.start N vs) H _ I hq) (fun fl s' hs => ?_) fun e s' hs => hs
  cases fl with
  | ret u => obtain ⟨v, σ', H', J, rv, q⟩ := hs; exact ⟨v, H', J.os, J.bare, J.base, J.hok, rv, q⟩
  | next => obtain ⟨σ', H', J, q⟩ := hs; exact ⟨.non, H', J.os, J.bare, J.base, J.hok, rfl, q⟩
  | brk => obtain ⟨_, _, _, q⟩ := hs; exact q.elim
  | cont => obtain ⟨_, _, _, q⟩ := hs; exact q.elim

/-- a def of the text, with the values of its last parameters where they are left out -/
structure FunV (K : PySem.W.Frag) (x qual : Str) (st : Stmt) (f : Addr) (fd : FuncData) : Prop where
  ex : ∃ (oc : Value) (od : Option Addr) (dV kV doc pm : Value) (an : Option Addr) (cdv ct : Value) (osl : Array (Option Value)),
    fd = PySem.W.fnOf x qual (defArgs st) (defBody st) (defScope st) dV kV doc pm an cdv ct ∧ K.lookup f = some ⟨oc, od, .func fd, osl⟩ ∧ PySem.W.codeIn K cdv qual = true

/-- THE RULE of a def: its body as a derivation -/
theorem fn_ok {x qual : Str} {st : Stmt} {f : Addr} {fd : FuncData} {N ps : List Str} {k nl : Nat} {body : FS} (F : FunV K x qual st f fd) (Sc : FnScope N ps (defScope st)) (hl : N.length = ps.length + nl)
    (hbody : ∀ (cdv : Value) (A : Around) (outer : List Env) (s : Shared) (H : Hp) (E : XK), A.guards = some [] → Room k (A.deeper (envOfC qual (defScope st) s.heap.objs.size f cdv)) →
      TkD (cxOf (L2.CX P w) P w K mg base N qual (defScope st) f cdv A outer s H E) (fun _ => E) →
      PassesOwn (model P w) (cxOf (L2.CX P w) P w K mg base N qual (defScope st) f cdv A outer s H E).A (cxOf (L2.CX P w) P w K mg base N qual (defScope st) f cdv A outer s H E).env (cxOf (L2.CX P w) P w K mg base N qual (defScope st) f cdv A outer s H E).xe →
      DSs (cxOf (L2.CX P w) P w K mg base N qual (defScope st) f cdv A outer s H E) (fun _ => E) (defBody st) body) :
    FnG P w K mg base (k + 1) f fd ps (spD K w mg (fnBody ps.length nl body)) := by
  obtain ⟨oc, od, dV, kV, doc, pm, an, cdv0, ct, osl, he⟩ := F.ex
  refine fnG_of (dV := dV) (kV := kV) ⟨oc, od, doc, pm, an, cdv0, ct, osl, he⟩ Sc (fun vs H Q E h => ?_) (fun cdv A outer s H vs Q E hg hr h => ?_)
  · obtain ⟨B, α, ds, S, r, sm, q⟩ := h
    unfold fnBody at q
    by_cases hd : ds.length = ps.length
    · rw [r.length]; exact hd
    · rw [if_neg hd] at q; exact q.elim
  · obtain ⟨B, α, ds, S, r, sm, q⟩ := h
    unfold fnBody at q
    by_cases hd : ds.length = ps.length
    case neg => rw [if_neg hd] at q; exact q.elim
    rw [if_pos hd] at q
    obtain ⟨t, h1, h2⟩ := hbody cdv A outer s H E hg hr (takes_of rfl rfl rfl rfl) (passes_of rfl)
    refine ⟨t, h1, h2 B α (L2.start N vs) H (ds.map (fun d => some (DX.vl d)) ++ List.replicate nl none) S _ (start_env r (by rw [r.length, hd]; exact hl)) sm ?_⟩
    cases hb : body (ds.map (fun d => some (DX.vl d)) ++ List.replicate nl none) S with
    | nx e S1 => rw [hb] at q; exact fun α1 σ1 H1 r1 s1 x1 => q α1 .non H1 .non s1 x1
    | rt d S1 => rw [hb] at q; exact q
    | exc c fs e S1 => rw [hb] at q; exact fun α1 σ1 cls od H1 _ xr s1 x1 => q α1 cls od H1 xr s1 x1
    | bk e S1 => rw [hb] at q; exact q.elim
    | ct e S1 => rw [hb] at q; exact q.elim
    | bad => rw [hb] at q; exact q.elim
end

/-! ### calls -/
/-- the name x of the module is a def that does F; dds: what its last parameters hold where they are left out -/
structure DFn (X : Cx) (x : Str) (F : List Dt → Store → Out Dt) (dds : List Dt) : Prop where
  ex : ∃ (f : Addr) (fd : FuncData) (ps : List Str) (k : Nat) (ds : List Value) (dvs : List V), FnG X.prog X.w X.K X.mg X.base k f fd ps (spD X.K X.w X.mg F) ∧ Room k X.A ∧ X.mg x = some (.ref f) ∧ PySem.W.keepIn X.K (.ref f) = true ∧
    Binds X.K fd ps ds ∧ Vals dvs ds ∧ ∀ B α S H, Reps (Cx.wr X B) α S H dvs dds
def cCall (F : List Dt → Store → Out Dt) (dds : List Dt) (a : FA) : FE := fun env S => (a env S).bind fun ds S1 => F (ds ++ dds) S1
section
variable {X : Cx} {E : Sl → XK} {x : Str} {p pos : Pos} {e : Expr} {es : List Expr} {fr : FA} {F : List Dt → Store → Out Dt} {dds : List Dt}
theorem run_fnG {pins : List (Addr × Obj)} {σ : Sl} {H : Hp} {s : Shared} {Q : VK} {us : List Value} {vs : List V} {k : Nat} {f : Addr} {fd : FuncData} {ps : List Str} {sp : Sp} {dvs : List V} {ds : List Value} {E' : XK}
    (G : FnG X.prog X.w X.K X.mg X.base k f fd ps sp) (hgu : X.A.guards = some []) (hr : Room k X.A) (hb : Binds X.K fd ps ds) (hd : Vals dvs ds) (hx : PassesAt (L2.CX X.prog X.w) X σ E')
    (I : Inv X pins σ H s) (r : Vals vs us) (h : sp (vs ++ dvs) H Q E') : wpAny (model X.prog X.w) X.A (call (.ref f) us) (EP X pins σ Q) X.xe s := by
  have r2 := r.append hd
  have hl : (us ++ ds).length = ps.length := by rw [← r2.length]; exact G.len _ _ _ _ h
  refine wpAny_call (codeAny_mono (G.go X.A X.stack s H ⟨us, []⟩ (us ++ ds) (vs ++ dvs) Q E' hgu hr I.env0 (hb s us I.kIn hl) r2 h) fun rs s' hq => ?_)
  cases rs with
  | error e => exact hx pins H s e s' I hq
  | ok fl =>
    cases fl with
    | ret u => exact I.after hq
    | next => exact hq.elim
    | brk => exact hq.elim
    | cont => exact hq.elim
/-- the reading of a call: what is raised is wished for at the caller's slots -/
def tCallG (sp : Sp) (dvs : List V) (E : Sl → XK) (t : TA) : TE := fun σ H Q => t σ H fun vs H1 => sp (vs ++ dvs) H1 Q (E σ)
theorem de_call (hf : DFn X x F dds) (hgu : X.A.guards = some []) (tk : TkD X E) (hg : Gl X x) (ha : DA X E (e :: es) fr) (hdb : (x == ("__debug__" : Str)) = false := by decide)
    (he : starEach (e :: es) X.env = (false, eval e X.env) :: starEach es X.env := by rfl) (hpl : (backTo pos (starEach es X.env)).any (·.1) = false := by rfl) : DE X E (.Call (.Name x p) (e :: es) [] pos) (cCall F dds fr) := by
  obtain ⟨f, fd, ps, k, ds, dvs, G, hr, hm, hk, hb, hd, hreps⟩ := hf
  obtain ⟨t, a1, a2⟩ := ha
  refine ⟨tCallG (spD X.K X.w X.mg F) dvs E t, ⟨fun pins s σ H Q I h => ?_⟩, fun B α σ H env S Q r s h => ?_⟩
  · refine wpAny_Call_Name_kw (ld_glob I hg hm ?_ hdb)
    refine PySem.W.callWith_K (h₀ := X.base) I.ok.mod.kin hk (thn (a1.run pos pins s σ H _ I h) fun us s1 ⟨vs, H1, I1, r, q⟩ => ⟨I1.kIn, ?_⟩) he hpl
    exact run_fnG G hgu hr hb hd (tk.at σ) I1 r q
  · refine a2 B α σ H env S _ r s (PostG.bind h fun α1 vs H1 ds S1 r1 s1 x1 h1 => ?_)
    exact ⟨B, α1, ds ++ dds, S1, r1.append (hreps B α1 S1 H1), s1, h1⟩
theorem de_call0 (hf : DFn X x F dds) (hgu : X.A.guards = some []) (tk : TkD X E) (hg : Gl X x) (hdb : (x == ("__debug__" : Str)) = false := by decide) : DE X E (.Call (.Name x p) [] [] pos) (cCall F dds cNil) := by
  obtain ⟨f, fd, ps, k, ds, dvs, G, hr, hm, hk, hb, hd, hreps⟩ := hf
  refine ⟨tCallG (spD X.K X.w X.mg F) dvs E tNil, ⟨fun pins s σ H Q I h => ?_⟩, fun B α σ H env S Q r s h => ?_⟩
  · refine wpAny_Call_Name_kw (ld_glob I hg hm ?_ hdb)
    exact PySem.W.callWith_K0 I.kIn hk (run_fnG (us := []) G hgu hr hb hd (tk.at σ) I .nil h)
  · exact ⟨B, α, dds, S, by simpa using hreps B α S H, s, h⟩
/-- a def's name as a value; its call through a local name -/
theorem de_fn (hf : ∃ f, X.mg x = some (.ref f)) (hg : Gl X x) (hd : (x == ("__debug__" : Str)) = false := by decide) : DE X E (.Name x pos) (cC (.fn x)) := by
  obtain ⟨f, hf⟩ := hf
  exact de_c (v := V.ref f) (pe_glob (v := V.ref f) hg hf rfl hd) fun B α S H => .fn hf
/-- f(e, ..), f a local name that holds one of some defs -/
def cCallL (i : Nat) (Fs : Str → Option (List Dt → Store → Out Dt)) (a : FA) : FE := fun env S => match slot env i with
  | some (.fn y) => (match Fs y with | some F => (a env S).bind F | none => .bad)
  | _ => .bad
theorem de_callL {Fs : Str → Option (List Dt → Store → Out Dt)} (i : Nat) (hf : ∀ y F, Fs y = some F → DFn X y F []) (hgu : X.A.guards = some []) (tk : TkD X E) (ha : DA X E (e :: es) fr)
    (hN : X.N[i]? = some x := by rfl) (hv : Vis X.env.scope x := by first | exact Or.inl rfl | exact Or.inr (Or.inl rfl) | exact Or.inr (Or.inr rfl)) (hdb : (x == ("__debug__" : Str)) = false := by decide) (hcd : (x == ("__classdict__" : Str)) = false := by decide)
    (he : starEach (e :: es) X.env = (false, eval e X.env) :: starEach es X.env := by rfl) (hpl : (backTo pos (starEach es X.env)).any (·.1) = false := by rfl) : DE X E (.Call (.Name x p) (e :: es) [] pos) (cCallL i Fs fr) := by
  obtain ⟨t, a1, a2⟩ := ha
  refine ⟨fun σ H Q => ∃ y F f, Fs y = some F ∧ X.mg y = some (.ref f) ∧ σ[i]? = some (some (.ref f)) ∧ t σ H fun vs H1 => spD X.K X.w X.mg F vs H1 Q (E σ), ⟨fun pins s σ H Q I h => ?_⟩, fun B α σ H env S Q r s h => ?_⟩
  · obtain ⟨y, F, f, hF, hmy, hs, ht⟩ := h
    obtain ⟨f', fd, ps, k, ds, dvs, G, hr, hm, hk, hb, hd, hreps⟩ := hf y F hF
    rw [hmy] at hm; cases hm
    refine wpAny_Call_Name_kw (thn ((pe_var (pos := p) hN hv hdb hcd).run pins s σ H (fun v H1 => v = .ref f ∧ H1 = H) I ⟨.ref f, hs, rfl, rfl⟩) fun u s1 ⟨v, H1, I1, r1, q1⟩ => ?_)
    obtain ⟨rfl, rfl⟩ := q1
    cases r1
    refine PySem.W.callWith_K (h₀ := X.base) I.ok.mod.kin hk (thn (a1.run pos pins s1 σ _ _ I1 ht) fun us s2 ⟨vs, H2, I2, r, q⟩ => ⟨I2.kIn, ?_⟩) he hpl
    have hz : dvs = [] := by
      have := hreps [] [] [] (fun _ => none)
      cases this
      rfl
    subst hz
    exact run_fnG G hgu hr hb hd (tk.at σ) I2 r (by rw [List.append_nil]; exact q)
  · unfold cCallL at h
    cases hsl : slot env i with
    | none => simp only [hsl] at h; exact h.elim
    | some d =>
      simp only [hsl] at h
      cases d with
      | fn y =>
        simp only at h
        cases hF : Fs y with
        | none => simp only [hF] at h; exact h.elim
        | some F =>
          simp only [hF] at h
          obtain ⟨v, h1, h2⟩ := slot_rep r hsl
          cases h2 with
          | fn hm =>
            refine ⟨y, F, _, hF, hm, h1, ?_⟩
            exact a2 B α σ H env S _ r s (PostG.bind h fun α1 vs H1 ds S1 r1 s1 x1 h1 => ⟨B, α1, ds, S1, r1, s1, h1⟩)
      | _ => exact h.elim
end
end DL

set_option Elab.async false
set_option linter.all false
set_option maxRecDepth 100000
set_option maxHeartbeats 4000000
namespace DL
open PySem PySem.Spec PyProof.Rows L2

abbrev LINE : Nat := 16777216
/-! ### sequences by their items -/
def asList (S : Store) : Dt → Option (List Dt)
  | .lst ds => some ds
  | .ref n => match S[n]? with
    | some (.lst ds) => some ds
    | _ => none
  | _ => none
def asSeq (S : Store) : Dt → Option (List Dt)
  | .tup ds => some ds
  | d => asList S d
def asDict (S : Store) : Dt → Option (List (Key × Dt))
  | .dct kvs => some kvs
  | .ref n => match S[n]? with
    | some (.dct kvs) => some kvs
    | _ => none
  | _ => none
section
variable {W : Wr} {α : List Addr} {S : Store} {H : Hp}
theorem asList_rep {x : V} {d : Dt} {ds : List Dt} (s : Sim W α S H) (r : Rep W α S H x d) (h : asList S d = some ds) : ∃ a vs, x = .ref a ∧ LstAt W.K H a vs ∧ Reps W α S H vs ds := by
  cases d with
  | lst es =>
    cases h
    cases r with
    | lst o q => exact ⟨_, _, rfl, o.at_, q⟩
  | ref n =>
    cases r with
    | ref e =>
      unfold asList at h
      cases hn : S[n]? with
      | none => simp only [hn] at h; cases h
      | some mo =>
        simp only [hn] at h
        cases mo with
        | lst es =>
          cases h
          obtain ⟨vs, h1, h2⟩ := s.obj n _ _ e hn
          exact ⟨_, vs, rfl, .inl (.inl h1), h2⟩
        | gone => cases h
        | dct _ => cases h
  | _ => cases h
theorem asSeq_rep {x : V} {d : Dt} {ds : List Dt} (s : Sim W α S H) (r : Rep W α S H x d) (h : asSeq S d = some ds) : ∃ a vs, x = .ref a ∧ (SqL W.K H a vs ∨ SqT W.K H a vs) ∧ Reps W α S H vs ds := by
  cases d with
  | tup es =>
    cases h
    cases r with
    | tup o q => exact ⟨_, _, rfl, .inr o.sq, q⟩
  | lst es => obtain ⟨a, vs, h1, h2, h3⟩ := asList_rep s r (show asList S (.lst es) = some ds from h); exact ⟨a, vs, h1, .inl h2.sq, h3⟩
  | ref n => obtain ⟨a, vs, h1, h2, h3⟩ := asList_rep s r (show asList S (.ref n) = some ds from h); exact ⟨a, vs, h1, .inl h2.sq, h3⟩
  | _ => cases h
theorem post_new_tup {E : XK} {Q : VK} {vs : List V} {ds : List Dt} {p : Addr} (s : Sim W α S H) (r : Reps W α S H vs ds) (h : Post W E α S H Q (.ok (.tup ds) S)) (hp : H p = none) : Q (.ref p) (upd H p (.tup vs)) :=
  h α _ _ (Rep.new_tup s hp r) (s.new hp) (Ext.new s hp)
theorem post_new_lst {E : XK} {Q : VK} {vs : List V} {ds : List Dt} {p : Addr} (s : Sim W α S H) (r : Reps W α S H vs ds) (h : Post W E α S H Q (.ok (.lst ds) S)) (hp : H p = none) : Q (.ref p) (upd H p (.lst vs)) :=
  h α _ _ (Rep.new_lst s hp r) (s.new hp) (Ext.new s hp)
theorem post_ok {E : XK} {Q : VK} {v : V} {d : Dt} (s : Sim W α S H) (r : Rep W α S H v d) (h : Post W E α S H Q (.ok d S)) : Q v H := h α v H r s Ext.refl
end
def okList (ds : List Dt) (S : Store) : Out Dt := if ds.length ≤ LINE then .ok (.lst ds) S else .bad
def okTup (ds : List Dt) (S : Store) : Out Dt := if ds.length ≤ LINE then .ok (.tup ds) S else .bad

/-! ### operators on numbers, texts, sequences -/
def opAdd : Dt → Dt → Store → Out Dt
  | .int i, .int j, S => .ok (.int (i + j)) S
  | .str x, .str y, S => if x.length + y.length ≤ LINE then .ok (.str (x ++ y)) S else .bad
  | .tup xs, .tup ys, S => okTup (xs ++ ys) S
  | d, e, S => match asList S d, asList S e with
    | some xs, some ys => okList (xs ++ ys) S
    | _, _ => .bad
def opSub : Dt → Dt → Store → Out Dt
  | .int i, .int j, S => .ok (.int (i - j)) S
  | _, _, _ => .bad
def opMul : Dt → Dt → Store → Out Dt
  | .int i, .int j, S => if -(2 ^ 64) < i ∧ i < 2 ^ 64 then .ok (.int (i * j)) S else .bad
  | _, _, _ => .bad
def opMod : Dt → Dt → Store → Out Dt
  | .int i, .int j, S => if 0 < j then .ok (.int (i % j)) S else .bad
  | _, _, _ => .bad
def opFdiv : Dt → Dt → Store → Out Dt
  | .int i, .int j, S => if 0 < j ∧ j < 2 ^ 64 then .ok (.int (i / j)) S else .bad
  | _, _, _ => .bad
def opPow : Dt → Dt → Store → Out Dt
  | .int i, .int j, S => if 0 ≤ j ∧ j ≤ 1000000 ∧ i.natAbs < 2 ^ 64 then .ok (.int (i ^ j.toNat)) S else .bad
  | _, _, _ => .bad
def opNeg : Dt → Store → Out Dt
  | .int i, S => .ok (.int (-i)) S
  | _, _ => .bad

section
variable {X : Cx}
/-- list + list, whatever they are read off -/
def rCatL (K : PySem.W.Frag) : R2 := fun x y H Q => ∃ l b xs zs, x = .ref l ∧ y = .ref b ∧ LstAt K H l xs ∧ LstAt K H b zs ∧ xs.length + zs.length ≤ sizeLine ∧ ∀ p, H p = none → Q (.ref p) (upd H p (.lst (xs ++ zs)))
theorem op_catL : OpR X (binaryOp .Add) (rCatL X.K) := by
  intro pins s σ H x y v u Q I rx ry h
  obtain ⟨l, b, xs, zs, rfl, rfl, hH, hB, hz, q⟩ := h
  cases rx
  cases ry
  obtain ⟨its, n, r, e, _⟩ := hH.at_ I
  obtain ⟨its2, n2, r2, e2, _⟩ := hB.at_ I
  have hl := r.length
  have hl2 := r2.length
  have hz' : its.toArray.size + its2.toArray.size ≤ sizeLine := by rw [List.size_toArray, List.size_toArray]; omega
  refine PySem.P.add_list e e2 ?_ hz'
  have ea : its.toArray ++ its2.toArray = (its ++ its2).toArray := by simp
  rw [ea]
  exact ⟨.ref _, _, I.lnew (t' := s.toks) (r.append r2) (by rw [List.length_append]; omega), rfl, q _ I.fresh⟩
theorem od_add : OpD X (binaryOp .Add) opAdd := by
  refine ⟨_, ((op_add (X := X)).or op_add_str).or ((op_catA (X := X)).or (op_catL (X := X))), fun B α S H E x y d e Q rx ry s h => ?_⟩
  have lists : ∀ (xs ys : List Dt), asList S d = some xs → asList S e = some ys → Post (Cx.wr X B) E α S H Q (okList (xs ++ ys) S) → rCatL X.K x y H Q := fun xs ys h1 h2 h3 => by
    obtain ⟨a, vs, rfl, sa, ra⟩ := asList_rep s rx h1
    obtain ⟨b, us, rfl, sb, rb⟩ := asList_rep s ry h2
    unfold okList at h3
    by_cases hl : (xs ++ ys).length ≤ LINE
    · rw [if_pos hl] at h3
      refine ⟨a, b, vs, us, rfl, rfl, sa, sb, ?_, fun p hp => post_new_lst s (ra.append rb) h3 hp⟩
      rw [ra.length, rb.length, ← List.length_append]; exact hl
    · rw [if_neg hl] at h3; exact h3.elim
  unfold opAdd at h
  split at h
  · cases rx; cases ry; exact .inl (.inl ⟨_, _, rfl, rfl, post_ok s (.int _) h⟩)
  · rename_i a b
    cases rx; cases ry
    by_cases hl : a.length + b.length ≤ LINE
    · rw [if_pos hl] at h
      exact .inl (.inr ⟨_, _, rfl, rfl, hl, post_ok s (.str _) h⟩)
    · rw [if_neg hl] at h; exact h.elim
  · rename_i xs ys
    unfold okTup at h
    by_cases hl : (xs ++ ys).length ≤ LINE
    · rw [if_pos hl] at h
      cases rx with
      | tup ox qx =>
        cases ry with
        | tup oy qy =>
          refine .inr (.inl ⟨_, _, _, _, rfl, rfl, ox.sq, oy.sq, ?_, fun z => ?_, fun _ z => ?_, fun _ _ p hp => post_new_tup s (qx.append qy) h hp⟩)
          · rw [qx.length, qy.length, ← List.length_append]; exact hl
          · subst z
            cases qx
            exact post_ok s (.tup oy qy) h
          · subst z
            cases qy
            rw [List.append_nil] at h
            exact post_ok s (.tup ox qx) h
    · rw [if_neg hl] at h; exact h.elim
  · split at h
    · rename_i xs ys h1 h2
      exact .inr (.inr (lists xs ys h1 h2 h))
    · exact h.elim
theorem od_int2 {f : Value → Value → Sem Value} {C : Int → Int → Prop} {g : Int → Int → V} {op : Dt → Dt → Store → Out Dt} (h : OpR X f (rI C g)) (hop : ∀ d e S (Q : Out Dt → Prop), Q (op d e S) → (∃ i j, d = .int i ∧ e = .int j ∧ C i j ∧ ∃ r, op d e S = .ok r S ∧ ∀ W α S H, Rep W α S H (g i j) r) ∨ op d e S = .bad) : OpD X f op := by
  refine ⟨_, h, fun B α S H E x y d e Q rx ry s q => ?_⟩
  rcases hop d e S (fun _ => True) trivial with ⟨i, j, rfl, rfl, hc, r, h1, h2⟩ | hb
  · rw [h1] at q
    cases rx; cases ry
    exact ⟨i, j, rfl, rfl, hc, post_ok s (h2 _ _ _ _) q⟩
  · rw [hb] at q; exact q.elim
theorem od_sub : OpD X (binaryOp .Sub) opSub := by
  refine ⟨_, op_sub, fun B α S H E x y d e Q rx ry s h => ?_⟩
  unfold opSub at h
  split at h
  · cases rx; cases ry; exact ⟨_, _, rfl, rfl, post_ok s (.int _) h⟩
  · exact h.elim
theorem od_mul : OpD X (binaryOp .Mult) opMul := by
  refine ⟨_, op_mul, fun B α S H E x y d e Q rx ry s h => ?_⟩
  unfold opMul at h
  split at h
  · rename_i i j
    by_cases hc : -(2 ^ 64) < i ∧ i < 2 ^ 64
    · rw [if_pos hc] at h; cases rx; cases ry; exact ⟨_, _, rfl, rfl, .inl hc, post_ok s (.int _) h⟩
    · rw [if_neg hc] at h; exact h.elim
  · exact h.elim
theorem od_mod : OpD X (binaryOp .Mod) opMod := by
  refine ⟨_, op_mod, fun B α S H E x y d e Q rx ry s h => ?_⟩
  unfold opMod at h
  split at h
  · rename_i i j
    by_cases hc : 0 < j
    · rw [if_pos hc] at h; cases rx; cases ry; exact ⟨_, _, rfl, rfl, hc, post_ok s (.int _) h⟩
    · rw [if_neg hc] at h; exact h.elim
  · exact h.elim
theorem od_fdiv : OpD X (binaryOp .FloorDiv) opFdiv := by
  refine ⟨_, op_fdivW, fun B α S H E x y d e Q rx ry s h => ?_⟩
  unfold opFdiv at h
  split at h
  · rename_i i j
    by_cases hc : 0 < j ∧ j < 2 ^ 64
    · rw [if_pos hc] at h; cases rx; cases ry
      exact ⟨_, _, rfl, rfl, wide_div (b := 64) hc.1 (by omega) (by decide) (by decide), post_ok s (.int _) h⟩
    · rw [if_neg hc] at h; exact h.elim
  · exact h.elim
theorem od_pow : OpD X (binaryOp .Pow) opPow := by
  refine ⟨_, op_pow, fun B α S H E x y d e Q rx ry s h => ?_⟩
  unfold opPow at h
  split at h
  · rename_i i j
    by_cases hc : 0 ≤ j ∧ j ≤ 1000000 ∧ i.natAbs < 2 ^ 64
    · rw [if_pos hc] at h; cases rx; cases ry; exact ⟨_, _, rfl, rfl, hc, post_ok s (.int _) h⟩
    · rw [if_neg hc] at h; exact h.elim
  · exact h.elim
theorem ud_neg : UnD X (unaryOp .USub) opNeg := by
  refine ⟨_, un_neg, fun B α S H E x d Q rx s h => ?_⟩
  unfold opNeg at h
  split at h
  · cases rx; exact ⟨_, rfl, post_ok s (.int _) h⟩
  · exact h.elim

/-! ### order -/
def cmpI (p : Int → Int → Bool) (q : List Nat → List Nat → Bool) : Dt → Dt → Store → Out Dt
  | .int i, .int j, S => .ok (.bl (p i j)) S
  | .str x, .str y, S => .ok (.bl (q x.cps.toList y.cps.toList)) S
  | _, _, _ => .bad
def opLt := cmpI (fun i j => decide (i < j)) (fun x y => decide (x < y))
def opLe := cmpI (fun i j => decide (i ≤ j)) (fun x y => !decide (y < x))
def opGt := cmpI (fun i j => decide (j < i)) (fun x y => decide (y < x))
def opGe := cmpI (fun i j => decide (j ≤ i)) (fun x y => !decide (x < y))
theorem od_cmp {f : Value → Value → Sem Value} {p : Int → Int → Bool} {q : List Nat → List Nat → Bool} (h1 : OpR X f (rI0 fun i j => .bl (p i j))) (h2 : OpR X f (fun x y H Q => ∃ i j, x = .str i ∧ y = .str j ∧ Q (.bl (q i.cps.toList j.cps.toList)) H)) : OpD X f (cmpI p q) := by
  refine ⟨_, h1.or h2, fun B α S H E x y d e Q rx ry s h => ?_⟩
  unfold cmpI at h
  split at h
  · cases rx; cases ry; exact .inl ⟨_, _, rfl, rfl, post_ok s (.bl _) h⟩
  · cases rx; cases ry; exact .inr ⟨_, _, rfl, rfl, post_ok s (.bl _) h⟩
  · exact h.elim
theorem od_lt : OpD X (compareOp .Lt) opLt := od_cmp op_lt op_lt_str
theorem od_le : OpD X (compareOp .LtE) opLe := od_cmp op_le op_le_str
theorem od_gt : OpD X (compareOp .Gt) opGt := od_cmp op_gt op_gt_str
theorem od_ge : OpD X (compareOp .GtE) opGe := od_cmp op_ge op_ge_str
end
end DL

set_option Elab.async false
set_option linter.all false
set_option maxRecDepth 100000
set_option maxHeartbeats 4000000
/-! what is read as data, each dict off the interpreter's own one: lists may lie where they will -/
namespace DL
open PySem PySem.Spec PyProof.Rows L2
mutual
inductive ReadsN (h : Heap) : Value → PyData → Prop
  | none : ReadsN h .none .none
  | bool (b : Bool) : ReadsN h (.bool b) (.bool b)
  | int (i : Int) (t : Tok) : ReadsN h (.int i t) (.int i)
  | str (x : Str) (t : Tok) : ReadsN h (.str x t) (.str x)
  | list {a : Addr} {o : Obj} {vs : Array Value} {n : Nat} {xs : List PyData} : h.get? a = some o → o.cls = .type "list" → o.data = .seq vs n → ReadsNs h vs.toList xs → ReadsN h (.ref a) (.list xs)
  | tuple {a : Addr} {o : Obj} {vs : Array Value} {n : Nat} {xs : List PyData} : h.get? a = some o → o.cls = .type "tuple" → o.data = .seq vs n → ReadsNs h vs.toList xs → ReadsN h (.ref a) (.tuple xs)
  | dict {a : Addr} {o : Obj} {es : Array DictEntry} {n : Nat} {kvs : List (PyData × PyData)} : (a == sysModules) = false → h.get? a = some o → o.cls = .type "dict" → o.data = .dict es n → ReadsNs h (es.toList.map (·.key)) (kvs.map (·.1)) → ReadsNs h (es.toList.map (·.val)) (kvs.map (·.2)) → ReadsN h (.ref a) (.dict kvs)
inductive ReadsNs (h : Heap) : List Value → List PyData → Prop
  | nil : ReadsNs h [] []
  | cons {v : Value} {vs : List Value} {d : PyData} {ds : List PyData} : ReadsN h v d → ReadsNs h vs ds → ReadsNs h (v :: vs) (d :: ds)
end
mutual
theorem ReadsN.to {h : Heap} : ∀ {v : Value} {d : PyData}, ReadsN h v d → ∃ as, Reads h v d as
  | _, _, .none => ⟨_, .none⟩
  | _, _, .bool b => ⟨_, .bool b⟩
  | _, _, .int i t => ⟨_, .int i t⟩
  | _, _, .str x t => ⟨_, .str x t⟩
  | _, _, .list a b c d => let ⟨_, r⟩ := ReadsNs.to d; ⟨_, .list a b c r⟩
  | _, _, .tuple a b c d => let ⟨_, r⟩ := ReadsNs.to d; ⟨_, .tuple a b c r⟩
  | _, _, .dict _ a b c d e => let ⟨_, r⟩ := ReadsNs.to d; let ⟨_, q⟩ := ReadsNs.to e; ⟨_, .dict a b c r q⟩
theorem ReadsNs.to {h : Heap} : ∀ {vs : List Value} {ds : List PyData}, ReadsNs h vs ds → ∃ as, ReadsAll h vs ds as
  | _, _, .nil => ⟨_, .nil⟩
  | _, _, .cons r t => let ⟨_, r⟩ := ReadsN.to r; let ⟨_, q⟩ := ReadsNs.to t; ⟨_, .cons r q⟩
end
section
variable {prog : Program} {w : World} {h₀ : Heap}
mutual
theorem ReprK.ofN : ∀ {v : Value} {d : PyData}, ReadsN h₀ v d → d.showable = true → d.shown.length ≤ sizeLine → ∃ bs, ReadAtMost h₀ d.depth bs ∧ ReprK prog w bs h₀ d.depth v d.shown
  | _, _, .none, _, _ => ⟨[], (fun _ h => nomatch h), by simp only [PyData.shown]; exact .of_is ReprIs.none _ _ _⟩
  | _, _, .bool b, _, _ => ⟨[], (fun _ h => nomatch h), by simp only [PyData.shown]; exact .of_is (ReprIs.bool b) _ _ _⟩
  | _, _, .int i t, hs, _ => ⟨[], (fun _ h => nomatch h), by simp only [PyData.shown]; exact .of_is (ReprIs.int t (by simpa [PyData.showable] using hs)) _ _ _⟩
  | _, _, .str x t, _, hz => ⟨[], (fun _ h => nomatch h), by simp only [PyData.shown]; exact .of_is (ReprIs.str x t (by simpa only [PyData.shown] using hz)) _ _ _⟩
  | _, _, .list (a := a) (vs := vs) (xs := xs) h1 h2 h3 h4, hs, hz => by
    have hz' : (listText (PyData.shownAll xs)).length ≤ sizeLine := by simpa only [PyData.shown] using hz
    obtain ⟨bs, hb, hk⟩ := ReprAllK.ofNs h4 (by simpa [PyData.showable] using hs) (fun t ht => Nat.le_trans (listText_mem_le ht) hz')
    obtain ⟨as, r⟩ := (ReadsN.list h1 h2 h3 h4).to
    have hna : a ∉ bs := not_mem_of_deeper r (by simp only [PyData.depth]; omega) hb
    refine ⟨a :: bs, ReadAtMost.cons r (by simp only [PyData.depth]; omega) hb, ?_⟩
    simp only [PyData.depth, PyData.shown]
    obtain ⟨l⟩ := vs
    cases l with
    | nil =>
      have h4' : ReadsNs h₀ [] xs := h4
      cases h4'
      simp only [PyData.shownAll, listText_nil]
      exact ReprK.listEmpty h1 h2 h3
    | cons x l => exact ReprK.list h1 h2 h3 hna (by simpa using hk.length_eq) (fun i y e => hk.item i y (by simpa using e))
  | _, _, .tuple (a := a) (xs := xs) h1 h2 h3 h4, hs, hz => by
    have hz' : (tupleText (PyData.shownAll xs)).length ≤ sizeLine := by simpa only [PyData.shown] using hz
    obtain ⟨bs, hb, hk⟩ := ReprAllK.ofNs h4 (by simpa [PyData.showable] using hs) (fun t ht => Nat.le_trans (tupleText_mem_le ht) hz')
    obtain ⟨as, r⟩ := (ReadsN.tuple h1 h2 h3 h4).to
    have hna : a ∉ bs := not_mem_of_deeper r (by simp only [PyData.depth]; omega) hb
    refine ⟨a :: bs, ReadAtMost.cons r (by simp only [PyData.depth]; omega) hb, ?_⟩
    simp only [PyData.depth, PyData.shown]
    exact ReprK.tuple h1 h2 h3 hna hk
  | _, _, .dict (a := a) (es := es) (kvs := kvs) h0 h1 h2 h3 h4 h5, hs, hz => by
    have hz' : (dictText (PyData.shownKv kvs)).length ≤ sizeLine := by simpa only [PyData.shown] using hz
    obtain ⟨hs1, hs2⟩ := PyData.showableKv_split kvs (by simpa [PyData.showable] using hs)
    obtain ⟨b1, hb1, k1⟩ := ReprAllK.ofNs h4 hs1 (fun t ht => let ⟨p, hp, hl⟩ := PyData.shownKv_key_le kvs t ht; Nat.le_trans hl (Nat.le_trans (dictText_mem_le hp) hz'))
    obtain ⟨b2, hb2, k2⟩ := ReprAllK.ofNs h5 hs2 (fun t ht => let ⟨p, hp, hl⟩ := PyData.shownKv_val_le kvs t ht; Nat.le_trans hl (Nat.le_trans (dictText_mem_le hp) hz'))
    obtain ⟨as, r⟩ := (ReadsN.dict h0 h1 h2 h3 h4 h5).to
    have hb : ReadAtMost h₀ (PyData.depthKv kvs) (b1 ++ b2) := (hb1.mono (PyData.depthAll_keys_le kvs)).append (hb2.mono (PyData.depthAll_vals_le kvs))
    have hna : a ∉ b1 ++ b2 := not_mem_of_deeper r (by simp only [PyData.depth]; omega) hb
    refine ⟨a :: (b1 ++ b2), ReadAtMost.cons r (by simp only [PyData.depth]; omega) hb, ?_⟩
    simp only [PyData.depth, PyData.shown, PyData.shownKv_eq]
    exact ReprK.dict h1 h2 h3 h0 hna (ReprEntriesK.of_two es.toList _ _
      (k1.more_le (fun b hb => List.mem_append_left _ hb) (PyData.depthAll_keys_le kvs)) (k2.more_le (fun b hb => List.mem_append_right _ hb) (PyData.depthAll_vals_le kvs)))
theorem ReprAllK.ofNs : ∀ {vs : List Value} {ds : List PyData}, ReadsNs h₀ vs ds → PyData.showableAll ds = true → (∀ t ∈ PyData.shownAll ds, t.length ≤ sizeLine) →
    ∃ bs, ReadAtMost h₀ (PyData.depthAll ds) bs ∧ ReprAllK prog w bs h₀ (PyData.depthAll ds) vs (PyData.shownAll ds)
  | _, _, .nil, _, _ => ⟨[], (fun _ h => nomatch h), by simp only [PyData.shownAll]; exact .nil⟩
  | _, _, .cons (d := d) (ds := ds) r rs, hs, hz => by
    have hs' : d.showable = true ∧ PyData.showableAll ds = true := by simpa [PyData.showableAll] using hs
    obtain ⟨b1, hb1, k1⟩ := ReprK.ofN r hs'.1 (hz _ (by simp only [PyData.shownAll]; exact List.mem_cons_self ..))
    obtain ⟨b2, hb2, k2⟩ := ReprAllK.ofNs rs hs'.2 (fun t ht => hz t (by simp only [PyData.shownAll]; exact List.mem_cons_of_mem _ ht))
    refine ⟨b1 ++ b2, ?_, ?_⟩
    · intro b hm
      simp only [PyData.depthAll]
      rcases List.mem_append.mp hm with hm | hm
      · obtain ⟨d', as', r', hd'⟩ := hb1 b hm
        exact ⟨d', as', r', Nat.le_trans hd' (Nat.le_max_left _ _)⟩
      · obtain ⟨d', as', r', hd'⟩ := hb2 b hm
        exact ⟨d', as', r', Nat.le_trans hd' (Nat.le_max_right _ _)⟩
    · simp only [PyData.depthAll, PyData.shownAll]
      exact .cons ((k1.more fun b hb => List.mem_append_left _ hb).level_le (Nat.le_max_left _ _)) (k2.more_le (fun b hb => List.mem_append_right _ hb) (Nat.le_max_right _ _))
end
theorem showsBy_ofN {a : Addr} {d : PyData} (r : ReadsN h₀ (.ref a) d) (hs : d.showable = true) (hsz : d.shown.length ≤ sizeLine) : ∃ T idr, ShowsBy prog w h₀ a d T idr := by
  obtain ⟨as, rr⟩ := r.to
  cases r with
  | list h1 h2 h3 h4 =>
    rename_i o vs n xs
    have hz' : (listText (PyData.shownAll xs)).length ≤ sizeLine := by simpa only [PyData.shown] using hsz
    obtain ⟨bs, hb, hk⟩ := ReprAllK.ofNs (prog := prog) (w := w) h4 (by simpa [PyData.showable] using hs) (fun t ht => Nat.le_trans (listText_mem_le ht) hz')
    have hna : a ∉ bs := not_mem_of_deeper rr (by simp only [PyData.depth]; omega) hb
    refine ⟨"list", "list.__repr__", F.slot_list_repr.toG, F.slot_list_str, F.slot_list_format, fun s hk0 => ⟨o, hk0 _ _ h1, h2⟩, fun A E s Q hg hu hk0 hQ => ?_⟩
    simp only [PyData.depth] at hu
    simp only [PyData.shown] at hQ
    obtain ⟨l⟩ := vs
    cases l with
    | nil =>
      have h4' : ReadsNs h₀ [] xs := h4
      cases h4'
      simp only [PyData.shownAll, listText_nil] at hQ
      exact call_list_repr_empty ⟨o, hk0 _ _ h1, h2⟩ (hk0 _ _ h1) h3 (hQ s.heap _ _ fun _ _ e => e)
    | cons x l =>
      exact call_list_reprK h1 h2 h3 hna (by simpa using hk.length_eq) (fun i y e => hk.item i y (by simpa using e)) hg (fun b _ => Clear.nil b) hu hk0 hQ hz'
  | tuple h1 h2 h3 h4 =>
    rename_i o vs n xs
    have hz' : (tupleText (PyData.shownAll xs)).length ≤ sizeLine := by simpa only [PyData.shown] using hsz
    obtain ⟨bs, hb, hk⟩ := ReprAllK.ofNs (prog := prog) (w := w) h4 (by simpa [PyData.showable] using hs) (fun t ht => Nat.le_trans (tupleText_mem_le ht) hz')
    have hna : a ∉ bs := not_mem_of_deeper rr (by simp only [PyData.depth]; omega) hb
    refine ⟨"tuple", "tuple.__repr__", F.slot_tuple_repr, F.slot_tuple_str, F.slot_tuple_format, fun s hk0 => ⟨o, hk0 _ _ h1, h2⟩, fun A E s Q hg hu hk0 hQ => ?_⟩
    simp only [PyData.depth] at hu
    simp only [PyData.shown] at hQ
    exact call_tuple_reprK h1 h2 h3 hna hk hg (fun b _ => Clear.nil b) hu hk0 hQ hz'
  | dict h0 h1 h2 h3 h4 h5 =>
    rename_i o es n kvs
    have hz' : (dictText (PyData.shownKv kvs)).length ≤ sizeLine := by simpa only [PyData.shown] using hsz
    obtain ⟨hs1, hs2⟩ := PyData.showableKv_split kvs (by simpa [PyData.showable] using hs)
    obtain ⟨b1, hb1, k1⟩ := ReprAllK.ofNs (prog := prog) (w := w) h4 hs1 (fun t ht => let ⟨p, hp, hl⟩ := PyData.shownKv_key_le kvs t ht; Nat.le_trans hl (Nat.le_trans (dictText_mem_le hp) hz'))
    obtain ⟨b2, hb2, k2⟩ := ReprAllK.ofNs (prog := prog) (w := w) h5 hs2 (fun t ht => let ⟨p, hp, hl⟩ := PyData.shownKv_val_le kvs t ht; Nat.le_trans hl (Nat.le_trans (dictText_mem_le hp) hz'))
    have hb : ReadAtMost h₀ (PyData.depthKv kvs) (b1 ++ b2) := (hb1.mono (PyData.depthAll_keys_le kvs)).append (hb2.mono (PyData.depthAll_vals_le kvs))
    have hna : a ∉ b1 ++ b2 := not_mem_of_deeper rr (by simp only [PyData.depth]; omega) hb
    refine ⟨"dict", "dict.__repr__", F.slot_dict_repr, F.slot_dict_str, F.slot_dict_format, fun s hk0 => ⟨o, hk0 _ _ h1, h2⟩, fun A E s Q hg hu hk0 hQ => ?_⟩
    simp only [PyData.depth] at hu
    simp only [PyData.shown, PyData.shownKv_eq] at hQ
    exact call_dict_reprK h1 h2 h3 h0 hna (ReprEntriesK.of_two es.toList _ _
      (k1.more_le (fun b hb => List.mem_append_left _ hb) (PyData.depthAll_keys_le kvs)) (k2.more_le (fun b hb => List.mem_append_right _ hb) (PyData.depthAll_vals_le kvs))) hg (fun b _ => Clear.nil b) hu hk0 hQ (by rw [← PyData.shownKv_eq]; exact hz')
theorem repr_ofN {A : Around} {E : Value → Shared → Prop} {s : Shared} {Q : Value → Shared → Prop} {a : Addr} {d : PyData} (r : ReadsN h₀ (.ref a) d) (hs : d.showable = true) (hg : A.guards = some []) (hu : A.units + (d.depth + 1) < cLine) (hk0 : ∀ b o, h₀.get? b = some o → s.heap.get? b = some o)
    (hQ : ∀ h' u tk, (∀ b o, s.heap.get? b = some o → h'.get? b = some o) → Q (.str d.shown u) { s with heap := h', toks := tk })
    (hsz : d.shown.length ≤ sizeLine) : wpAny (model prog w) A (call (.builtin "repr") [.ref a]) Q E s := by
  obtain ⟨T, idr, S⟩ := showsBy_ofN (prog := prog) (w := w) r hs hsz
  exact call_repr_slot (by omega) (S.typeIs s hk0) S.slotRepr (S.call A.in1 E s _ hg (by show A.units + 1 + d.depth < cLine; omega) hk0 fun h' u tk hk => ⟨_, _, rfl, hQ h' u tk hk⟩)
end
end DL

set_option Elab.async false
set_option linter.all false
set_option maxRecDepth 100000
set_option maxHeartbeats 4000000
namespace DL
open PySem PySem.Spec PyProof.Rows L2

/-! ### data as the library's data -/
def keyP : Key → PyData
  | .inl i => .int i
  | .inr x => .str x
mutual
def toPy0 : Dt → Option PyData
  | .non => some .none
  | .bl b => some (.bool b)
  | .int i => some (.int i)
  | .str x => some (.str x)
  | .tup ds => (toPys0 ds).map .tuple
  | .lst ds => (toPys0 ds).map .list
  | .dct kvs => (toKvs0 kvs).map .dict
  | _ => none
def toPys0 : List Dt → Option (List PyData)
  | [] => some []
  | d :: ds => match toPy0 d, toPys0 ds with
    | some p, some ps => some (p :: ps)
    | _, _ => none
def toKvs0 : List (Key × Dt) → Option (List (PyData × PyData))
  | [] => some []
  | (k, d) :: ds => match toPy0 d, toKvs0 ds with
    | some p, some ps => some ((keyP k, p) :: ps)
    | _, _ => none
end
def refPy (S : Store) (n : Nat) : Option PyData := match S[n]? with
  | some (.lst ds) => (toPys0 ds).map .list
  | some (.dct kvs) => (toKvs0 kvs).map .dict
  | _ => none
mutual
def toPy (S : Store) : Dt → Option PyData
  | .non => some .none
  | .bl b => some (.bool b)
  | .int i => some (.int i)
  | .str x => some (.str x)
  | .tup ds => (toPys S ds).map .tuple
  | .lst ds => (toPys S ds).map .list
  | .dct kvs => (toKvs S kvs).map .dict
  | .ref n => refPy S n
  | .fn _ => none
def toPys (S : Store) : List Dt → Option (List PyData)
  | [] => some []
  | d :: ds => match toPy S d, toPys S ds with
    | some p, some ps => some (p :: ps)
    | _, _ => none
def toKvs (S : Store) : List (Key × Dt) → Option (List (PyData × PyData))
  | [] => some []
  | (k, d) :: ds => match toPy S d, toKvs S ds with
    | some p, some ps => some ((keyP k, p) :: ps)
    | _, _ => none
end

section
variable {X : Cx} {B : List Addr} {α : List Addr} {S : Store} {H : Hp} {s : Shared} {pins : List (Addr × Obj)} {σ : Sl}
theorem pairs_key {P : Program} {w : World} : ∀ {es : List DictEntry} {vs : List (Key × Value)}, Pairs (mixKind P w) es vs → Paired (fun (e : DictEntry) (p : Key × Value) => keyIs p.1 e.key = true ∧ e.val = p.2) es vs
  | _, _, .nil => .nil
  | _, _, .cons h1 h2 t => .cons ⟨h1, h2⟩ (pairs_key t)
theorem reads_key {h : Heap} {k : Key} {v : Value} (e : keyIs k v = true) : ReadsN h v (keyP k) := by
  rcases keyIs_shape e with ⟨i, t, rfl, rfl⟩ | ⟨x, t, rfl, rfl⟩
  · exact .int i t
  · exact .str x t
theorem pair_kv : ∀ {es : List DictEntry} {vs : List (Key × Value)} {kvs : List (Key × V)}, Paired (fun (e : DictEntry) (p : Key × Value) => keyIs p.1 e.key = true ∧ e.val = p.2) es vs → KV kvs vs → Paired (fun (e : DictEntry) (p : Key × V) => keyIs p.1 e.key = true ∧ RelV p.2 e.val) es kvs
  | _, _, _, .nil, .nil => .nil
  | _, _, _, .cons ⟨q1, q2⟩ t, .cons ⟨r1, r2⟩ rr => .cons ⟨r1 ▸ q1, q2 ▸ r2⟩ (pair_kv t rr)
/-- what a dict is read as, from its entries -/
theorem dict_entries (I : Inv X pins σ H s) {a : Addr} {kvs : List (Key × V)} (hd : Rd H a (.dK kvs)) : ∃ o es ep, s.heap.get? a = some o ∧ o.cls = .type "dict" ∧ o.data = .dict es ep ∧ Paired (fun (e : DictEntry) (p : Key × V) => keyIs p.1 e.key = true ∧ RelV p.2 e.val) es.toList kvs := by
  obtain ⟨z, y, vs, r, o, es, ep, h1, h2, h3, h4, h5, h6⟩ := hd.ok I.hok
  exact ⟨o, es, ep, h1, h2.1, h3, pair_kv (pairs_key h5) r⟩
theorem kdc_entries (I : Inv X pins σ H s) {a : Addr} {kvs : List (Key × V)} (hd : KDc X.K X.w a kvs) : ∃ o es ep, s.heap.get? a = some o ∧ o.cls = .type "dict" ∧ o.data = .dict es ep ∧ Paired (fun (e : DictEntry) (p : Key × V) => keyIs p.1 e.key = true ∧ RelV p.2 e.val) es.toList kvs := by
  obtain ⟨es, n, D, hp⟩ := hd
  refine ⟨_, es, n, I.kIn _ _ D.at_, rfl, rfl, ?_⟩
  refine Paired.mapP hp fun e p ⟨z, t, h1, h2, h3⟩ => ⟨?_, h3⟩
  rw [h1, h2]
  exact keyIs_str z t
mutual
theorem Rep.reads0 (I : Inv X pins σ H s) (sm : Sim (Cx.wr X B) α S H) : ∀ (d : Dt) (v : V) (u : Value) (p : PyData), Rep (Cx.wr X B) α S H v d → RelV v u → toPy0 d = some p → ReadsN s.heap u p
  | .non, _, _, _, h, r, e => by cases h; cases e; cases r; exact .none
  | .bl b, _, _, _, h, r, e => by cases h; cases e; cases r; exact .bool b
  | .int i, _, _, _, h, r, e => by cases h; cases e; obtain ⟨t, rfl⟩ := r; exact .int i t
  | .str x, _, _, _, h, r, e => by cases h; cases e; obtain ⟨t, rfl⟩ := r; exact .str x t
  | .tup ds, _, _, _, h, r, e => by
    cases h with
    | tup o q =>
      cases r
      unfold toPy0 at e
      obtain ⟨ps, e1, rfl⟩ := Option.map_eq_some_iff.mp e
      obtain ⟨its, rv, ⟨ob, ho, hc, n, hd⟩, _⟩ := I.tuple o.sq
      have h1 := Reps.reads0 I sm ds _ its ps q rv e1
      exact .tuple ho hc hd (by simpa using h1)
  | .lst ds, _, _, _, h, r, e => by
    cases h with
    | lst o q =>
      cases r
      unfold toPy0 at e
      obtain ⟨ps, e1, rfl⟩ := Option.map_eq_some_iff.mp e
      obtain ⟨its, n, rv, ho, _⟩ := o.at_.at_ I
      have h1 := Reps.reads0 I sm ds _ its ps q rv e1
      exact .list ho rfl rfl (by simpa using h1)
  | .dct kvs, _, _, _, h, r, e => by
    cases h with
    | dct o q =>
      cases r
      unfold toPy0 at e
      obtain ⟨ps, e1, rfl⟩ := Option.map_eq_some_iff.mp e
      rename_i a vkvs
      have hne : (a == sysModules) = false := by
        rcases o with ⟨_, r⟩ | ⟨es, n, D, _⟩
        · exact (dk_of I.hok r).2.1
        · exact D.low
      obtain ⟨ob, es, ep, ho, hc, hd, hp⟩ : ∃ o es ep, s.heap.get? a = some o ∧ o.cls = .type "dict" ∧ o.data = .dict es ep ∧ Paired (fun (e : DictEntry) (p : Key × V) => keyIs p.1 e.key = true ∧ RelV p.2 e.val) es.toList vkvs := by
        rcases o with ⟨_, r⟩ | k
        · exact dict_entries I (.inl r)
        · exact kdc_entries I k
      obtain ⟨h1, h2⟩ := KReps.reads0 I sm kvs _ es.toList ps q hp e1
      exact .dict hne ho hc hd h1 h2
  | .ref n, _, _, _, h, r, e => by
    cases e
  | .fn _, _, _, _, _, _, e => by cases e
theorem Reps.reads0 (I : Inv X pins σ H s) (sm : Sim (Cx.wr X B) α S H) : ∀ (ds : List Dt) (vs : List V) (us : List Value) (ps : List PyData), Reps (Cx.wr X B) α S H vs ds → Vals vs us → toPys0 ds = some ps → ReadsNs s.heap us ps
  | [], _, _, _, h, r, e => by cases h; cases e; cases r; exact .nil
  | d :: ds, _, _, _, h, r, e => by
    cases h with
    | cons h1 h2 =>
      cases r with
      | cons r1 r2 =>
        unfold toPys0 at e
        cases e1 : toPy0 d with
        | none => simp only [e1] at e; cases e
        | some p =>
          cases e2 : toPys0 ds with
          | none => simp only [e1, e2] at e; cases e
          | some ps =>
            simp only [e1, e2] at e
            cases e
            have q1 := Rep.reads0 I sm d _ _ p h1 r1 e1
            have q3 := Reps.reads0 I sm ds _ _ ps h2 r2 e2
            exact .cons q1 q3
theorem KReps.reads0 (I : Inv X pins σ H s) (sm : Sim (Cx.wr X B) α S H) : ∀ (ds : List (Key × Dt)) (vs : List (Key × V)) (us : List DictEntry) (ps : List (PyData × PyData)), KReps (Cx.wr X B) α S H vs ds → Paired (fun (e : DictEntry) (p : Key × V) => keyIs p.1 e.key = true ∧ RelV p.2 e.val) us vs → toKvs0 ds = some ps →
    ReadsNs s.heap (us.map (·.key)) (ps.map (·.1)) ∧ ReadsNs s.heap (us.map (·.val)) (ps.map (·.2))
  | [], _, _, _, h, r, e => by cases h; cases e; cases r; exact ⟨.nil, .nil⟩
  | (k, d) :: ds, _, _, _, h, r, e => by
    cases h with
    | cons h1 h2 =>
      cases r with
      | cons r1 r2 =>
        unfold toKvs0 at e
        cases e1 : toPy0 d with
        | none => simp only [e1] at e; cases e
        | some p =>
          cases e2 : toKvs0 ds with
          | none => simp only [e1, e2] at e; cases e
          | some ps =>
            simp only [e1, e2] at e
            cases e
            have q1 := Rep.reads0 I sm d _ _ p h1 r1.2 e1
            obtain ⟨q3, q4⟩ := KReps.reads0 I sm ds _ _ ps h2 r2 e2
            exact ⟨.cons (reads_key r1.1) q3, .cons q1 q4⟩
end
mutual
theorem Rep.reads (I : Inv X pins σ H s) (sm : Sim (Cx.wr X B) α S H) : ∀ (d : Dt) (v : V) (u : Value) (p : PyData), Rep (Cx.wr X B) α S H v d → RelV v u → toPy S d = some p → ReadsN s.heap u p
  | .non, _, _, _, h, r, e => by cases h; cases e; cases r; exact .none
  | .bl b, _, _, _, h, r, e => by cases h; cases e; cases r; exact .bool b
  | .int i, _, _, _, h, r, e => by cases h; cases e; obtain ⟨t, rfl⟩ := r; exact .int i t
  | .str x, _, _, _, h, r, e => by cases h; cases e; obtain ⟨t, rfl⟩ := r; exact .str x t
  | .tup ds, _, _, _, h, r, e => by
    cases h with
    | tup o q =>
      cases r
      unfold toPy at e
      obtain ⟨ps, e1, rfl⟩ := Option.map_eq_some_iff.mp e
      obtain ⟨its, rv, ⟨ob, ho, hc, n, hd⟩, _⟩ := I.tuple o.sq
      have h1 := Reps.reads I sm ds _ its ps q rv e1
      exact .tuple ho hc hd (by simpa using h1)
  | .lst ds, _, _, _, h, r, e => by
    cases h with
    | lst o q =>
      cases r
      unfold toPy at e
      obtain ⟨ps, e1, rfl⟩ := Option.map_eq_some_iff.mp e
      obtain ⟨its, n, rv, ho, _⟩ := o.at_.at_ I
      have h1 := Reps.reads I sm ds _ its ps q rv e1
      exact .list ho rfl rfl (by simpa using h1)
  | .dct kvs, _, _, _, h, r, e => by
    cases h with
    | dct o q =>
      cases r
      unfold toPy at e
      obtain ⟨ps, e1, rfl⟩ := Option.map_eq_some_iff.mp e
      rename_i a vkvs
      have hne : (a == sysModules) = false := by
        rcases o with ⟨_, r⟩ | ⟨es, n, D, _⟩
        · exact (dk_of I.hok r).2.1
        · exact D.low
      obtain ⟨ob, es, ep, ho, hc, hd, hp⟩ : ∃ o es ep, s.heap.get? a = some o ∧ o.cls = .type "dict" ∧ o.data = .dict es ep ∧ Paired (fun (e : DictEntry) (p : Key × V) => keyIs p.1 e.key = true ∧ RelV p.2 e.val) es.toList vkvs := by
        rcases o with ⟨_, r⟩ | k
        · exact dict_entries I (.inl r)
        · exact kdc_entries I k
      obtain ⟨h1, h2⟩ := KReps.reads I sm kvs _ es.toList ps q hp e1
      exact .dict hne ho hc hd h1 h2
  | .ref n, _, _, _, h, r, e => by
    cases h with
    | ref ha =>
      cases r
      unfold toPy refPy at e
      cases hn : S[n]? with
      | none => simp only [hn] at e; cases e
      | some mo =>
        simp only [hn] at e
        have mr := sm.obj n _ _ ha hn
        cases mo with
        | gone => cases e
        | lst ds =>
          obtain ⟨ps, e1, rfl⟩ := Option.map_eq_some_iff.mp e
          obtain ⟨vs, hv, q⟩ := mr
          obtain ⟨its, n', rv, ho, _⟩ := LstAt.at_ I (.inl (.inl hv))
          have h1 := Reps.reads0 I sm ds _ its ps q rv e1
          exact .list ho rfl rfl (by simpa using h1)
        | dct kvs =>
          obtain ⟨ps, e1, rfl⟩ := Option.map_eq_some_iff.mp e
          obtain ⟨vs, hv, q⟩ := mr
          obtain ⟨ob, es, ep, ho, hc, hd, hp⟩ := dict_entries I (.inl hv)
          have hne := (dk_of I.hok hv).2.1
          obtain ⟨h1, h2⟩ := KReps.reads0 I sm kvs _ es.toList ps q hp e1
          exact .dict hne ho hc hd h1 h2
  | .fn _, _, _, _, _, _, e => by cases e
theorem Reps.reads (I : Inv X pins σ H s) (sm : Sim (Cx.wr X B) α S H) : ∀ (ds : List Dt) (vs : List V) (us : List Value) (ps : List PyData), Reps (Cx.wr X B) α S H vs ds → Vals vs us → toPys S ds = some ps → ReadsNs s.heap us ps
  | [], _, _, _, h, r, e => by cases h; cases e; cases r; exact .nil
  | d :: ds, _, _, _, h, r, e => by
    cases h with
    | cons h1 h2 =>
      cases r with
      | cons r1 r2 =>
        unfold toPys at e
        cases e1 : toPy S d with
        | none => simp only [e1] at e; cases e
        | some p =>
          cases e2 : toPys S ds with
          | none => simp only [e1, e2] at e; cases e
          | some ps =>
            simp only [e1, e2] at e
            cases e
            have q1 := Rep.reads I sm d _ _ p h1 r1 e1
            have q3 := Reps.reads I sm ds _ _ ps h2 r2 e2
            exact .cons q1 q3
theorem KReps.reads (I : Inv X pins σ H s) (sm : Sim (Cx.wr X B) α S H) : ∀ (ds : List (Key × Dt)) (vs : List (Key × V)) (us : List DictEntry) (ps : List (PyData × PyData)), KReps (Cx.wr X B) α S H vs ds → Paired (fun (e : DictEntry) (p : Key × V) => keyIs p.1 e.key = true ∧ RelV p.2 e.val) us vs → toKvs S ds = some ps →
    ReadsNs s.heap (us.map (·.key)) (ps.map (·.1)) ∧ ReadsNs s.heap (us.map (·.val)) (ps.map (·.2))
  | [], _, _, _, h, r, e => by cases h; cases e; cases r; exact ⟨.nil, .nil⟩
  | (k, d) :: ds, _, _, _, h, r, e => by
    cases h with
    | cons h1 h2 =>
      cases r with
      | cons r1 r2 =>
        unfold toKvs at e
        cases e1 : toPy S d with
        | none => simp only [e1] at e; cases e
        | some p =>
          cases e2 : toKvs S ds with
          | none => simp only [e1, e2] at e; cases e
          | some ps =>
            simp only [e1, e2] at e
            cases e
            have q1 := Rep.reads I sm d _ _ p h1 r1.2 e1
            obtain ⟨q3, q4⟩ := KReps.reads I sm ds _ _ ps h2 r2 e2
            exact ⟨.cons (reads_key r1.1) q3, .cons q1 q4⟩
end

/-! ### == and !=, repr -/
def eqP (S : Store) (d e : Dt) : Option Bool := match toPy S d, toPy S e with
  | some p, some q => if p.canLay0 && q.canLay0 && decide (p.depth ≤ 200) then some (PyData.eqv p q) else none
  | _, _ => none
/-- t == (): of any tuple t -/
def noneT : Dt → Dt → Option Bool
  | .tup ds, .tup [] => some ds.isEmpty
  | .str x, .str y => some (x == y)
  | .lst ds, .lst [] => some ds.isEmpty
  | _, _ => none
def opEq : Dt → Dt → Store → Out Dt := fun d e S => match noneT d e with
  | some b => .ok (.bl b) S
  | none => match eqP S d e with
    | some b => .ok (.bl b) S
    | none => .bad
def opNe : Dt → Dt → Store → Out Dt := fun d e S => match noneT d e with
  | some b => .ok (.bl (!b)) S
  | none => match eqP S d e with
    | some b => .ok (.bl (!b)) S
    | none => .bad
def reprP (S : Store) (d : Dt) : Option Str := match toPy S d with
  | some p => if p.showable && decide (p.depth ≤ 200) && decide (p.shown.length ≤ LINE) then some p.shown else none
  | none => none
def opRepr : List Dt → Store → Out Dt := fun ds S => match ds with
  | [d] => (match reprP S d with | some x => .ok (.str x) S | none => .bad)
  | _ => .bad
end
section
variable {X : Cx}
/-- t == (), t != () -/
def rNoneT (K : PySem.W.Frag) (neg : Bool) : R2 := fun x y H Q => ∃ a b xs, x = .ref a ∧ y = .ref b ∧ SqT K H a xs ∧ SqT K H b [] ∧ Q (.bl (if neg then !xs.isEmpty else xs.isEmpty)) H
theorem op_eqNoneT (hu : X.A.units < cLine) : OpR X (compareOp .Eq) (rNoneT X.K false) := by
  intro pins s σ H x y v u Q I rx ry h
  obtain ⟨a, b, xs, rfl, rfl, h1, h2, q⟩ := h
  cases rx; cases ry
  obtain ⟨i1, r1, p1, _⟩ := I.tuple h1
  obtain ⟨i2, r2, p2, _⟩ := I.tuple h2
  cases r2
  refine SeqAt.eq_tupleAt (e := fun _ => true) (items := i1.toArray) (items2 := #[]) p1 p2 hu (fun j _ h2 => absurd h2 (by simp)) ?_
  have e : ((List.range (min i1.toArray.size (#[] : Array Value).size)).all (fun _ => true) && i1.toArray.size == (#[] : Array Value).size) = xs.isEmpty := by
    have l := r1.length
    cases xs with
    | nil => cases r1; rfl
    | cons z zs => cases r1; simp
  rw [e]
  exact ⟨.bl _, H, I, rfl, q⟩
theorem op_neNoneT (hu : X.A.units < cLine) : OpR X (compareOp .NotEq) (rNoneT X.K true) := by
  intro pins s σ H x y v u Q I rx ry h
  obtain ⟨a, b, xs, rfl, rfl, h1, h2, q⟩ := h
  cases rx; cases ry
  obtain ⟨i1, r1, p1, _⟩ := I.tuple h1
  obtain ⟨i2, r2, p2, _⟩ := I.tuple h2
  cases r2
  refine SeqAt.RcNeAt.tuples (e := fun _ => true) (items := i1.toArray) (items2 := #[]) p1 p2 hu (fun j _ h2 => absurd h2 (by simp)) X.prog X.w _ _ ?_
  have e : (!((List.range (min i1.toArray.size (#[] : Array Value).size)).all (fun _ => true) && i1.toArray.size == (#[] : Array Value).size)) = !xs.isEmpty := by
    have l := r1.length
    cases xs with
    | nil => cases r1; rfl
    | cons z zs => cases r1; simp
  rw [e]
  exact ⟨.bl _, H, I, rfl, q⟩
/-- l == [], l != [] -/
def rNoneL (K : PySem.W.Frag) (neg : Bool) : R2 := fun x y H Q => ∃ a b xs, x = .ref a ∧ y = .ref b ∧ LstAt K H a xs ∧ LstAt K H b [] ∧ Q (.bl (if neg then !xs.isEmpty else xs.isEmpty)) H
theorem op_eqNoneL (hu : X.A.units < cLine) : OpR X (compareOp .Eq) (rNoneL X.K false) := by
  intro pins s σ H x y v u Q I rx ry h
  obtain ⟨a, b, xs, rfl, rfl, h1, h2, q⟩ := h
  cases rx; cases ry
  obtain ⟨i1, n1, r1, p1, _⟩ := LstAt.at_ I h1
  obtain ⟨i2, n2, r2, p2, _⟩ := LstAt.at_ I h2
  cases r2
  have q1 : s.heap.IsList a i1.toArray := ⟨_, p1, rfl, n1, rfl⟩
  have q2 : s.heap.IsList b (#[] : Array Value) := ⟨_, p2, rfl, n2, rfl⟩
  cases r1 with
  | nil => exact SeqAt.eq_listAt (e := fun _ => true) q1 q2 rfl hu (fun j _ h2 => absurd h2 (by simp)) ⟨.bl _, H, I, rfl, q⟩
  | cons z zs => exact SeqAt.eq_list_lengthsAt q1 q2 (by simp) hu ⟨.bl _, H, I, rfl, q⟩
theorem op_neNoneL (hu : X.A.units < cLine) : OpR X (compareOp .NotEq) (rNoneL X.K true) := by
  intro pins s σ H x y v u Q I rx ry h
  obtain ⟨a, b, xs, rfl, rfl, h1, h2, q⟩ := h
  cases rx; cases ry
  obtain ⟨i1, n1, r1, p1, _⟩ := LstAt.at_ I h1
  obtain ⟨i2, n2, r2, p2, _⟩ := LstAt.at_ I h2
  cases r2
  have q1 : s.heap.IsList a i1.toArray := ⟨_, p1, rfl, n1, rfl⟩
  have q2 : s.heap.IsList b (#[] : Array Value) := ⟨_, p2, rfl, n2, rfl⟩
  cases r1 with
  | nil => exact SeqAt.RcNeAt.lists (e := fun _ => true) q1 q2 rfl hu (fun j _ h2 => absurd h2 (by simp)) X.prog X.w _ _ ⟨.bl _, H, I, rfl, q⟩
  | cons z zs => exact SeqAt.RcNeAt.lists_lengths q1 q2 (by simp) hu X.prog X.w _ _ ⟨.bl _, H, I, rfl, q⟩
theorem OffL.lat {W : Wr} {α : List Addr} {S : Store} {H : Hp} {a : Addr} {xs : List V} (h : OffL W α S H a xs) : LstAt W.K H a xs := by
  rcases h with ⟨_, r⟩ | k
  · exact .inl r
  · exact .inr k
theorem noneT_rep {W : Wr} {α : List Addr} {S : Store} {H : Hp} {x y : V} {d e : Dt} {b : Bool} (rx : Rep W α S H x d) (ry : Rep W α S H y e) (h : noneT d e = some b) : (∃ a c xs, x = .ref a ∧ y = .ref c ∧ SqT W.K H a xs ∧ SqT W.K H c [] ∧ xs.isEmpty = b) ∨ (∃ i j, x = .str i ∧ y = .str j ∧ decide (V.str i = V.str j) = b) ∨ (∃ a c xs, x = .ref a ∧ y = .ref c ∧ LstAt W.K H a xs ∧ LstAt W.K H c [] ∧ xs.isEmpty = b) := by
  unfold noneT at h
  split at h
  · cases rx with
    | tup o1 q1 =>
      cases ry with
      | tup o2 q2 =>
        cases q2
        cases h
        refine .inl ⟨_, _, _, rfl, rfl, o1.sq, o2.sq, ?_⟩
        cases q1 <;> rfl
  · cases rx; cases ry
    cases h
    exact .inr (.inl ⟨_, _, rfl, rfl, dec_str⟩)
  · cases rx with
    | lst o1 q1 =>
      cases ry with
      | lst o2 q2 =>
        cases q2
        cases h
        refine .inr (.inr ⟨_, _, _, rfl, rfl, o1.lat, o2.lat, ?_⟩)
        cases q1 <;> rfl
  · cases h
theorem od_eq (hu : X.A.units + 200 < cLine) : OpD X (compareOp .Eq) opEq := by
  have key : OpR X (compareOp .Eq) (fun x y H Q => ∃ B α S d e p q, Rep (Cx.wr X B) α S H x d ∧ Rep (Cx.wr X B) α S H y e ∧ Sim (Cx.wr X B) α S H ∧ toPy S d = some p ∧ toPy S e = some q ∧ p.canLay0 = true ∧ q.canLay0 = true ∧ p.depth ≤ 200 ∧ Q (.bl (PyData.eqv p q)) H) := by
    intro pins s σ H x y v u Q I rx ry h
    obtain ⟨B, α, S, d, e, p, q, r1, r2, sm, e1, e2, c1, c2, dp, hq⟩ := h
    obtain ⟨as, k1⟩ := (Rep.reads I sm d x v p r1 rx e1).to
    obtain ⟨bs, k2⟩ := (Rep.reads I sm e y u q r2 ry e2).to
    exact SeqAt.compareEq_reads k1 k2 c1 c2 (by omega) ⟨.bl _, H, I, rfl, hq⟩
  refine ⟨_, (((op_eqNoneT (X := X) (by omega)).or (op_eq (X := X))).or (op_eqNoneL (X := X) (by omega))).or key, fun B α S H E x y d e Q rx ry s h => ?_⟩
  · unfold opEq at h
    cases hn : noneT d e with
    | some b =>
      simp only [hn] at h
      rcases noneT_rep rx ry hn with ⟨a, c, xs, g1, g2, g3, g4, rfl⟩ | ⟨i, j, rfl, rfl, rfl⟩ | ⟨a, c, xs, g1, g2, g3, g4, rfl⟩
      · exact .inl (.inl (.inl ⟨a, c, xs, g1, g2, g3, g4, post_ok s (.bl _) h⟩))
      · exact .inl (.inl (.inr ⟨rfl, post_ok s (.bl _) h⟩))
      · exact .inl (.inr ⟨a, c, xs, g1, g2, g3, g4, post_ok s (.bl _) h⟩)
    | none =>
    simp only [hn] at h
    unfold eqP at h
    cases e1 : toPy S d with
    | none => simp only [e1] at h; exact h.elim
    | some p =>
      cases e2 : toPy S e with
      | none => simp only [e1, e2] at h; exact h.elim
      | some q =>
        simp only [e1, e2] at h
        by_cases hc : (p.canLay0 && q.canLay0 && decide (p.depth ≤ 200)) = true
        · rw [if_pos hc] at h
          simp only [Bool.and_eq_true, decide_eq_true_eq] at hc
          exact .inr ⟨B, α, S, d, e, p, q, rx, ry, s, e1, e2, hc.1.1, hc.1.2, hc.2, post_ok s (.bl _) h⟩
        · rw [if_neg hc] at h; exact h.elim
theorem od_ne (hu : X.A.units + 200 < cLine) : OpD X (compareOp .NotEq) opNe := by
  have key : OpR X (compareOp .NotEq) (fun x y H Q => ∃ B α S d e p q, Rep (Cx.wr X B) α S H x d ∧ Rep (Cx.wr X B) α S H y e ∧ Sim (Cx.wr X B) α S H ∧ toPy S d = some p ∧ toPy S e = some q ∧ p.canLay0 = true ∧ q.canLay0 = true ∧ p.depth ≤ 200 ∧ Q (.bl (!PyData.eqv p q)) H) := by
    intro pins s σ H x y v u Q I rx ry h
    obtain ⟨B, α, S, d, e, p, q, r1, r2, sm, e1, e2, c1, c2, dp, hq⟩ := h
    obtain ⟨as, k1⟩ := (Rep.reads I sm d x v p r1 rx e1).to
    obtain ⟨bs, k2⟩ := (Rep.reads I sm e y u q r2 ry e2).to
    exact SeqAt.compareNe_reads k1 k2 c1 c2 (by omega) ⟨.bl _, H, I, rfl, hq⟩
  refine ⟨_, (((op_neNoneT (X := X) (by omega)).or (op_ne (X := X))).or (op_neNoneL (X := X) (by omega))).or key, fun B α S H E x y d e Q rx ry s h => ?_⟩
  · unfold opNe at h
    cases hn : noneT d e with
    | some b =>
      simp only [hn] at h
      rcases noneT_rep rx ry hn with ⟨a, c, xs, g1, g2, g3, g4, rfl⟩ | ⟨i, j, rfl, rfl, rfl⟩ | ⟨a, c, xs, g1, g2, g3, g4, rfl⟩
      · exact .inl (.inl (.inl ⟨a, c, xs, g1, g2, g3, g4, post_ok s (.bl _) h⟩))
      · exact .inl (.inl (.inr ⟨rfl, post_ok s (.bl _) h⟩))
      · exact .inl (.inr ⟨a, c, xs, g1, g2, g3, g4, post_ok s (.bl _) h⟩)
    | none =>
    simp only [hn] at h
    unfold eqP at h
    cases e1 : toPy S d with
    | none => simp only [e1] at h; exact h.elim
    | some p =>
      cases e2 : toPy S e with
      | none => simp only [e1, e2] at h; exact h.elim
      | some q =>
        simp only [e1, e2] at h
        by_cases hc : (p.canLay0 && q.canLay0 && decide (p.depth ≤ 200)) = true
        · rw [if_pos hc] at h
          simp only [Bool.and_eq_true, decide_eq_true_eq] at hc
          exact .inr ⟨B, α, S, d, e, p, q, rx, ry, s, e1, e2, hc.1.1, hc.1.2, hc.2, post_ok s (.bl _) h⟩
        · rw [if_neg hc] at h; exact h.elim
theorem cd_repr (hgu : X.A.guards = some []) (hu : X.A.units + 210 < cLine) : CallD X (.builtin "repr") opRepr := by
  refine ⟨fun xs H Q => ∃ B α S x d p, xs = [x] ∧ Rep (Cx.wr X B) α S H x d ∧ Sim (Cx.wr X B) α S H ∧ toPy S d = some p ∧ p.showable = true ∧ p.depth ≤ 200 ∧ p.shown.length ≤ LINE ∧ Q (.str p.shown) H, ?_, ?_⟩
  · intro pins s σ H xs us Q I r h
    obtain ⟨B, α, S, x, d, p, rfl, r1, sm, e1, sh, dp, len, hq⟩ := h
    obtain ⟨u, rfl, ru⟩ := vals1 r
    have k1 := Rep.reads I sm d x u p r1 ru e1
    have fin : ∀ t, EP X pins σ Q (.str p.shown t) { s with toks := t + 1 } := fun t => ⟨.str _, H, I.tok _, ⟨_, rfl⟩, hq⟩
    cases k1 with
    | none => exact PySem.P.repr_of_none (fin s.toks)
    | bool b => exact PySem.P.repr_of_bool (fin s.toks)
    | int i t => exact PySem.P.repr_of_int (of_decide_eq_true sh) (fin s.toks)
    | str y t => exact PySem.P.repr_of_str (fin s.toks) len
    | list a1 a2 a3 a4 => exact repr_ofN (.list a1 a2 a3 a4) sh hgu (by omega) (fun _ _ z => z) (fun h' t tk k => ⟨.str _, H, I.kept (t' := tk) k, ⟨_, rfl⟩, hq⟩) len
    | tuple a1 a2 a3 a4 => exact repr_ofN (.tuple a1 a2 a3 a4) sh hgu (by omega) (fun _ _ z => z) (fun h' t tk k => ⟨.str _, H, I.kept (t' := tk) k, ⟨_, rfl⟩, hq⟩) len
    | dict a0 a1 a2 a3 a4 a5 => exact repr_ofN (.dict a0 a1 a2 a3 a4 a5) sh hgu (by omega) (fun _ _ z => z) (fun h' t tk k => ⟨.str _, H, I.kept (t' := tk) k, ⟨_, rfl⟩, hq⟩) len
  · intro B α S H E xs ds Q r s h
    unfold opRepr at h
    split at h
    · rename_i d
      cases r with
      | cons r1 r2 =>
        cases r2
        unfold reprP at h
        cases e1 : toPy S d with
        | none => simp only [e1] at h; exact h.elim
        | some p =>
          simp only [e1] at h
          by_cases hc : (p.showable && decide (p.depth ≤ 200) && decide (p.shown.length ≤ LINE)) = true
          · rw [if_pos hc] at h
            simp only [Bool.and_eq_true, decide_eq_true_eq] at hc
            exact ⟨B, α, S, _, d, p, rfl, r1, s, e1, hc.1.1, hc.1.2, hc.2, post_ok s (.str _) h⟩
          · rw [if_neg hc] at h; exact h.elim
    · exact h.elim
end
end DL

set_option Elab.async false
set_option linter.all false
set_option maxRecDepth 100000
set_option maxHeartbeats 4000000
namespace DL
open PySem PySem.Spec PyProof.Rows L2

/-! ### in, not in, is -/
def flatD : Dt → Bool
  | .non => true
  | .bl _ => true
  | .int _ => true
  | .str _ => true
  | _ => false
def toV : Dt → V
  | .bl b => .bl b
  | .int i => .int i
  | .str x => .str x
  | _ => .non
def keyD : Dt → Option Key
  | .int i => some (.inl i)
  | .str x => some (.inr x)
  | _ => none
/-- a key that may be asked for: a text, or an int where some key is one -/
def okKey (kvs : List (Key × Dt)) : Key → Bool
  | .inr _ => true
  | .inl _ => kvs.any fun p => p.1.isLeft
def lookD (kvs : List (Key × Dt)) (k : Key) : Option Dt := (kvs.find? fun kv => decide (kv.1 = k)).map (·.2)
def inP (S : Store) (d e : Dt) : Option Bool := match d, e with
  | .str x, .str y => if x.length = 1 then some (decide (x.cps.getD 0 0 ∈ y.cps.toList)) else none
  | d, e => match asSeq S e with
    | some ds => if flatD d && ds.all flatD then some (inV (toV d) (ds.map toV)) else none
    | none => match asDict S e, keyD d with
      | some kvs, some k => if okKey kvs k = true then some (lookD kvs k).isSome else none
      | _, _ => none
def opIn : Dt → Dt → Store → Out Dt := fun d e S => match inP S d e with
  | some b => .ok (.bl b) S
  | none => .bad
def opNotIn : Dt → Dt → Store → Out Dt := fun d e S => match inP S d e with
  | some b => .ok (.bl (!b)) S
  | none => .bad
def isP : Dt → Dt → Option Bool
  | .bl a, .bl b => some (decide (a = b))
  | .non, .non => some true
  | .fn _, .non => none
  | _, .non => some false
  | _, _ => none
def opIs : Dt → Dt → Store → Out Dt := fun d e S => match isP d e with
  | some b => .ok (.bl b) S
  | none => .bad
def opIsNot : Dt → Dt → Store → Out Dt := fun d e S => match isP d e with
  | some b => .ok (.bl (!b)) S
  | none => .bad
section
variable {W : Wr} {α : List Addr} {S : Store} {H : Hp}
theorem Rep.flat {v : V} {d : Dt} (r : Rep W α S H v d) (h : flatD d = true) : v = toV d ∧ flatV v = true := by
  cases d <;> first | (cases h; done) | (cases r; exact ⟨rfl, rfl⟩)
theorem Reps.flat : ∀ {vs : List V} {ds : List Dt}, Reps W α S H vs ds → ds.all flatD = true → vs = ds.map toV ∧ vs.all flatV = true
  | _, _, .nil, _ => ⟨rfl, rfl⟩
  | _, _, .cons r t, h => by
    simp only [List.all_cons, Bool.and_eq_true] at h
    obtain ⟨e1, e2⟩ := r.flat h.1
    obtain ⟨e3, e4⟩ := Reps.flat t h.2
    exact ⟨by rw [e1, e3]; rfl, by simp [e2, e4]⟩
theorem KReps.look : ∀ {vs : List (Key × V)} {ds : List (Key × Dt)} (k : Key), KReps W α S H vs ds → (valV vs k = none ∧ lookD ds k = none) ∨ ∃ v d, valV vs k = some v ∧ lookD ds k = some d ∧ Rep W α S H v d
  | _, _, _, .nil => .inl ⟨rfl, rfl⟩
  | _, _, k, .cons (k := k') (v := v) (d := d) r t => by
    by_cases e : k' = k
    · refine .inr ⟨v, d, ?_, ?_, r⟩
      · unfold valV; simp [List.find?_cons, e]
      · unfold lookD; simp [List.find?_cons, e]
    · rcases KReps.look k t with ⟨h1, h2⟩ | ⟨v', d', h1, h2, h3⟩
      · refine .inl ⟨?_, ?_⟩
        · unfold valV at h1 ⊢; simpa [List.find?_cons, e] using h1
        · unfold lookD at h2 ⊢; simpa [List.find?_cons, e] using h2
      · refine .inr ⟨v', d', ?_, ?_, h3⟩
        · unfold valV at h1 ⊢; simpa [List.find?_cons, e] using h1
        · unfold lookD at h2 ⊢; simpa [List.find?_cons, e] using h2
theorem KReps.length : ∀ {vs : List (Key × V)} {ds : List (Key × Dt)}, KReps W α S H vs ds → vs.length = ds.length
  | _, _, .nil => rfl
  | _, _, .cons _ t => congrArg (· + 1) (KReps.length t)
theorem KReps.keys : ∀ {vs : List (Key × V)} {ds : List (Key × Dt)}, KReps W α S H vs ds → vs.map (·.1) = ds.map (·.1)
  | _, _, .nil => rfl
  | _, _, .cons _ t => by simp [KReps.keys t]
theorem keyD_rep {v : V} {d : Dt} {k : Key} (r : Rep W α S H v d) (h : keyD d = some k) : v = kV k := by
  cases d <;> first | (cases h; done) | (cases h; cases r; rfl)
/-- a dict of ours, tracked or written -/
theorem asDict_rep {x : V} {d : Dt} {kds : List (Key × Dt)} (s : Sim W α S H) (r : Rep W α S H x d) (h : asDict S d = some kds) : ∃ a kvs, x = .ref a ∧ (H a = some (.dK kvs) ∨ KDc W.K W.w a kvs) ∧ KReps W α S H kvs kds := by
  cases d with
  | dct es =>
    cases h
    cases r with
    | dct o q => exact ⟨_, _, rfl, o.imp (·.2) id, q⟩
  | ref n =>
    cases r with
    | ref e =>
      unfold asDict at h
      cases hn : S[n]? with
      | none => simp only [hn] at h; cases h
      | some mo =>
        simp only [hn] at h
        cases mo with
        | dct es =>
          cases h
          obtain ⟨vs, h1, h2⟩ := s.obj n _ _ e hn
          exact ⟨_, vs, rfl, .inl h1, h2⟩
        | gone => cases h
        | lst _ => cases h
  | _ => cases h
end
section
variable {X : Cx}
theorem kdc_find : ∀ {es : List DictEntry} {kvs : List (Key × V)} (z : Str), Paired (fun (e : DictEntry) (p : Key × V) => ∃ z t, p.1 = Sum.inr z ∧ e.key = Value.str z t ∧ RelV p.2 e.val) es kvs →
    (es.find? (·.key.isStr z) = none ∧ valV kvs (Sum.inr z) = none) ∨ ∃ e v, es.find? (·.key.isStr z) = some e ∧ valV kvs (Sum.inr z) = some v ∧ RelV v e.val
  | _, _, _, .nil => .inl ⟨rfl, rfl⟩
  | _, _, z, .cons (a := e) (b := p) ⟨y, t, h1, h2, h3⟩ tl => by
    have hk : e.key.isStr z = decide (y = z) := by
      rw [h2]
      show (y == z) = _
      by_cases q : y = z
      · subst q; simp
      · simp [q]
    by_cases q : y = z
    · refine .inr ⟨e, p.2, ?_, ?_, h3⟩
      · rw [List.find?_cons, hk, decide_eq_true q]
      · unfold valV; simp [List.find?_cons, h1, q]
    · have hk' : (e.key.isStr z) = false := by rw [hk]; simp [q]
      rcases kdc_find z tl with ⟨g1, g2⟩ | ⟨e', v', g1, g2, g3⟩
      · refine .inl ⟨?_, ?_⟩
        · rw [List.find?_cons, hk']; exact g1
        · unfold valV at g2 ⊢; simpa [List.find?_cons, h1, q] using g2
      · refine .inr ⟨e', v', ?_, ?_, g3⟩
        · rw [List.find?_cons, hk']; exact g1
        · unfold valV at g2 ⊢; simpa [List.find?_cons, h1, q] using g2
theorem kdc_texts {kvs : List (Key × V)} : ∀ {es : List DictEntry}, Paired (fun (e : DictEntry) (p : Key × V) => ∃ z t, p.1 = Sum.inr z ∧ e.key = Value.str z t ∧ RelV p.2 e.val) es kvs → ∀ q ∈ kvs, ∃ z, q.1 = Sum.inr z := by
  intro es h
  induction kvs generalizing es with
  | nil => intro q hq; cases hq
  | cons p r ih =>
    cases h with
    | cons a t =>
      intro q hq
      rcases List.mem_cons.mp hq with rfl | hq
      · obtain ⟨z, _, h1, _⟩ := a; exact ⟨z, h1⟩
      · exact ih t q hq
theorem kdc_norefs : ∀ {es : List DictEntry} {kvs : List (Key × V)}, Paired (fun (e : DictEntry) (p : Key × V) => ∃ z t, p.1 = Sum.inr z ∧ e.key = Value.str z t ∧ RelV p.2 e.val) es kvs → es.any (·.refKey) = false
  | _, _, .nil => rfl
  | _, _, .cons ⟨y, t, h1, h2, h3⟩ tl => by
    rw [List.any_cons, kdc_norefs tl, Bool.or_false]
    unfold DictEntry.refKey
    rw [h2]
theorem kdc_ns {K : PySem.W.Frag} {w : World} {a : Addr} {kvs : List (Key × V)} (h : KDc K w a kvs) (z : Str) : ∃ es n, L2.KDict K w a es n ∧ ∃ r, PySem.W.nsIn K a z = some r ∧ RelO (valV kvs (Sum.inr z)) r := by
  obtain ⟨es, n, D, hp⟩ := h
  refine ⟨es, n, D, ?_⟩
  rcases kdc_find z hp with ⟨g1, g2⟩ | ⟨e, v, g1, g2, g3⟩
  · refine ⟨none, ?_, by rw [g2]; trivial⟩
    unfold PySem.W.nsIn
    rw [D.at_]
    simp only [g1, kdc_norefs hp]
    rfl
  · refine ⟨some e.val, ?_, by rw [g2]; exact g3⟩
    unfold PySem.W.nsIn
    rw [D.at_]
    simp only [g1]
/-- key in dict, tracked or written -/
def rInK (K : PySem.W.Frag) (w : World) : R2 := fun x y H Q => ∃ a kvs k, y = .ref a ∧ x = kV k ∧ (Rd H a (.dK kvs) ∨ (KDc K w a kvs ∧ ∃ z, k = Sum.inr z)) ∧ Q (.bl (valV kvs k).isSome) H
theorem op_inK (hu : X.A.units + 1 < cLine) : OpR X (compareOp .In) (rInK X.K X.w) := by
  intro pins s σ H x y v u Q I rx ry h
  obtain ⟨a, kvs, k, rfl, rfl, hd, q⟩ := h
  cases ry
  rcases hd with hd | ⟨hd, z, rfl⟩
  · exact d_in hu I (.inl ⟨kvs, k, hd, rfl, rfl⟩) rx fun s' I' => ⟨.bl _, H, I', rfl, q⟩
  · obtain ⟨es, n, D, r, e1, e2⟩ := kdc_ns hd z
    exact op_in_kd D pins s σ H _ _ v _ Q I rx (show RelV (V.ref a) _ from rfl) ⟨z, r, rfl, rfl, e1, by rw [← e2.isSome_eq]; exact q⟩
def rNotInK (K : PySem.W.Frag) (w : World) : R2 := fun x y H Q => ∃ a kvs k, y = .ref a ∧ x = kV k ∧ (Rd H a (.dK kvs) ∨ (KDc K w a kvs ∧ ∃ z, k = Sum.inr z)) ∧ Q (.bl (!(valV kvs k).isSome)) H
theorem op_notInK (hu : X.A.units + 1 < cLine) : OpR X (compareOp .NotIn) (rNotInK X.K X.w) := by
  intro pins s σ H x y v u Q I rx ry h
  obtain ⟨a, kvs, k, rfl, rfl, hd, q⟩ := h
  cases ry
  rcases hd with hd | ⟨hd, z, rfl⟩
  · exact d_notIn hu I (.inl ⟨kvs, k, hd, rfl, rfl⟩) rx fun s' I' => ⟨.bl _, H, I', rfl, q⟩
  · obtain ⟨es, n, D, r, e1, e2⟩ := kdc_ns hd z
    exact op_notIn_kd D pins s σ H _ _ v _ Q I rx (show RelV (V.ref a) _ from rfl) ⟨z, r, rfl, rfl, e1, by rw [← e2.isSome_eq]; exact q⟩
theorem od_in_of {f : Value → Value → Sem Value} {neg : Bool} (h1 : OpR X f (fun x y H Q => ∃ (c : Nat) (z : Str), x = .str ⟨#[c]⟩ ∧ y = .str z ∧ Q (.bl (if neg then !decide (c ∈ z.cps.toList) else decide (c ∈ z.cps.toList))) H))
    (h2 : OpR X f (rIn X.K neg)) (h3 : OpR X f (fun x y H Q => ∃ a kvs k, y = .ref a ∧ x = kV k ∧ (Rd H a (.dK kvs) ∨ (KDc X.K X.w a kvs ∧ ∃ z, k = Sum.inr z)) ∧ Q (.bl (if neg then !(valV kvs k).isSome else (valV kvs k).isSome)) H)) :
    OpD X f (fun d e S => match inP S d e with | some b => .ok (.bl (if neg then !b else b)) S | none => .bad) := by
  refine ⟨_, (h1.or h2).or h3, fun B α S H E x y d e Q rx ry s h => ?_⟩
  cases hp : inP S d e with
  | none => simp only [hp] at h; exact h.elim
  | some b =>
    simp only [hp] at h
    unfold inP at hp
    split at hp
    · rename_i a c
      cases rx; cases ry
      by_cases hl : a.length = 1
      · rw [if_pos hl] at hp
        cases hp
        refine .inl (.inl ⟨a.cps.getD 0 0, c, ?_, rfl, post_ok s (.bl _) h⟩)
        obtain ⟨arr⟩ := a
        have hs : arr.size = 1 := hl
        congr 1
        congr 1
        apply Array.ext
        · simp [hs]
        · intro i h1 h2
          simp at h2
          subst h2
          simp [Array.getD, hs]
      · rw [if_neg hl] at hp; cases hp
    · cases hq : asSeq S e with
      | some ds =>
        simp only [hq] at hp
        by_cases hf : (flatD d && ds.all flatD) = true
        · rw [if_pos hf] at hp
          cases hp
          simp only [Bool.and_eq_true] at hf
          obtain ⟨a, vs, rfl, hs, rs⟩ := asSeq_rep s ry hq
          obtain ⟨e1, e2⟩ := rx.flat hf.1
          obtain ⟨e3, e4⟩ := rs.flat hf.2
          refine .inl (.inr ⟨a, vs, rfl, hs, e2, e4, ?_⟩)
          rw [e1, e3]
          exact post_ok s (.bl _) h
        · rw [if_neg hf] at hp; cases hp
      | none =>
        simp only [hq] at hp
        cases hd : asDict S e with
        | none => simp only [hd] at hp; cases hp
        | some kds =>
          cases hk : keyD d with
          | none => simp only [hd, hk] at hp; cases hp
          | some k =>
            simp only [hd, hk] at hp
            by_cases hok : okKey kds k = true
            case neg => rw [if_neg hok] at hp; cases hp
            rw [if_pos hok] at hp
            cases hp
            obtain ⟨a, kvs, rfl, ho, rk⟩ := asDict_rep s ry hd
            have ek := keyD_rep rx hk
            have es : (valV kvs k).isSome = (lookD kds k).isSome := by
              rcases rk.look k with ⟨g1, g2⟩ | ⟨v', d', g1, g2, _⟩
              · rw [g1, g2]; rfl
              · rw [g1, g2]; rfl
            rw [← es] at h
            rcases ho with ho | ho
            · exact .inr ⟨a, kvs, k, rfl, ek, .inl (.inl ho), post_ok s (.bl _) h⟩
            · cases k with
              | inr z => exact .inr ⟨a, kvs, _, rfl, ek, .inr ⟨ho, z, rfl⟩, post_ok s (.bl _) h⟩
              | inl i =>
                exfalso
                obtain ⟨p, hp1, hp2⟩ := List.any_eq_true.mp hok
                have hm : p.1 ∈ kvs.map (·.1) := by rw [rk.keys]; exact List.mem_map_of_mem hp1
                obtain ⟨q, hq1, hq2⟩ := List.mem_map.mp hm
                obtain ⟨es, n, D, hpp⟩ := ho
                obtain ⟨z, hz⟩ := kdc_texts hpp q hq1
                rw [← hq2, hz] at hp2
                cases hp2
theorem od_in (hu : X.A.units + 1 < cLine) : OpD X (compareOp .In) opIn := od_in_of (neg := false) op_in_sign op_in_seq (op_inK hu)
theorem od_notIn (hu : X.A.units + 1 < cLine) : OpD X (compareOp .NotIn) opNotIn := od_in_of (neg := true) op_notIn_sign op_notIn_seq (op_notInK hu)
theorem rep_isN {W : Wr} {α : List Addr} {S : Store} {H : Hp} {x : V} {d : Dt} (r : Rep W α S H x d) : decide (x = .non) = (match d with | .non => true | _ => false) := by
  cases r <;> simp
theorem od_is_of {f : Value → Value → Sem Value} {neg : Bool} (h1 : OpR X f (fun x y H Q => ∃ a b : Bool, x = .bl a ∧ y = .bl b ∧ Q (.bl (if neg then !decide (a = b) else decide (a = b))) H))
    (h2 : OpR X f (fun x y H Q => y = .non ∧ Q (.bl (if neg then !decide (x = .non) else decide (x = .non))) H)) : OpD X f (fun d e S => match isP d e with | some b => .ok (.bl (if neg then !b else b)) S | none => .bad) := by
  refine ⟨_, h1.or h2, fun B α S H E x y d e Q rx ry s h => ?_⟩
  cases hp : isP d e with
  | none => simp only [hp] at h; exact h.elim
  | some b =>
    simp only [hp] at h
    have hx := rep_isN rx
    unfold isP at hp
    split at hp
    · cases rx; cases ry; cases hp; exact .inl ⟨_, _, rfl, rfl, post_ok s (.bl _) h⟩
    · cases rx; cases ry; cases hp; exact .inr ⟨rfl, post_ok s (.bl _) h⟩
    · cases hp
    · rename_i n1 n2
      cases ry; cases hp
      refine .inr ⟨rfl, ?_⟩
      have : decide (x = V.non) = false := by
        rw [hx]
        cases d <;> first | rfl | exact (n1 rfl).elim
      rw [this]
      exact post_ok s (.bl _) h
    · cases hp
theorem od_is : OpD X (compareOp .Is) opIs := od_is_of (neg := false) op_isBl op_isN
theorem od_isNot : OpD X (compareOp .IsNot) opIsNot := od_is_of (neg := true) op_notBl op_notN

/-! ### subscripts, slices -/
def atP (S : Store) (d e : Dt) : Option Dt := match d, e with
  | .str x, .int i => if x.length ≤ LINE then (atI x.cps.toList i).map fun c => .str ⟨#[c]⟩ else none
  | d, e => match asSeq S d, e with
    | some ds, .int i => atI ds i
    | some _, _ => none
    | none, _ => match asDict S d, keyD e with
      | some kvs, some k => if okKey kvs k = true then lookD kvs k else none
      | _, _ => none
def opIx : Dt → Dt → Store → Out Dt := fun d e S => match atP S d e with
  | some b => .ok b S
  | none => .bad
/-- d[key] of a dict, tracked or written -/
def rIxK (K : PySem.W.Frag) (w : World) : R2 := fun x y H Q => ∃ a kvs k v, x = .ref a ∧ y = kV k ∧ (Rd H a (.dK kvs) ∨ (KDc K w a kvs ∧ ∃ z, k = Sum.inr z)) ∧ valV kvs k = some v ∧ Q v H
theorem ix_K (hu : X.A.units + 1 < cLine) : IxR X (rIxK X.K X.w) := by
  intro value slice pins s σ H x y v u Q I rx ry h hs
  obtain ⟨a, kvs, k, r, rfl, rfl, hd, e, q⟩ := h
  rcases hd with hd | ⟨hd, z, rfl⟩
  · obtain rfl : v = Value.ref a := rx
    have g : DGet H a (kV k) (some r) := .inl ⟨kvs, k, hd, rfl, e.symm⟩
    exact tail_any (dict_typeIs I g) slot_dict_getitem.lookup (d_getItem hu I g ry fun w' s' I' rw' => ⟨r, H, I', rw', q⟩) hs
  · obtain ⟨es, n, D, o, e1, e2⟩ := kdc_ns hd z
    rw [e] at e2
    cases o with
    | none => exact e2.elim
    | some u0 => exact ix_kdict value slice pins s σ H _ _ v u Q I rx ry ⟨a, z, r, rfl, rfl, ⟨es, n, u0, D.at_, D.lit, e1, e2⟩, q⟩ hs
theorem atI_rep {W : Wr} {α : List Addr} {S : Store} {H : Hp} {vs : List V} {ds : List Dt} {i : Int} {d : Dt} (r : Reps W α S H vs ds) (h : atI ds i = some d) : ∃ v, atI vs i = some v ∧ Rep W α S H v d := by
  unfold atI at h ⊢
  rw [r.length]
  obtain ⟨j, h1, h2⟩ := Option.bind_eq_some_iff.mp h
  obtain ⟨v, h3, h4⟩ := r.get h2
  exact ⟨v, by rw [h1]; exact h3, h4⟩
theorem xd_ix (hu : X.A.units + 1 < cLine) : IxD X opIx := by
  refine ⟨_, (ix_seq (X := X)).or (ix_K hu), fun B α S H E x y d e Q rx ry s h => ?_⟩
  unfold opIx at h
  cases hp : atP S d e with
  | none => simp only [hp] at h; exact h.elim
  | some b =>
    simp only [hp] at h
    unfold atP at hp
    split at hp
    · rename_i z i
      cases rx; cases ry
      by_cases hl : z.length ≤ LINE
      · rw [if_pos hl] at hp
        obtain ⟨c, e1, rfl⟩ := Option.map_eq_some_iff.mp hp
        exact .inl (.inr (.inr ⟨z, i, c, rfl, rfl, hl, e1, post_ok s (.str _) h⟩))
      · rw [if_neg hl] at hp; cases hp
    · cases hq : asSeq S d with
      | some ds =>
        simp only [hq] at hp
        cases e with
        | int i =>
          cases ry
          obtain ⟨a, vs, rfl, hs, rs⟩ := asSeq_rep s rx hq
          obtain ⟨v, h1, h2⟩ := atI_rep rs hp
          rcases hs with hs | hs
          · exact .inl (.inl ⟨a, vs, i, v, rfl, rfl, hs, h1, post_ok s h2 h⟩)
          · exact .inl (.inr (.inl ⟨a, vs, i, v, rfl, rfl, hs, h1, post_ok s h2 h⟩))
        | _ => cases hp
      | none =>
        simp only [hq] at hp
        cases hd : asDict S d with
        | none => simp only [hd] at hp; cases hp
        | some kds =>
          cases hk : keyD e with
          | none => simp only [hd, hk] at hp; cases hp
          | some k =>
            simp only [hd, hk] at hp
            by_cases hok : okKey kds k = true
            case neg => rw [if_neg hok] at hp; cases hp
            rw [if_pos hok] at hp
            obtain ⟨a, kvs, rfl, ho, rk⟩ := asDict_rep s rx hd
            have ek := keyD_rep ry hk
            rcases rk.look k with ⟨g1, g2⟩ | ⟨v', d', g1, g2, g3⟩
            · rw [g2] at hp; cases hp
            · rw [g2] at hp; cases hp
              refine .inr ⟨a, kvs, k, v', rfl, ek, ?_, g1, post_ok s g3 h⟩
              rcases ho with ho | ho
              · exact .inl (.inl ho)
              · cases k with
                | inr z => exact .inr ⟨ho, z, rfl⟩
                | inl i =>
                  exfalso
                  obtain ⟨p, hp1, hp2⟩ := List.any_eq_true.mp hok
                  have hm : p.1 ∈ kvs.map (·.1) := by rw [rk.keys]; exact List.mem_map_of_mem hp1
                  obtain ⟨q, hq1, hq2⟩ := List.mem_map.mp hm
                  obtain ⟨es, n, D, hpp⟩ := ho
                  obtain ⟨z, hz⟩ := kdc_texts hpp q hq1
                  rw [← hq2, hz] at hp2
                  cases hp2

/-- parts of a slice -/
abbrev FO := EnvD → Store → Out (Option Int)
abbrev RO : List Addr → Store → Hp → Option Int → Option Int → Prop := fun _ _ _ b c => b = c
structure DO (X : Cx) (E : Sl → XK) (e : Option Expr) (f : FO) : Prop where
  ex : ∃ t, PO X e t ∧ ∀ B α σ H env S Q, REnv X.pn (Cx.wr X B) α S H σ env → Sim (Cx.wr X B) α S H → PostG (Cx.wr X B) RO (E σ) α S H Q (f env S) → t σ H Q
def cNoPart : FO := fun _ S => .ok none S
def cPart (f : FE) : FO := fun env S => (f env S).bind fun x S1 => match x with | .int i => .ok (some i) S1 | _ => .bad
theorem do_none {E : Sl → XK} : DO X E none cNoPart := ⟨_, po_none, fun B α σ H env S Q r s h => h α none H rfl s Ext.refl⟩
theorem do_some {E : Sl → XK} {e : Expr} {fe : FE} (h : DE X E e fe) : DO X E (some e) (cPart fe) := by
  obtain ⟨t, a1, a2⟩ := h
  refine ⟨_, po_some a1, fun B α σ H env S Q r s h => ?_⟩
  refine a2 B α σ H env S _ r s (PostG.bind h fun α1 v H1 d S1 r1 s1 x1 h1 => ?_)
  cases d with
  | int i => cases r1; exact ⟨i, rfl, h1 α1 (some i) H1 rfl s1 Ext.refl⟩
  | _ => exact h1.elim
def cutD (xs : List Dt) (lo hi : Option Int) : List Dt := (xs.drop (HT.sIx xs.length 0 lo)).take (HT.sIx xs.length xs.length hi - HT.sIx xs.length 0 lo)
def sliceP (S : Store) (d : Dt) (lo hi : Option Int) : Option Dt := match d with
  | .str x => if x.length ≤ LINE then some (.str (cutS x lo hi)) else none
  | .tup ds => some (.tup (cutD ds lo hi))
  | d => (asList S d).map fun ds => .lst (cutD ds lo hi)
def cSlice (a : FE) (lo hi : FO) : FE := fun env S => (a env S).bind fun x S1 => (lo env S1).bind fun l S2 => (hi env S2).bind fun u S3 => match sliceP S3 x l u with
  | some d => .ok d S3
  | none => .bad
theorem Reps.cut {W : Wr} {α : List Addr} {S : Store} {H : Hp} {vs : List V} {ds : List Dt} (r : Reps W α S H vs ds) (lo hi : Option Int) : Reps W α S H (cutV vs lo hi) (cutD ds lo hi) := by
  unfold cutV cutD
  rw [r.length]
  exact (r.drop _).take _
theorem sIx_le (n d : Nat) (o : Option Int) (h : d ≤ n) : HT.sIx n d o ≤ n := by
  unfold HT.sIx
  cases o with
  | none => exact h
  | some v => dsimp only; split <;> omega
theorem cut_whole {xs : List Dt} {lo hi : Option Int} (h : HT.sIx xs.length 0 lo = 0 ∧ HT.sIx xs.length xs.length hi = xs.length) : cutD xs lo hi = xs := by
  unfold cutD
  rw [h.1, h.2]
  simp
theorem de_slice {E : Sl → XK} {e : Expr} {fe : FE} {lo hi : Option Expr} {fl fh : FO} {p2 pos : Pos} (he : DE X E e fe) (hl : DO X E lo fl) (hh : DO X E hi fh) : DE X E (.Subscript e (.Slice lo hi none p2) pos) (cSlice fe fl fh) := by
  obtain ⟨t, a1, a2⟩ := he; obtain ⟨tl, b1, b2⟩ := hl; obtain ⟨th, c1, c2⟩ := hh
  refine ⟨_, pe_slice (((sl_tupA (X := X)).or sl_list).or sl_str) a1 b1 c1, fun B α σ H env S Q r s h => ?_⟩
  refine a2 B α σ H env S _ r s (PostG.bind h fun α1 v H1 d S1 r1 s1 x1 h1 => ?_)
  refine b2 B α1 σ H1 env S1 _ (r.ext x1) s1 (PostG.bind h1 fun α2 l H2 ld S2 r2 s2 x2 h2 => ?_)
  refine c2 B α2 σ H2 env S2 _ ((r.ext x1).ext x2) s2 (PostG.bind h2 fun α3 u H3 ud S3 r3 s3 x3 h3 => ?_)
  obtain rfl : l = ld := r2
  obtain rfl : u = ud := r3
  have rv := (r1.ext x2).ext x3
  cases hp : sliceP S3 d l u with
  | none => simp only [hp] at h3; exact h3.elim
  | some o =>
    simp only [hp] at h3
    unfold sliceP at hp
    split at hp
    · rename_i z
      by_cases hz : z.length ≤ LINE
      · rw [if_pos hz] at hp
        cases hp
        cases rv
        exact .inr ⟨z, rfl, hz, post_ok s3 (.str _) h3⟩
      · rw [if_neg hz] at hp; cases hp
    · rename_i ds
      cases hp
      cases rv with
      | tup o q =>
        refine .inl (.inl ⟨_, _, rfl, o.sq, fun hw => ?_, fun hw p hp => post_new_tup s3 (q.cut l u) h3 hp⟩)
        rw [q.length] at hw
        rw [cut_whole hw] at h3
        exact post_ok s3 (.tup o q) h3
    · obtain ⟨ds, e1, rfl⟩ := Option.map_eq_some_iff.mp hp
      obtain ⟨a, vs, rfl, hs, rs⟩ := asList_rep s3 rv e1
      exact .inl (.inr ⟨a, vs, rfl, hs.sq, fun p hp => post_new_lst s3 (rs.cut l u) h3 hp⟩)

/-! ### displays -/
def cTup (f : FA) : FE := fun env S => (f env S).bind okTup
def cLst (f : FA) : FE := fun env S => (f env S).bind okList
/-- a list that will be changed: owned -/
def cLstO (f : FA) : FE := fun env S => (f env S).bind fun ds S1 => if ds.length ≤ LINE then .ok (.ref S1.length) (S1 ++ [.lst ds]) else .bad
section
variable {E : Sl → XK} {es : List Expr} {fa : FA} {pos : Pos}
theorem de_tup {k} (h : DA X E es fa) : DE X E (.Tuple es k pos) (cTup fa) := by
  obtain ⟨t, a1, a2⟩ := h
  refine ⟨_, pe_tup a1, fun B α σ H env S Q r s h => ?_⟩
  refine a2 B α σ H env S _ r s (PostG.bind h fun α1 vs H1 ds S1 r1 s1 x1 h1 => ?_)
  unfold okTup at h1
  by_cases hl : ds.length ≤ LINE
  · rw [if_pos hl] at h1
    exact ⟨by rw [r1.length]; exact hl, fun p hp => post_new_tup s1 r1 h1 hp⟩
  · rw [if_neg hl] at h1; exact h1.elim
theorem de_lst (h : DA X E es fa) : DE X E (.List es pos) (cLst fa) := by
  obtain ⟨t, a1, a2⟩ := h
  refine ⟨_, pe_lst a1, fun B α σ H env S Q r s h => ?_⟩
  refine a2 B α σ H env S _ r s (PostG.bind h fun α1 vs H1 ds S1 r1 s1 x1 h1 => ?_)
  unfold okList at h1
  by_cases hl : ds.length ≤ LINE
  · rw [if_pos hl] at h1
    exact ⟨by rw [r1.length]; exact hl, fun p hp => post_new_lst s1 r1 h1 hp⟩
  · rw [if_neg hl] at h1; exact h1.elim
theorem alloc_lst {W : Wr} {α : List Addr} {S : Store} {H : Hp} {p : Addr} {vs : List V} {ds : List Dt} {E' : XK} {Q : VK} (s : Sim W α S H) (hp : H p = none) (r : Reps W α S H vs ds) (h : Post W E' α S H Q (.ok (.ref S.length) (S ++ [.lst ds]))) : Q (.ref p) (upd H p (.lst vs)) := by
  have x := Ext.alloc (W := W) (mo := MO.lst ds) (o := HO.lst vs) s hp
  refine h (α ++ [p]) _ _ (.ref ?_) (s.alloc hp ⟨vs, upd_same, r.ext x⟩) x
  rw [← s.len]
  simp
theorem de_lstO (h : DA X E es fa) : DE X E (.List es pos) (cLstO fa) := by
  obtain ⟨t, a1, a2⟩ := h
  refine ⟨_, pe_lst a1, fun B α σ H env S Q r s h => ?_⟩
  refine a2 B α σ H env S _ r s (PostG.bind h fun α1 vs H1 ds S1 r1 s1 x1 h1 => ?_)
  by_cases hl : ds.length ≤ LINE
  · rw [if_pos hl] at h1
    exact ⟨by rw [r1.length]; exact hl, fun p hp => alloc_lst s1 hp r1 h1⟩
  · rw [if_neg hl] at h1; exact h1.elim
/-- {} : by value; owned -/
def cDct0 : FE := fun _ S => .ok (.dct []) S
def cDct0O : FE := fun _ S => .ok (.ref S.length) (S ++ [.dct []])
theorem de_dct0 : DE X E (.Dict [] [] pos) cDct0 :=
  ⟨_, pe_dnewK, fun B α σ H env S Q r s h p hp => h α _ _ (.dct (.inl ⟨s.off hp, upd_same⟩) .nil) (s.new hp) (Ext.new s hp)⟩
theorem de_dct0O : DE X E (.Dict [] [] pos) cDct0O := by
  refine ⟨_, pe_dnewK, fun B α σ H env S Q r s h p hp => ?_⟩
  have x := Ext.alloc (W := Cx.wr X B) (mo := MO.dct []) (o := HO.dK []) s hp
  refine h (α ++ [p]) _ _ (.ref ?_) (s.alloc hp ⟨[], upd_same, .nil⟩) x
  rw [← s.len]
  simp
/-- an owned list or dict is frozen: by value from here on -/
def freezeP (x : Dt) (S : Store) : Out Dt := match x with
  | .ref n => (match S[n]? with
    | some (.lst ds) => .ok (.lst ds) (S.set n .gone)
    | some (.dct kvs) => .ok (.dct kvs) (S.set n .gone)
    | _ => .bad)
  | d => .ok d S
def cFrz (f : FE) : FE := fun env S => (f env S).bind freezeP
theorem post_freeze {W : Wr} {α : List Addr} {S : Store} {H : Hp} {E' : XK} {Q : VK} {v : V} {d : Dt} (r : Rep W α S H v d) (s : Sim W α S H) (h : Post W E' α S H Q (freezeP d S)) : Q v H := by
  cases d with
  | ref n =>
    unfold freezeP at h
    cases r with
    | ref ha =>
      cases hn : S[n]? with
      | none => simp only [hn] at h; exact h.elim
      | some mo =>
        simp only [hn] at h
        have mr := s.obj n _ _ ha hn
        cases mo with
        | gone => exact h.elim
        | lst ds =>
          obtain ⟨vs, h1, r1⟩ := mr
          have x := Ext.freeze (W := W) (α := α) (H := H) hn (by simp)
          exact h α _ H (.lst (.inl ⟨s.gone_not ha, .inl h1⟩) (r1.ext x)) (s.freeze hn (by simp)) x
        | dct kvs =>
          obtain ⟨vs, h1, r1⟩ := mr
          have x := Ext.freeze (W := W) (α := α) (H := H) hn (by simp)
          exact h α _ H (.dct (.inl ⟨s.gone_not ha, h1⟩) (r1.ext x)) (s.freeze hn (by simp)) x
  | _ => exact post_ok s r h
theorem de_frz {e : Expr} {fe : FE} (h : DE X E e fe) : DE X E e (cFrz fe) := by
  obtain ⟨t, a1, a2⟩ := h
  refine ⟨t, a1, fun B α σ H env S Q r s h => ?_⟩
  exact a2 B α σ H env S _ r s (PostG.bind h fun α1 v H1 d S1 r1 s1 x1 h1 => post_freeze r1 s1 h1)
end
end
end DL

set_option Elab.async false
set_option linter.all false
set_option maxRecDepth 100000
set_option maxHeartbeats 4000000
namespace DL
open PySem PySem.Spec PyProof.Rows L2

/-! ### zip of two: texts, tuples, lists, in any mix -/
inductive Src where
  | txt (x : Str)
  | tup (a : Addr) (xs : List V)
  | lst (a : Addr) (xs : List V)
theorem Vals.back : ∀ {xs : List V} {us : List Value} {i : Nat} {u : Value}, Vals xs us → us[i]? = some u → ∃ x, xs[i]? = some x ∧ RelV x u
  | _, _, _, _, .nil, e => by simp at e
  | _, _, 0, _, .cons r _, e => by simp at e; subst e; exact ⟨_, rfl, r⟩
  | _, _, i + 1, _, .cons _ t, e => by
    obtain ⟨x, h1, h2⟩ := Vals.back (i := i) t (by simpa using e)
    exact ⟨x, by simpa using h1, h2⟩
namespace Src
def val : Src → V
  | .txt x => .str x
  | .tup a _ => .ref a
  | .lst a _ => .ref a
def len : Src → Nat
  | .txt x => x.cps.size
  | .tup _ xs => xs.length
  | .lst _ xs => xs.length
def at_ : Src → Nat → Option V
  | .txt x, i => x.cps[i]?.map fun c => .str ⟨#[c]⟩
  | .tup _ xs, i => xs[i]?
  | .lst _ xs, i => xs[i]?
def inH (K : PySem.W.Frag) (H : Hp) : Src → Prop
  | .txt _ => True
  | .tup a xs => SqT K H a xs
  | .lst a xs => SqL K H a xs
/-- the iterator at it stands before its item i -/
def own (S : Src) (t : Tok) (it : Addr) (i : Nat) (h : Heap) : Prop := match S with
  | .txt x => h.IsStrIter it (strIterType x) x t i
  | .tup a _ => h.IsTupleIter it a i
  | .lst a _ => h.IsListIter it a i
theorem own_obj {S : Src} {t : Tok} {it : Addr} {i : Nat} {h : Heap} (o : S.own t it i h) : ∃ ob, h.get? it = some ob ∧ ∀ v, ob.data ≠ .cell v := by
  cases S with
  | txt x => obtain ⟨ob, e, _, d⟩ := o; exact ⟨ob, e, fun v z => by rw [d] at z; cases z⟩
  | tup a xs => obtain ⟨ob, e, _, d⟩ := o; exact ⟨ob, e, fun v z => by rw [d] at z; cases z⟩
  | lst a xs => obtain ⟨ob, e, _, d⟩ := o; exact ⟨ob, e, fun v z => by rw [d] at z; cases z⟩
theorem own_keep {S : Src} {t : Tok} {it : Addr} {i : Nat} {h h' : Heap} (o : S.own t it i h) (k : ∀ ob, h.get? it = some ob → h'.get? it = some ob) : S.own t it i h' := by
  cases S with
  | txt x => obtain ⟨ob, e, r⟩ := o; exact ⟨ob, k ob e, r⟩
  | tup a xs => obtain ⟨ob, e, r⟩ := o; exact ⟨ob, k ob e, r⟩
  | lst a xs => obtain ⟨ob, e, r⟩ := o; exact ⟨ob, k ob e, r⟩
/-- the iterator's token -/
def tok : Src → Value → Tok
  | .txt _, .str _ t => t
  | _, _ => 0
theorem draws {X : Cx} {pins : List (Addr × Obj)} {σ : Sl} {H : Hp} {s : Shared} {A : Around} (I : Inv X pins σ H s) (hh : A.handled = none) (S : Src) (hS : S.inH X.K H) (t : Tok) (it : Addr) (hit : H it = none) (hb : X.base.get? it = none) :
    ∃ (fp : List Addr) (P : Nat → Value → Prop) (St : Nat → Heap → Prop), Draws X.prog X.w A it fp S.len P St ∧ it ∈ fp ∧ (∀ b ∈ fp, b = it ∨ (∃ o, s.heap.get? b = some o ∧ (H b ≠ none ∨ X.base.get? b ≠ none))) ∧
      (∀ i, S.own t it i s.heap → St i s.heap) ∧ (∀ i h, St i h → S.own t it i h) ∧ (∀ i v, P i v → ∃ x, S.at_ i = some x ∧ RelV x v) := by
  cases S with
  | txt x =>
    refine ⟨_, _, _, Draws.text hh it x t, by simp, fun b hb => .inl (by simpa using hb), fun i o => o, fun i h o => o, fun i v ⟨c, u, h1, h2⟩ => ⟨.str ⟨#[c]⟩, ?_, u, h2⟩⟩
    show (x.cps[i]?).map _ = _
    rw [h1]
    rfl
  | tup a xs =>
    obtain ⟨its, rv, p, _⟩ := I.tuple hS
    have hne : a ≠ it := by
      rcases hS with r | ⟨o, its, n, e, _⟩
      · intro z
        rcases r with r | ⟨o, r⟩ <;> (rw [z, hit] at r; cases r)
      · intro z
        have := I.ok.mod.kin _ _ e
        rw [z, hb] at this
        cases this
    have hn : (Src.tup a xs).len = its.toArray.size := by show xs.length = _; simpa using rv.length
    rw [hn]
    refine ⟨_, _, _, Draws.tuple hh it a hne its.toArray, by simp, fun b hb => ?_, fun i o => ⟨o, p⟩, fun i h o => o.1, fun i v h1 => ?_⟩
    · rcases List.mem_cons.mp hb with z | z
      · exact .inl z
      · have z' : b = a := by simpa using z
        subst z'
        obtain ⟨o, ho, _⟩ := id p
        refine .inr ⟨o, ho, ?_⟩
        rcases hS with r | ⟨o, its, n, e, _⟩
        · rcases r with r | ⟨o, r⟩ <;> (left; rw [r]; simp)
        · right; rw [I.ok.mod.kin _ _ e]; simp
    · have h2 : its[i]? = some v := by simpa using h1
      obtain ⟨x, e1, e2⟩ := Vals.back rv h2
      exact ⟨x, e1, e2⟩
  | lst a xs =>
    obtain ⟨its, rv, p, _⟩ := I.list hS
    have hne : a ≠ it := by
      rcases hS with r | ⟨o, its, n, e, _⟩
      · intro z
        rcases r with r | ⟨o, r⟩ <;> (rw [z, hit] at r; cases r)
      · intro z
        have := I.ok.mod.kin _ _ e
        rw [z, hb] at this
        cases this
    have hn : (Src.lst a xs).len = its.toArray.size := by show xs.length = _; simpa using rv.length
    rw [hn]
    refine ⟨_, _, _, Draws.list hh it a hne its.toArray, by simp, fun b hb => ?_, fun i o => ⟨o, p.isList⟩, fun i h o => o.1, fun i v h1 => ?_⟩
    · rcases List.mem_cons.mp hb with z | z
      · exact .inl z
      · have z' : b = a := by simpa using z
        subst z'
        obtain ⟨o, n, ho, _⟩ := id p
        refine .inr ⟨o, ho, ?_⟩
        rcases hS with r | ⟨o, its, n, e, _⟩
        · rcases r with r | ⟨o, r⟩ <;> (left; rw [r]; simp)
        · right; rw [I.ok.mod.kin _ _ e]; simp
    · have h2 : its[i]? = some v := by simpa using h1
      obtain ⟨x, e1, e2⟩ := Vals.back rv h2
      exact ⟨x, e1, e2⟩
end Src
def ItM (K : PySem.W.Frag) (S1 S2 : Src) : It :=
  ⟨fun i H => i < min S1.len S2.len ∧ S1.inH K H ∧ S2.inH K H,
    fun i H v H' => ∃ T x y, v = .ref T ∧ H T = none ∧ H' = upd H T (.tup [x, y]) ∧ S1.at_ i = some x ∧ S2.at_ i = some y,
    fun i H => i = min S1.len S2.len ∧ S1.inH K H ∧ S2.inH K H⟩
theorem base_none {X : Cx} {pins : List (Addr × Obj)} {σ : Sl} {H : Hp} {s : Shared} {b : Addr} (I : Inv X pins σ H s) (f : FpOk X pins H b) : X.base.get? b = none := by
  cases e : X.base.get? b with
  | none => rfl
  | some o =>
    exfalso
    obtain ⟨_, _, _, f4, _⟩ := f
    rcases f4 with z | z
    · exact I.ok.noex b o e z
    · exact absurd (Heap.lt_size (I.ok.bs b o e).1) (Nat.not_lt.mpr z)
section
variable {P : Program} {w : World} {K : PySem.W.Frag} {elts : List Expr} {kk : Nat} {tpos : Pos} {z TI TO i1 i2 : Addr} {S1 S2 : Src} {t1 t2 : Tok}
theorem zip_goes {X : Cx} {pins : List (Addr × Obj)} {σ : Sl} {H : Hp} {s : Shared} (D5 : [z, TI, TO, i1, i2].Nodup) (I : Inv X pins σ H s) (hc : X.calm = true) (hf : ∀ b ∈ [z, TI, TO, i1, i2], FpOk X pins H b) (q1 : S1.inH X.K H) (q2 : S2.inH X.K H) :
    ∃ (fp : List Addr) (Y : Nat → Heap → Value → Heap → Prop) (St : Nat → Heap → Prop), GoesN X.prog X.w X.A (.Tuple elts kk tpos) z fp [z, TO, i1, i2] (min S1.len S2.len) Y St ∧
      (∀ i, (IsZip s.heap z TI TO .none ∧ IsPair s.heap TI (.ref i1) (.ref i2) ∧ (∃ x y, IsPair s.heap TO x y) ∧ S1.own t1 i1 i s.heap ∧ S2.own t2 i2 i s.heap) → St i s.heap) ∧
      (∀ i h, St i h → IsZip h z TI TO .none ∧ IsPair h TI (.ref i1) (.ref i2) ∧ (∃ x y, IsPair h TO x y) ∧ S1.own t1 i1 i h ∧ S2.own t2 i2 i h) ∧
      ∀ i h₀ v h, Y i h₀ v h → ∃ T x y u1 u2, v = .ref T ∧ h₀.objs.size ≤ T ∧ S1.at_ i = some x ∧ S2.at_ i = some y ∧ RelV x u1 ∧ RelV y u2 ∧ h.IsTuple T #[u1, u2] := by
  have hh : X.A.in1.handled = none := I.ok.hd hc
  obtain ⟨fp1, P1, St1, D1, m1, f1, a1, b1, c1⟩ := Src.draws (A := X.A.in1) I hh S1 q1 t1 i1 (hf i1 (by simp)).1 (base_none I (hf i1 (by simp)))
  obtain ⟨fp2, P2, St2, D2, m2, f2, a2, b2, c2⟩ := Src.draws (A := X.A.in1) I hh S2 q2 t2 i2 (hf i2 (by simp)).1 (base_none I (hf i2 (by simp)))
  have apart : ∀ {fp : List Addr} {it c : Addr}, (∀ b ∈ fp, b = it ∨ (∃ o, s.heap.get? b = some o ∧ (H b ≠ none ∨ X.base.get? b ≠ none))) → c ∈ [z, TI, TO, i1, i2] → c ≠ it → c ∉ fp := fun {fp it c} f hcm hne hm => by
    rcases f c hm with e | ⟨o, _, e | e⟩
    · exact hne e
    · exact e (hf c hcm).1
    · exact e (base_none I (hf c hcm))
  simp only [List.nodup_cons, List.mem_cons, List.not_mem_nil, or_false, not_or] at D5
  obtain ⟨⟨n1, n2, n3, n4⟩, ⟨n5, n6, n7⟩, ⟨n8, n9⟩, n10, _⟩ := D5
  have Sp : ZipSep2 z TI TO i1 i2 fp1 fp2 :=
    { TIz := fun e => n1 e.symm, TOz := fun e => n2 e.symm, TITO := n5, TIi1 := n6, mem1 := m1, zf1 := apart f1 (by simp) n3, Tf1 := apart f1 (by simp) n8, TIi2 := n7, mem2 := m2, zf2 := apart f2 (by simp) n4, Tf2 := apart f2 (by simp) n9,
      sep1_2 := apart f2 (by simp) n10, sep2_1 := apart f1 (by simp) (fun e => n10 e.symm) }
  refine ⟨_, _, _, GoesN.zip2 (elts := elts) (x1 := kk) (pos := tpos) Sp D1 D2, fun i ⟨h1, h2, h3, h4, h5⟩ => ⟨h1, h2, h3, a1 i h4, a2 i h5⟩, fun i h ⟨h1, h2, h3, h4, h5⟩ => ⟨h1, h2, h3, b1 i h h4, b2 i h h5⟩, fun i h₀ v h ⟨T, u1, u2, ev, hn, p1, p2, ht⟩ => ?_⟩
  obtain ⟨x, e1, r1⟩ := c1 i u1 p1
  obtain ⟨y, e2, r2⟩ := c2 i u2 p2
  exact ⟨T, x, y, u1, u2, ev, hn, e1, e2, r1, r2, ht⟩
theorem turn_zipM (D5 : [z, TI, TO, i1, i2].Nodup) : Turn P w K (.Tuple elts kk tpos) (ItM K S1 S2) [z, TI, TO, i1, i2] z (fun i h => IsZip h z TI TO .none ∧ IsPair h TI (.ref i1) (.ref i2) ∧ (∃ x y, IsPair h TO x y) ∧ S1.own t1 i1 i h ∧ S2.own t2 i2 i h) where
  mem := by simp
  obj := fun i h st c hc => by
    obtain ⟨hz, hTI, ⟨x, y, hTO⟩, o1, o2⟩ := st
    have e' : c = z ∨ c = TI ∨ c = TO ∨ c = i1 ∨ c = i2 := by simpa using hc
    rcases e' with q | q | q | q | q
    · rw [q]; exact ⟨_, hz, fun v q => nomatch q⟩
    · rw [q]; exact ⟨_, hTI, fun v q => nomatch q⟩
    · rw [q]; exact ⟨_, hTO, fun v q => nomatch q⟩
    · rw [q]; exact Src.own_obj o1
    · rw [q]; exact Src.own_obj o2
  keep := fun i h h' st k => by
    obtain ⟨hz, hTI, ⟨x, y, hTO⟩, o1, o2⟩ := st
    exact ⟨k z (by simp) _ hz, k TI (by simp) _ hTI, ⟨x, y, k TO (by simp) _ hTO⟩, Src.own_keep o1 fun o q => k i1 (by simp) o q, Src.own_keep o2 fun o q => k i2 (by simp) o q⟩
  item := by
    intro X hP hw hK hc i pins s σ H E I hf st hg
    subst hP hw hK
    obtain ⟨hi, q1, q2⟩ := hg
    obtain ⟨fp, Y, St, W, a, b, c⟩ := zip_goes (elts := elts) (kk := kk) (tpos := tpos) (t1 := t1) (t2 := t2) D5 I hc hf q1 q2
    refine W.goes i s _ _ hi (a i st) fun v h' tk hY st' hk htk => ?_
    obtain ⟨T, x, y, u1, u2, rfl, hn, e1, e2, r1, r2, ho⟩ := c i s.heap v h' hY
    have new : ObjOk X.prog X.w (upd H T (.tup [x, y])) h' T (.tup [x, y]) := ⟨by show 2 ≤ sizeLine; decide, [u1, u2], .cons r1 (.cons r2 .nil), ho⟩
    have I1 : Inv X pins σ (upd H T (.tup [x, y])) { s with heap := h', toks := tk } := I.turnedNew (ch := [z, TI, TO, i1, i2]) (fun cc o hb e => hk cc o (fun hm => hb (by
      have e' : cc = z ∨ cc = TO ∨ cc = i1 ∨ cc = i2 := by simpa using hm
      rcases e' with q | q | q | q <;> simp [q])) e) hf hn new
    refine ⟨.ref T, _, I1, rfl, ⟨T, x, y, rfl, I.hok.fresh hn, rfl, e1, e2⟩, b (i + 1) h' st', fun cc hcm => ?_⟩
    obtain ⟨o, e, _⟩ := (⟨_, st.1, fun v q => nomatch q⟩ : ∃ o, s.heap.get? z = some o ∧ ∀ v, o.data ≠ .cell v)
    have hlt : cc < s.heap.objs.size := by
      obtain ⟨hz, hTI, ⟨x, y, hTO⟩, o1, o2⟩ := st
      have e' : cc = z ∨ cc = TI ∨ cc = TO ∨ cc = i1 ∨ cc = i2 := by simpa using hcm
      rcases e' with q | q | q | q | q
      · rw [q]; exact Heap.lt_size hz
      · rw [q]; exact Heap.lt_size hTI
      · rw [q]; exact Heap.lt_size hTO
      · rw [q]; exact Heap.lt_size (Src.own_obj o1).choose_spec.1
      · rw [q]; exact Heap.lt_size (Src.own_obj o2).choose_spec.1
    rw [upd_ne (Nat.ne_of_lt (Nat.lt_of_lt_of_le hlt hn))]
    exact (hf cc hcm).1
  done := by
    intro X hP hw hK hc i pins s σ H E I hf st hg
    subst hP hw hK
    obtain ⟨hi, q1, q2⟩ := hg
    subst hi
    obtain ⟨fp, Y, St, W, a, b, c⟩ := zip_goes (elts := elts) (kk := kk) (tpos := tpos) (t1 := t1) (t2 := t2) D5 I hc hf q1 q2
    refine thn (W.stops s (fun s' => Inv X pins σ H s') _ (a _ st) fun h' tk hk htk => ?_) fun r s1 h => h
    exact I.turnedL (ch := [z, TI, TO, i1, i2]) (fun cc o hb e => hk cc o (fun hm => hb (by
      have e' : cc = z ∨ cc = TO ∨ cc = i1 ∨ cc = i2 := by simpa using hm
      rcases e' with q | q | q | q <;> simp [q])) e) hf
  self := fun A i s Q E st h => wpAny_pyIter_zip st.1 h
end
/-- how the iterator of such a thing begins -/
theorem Src.begins {X : Cx} {pins : List (Addr × Obj)} {σ : Sl} {H : Hp} {s : Shared} (I : Inv X pins σ H s) (S : Src) (hS : S.inH X.K H) {v : Value} (r : RelV S.val v) :
    ∃ (o : Obj) (Hh : Heap → Prop) (t : Tok), Begins v o Hh ∧ Hh s.heap ∧ ∀ h it, h.get? it = some o → S.own t it 0 h := by
  cases S with
  | txt x =>
    obtain ⟨t, rfl⟩ := r
    exact ⟨_, _, t, begins_text x t, trivial, fun h it e => ⟨_, e, rfl, rfl⟩⟩
  | tup a xs =>
    cases r
    obtain ⟨its, rv, p, _⟩ := I.tuple hS
    exact ⟨_, _, 0, begins_tuple a its.toArray, p, fun h it e => ⟨_, e, rfl, rfl⟩⟩
  | lst a xs =>
    cases r
    obtain ⟨its, rv, p, _⟩ := I.list hS
    exact ⟨_, _, 0, begins_list a its.toArray, p.isList, fun h it e => ⟨_, e, rfl, rfl⟩⟩
def iZipM (K : PySem.W.Frag) (ta : TA) : TI := fun σ H R => ta σ H fun vs H1 => ∃ S1 S2 : Src, vs = [S1.val, S2.val] ∧ S1.inH K H1 ∧ S2.inH K H1 ∧ R (ItM K S1 S2) H1
theorem five_apart (N : Nat) : ([N + 4, N + 2, N + 3, N, N + 1] : List Addr).Nodup := by
  have h : ([N + 4, N + 2, N + 3, N, N + 1] : List Nat).Nodup := by simp
  exact h
theorem pi_zipM {X : Cx} {e e2 : Expr} {ta : TA} {p pos tpos : Pos} {elts : List Expr} {kk : Nat} (hg : Gl X "zip") (hm : X.mg "zip" = none) (ha : PA X [e, e2] ta)
    (hs : starEach [e, e2] X.env = (false, eval e X.env) :: starEach [e2] X.env := by rfl) (hpl : (backTo pos (starEach [e2] X.env)).any (·.1) = false := by rfl) :
    PI X (.Tuple elts kk tpos) (.Call (.Name "zip" p) [e, e2] [] pos) (iZipM X.K ta) := by
  refine ⟨fun pins s σ H R I h => ?_⟩
  refine Call_ (ld_blt I hg hm PyProof.Rows.boot_zip (PyProof.Rows.callWith_type1 (thn (ha.run pos pins s σ H _ I h) fun us s1 ⟨vs, H1, I1, r1, q1⟩ => ?_) hs hpl))
  obtain ⟨S1, S2, rfl, g1, g2, q⟩ := q1
  cases r1 with
  | cons r rr =>
    cases rr with
    | cons r' rr =>
      cases rr
      obtain ⟨o1, H1', t1, B1, k1, w1⟩ := Src.begins I1 S1 g1 r
      obtain ⟨o2, H2', t2, B2, k2, w2⟩ := Src.begins I1 S2 g2 r'
      refine zip_begins2 B1 B2 k1 k2 fun h' hz hTI hTO h1 h2 hsz hk => wpAny_pyIter_zip hz ?_
      have I2 : Inv X pins σ H1 { s1 with heap := h' } := I1.kept (t' := s1.toks) hk
      refine ⟨s1.heap.objs.size + 4, [s1.heap.objs.size + 4, s1.heap.objs.size + 2, s1.heap.objs.size + 3, s1.heap.objs.size, s1.heap.objs.size + 1], _, _, H1, rfl, I2, turn_zipM (t1 := t1) (t2 := t2) (five_apart _), ⟨hz, hTI, ⟨_, _, hTO⟩, w1 _ _ h1, w2 _ _ h2⟩, fun c hcm => ?_, q⟩
      have hle : s1.heap.objs.size ≤ c := by
        have e' : c = s1.heap.objs.size + 4 ∨ c = s1.heap.objs.size + 2 ∨ c = s1.heap.objs.size + 3 ∨ c = s1.heap.objs.size ∨ c = s1.heap.objs.size + 1 := by simpa using hcm
        rcases e' with z | z | z | z | z <;> (rw [z]; first | exact Nat.le_add_right _ _ | exact Nat.le_refl _)
      exact I1.fpOk hle (I1.hok.fresh hle)
end DL

set_option Elab.async false
set_option linter.all false
set_option maxRecDepth 100000
set_option maxHeartbeats 4000000
namespace DL
open PySem PySem.Spec PyProof.Rows L2

/-! ### what is walked -/
def charsD (x : Str) : List Dt := x.cps.toList.map fun c => .str ⟨#[c]⟩
def iterP : Dt → Option (List Dt)
  | .lst ds => some ds
  | .tup ds => some ds
  | .str x => some (charsD x)
  | _ => none
def iVal (a : FE) : FA := fun env S => (a env S).bind fun x S1 => match iterP x with
  | some ds => .ok ds S1
  | none => .bad
section
variable {X : Cx} {E : Sl → XK} {tg : Expr}
theorem Kept.rd {W : Wr} {α : List Addr} {S : Store} {H H' : Hp} {a : Addr} {u : HO} (k : Kept W α S H H') (n : ¬ Owned W α S a) (r : Rd H a u) : Rd H' a u := by
  rcases r with r | ⟨o, r⟩
  · exact .inl (k _ _ n r)
  · exact .inr ⟨o, k _ _ n r⟩
theorem OffL.kept {W : Wr} {α : List Addr} {S : Store} {H H' : Hp} {a : Addr} {xs : List V} (o : OffL W α S H a xs) (k : Kept W α S H H') : SqL W.K H' a xs := by
  rcases o with ⟨n, r⟩ | q
  · exact .inl (k.rd n r)
  · exact LstAt.sq (.inr q)
theorem OffT.kept {W : Wr} {α : List Addr} {S : Store} {H H' : Hp} {a : Addr} {xs : List V} (o : OffT W α S H a xs) (k : Kept W α S H H') : SqT W.K H' a xs := by
  rcases o with ⟨n, r⟩ | q
  · exact .inl (k.rd n r)
  · exact .inr q
theorem ones_ok {W : Wr} {α : List Addr} {S : Store} {H : Hp} {vs : List V} {ds : List Dt} (r : Reps W α S H vs ds) : ∀ (i : Nat) (y : Itm) (d : Dt), (vs.map Itm.one)[i]? = some y → ds[i]? = some d → ItmRep W α S H y d := fun i y d h1 h2 => by
  obtain ⟨v, e1, e2⟩ := r.get h2
  rw [List.getElem?_map, e1] at h1
  cases h1
  exact e2
theorem it_list {W : Wr} {α : List Addr} {S : Store} {H : Hp} {a : Addr} {vs : List V} {ds : List Dt} (o : OffL W α S H a vs) (r : Reps W α S H vs ds) : ItOk W α S H (Itl W.K a) ds := by
  refine ⟨vs.map Itm.one, by simp [r.length], ones_ok r, fun H' k => ?_⟩
  have q := o.kept k
  have w := walk_list (K := W.K) (a := a) (xs := vs)
  rw [r.length] at w
  refine ⟨fun i hi => w.goes i H' hi q, w.stops H' q, fun i y x H'' h1 h2 => ?_⟩
  rw [List.getElem?_map] at h1
  obtain ⟨v, e1, rfl⟩ := Option.map_eq_some_iff.mp h1
  have hi : i < ds.length := by rw [← r.length]; exact (List.getElem?_eq_some_iff.mp e1).1
  obtain ⟨g1, g2⟩ := w.yields i H' x H'' hi q h2
  rw [e1] at g2
  cases g2
  exact ⟨g1, rfl⟩
theorem it_tup {W : Wr} {α : List Addr} {S : Store} {H : Hp} {a : Addr} {vs : List V} {ds : List Dt} (o : OffT W α S H a vs) (r : Reps W α S H vs ds) : ItOk W α S H (Itt W.K a) ds := by
  refine ⟨vs.map Itm.one, by simp [r.length], ones_ok r, fun H' k => ?_⟩
  have q := o.kept k
  have w := walk_tup (K := W.K) (a := a) (xs := vs)
  rw [r.length] at w
  refine ⟨fun i hi => w.goes i H' hi q, w.stops H' q, fun i y x H'' h1 h2 => ?_⟩
  rw [List.getElem?_map] at h1
  obtain ⟨v, e1, rfl⟩ := Option.map_eq_some_iff.mp h1
  have hi : i < ds.length := by rw [← r.length]; exact (List.getElem?_eq_some_iff.mp e1).1
  obtain ⟨g1, g2⟩ := w.yields i H' x H'' hi q h2
  rw [e1] at g2
  cases g2
  exact ⟨g1, rfl⟩
theorem it_str {W : Wr} {α : List Addr} {S : Store} {H : Hp} {z : Str} : ItOk W α S H (Its z) (charsD z) := by
  have w := walk_str (z := z)
  have hl : (charsD z).length = z.cps.size := by simp [charsD]
  refine ⟨z.cps.toList.map fun c => Itm.one (.str ⟨#[c]⟩), by simp [charsD], fun i y d h1 h2 => ?_, fun H' k => ⟨fun i hi => w.goes i H' (hl ▸ hi) trivial, by rw [hl]; exact w.stops H' trivial, fun i y x H'' h1 h2 => ?_⟩⟩
  · unfold charsD at h2
    rw [List.getElem?_map] at h1 h2
    obtain ⟨c, e1, rfl⟩ := Option.map_eq_some_iff.mp h1
    rw [e1] at h2
    cases h2
    exact .str _
  · rw [List.getElem?_map] at h1
    obtain ⟨c, e1, rfl⟩ := Option.map_eq_some_iff.mp h1
    have hi : i < z.cps.size := by simpa using (List.getElem?_eq_some_iff.mp e1).1
    obtain ⟨g1, c', g2, g3⟩ := w.yields i H' x H'' hi trivial h2
    have e2 : z.cps[i]? = some c := by simpa using e1
    rw [e2] at g2
    cases g2
    exact ⟨g1, g3⟩
/-- iter of a list, a tuple, a text -/
def iAny (K : PySem.W.Frag) (tl : TE) : TI := fun σ H R => tl σ H fun x H1 => (∃ a, x = .ref a ∧ (∃ xs, SqL K H1 a xs) ∧ R (Itl K a) H1) ∨ (∃ a, x = .ref a ∧ (∃ xs, SqT K H1 a xs) ∧ R (Itt K a) H1) ∨ ∃ z, x = .str z ∧ R (Its z) H1
theorem pi_any {l : Expr} {tl : TE} (hl : PE X l tl) : PI X tg l (iAny X.K tl) := by
  refine ⟨fun pins s σ H R I h => ?_⟩
  refine thn (hl.run pins s σ H _ I h) fun v s1 ⟨x, H1, I1, r1, q1⟩ => ?_
  have new : ∀ (o : Obj), ∀ b ∈ [s1.heap.objs.size], FpOk X pins H1 b := fun o b hb => by
    have e : b = s1.heap.objs.size := by simpa using hb
    rw [e]
    exact I1.fpOk (Nat.le_refl _) (I1.hok.fresh (Nat.le_refl _))
  have kept : ∀ o : Obj, Inv X pins σ H1 { s1 with heap := s1.heap.push o } := fun o => I1.kept (t' := s1.toks) fun b u e => Heap.get?_push_of_some _ e
  rcases q1 with ⟨a, rfl, ⟨xs, hq⟩, q⟩ | ⟨a, rfl, ⟨xs, hq⟩, q⟩ | ⟨z, rfl, q⟩
  · cases r1
    obtain ⟨its, rv, p, _⟩ := I1.list hq
    exact wpAny_pyIter_list p.isList ⟨_, [s1.heap.objs.size], _, _, H1, rfl, kept _, turn_list a _, ⟨_, Heap.get?_push_size _ rfl, rfl, rfl⟩, new default, q⟩
  · cases r1
    obtain ⟨its, rv, p, _⟩ := I1.tuple hq
    exact wpAny_pyIter_tuple (show s1.heap.IsTuple a its.toArray from p) ⟨_, [s1.heap.objs.size], _, _, H1, rfl, kept _, turn_tuple a _, ⟨_, Heap.get?_push_size _ rfl, rfl, rfl⟩, new default, q⟩
  · obtain ⟨t, rfl⟩ := r1
    have ty : strIterType z = "str_ascii_iterator" ∨ strIterType z = "str_iterator" := by
      unfold strIterType
      split
      · exact .inl rfl
      · exact .inr rfl
    exact wpAny_pyIter_strU ⟨_, [s1.heap.objs.size], _, _, H1, rfl, kept _, turn_str _ z t _ ty, ⟨_, Heap.get?_push_size _ rfl, rfl, rfl⟩, new default, q⟩
theorem di_val {e : Expr} {fe : FE} (h : DE X E e fe) : DI X E tg e (iVal fe) := by
  obtain ⟨t, a1, a2⟩ := h
  refine ⟨_, pi_any a1, fun B α σ H env S R r s h => ?_⟩
  refine a2 B α σ H env S _ r s (PostG.bind h fun α1 v H1 d S1 r1 s1 x1 h1 => ?_)
  cases d with
  | lst ds => cases r1 with | lst o q => exact .inl ⟨_, rfl, ⟨_, o.sq⟩, h1 α1 _ H1 (it_list o q) s1 Ext.refl⟩
  | tup ds => cases r1 with | tup o q => exact .inr (.inl ⟨_, rfl, ⟨_, o.sq⟩, h1 α1 _ H1 (it_tup o q) s1 Ext.refl⟩)
  | str z => cases r1; exact .inr (.inr ⟨z, rfl, h1 α1 _ H1 it_str s1 Ext.refl⟩)
  | _ => exact h1.elim

/-! ### range, enumerate, zip -/
def rangeD (lo : Int) (n : Nat) : List Dt := (List.range n).map fun (i : Nat) => .int (lo + (i : Nat))
def iRange1 (a : FA) : FA := fun env S => (a env S).bind fun ds S1 => match ds with
  | [.int j] => if -(2 ^ 62) ≤ j ∧ j < 2 ^ 62 then .ok (rangeD 0 j.toNat) S1 else .bad
  | _ => .bad
def iRange2 (a : FA) : FA := fun env S => (a env S).bind fun ds S1 => match ds with
  | [.int i, .int j] => if -(2 ^ 62) ≤ i ∧ i < 2 ^ 62 ∧ -(2 ^ 62) ≤ j ∧ j < 2 ^ 62 then .ok (rangeD i (j - i).toNat) S1 else .bad
  | _ => .bad
theorem it_range {W : Wr} {α : List Addr} {S : Store} {H : Hp} {lo : Int} {n : Nat} : ItOk W α S H (Itr lo n) (rangeD lo n) := by
  have w := walk_range (lo := lo) (n := n)
  have hl : (rangeD lo n).length = n := by simp [rangeD]
  refine ⟨(List.range n).map fun (i : Nat) => Itm.one (.int (lo + (i : Nat))), by simp [rangeD], fun i y d h1 h2 => ?_, fun H' k => ⟨fun i hi => w.goes i H' (hl ▸ hi) trivial, by rw [hl]; exact w.stops H' trivial, fun i y x H'' h1 h2 => ?_⟩⟩
  · unfold rangeD at h2
    rw [List.getElem?_map] at h1 h2
    obtain ⟨c, e1, rfl⟩ := Option.map_eq_some_iff.mp h1
    rw [e1] at h2
    cases h2
    exact .int _
  · rw [List.getElem?_map] at h1
    obtain ⟨c, e1, rfl⟩ := Option.map_eq_some_iff.mp h1
    obtain ⟨l, e2⟩ := List.getElem?_eq_some_iff.mp e1
    rw [List.getElem_range] at e2
    subst e2
    obtain ⟨g1, g2⟩ := w.yields i H' x H'' (by simpa using l) trivial h2
    exact ⟨g1, g2⟩
theorem di_range1 {a : Expr} {fa : FA} {p pos : Pos} (hg : Gl X "range") (hm : X.mg "range" = none) (ha : DA X E [a] fa) (hs : starEach [a] X.env = [(false, eval a X.env)] := by rfl) : DI X E tg (.Call (.Name "range" p) [a] [] pos) (iRange1 fa) := by
  obtain ⟨t, a1, a2⟩ := ha
  refine ⟨_, pi_range1 hg hm a1 hs, fun B α σ H env S R r s h => ?_⟩
  refine a2 B α σ H env S _ r s (PostG.bind h fun α1 vs H1 ds S1 r1 s1 x1 h1 => ?_)
  split at h1
  · rename_i j
    cases r1 with
    | cons r rr =>
      cases rr; cases r
      by_cases hj : -(2 ^ 62) ≤ j ∧ j < 2 ^ 62
      · rw [if_pos hj] at h1
        exact ⟨j, rfl, hj.1, hj.2, h1 α1 _ H1 it_range s1 Ext.refl⟩
      · rw [if_neg hj] at h1; exact h1.elim
  · exact h1.elim
theorem di_range2 {a b : Expr} {fa : FA} {p pos : Pos} (hg : Gl X "range") (hm : X.mg "range" = none) (ha : DA X E [a, b] fa) (hs : starEach [a, b] X.env = [(false, eval a X.env), (false, eval b X.env)] := by rfl) (hs2 : starEach [b] X.env = [(false, eval b X.env)] := by rfl) : DI X E tg (.Call (.Name "range" p) [a, b] [] pos) (iRange2 fa) := by
  obtain ⟨t, a1, a2⟩ := ha
  refine ⟨_, pi_range2 hg hm a1 hs hs2, fun B α σ H env S R r s h => ?_⟩
  refine a2 B α σ H env S _ r s (PostG.bind h fun α1 vs H1 ds S1 r1 s1 x1 h1 => ?_)
  split at h1
  · rename_i i j
    cases r1 with
    | cons r rr =>
      cases rr with
      | cons r' rr =>
        cases rr; cases r; cases r'
        by_cases hj : -(2 ^ 62) ≤ i ∧ i < 2 ^ 62 ∧ -(2 ^ 62) ≤ j ∧ j < 2 ^ 62
        · rw [if_pos hj] at h1
          exact ⟨i, j, rfl, hj, h1 α1 _ H1 it_range s1 Ext.refl⟩
        · rw [if_neg hj] at h1; exact h1.elim
  · exact h1.elim
def enumD : Nat → List Dt → List Dt
  | _, [] => []
  | i, d :: ds => .tup [.int (i : Nat), d] :: enumD (i + 1) ds
theorem enumD_len : ∀ (i : Nat) (ds : List Dt), (enumD i ds).length = ds.length
  | _, [] => rfl
  | i, d :: ds => congrArg (· + 1) (enumD_len (i + 1) ds)
theorem enumD_get : ∀ (k : Nat) (ds : List Dt) (i : Nat), (enumD k ds)[i]? = ds[i]?.map fun d => .tup [.int ((k + i : Nat) : Int), d]
  | _, [], i => by simp [enumD]
  | k, d :: ds, 0 => by simp [enumD]
  | k, d :: ds, i + 1 => by
    simp only [enumD, List.getElem?_cons_succ]
    rw [enumD_get (k + 1) ds i]
    congr 1
    funext x
    congr 3
    congr 1
    omega
def iEnumD (a : FA) : FA := fun env S => (a env S).bind fun ds S1 => match ds with
  | [.lst es] => .ok (enumD 0 es) S1
  | _ => .bad
theorem di_enum {e : Expr} {fa : FA} {p pos tpos : Pos} {elts : List Expr} {kk : Nat} (hg : Gl X "enumerate") (hm : X.mg "enumerate" = none) (ha : DA X E [e] fa) (hs : starEach [e] X.env = [(false, eval e X.env)] := by rfl) :
    DI X E (.Tuple elts kk tpos) (.Call (.Name "enumerate" p) [e] [] pos) (iEnumD fa) := by
  obtain ⟨t, a1, a2⟩ := ha
  refine ⟨_, pi_enum hg hm a1 hs, fun B α σ H env S R r s h => ?_⟩
  refine a2 B α σ H env S _ r s (PostG.bind h fun α1 vs H1 ds S1 r1 s1 x1 h1 => ?_)
  split at h1
  · rename_i es
    cases r1 with
    | cons r rr =>
      cases rr
      cases r with
      | lst o q =>
        rename_i a us
        refine ⟨a, us, rfl, o.sq, h1 α1 _ H1 ?_ s1 Ext.refl⟩
        have w := walk_enum (K := X.K) (a := a) (xs := us)
        refine ⟨(List.range us.length).map fun (i : Nat) => Itm.two (.int ((i : Nat) : Int)) (us.getD i .non), by simp [enumD_len, q.length], fun i y d h1 h2 => ?_, fun H' k => ?_⟩
        · rw [List.getElem?_map] at h1
          obtain ⟨c, e1, rfl⟩ := Option.map_eq_some_iff.mp h1
          obtain ⟨l, e2⟩ := List.getElem?_eq_some_iff.mp e1
          rw [List.getElem_range] at e2
          subst e2
          rw [enumD_get] at h2
          obtain ⟨x, e3, rfl⟩ := Option.map_eq_some_iff.mp h2
          obtain ⟨v, e4, e5⟩ := q.get e3
          refine ⟨_, _, rfl, by rw [Nat.zero_add]; exact .int _, ?_⟩
          rw [List.getD_eq_getElem?_getD, e4]
          exact e5
        · have hq := o.kept k
          rw [enumD_len, ← q.length]
          refine ⟨fun i hi => w.goes i H' hi hq, w.stops H' hq, fun i y x H'' h1 h2 => ?_⟩
          rw [List.getElem?_map] at h1
          obtain ⟨c, e1, rfl⟩ := Option.map_eq_some_iff.mp h1
          obtain ⟨l, e2⟩ := List.getElem?_eq_some_iff.mp e1
          rw [List.getElem_range] at e2
          subst e2
          obtain ⟨T, x1, y1, g1, g2, g3, g4, g5⟩ := w.yields i H' x H'' (by simpa using l) hq h2
          cases g4
          have g5' : us[i]? = some y1 := g5
          refine ⟨T, g1, g2, ?_⟩
          rw [g3, List.getD_eq_getElem?_getD, g5']
          rfl
  · exact h1.elim
def zipD : List Dt → List Dt → List Dt
  | d :: ds, e :: es => .tup [d, e] :: zipD ds es
  | _, _ => []
theorem zipD_len : ∀ (ds es : List Dt), (zipD ds es).length = min ds.length es.length
  | [], _ => by simp [zipD]
  | _ :: _, [] => by simp [zipD]
  | d :: ds, e :: es => by simp [zipD, zipD_len ds es]
theorem zipD_get : ∀ (ds es : List Dt) (i : Nat) (x : Dt), (zipD ds es)[i]? = some x → ∃ d e, ds[i]? = some d ∧ es[i]? = some e ∧ x = .tup [d, e]
  | [], _, i, x, h => by simp [zipD] at h
  | _ :: _, [], i, x, h => by simp [zipD] at h
  | d :: ds, e :: es, 0, x, h => by simp [zipD] at h; exact ⟨d, e, by simp, by simp, h.symm⟩
  | d :: ds, e :: es, i + 1, x, h => by
    simp only [zipD, List.getElem?_cons_succ] at h ⊢
    exact zipD_get ds es i x h
def iZipD (a : FA) : FA := fun env S => (a env S).bind fun ds S1 => match ds with
  | [d, e] => (match iterP d, iterP e with
    | some xs, some ys => .ok (zipD xs ys) S1
    | _, _ => .bad)
  | _ => .bad
/-- such a thing as a source -/
theorem src_of {W : Wr} {α : List Addr} {S : Store} {H : Hp} {v : V} {d : Dt} {ds : List Dt} (r : Rep W α S H v d) (h : iterP d = some ds) :
    ∃ Z : Src, Z.val = v ∧ Z.len = ds.length ∧ (∀ H', Kept W α S H H' → Z.inH W.K H') ∧ ∀ i x, ds[i]? = some x → ∃ u, Z.at_ i = some u ∧ Rep W α S H u x := by
  cases d with
  | lst es =>
    cases h
    cases r with
    | lst o q => exact ⟨.lst _ _, rfl, q.length, fun H' k => o.kept k, fun i x e => q.get e⟩
  | tup es =>
    cases h
    cases r with
    | tup o q => exact ⟨.tup _ _, rfl, q.length, fun H' k => o.kept k, fun i x e => q.get e⟩
  | str z =>
    cases h
    cases r
    refine ⟨.txt z, rfl, by simp [charsD, Src.len], fun _ _ => trivial, fun i x e => ?_⟩
    unfold charsD at e
    rw [List.getElem?_map] at e
    obtain ⟨c, e1, rfl⟩ := Option.map_eq_some_iff.mp e
    have e2 : z.cps[i]? = some c := by simpa using e1
    refine ⟨.str ⟨#[c]⟩, ?_, .str _⟩
    show (z.cps[i]?).map _ = _
    rw [e2]
    rfl
  | _ => cases h
theorem di_zip {e e2 : Expr} {fa : FA} {p pos tpos : Pos} {elts : List Expr} {kk : Nat} (hg : Gl X "zip") (hm : X.mg "zip" = none) (ha : DA X E [e, e2] fa)
    (hs : starEach [e, e2] X.env = (false, eval e X.env) :: starEach [e2] X.env := by rfl) (hpl : (backTo pos (starEach [e2] X.env)).any (·.1) = false := by rfl) :
    DI X E (.Tuple elts kk tpos) (.Call (.Name "zip" p) [e, e2] [] pos) (iZipD fa) := by
  obtain ⟨t, a1, a2⟩ := ha
  refine ⟨_, pi_zipM hg hm a1 hs hpl, fun B α σ H env S R r s h => ?_⟩
  refine a2 B α σ H env S _ r s (PostG.bind h fun α1 vs H1 ds S1 r1 s1 x1 h1 => ?_)
  split at h1
  · rename_i d e
    cases hd : iterP d with
    | none => simp only [hd] at h1; exact h1.elim
    | some xs =>
      cases he : iterP e with
      | none => simp only [hd, he] at h1; exact h1.elim
      | some ys =>
        simp only [hd, he] at h1
        cases r1 with
        | cons r rr =>
          cases rr with
          | cons r' rr =>
            cases rr
            obtain ⟨Z1, rfl, l1, k1, g1⟩ := src_of r hd
            obtain ⟨Z2, rfl, l2, k2, g2⟩ := src_of r' he
            refine ⟨Z1, Z2, rfl, k1 H1 fun _ _ _ z => z, k2 H1 fun _ _ _ z => z, h1 α1 _ H1 ?_ s1 Ext.refl⟩
            have hl : (zipD xs ys).length = min Z1.len Z2.len := by rw [zipD_len, l1, l2]
            refine ⟨(List.range (min Z1.len Z2.len)).map fun i => Itm.two ((Z1.at_ i).getD .non) ((Z2.at_ i).getD .non), by simp [hl], fun i y x h1 h2 => ?_, fun H' k => ?_⟩
            · rw [List.getElem?_map] at h1
              obtain ⟨c, e1, rfl⟩ := Option.map_eq_some_iff.mp h1
              obtain ⟨l, e2⟩ := List.getElem?_eq_some_iff.mp e1
              rw [List.getElem_range] at e2
              subst e2
              obtain ⟨d1, d2, e3, e4, rfl⟩ := zipD_get xs ys i x h2
              obtain ⟨u, e5, e6⟩ := g1 i d1 e3
              obtain ⟨u', e7, e8⟩ := g2 i d2 e4
              refine ⟨d1, d2, rfl, ?_, ?_⟩
              · rw [e5]; exact e6
              · rw [e7]; exact e8
            · rw [hl]
              refine ⟨fun i hi => ⟨hi, k1 H' k, k2 H' k⟩, ⟨rfl, k1 H' k, k2 H' k⟩, fun i y x H'' h1 h2 => ?_⟩
              rw [List.getElem?_map] at h1
              obtain ⟨c, e1, rfl⟩ := Option.map_eq_some_iff.mp h1
              obtain ⟨l, e2⟩ := List.getElem?_eq_some_iff.mp e1
              rw [List.getElem_range] at e2
              subst e2
              obtain ⟨T, x', y', e3, e4, e5, e6, e7⟩ := h2
              refine ⟨T, e3, e4, ?_⟩
              rw [e5, e6, e7]
              rfl
  · exact h1.elim
end
end DL

set_option Elab.async false
set_option linter.all false
set_option maxRecDepth 100000
set_option maxHeartbeats 4000000
namespace DL
open PySem PySem.Spec PyProof.Rows L2

/-! ### builtins by values -/
def intsOf : List Dt → Option (List Int)
  | [] => some []
  | .int i :: ds => (intsOf ds).map (i :: ·)
  | _ => none
def blsOf : List Dt → Option (List Bool)
  | [] => some []
  | .bl b :: ds => (blsOf ds).map (b :: ·)
  | _ => none
def strsOf : List Dt → Option (List Str)
  | [] => some []
  | .str b :: ds => (strsOf ds).map (b :: ·)
  | _ => none
section
variable {W : Wr} {α : List Addr} {S : Store} {H : Hp}
theorem Reps.ints : ∀ {vs : List V} {ds : List Dt} {ns : List Int}, Reps W α S H vs ds → intsOf ds = some ns → vs = ns.map V.int
  | _, _, _, .nil, h => by cases h; rfl
  | _, d :: ds, ns, .cons r t, h => by
    cases d with
    | int i =>
      unfold intsOf at h
      obtain ⟨ms, h1, rfl⟩ := Option.map_eq_some_iff.mp h
      cases r
      rw [Reps.ints t h1]
      rfl
    | _ => cases h
theorem Reps.bls : ∀ {vs : List V} {ds : List Dt} {ns : List Bool}, Reps W α S H vs ds → blsOf ds = some ns → vs = ns.map V.bl
  | _, _, _, .nil, h => by cases h; rfl
  | _, d :: ds, ns, .cons r t, h => by
    cases d with
    | bl i =>
      unfold blsOf at h
      obtain ⟨ms, h1, rfl⟩ := Option.map_eq_some_iff.mp h
      cases r
      rw [Reps.bls t h1]
      rfl
    | _ => cases h
theorem Reps.strs : ∀ {vs : List V} {ds : List Dt} {ns : List Str}, Reps W α S H vs ds → strsOf ds = some ns → vs = ns.map V.str
  | _, _, _, .nil, h => by cases h; rfl
  | _, d :: ds, ns, .cons r t, h => by
    cases d with
    | str i =>
      unfold strsOf at h
      obtain ⟨ms, h1, rfl⟩ := Option.map_eq_some_iff.mp h
      cases r
      rw [Reps.strs t h1]
      rfl
    | _ => cases h
theorem Reps.ofInts : ∀ ns : List Int, Reps W α S H (ns.map V.int) (ns.map Dt.int)
  | [] => .nil
  | n :: ns => .cons (.int n) (Reps.ofInts ns)
theorem Reps.ofStrs : ∀ ns : List Str, Reps W α S H (ns.map V.str) (ns.map Dt.str)
  | [] => .nil
  | n :: ns => .cons (.str n) (Reps.ofStrs ns)
end
def opLen : List Dt → Store → Out Dt := fun ds S => match ds with
  | [.str z] => if z.length ≤ LINE then .ok (.int z.length) S else .bad
  | [d] => (match asSeq S d with
    | some es => .ok (.int es.length) S
    | none => match d with
      | .ref n => (match S[n]? with
        | some (.dct kvs) => .ok (.int kvs.length) S
        | _ => .bad)
      | _ => .bad)
  | _ => .bad
def opList : List Dt → Store → Out Dt := fun ds S => match ds with
  | [d] => (match asSeq S d with
    | some es => .ok (.lst es) S
    | none => .bad)
  | _ => .bad
def opListO : List Dt → Store → Out Dt := fun ds S => match ds with
  | [d] => (match asSeq S d with
    | some es => .ok (.ref S.length) (S ++ [.lst es])
    | none => .bad)
  | _ => .bad
def opTuple : List Dt → Store → Out Dt := fun ds S => match ds with
  | [d] => (match asSeq S d with
    | some es => .ok (.tup es) S
    | none => .bad)
  | _ => .bad
def listInts (S : Store) : List Dt → Option (List Int)
  | [d] => (asList S d).bind intsOf
  | _ => none
def listBls (S : Store) : List Dt → Option (List Bool)
  | [d] => (asList S d).bind blsOf
  | _ => none
def opSum : List Dt → Store → Out Dt := fun ds S => match listInts S ds with
  | some ns => .ok (.int ns.sum) S
  | none => .bad
def opAll : List Dt → Store → Out Dt := fun ds S => match listBls S ds with
  | some bs => .ok (.bl (bs.all id)) S
  | none => .bad
def opAny : List Dt → Store → Out Dt := fun ds S => match listBls S ds with
  | some bs => .ok (.bl (bs.any id)) S
  | none => .bad
def opMax2 : List Dt → Store → Out Dt := fun ds S => match ds with
  | [.int i, .int j] => .ok (.int (if j > i then j else i)) S
  | _ => .bad
def opMin2 : List Dt → Store → Out Dt := fun ds S => match ds with
  | [.int i, .int j] => .ok (.int (if j < i then j else i)) S
  | _ => .bad
def opInt : List Dt → Store → Out Dt := fun ds S => match ds with
  | [.int i] => .ok (.int i) S
  | [.bl k] => .ok (.int (if k then 1 else 0)) S
  | _ => .bad
def insI (x : Int) : List Int → List Int
  | [] => [x]
  | y :: ys => if x ≤ y then x :: y :: ys else y :: insI x ys
def sortI (l : List Int) : List Int := l.foldr insI []
theorem insI_perm (x : Int) : ∀ l : List Int, (insI x l).Perm (x :: l)
  | [] => .refl _
  | y :: ys => by
    unfold insI
    by_cases h : x ≤ y
    · rw [if_pos h]
    · rw [if_neg h]
      exact ((insI_perm x ys).cons y).trans (.swap x y ys)
theorem sortI_perm : ∀ l : List Int, (sortI l).Perm l
  | [] => .refl _
  | y :: ys => (insI_perm y (sortI ys)).trans ((sortI_perm ys).cons y)
theorem insI_sorted (x : Int) : ∀ l : List Int, l.Pairwise (· ≤ ·) → (insI x l).Pairwise (· ≤ ·)
  | [], _ => by simp [insI]
  | y :: ys, h => by
    obtain ⟨h1, h2⟩ := List.pairwise_cons.mp h
    unfold insI
    by_cases hx : x ≤ y
    · rw [if_pos hx]
      refine List.pairwise_cons.mpr ⟨fun z hz => ?_, h⟩
      rcases List.mem_cons.mp hz with rfl | hz
      · exact hx
      · exact Int.le_trans hx (h1 z hz)
    · rw [if_neg hx]
      refine List.pairwise_cons.mpr ⟨fun z hz => ?_, insI_sorted x ys h2⟩
      rcases List.mem_cons.mp ((insI_perm x ys).mem_iff.mp hz) with rfl | hz
      · omega
      · exact h1 z hz
theorem sortI_sorted : ∀ l : List Int, (sortI l).Pairwise (· ≤ ·)
  | [] => .nil
  | y :: ys => insI_sorted y _ (sortI_sorted ys)
def opSorted : List Dt → Store → Out Dt := fun ds S => match listInts S ds with
  | some ns => .ok (.lst ((sortI ns).map Dt.int)) S
  | none => .bad
section
variable {X : Cx}
theorem cd_len : CallD X (.builtin "len") opLen := by
  refine ⟨_, (call_len_str.or call_len_seq).or call_lenD, fun B α S H E xs ds Q rs s h => ?_⟩
  unfold opLen at h
  split at h
  · rename_i z
    cases rs with
    | cons r t =>
      cases t; cases r
      by_cases hz : z.length ≤ LINE
      · rw [if_pos hz] at h; exact .inl (.inl ⟨z, rfl, hz, post_ok s (.int _) h⟩)
      · rw [if_neg hz] at h; exact h.elim
  · rename_i d _
    cases rs with
    | cons r t =>
      cases t
      cases hs : asSeq S d with
      | some es =>
        simp only [hs] at h
        obtain ⟨a, vs, rfl, sa, ra⟩ := asSeq_rep s r hs
        rw [← ra.length] at h
        exact .inl (.inr ⟨a, vs, rfl, sa, post_ok s (.int _) h⟩)
      | none =>
        simp only [hs] at h
        cases d with
        | ref n =>
          simp only at h
          cases r with
          | ref e =>
            cases hn : S[n]? with
            | none => simp only [hn] at h; exact h.elim
            | some mo =>
              simp only [hn] at h
              cases mo with
              | dct kvs =>
                simp only at h
                obtain ⟨us, h1, h2⟩ := s.obj n _ _ e hn
                rw [← h2.length] at h
                exact .inr ⟨_, us, rfl, h1, post_ok s (.int _) h⟩
              | _ => exact h.elim
        | _ => exact h.elim
  · exact h.elim
theorem cd_list : CallD X (.type "list") opList := by
  refine ⟨_, call_list_of, fun B α S H E xs ds Q rs s h => ?_⟩
  unfold opList at h
  split at h
  · rename_i d
    cases rs with
    | cons r t =>
      cases t
      cases hs : asSeq S d with
      | some es =>
        simp only [hs] at h
        obtain ⟨a, vs, rfl, sa, ra⟩ := asSeq_rep s r hs
        exact ⟨a, vs, rfl, sa, fun p hp => post_new_lst s ra h hp⟩
      | none => simp only [hs] at h; exact h.elim
  · exact h.elim
theorem cd_listO : CallD X (.type "list") opListO := by
  refine ⟨_, call_list_of, fun B α S H E xs ds Q rs s h => ?_⟩
  unfold opListO at h
  split at h
  · rename_i d
    cases rs with
    | cons r t =>
      cases t
      cases hs : asSeq S d with
      | some es =>
        simp only [hs] at h
        obtain ⟨a, vs, rfl, sa, ra⟩ := asSeq_rep s r hs
        exact ⟨a, vs, rfl, sa, fun p hp => alloc_lst s hp ra h⟩
      | none => simp only [hs] at h; exact h.elim
  · exact h.elim
theorem asList_not_tup {S : Store} {d : Dt} {es : List Dt} (h : asSeq S d = some es) : (∃ ds, d = .tup ds ∧ es = ds) ∨ asList S d = some es := by
  cases d with
  | tup ds => cases h; exact .inl ⟨_, rfl, rfl⟩
  | _ => exact .inr h
theorem cd_tuple : CallD X (.type "tuple") opTuple := by
  refine ⟨_, call_tuple_of, fun B α S H E xs ds Q rs s h => ?_⟩
  unfold opTuple at h
  split at h
  · rename_i d
    cases rs with
    | cons r t =>
      cases t
      cases hs : asSeq S d with
      | some es =>
        simp only [hs] at h
        rcases asList_not_tup hs with ⟨ds, rfl, rfl⟩ | hl
        · cases r with
          | tup o q => exact ⟨_, _, rfl, .inr ⟨o.sq, post_ok s (.tup o q) h⟩⟩
        · obtain ⟨a, vs, rfl, sa, ra⟩ := asList_rep s r hl
          exact ⟨a, vs, rfl, .inl ⟨sa.sq, fun p hp => post_new_tup s ra h hp⟩⟩
      | none => simp only [hs] at h; exact h.elim
  · exact h.elim
theorem listInts_rep {W : Wr} {α : List Addr} {S : Store} {H : Hp} {xs : List V} {ds : List Dt} {ns : List Int} (s : Sim W α S H) (r : Reps W α S H xs ds) (h : listInts S ds = some ns) : ∃ a, xs = [V.ref a] ∧ SqL W.K H a (ns.map V.int) := by
  unfold listInts at h
  split at h
  · rename_i d
    cases r with
    | cons r t =>
      cases t
      obtain ⟨es, h1, h2⟩ := Option.bind_eq_some_iff.mp h
      obtain ⟨a, vs, rfl, sa, ra⟩ := asList_rep s r h1
      have e := ra.ints h2
      subst e
      exact ⟨a, rfl, sa.sq⟩
  · cases h
theorem listBls_rep {W : Wr} {α : List Addr} {S : Store} {H : Hp} {xs : List V} {ds : List Dt} {ns : List Bool} (s : Sim W α S H) (r : Reps W α S H xs ds) (h : listBls S ds = some ns) : ∃ a, xs = [V.ref a] ∧ SqL W.K H a (ns.map V.bl) := by
  unfold listBls at h
  split at h
  · rename_i d
    cases r with
    | cons r t =>
      cases t
      obtain ⟨es, h1, h2⟩ := Option.bind_eq_some_iff.mp h
      obtain ⟨a, vs, rfl, sa, ra⟩ := asList_rep s r h1
      have e := ra.bls h2
      subst e
      exact ⟨a, rfl, sa.sq⟩
  · cases h
theorem cd_sum (hc : X.calm = true) : CallD X (.builtin "sum") opSum := by
  refine ⟨_, cr_sum hc, fun B α S H E xs ds Q rs s h => ?_⟩
  unfold opSum at h
  split at h
  · rename_i ns hn
    obtain ⟨a, rfl, sa⟩ := listInts_rep s rs hn
    exact ⟨a, ns, rfl, sa, post_ok s (.int _) h⟩
  · exact h.elim
theorem cd_all (hc : X.calm = true) : CallD X (.builtin "all") opAll := by
  refine ⟨_, cr_all hc, fun B α S H E xs ds Q rs s h => ?_⟩
  unfold opAll at h
  split at h
  · rename_i ns hn
    obtain ⟨a, rfl, sa⟩ := listBls_rep s rs hn
    exact ⟨a, ns, rfl, sa, post_ok s (.bl _) h⟩
  · exact h.elim
theorem cd_any (hc : X.calm = true) : CallD X (.builtin "any") opAny := by
  refine ⟨_, cr_any hc, fun B α S H E xs ds Q rs s h => ?_⟩
  unfold opAny at h
  split at h
  · rename_i ns hn
    obtain ⟨a, rfl, sa⟩ := listBls_rep s rs hn
    exact ⟨a, ns, rfl, sa, post_ok s (.bl _) h⟩
  · exact h.elim
theorem cd_max2 (hc : X.calm = true) : CallD X (.builtin "max") opMax2 := by
  refine ⟨_, call_max2 hc, fun B α S H E xs ds Q rs s h => ?_⟩
  unfold opMax2 at h
  split at h
  · cases rs with
    | cons r t =>
      cases t with
      | cons r' t => cases t; cases r; cases r'; exact ⟨_, _, rfl, post_ok s (.int _) h⟩
  · exact h.elim
theorem cd_min2 (hc : X.calm = true) : CallD X (.builtin "min") opMin2 := by
  refine ⟨_, call_min2 hc, fun B α S H E xs ds Q rs s h => ?_⟩
  unfold opMin2 at h
  split at h
  · cases rs with
    | cons r t =>
      cases t with
      | cons r' t => cases t; cases r; cases r'; exact ⟨_, _, rfl, post_ok s (.int _) h⟩
  · exact h.elim
theorem cd_int : CallD X (.type "int") opInt := by
  refine ⟨_, call_int1, fun B α S H E xs ds Q rs s h => ?_⟩
  unfold opInt at h
  split at h
  · cases rs with
    | cons r t => cases t; cases r; exact .inl ⟨_, rfl, post_ok s (.int _) h⟩
  · cases rs with
    | cons r t => cases t; cases r; exact .inr ⟨_, rfl, post_ok s (.int _) h⟩
  · exact h.elim
theorem cd_sorted : CallD X (.builtin "sorted") opSorted := by
  refine ⟨_, cr_sortedI, fun B α S H E xs ds Q rs s h => ?_⟩
  unfold opSorted at h
  split at h
  · rename_i ns hn
    obtain ⟨a, rfl, sa⟩ := listInts_rep s rs hn
    refine ⟨a, ns, rfl, sa, fun ns' p h1 h2 hp => ?_⟩
    have e : ns' = sortI ns := PySem.W.ksm_same (h1.trans (sortI_perm ns).symm) h2 (sortI_sorted ns)
    subst e
    exact post_new_lst s (Reps.ofInts _) h hp
  · exact h.elim

/-! ### isinstance -/
def tyD (S : Store) : Dt → Option String
  | .non => some "NoneType"
  | .bl _ => some "bool"
  | .int _ => some "int"
  | .str _ => some "str"
  | .tup _ => some "tuple"
  | .lst _ => some "list"
  | .dct _ => some "dict"
  | .ref n => match S[n]? with
    | some (.lst _) => some "list"
    | some (.dct _) => some "dict"
    | _ => none
  | .fn _ => none
/-- of that class: bool is an int -/
def subTy (t c : String) : Bool := decide (t = c) || (decide (t = "bool") && decide (c = "int"))
theorem kit_one (K : PySem.W.Frag) (t c : String) (ht : t ∈ ["NoneType", "bool", "int", "str", "tuple", "list", "dict"]) (hc : c ∈ ["bool", "int", "str", "tuple", "list", "dict"]) : PySem.W.kitOne K (.type t) (.type c) = some (subTy t c) := by
  simp only [List.mem_cons, List.mem_nil_iff, or_false] at ht hc
  rcases ht with rfl | rfl | rfl | rfl | rfl | rfl | rfl <;> rcases hc with rfl | rfl | rfl | rfl | rfl | rfl <;> exact kit_ty (by decide +kernel)
end
end DL

set_option Elab.async false
set_option linter.all false
set_option maxRecDepth 100000
set_option maxHeartbeats 4000000
namespace DL
open PySem PySem.Spec PyProof.Rows L2

/-! ### isinstance(x, T), isinstance(x, (T, U)) -/
theorem tyD_rep {W : Wr} {α : List Addr} {S : Store} {H : Hp} {v : V} {d : Dt} {t : String} (s : Sim W α S H) (r : Rep W α S H v d) (h : tyD S d = some t) : TyX W.K H v (.type t) := by
  cases d with
  | non => cases h; cases r; exact .base .non
  | bl b => cases h; cases r; exact .base (.bl b)
  | int i => cases h; cases r; exact .base (.int i)
  | str x => cases h; cases r; exact .base (.str x)
  | tup ds =>
    cases h
    cases r with
    | tup o q =>
      rcases o with ⟨_, h1 | ⟨o, h1⟩⟩ | ⟨o, its, n, h1, h2, _⟩
      · exact .base (.tup h1)
      · exact .fTuple h1
      · exact .kTuple h1 h2
  | lst ds =>
    cases h
    cases r with
    | lst o q =>
      rcases o with ⟨_, h1 | ⟨o, h1⟩⟩ | ⟨its, n, h1, _⟩
      · exact .base (.lst h1)
      · exact .base (.frz h1)
      · exact .kList h1 rfl
  | dct ds =>
    cases h
    cases r with
    | dct o q =>
      rcases o with ⟨_, h1⟩ | ⟨es, n, h1, _⟩
      · exact .base (.dK h1)
      · exact .kDict h1.at_ rfl
  | ref n =>
    unfold tyD at h
    cases r with
    | ref e =>
      cases hn : S[n]? with
      | none => simp only [hn] at h; cases h
      | some mo =>
        simp only [hn] at h
        cases mo with
        | gone => cases h
        | lst ds => cases h; obtain ⟨vs, h1, _⟩ := s.obj n _ _ e hn; exact .base (.lst h1)
        | dct ds => cases h; obtain ⟨vs, h1, _⟩ := s.obj n _ _ e hn; exact .base (.dK h1)
  | fn x => cases h
def okTy (c : String) : Bool := decide (c ∈ ["bool", "int", "str", "tuple", "list", "dict"])
def isiP (S : Store) (cs : List String) (d : Dt) : Option Bool := (tyD S d).map fun t => cs.any fun c => subTy t c
def cIsi (cs : List String) (f : FE) : FE := fun env S => (f env S).bind fun d S1 => match isiP S1 cs d with
  | some b => .ok (.bl b) S1
  | none => .bad
theorem tyD_in {S : Store} {d : Dt} {t : String} (h : tyD S d = some t) : t ∈ ["NoneType", "bool", "int", "str", "tuple", "list", "dict"] := by
  unfold tyD at h
  split at h
  all_goals first | (cases h; done) | (cases h; decide) | skip
  split at h <;> first | (cases h; done) | (cases h; decide)
theorem kit_any (K : PySem.W.Frag) (t : String) (ht : t ∈ ["NoneType", "bool", "int", "str", "tuple", "list", "dict"]) : ∀ cs : List String, (∀ c ∈ cs, okTy c = true) → PySem.W.kitAny K (.type t) (cs.map Value.type) = some (cs.any fun c => subTy t c)
  | [], _ => rfl
  | c :: cs, h => by
    refine kitAny_cons (kit_one K t c ht (of_decide_eq_true (h c List.mem_cons_self))) (fun e => ?_) (fun e => ?_)
    · rw [kit_any K t ht cs fun x hx => h x (List.mem_cons_of_mem _ hx), List.any_cons, e, Bool.false_or]
    · rw [List.any_cons, e, Bool.true_or]
section
variable {X : Cx} {E : Sl → XK} {e : Expr} {fe : FE} {p p2 p3 pos : Pos}
theorem de_isi {x : Str} {c : String} (hg : Gl X "isinstance") (hm : X.mg "isinstance" = none) (he : DE X E e fe) (hx : Gl X x) (hmx : X.mg x = none) (hv : bootBuiltins x = some (.type c)) (ho : okTy c = true)
    (hn : x ≠ "__name__" := by decide) (hd : (x == ("__debug__" : Str)) = false := by decide)
    (hs1 : starEach [e, .Name x p2] X.env = (false, eval e X.env) :: starEach [.Name x p2] X.env := by rfl) (hs2 : starEach [.Name x p2] X.env = (false, eval (.Name x p2) X.env) :: starEach [] X.env := by rfl)
    (hpl : (backTo pos (starEach [.Name x p2] X.env)).any (·.1) = false := by rfl) : DE X E (.Call (.Name "isinstance" p) [e, .Name x p2] [] pos) (cIsi [c] fe) := by
  obtain ⟨t, a1, a2⟩ := he
  refine ⟨_, pe_callB call_isi hg hm PyProof.Rows.boot_isinstance (pa_cons a1 (pa_cons (pe_bltn (v := V.ty c) hx hmx hv rfl hn hd) pa_nil hs2) hs1) (by decide) (by decide) hs1 hpl, fun B α σ H env S Q r s h => ?_⟩
  refine a2 B α σ H env S _ r s (PostG.bind h fun α1 v H1 d S1 r1 s1 x1 h1 => ?_)
  unfold isiP at h1
  cases ht : tyD S1 d with
  | none => simp only [ht] at h1; exact h1.elim
  | some t =>
    simp only [ht] at h1
    have hk := kit_one X.K t c (tyD_in ht) (of_decide_eq_true ho)
    refine ⟨v, V.ty c, .type t, .type c, subTy t c, rfl, .ty c, tyD_rep s1 r1 ht, hk, ?_⟩
    have e2 : ([c].any fun c => subTy t c) = subTy t c := by simp
    simp only [Option.map_some, e2] at h1
    exact post_ok s1 (.bl _) h1
theorem de_isi2 {x y : Str} {c c' : String} {k} {p4 : Pos} (hg : Gl X "isinstance") (hm : X.mg "isinstance" = none) (he : DE X E e fe) (hx : Gl X x) (hmx : X.mg x = none) (hv : bootBuiltins x = some (.type c)) (ho : okTy c = true)
    (hy : Gl X y) (hmy : X.mg y = none) (hvy : bootBuiltins y = some (.type c')) (hoy : okTy c' = true)
    (hn : x ≠ "__name__" := by decide) (hd : (x == ("__debug__" : Str)) = false := by decide) (hny : y ≠ "__name__" := by decide) (hdy : (y == ("__debug__" : Str)) = false := by decide)
    (ht1 : starEach [.Name x p2, .Name y p3] X.env = (false, eval (.Name x p2) X.env) :: starEach [.Name y p3] X.env := by rfl) (ht2 : starEach [.Name y p3] X.env = (false, eval (.Name y p3) X.env) :: starEach [] X.env := by rfl)
    (hs1 : starEach [e, .Tuple [.Name x p2, .Name y p3] k p4] X.env = (false, eval e X.env) :: starEach [.Tuple [.Name x p2, .Name y p3] k p4] X.env := by rfl)
    (hs2 : starEach [.Tuple [.Name x p2, .Name y p3] k p4] X.env = (false, eval (.Tuple [.Name x p2, .Name y p3] k p4) X.env) :: starEach [] X.env := by rfl)
    (hpl : (backTo pos (starEach [.Tuple [.Name x p2, .Name y p3] k p4] X.env)).any (·.1) = false := by rfl) : DE X E (.Call (.Name "isinstance" p) [e, .Tuple [.Name x p2, .Name y p3] k p4] [] pos) (cIsi [c, c'] fe) := by
  obtain ⟨t, a1, a2⟩ := he
  refine ⟨_, pe_callB call_isiT hg hm PyProof.Rows.boot_isinstance (pa_cons a1 (pa_cons (pe_tup (pa_cons (pe_bltn (v := V.ty c) hx hmx hv rfl hn hd) (pa_cons (pe_bltn (v := V.ty c') hy hmy hvy rfl hny hdy) pa_nil ht2) ht1)) pa_nil hs2) hs1) (by decide) (by decide) hs1 hpl, fun B α σ H env S Q r s h => ?_⟩
  refine a2 B α σ H env S _ r s (PostG.bind h fun α1 v H1 d S1 r1 s1 x1 h1 => ?_)
  unfold isiP at h1
  cases ht : tyD S1 d with
  | none => simp only [ht] at h1; exact h1.elim
  | some t =>
    simp only [ht] at h1
    refine ⟨by show 2 ≤ sizeLine; decide, fun tp hp => ?_⟩
    have hk := kit_any X.K t (tyD_in ht) [c, c'] (fun z hz => by
      rcases List.mem_cons.mp hz with rfl | hz
      · exact ho
      · rw [List.mem_singleton.mp hz]; exact hoy)
    refine ⟨v, tp, [V.ty c, V.ty c'], .type t, [.type c, .type c'], _, rfl, upd_same, .cons (.ty c) (.cons (.ty c') .nil), tyD_rep (s1.new hp) (r1.ext (Ext.new s1 hp)) ht, hk, ?_⟩
    simp only [Option.map_some] at h1
    exact h1 α1 _ _ (.bl _) (s1.new hp) (Ext.new s1 hp)
end

/-! ### methods -/
inductive RK where
  | str
  | lst
  | dct
def RK.ty : RK → String
  | .str => "str"
  | .lst => "list"
  | .dct => "dict"
def recvOk (k : RK) (S : Store) (d : Dt) : Bool := match k, d with
  | .str, .str _ => true
  | .lst, d => (asList S d).isSome
  | .dct, .ref n => (match S[n]? with | some (.dct _) => true | _ => false)
  | _, _ => false
theorem recv_rep {W : Wr} {α : List Addr} {S : Store} {H : Hp} {v : V} {d : Dt} {k : RK} (s : Sim W α S H) (r : Rep W α S H v d) (h : recvOk k S d = true) : tyV W.K k.ty v H := by
  unfold recvOk at h
  split at h
  · cases r; rfl
  · obtain ⟨ds, e⟩ := Option.isSome_iff_exists.mp h
    obtain ⟨a, vs, rfl, sa, ra⟩ := asList_rep s r e
    exact .inl ⟨rfl, vs, sa.sq⟩
  · rename_i n
    cases r with
    | ref e =>
      split at h
      · rename_i kds hn
        obtain ⟨vs, h1, _⟩ := s.obj n _ _ e hn
        exact .inr (.inr (.inl ⟨rfl, .inl ⟨vs, h1⟩⟩))
      · cases h
  · cases h
def MethD (X : Cx) (id : String) (op : Dt → List Dt → Store → Out Dt) : Prop :=
  ∃ r, MtR X id r ∧ ∀ B α S H E x d xs ds Q, Rep (Cx.wr X B) α S H x d → Reps (Cx.wr X B) α S H xs ds → Sim (Cx.wr X B) α S H → Post (Cx.wr X B) E α S H Q (op d ds S) → r x xs H Q
def cMeth (k : RK) (op : Dt → List Dt → Store → Out Dt) (fo : FE) (fa : FA) : FE := fun env S => (fo env S).bind fun d S1 => if recvOk k S1 d = true then (fa env S1).bind fun ds S2 => op d ds S2 else .bad
section
variable {X : Cx} {E : Sl → XK} {o e : Expr} {es : List Expr} {fo : FE} {fa : FA} {name : Str} {apos cpos : Pos} {id : String} {op : Dt → List Dt → Store → Out Dt}
theorem de_bm (k : RK) (pa : PlainAttrs k.ty) (slot : Slot k.ty name id) (hty : typeOf (.builtin id) = pure (.type "method_descriptor")) (hm : MethD X id op) (ho : DE X E o fo) (ha : DA X E (e :: es) fa)
    (hbase : attributeBase o name X.env (eval o X.env) = eval o X.env := by rfl)
    (hfew : ((backTo cpos (starEach (e :: es) X.env)).all (fun x => !x.1) && (backToKw cpos (keywordEach [] X.env)).all (fun x => x.1.isSome)
      && decide ((e :: es).length + ([] : List Keyword).length + (if ([] : List Keyword).isEmpty then 0 else 1) < 30)) = true := by rfl)
    (hline : (apos.endLine == cpos.line) = true := by rfl) (hs : starEach (e :: es) X.env = (false, eval e X.env) :: starEach es X.env := by rfl) (hplain : (backTo cpos (starEach es X.env)).any (·.1) = false := by rfl) :
    DE X E (.Call (.Attribute o name apos) (e :: es) [] cpos) (cMeth k op fo fa) := by
  obtain ⟨r, m1, m2⟩ := hm; obtain ⟨to, o1, o2⟩ := ho; obtain ⟨t, a1, a2⟩ := ha
  refine ⟨_, pe_bm pa slot hty m1 o1 a1 hbase hfew hline hs hplain, fun B α σ H env S Q rr s h => ?_⟩
  refine o2 B α σ H env S _ rr s (PostG.bind h fun α1 v H1 d S1 r1 s1 x1 h1 => ?_)
  by_cases hk : recvOk k S1 d = true
  · rw [if_pos hk] at h1
    refine ⟨recv_rep s1 r1 hk, ?_⟩
    refine a2 B α1 σ H1 env S1 _ (rr.ext x1) s1 (PostG.bind h1 fun α2 vs H2 ds S2 r2 s2 x2 h2 => ?_)
    exact m2 B α2 S2 H2 _ v d vs ds Q (r1.ext x2) r2 s2 h2
  · rw [if_neg hk] at h1; exact h1.elim
theorem de_bm0 (k : RK) (pa : PlainAttrs k.ty) (slot : Slot k.ty name id) (hty : typeOf (.builtin id) = pure (.type "method_descriptor")) (hm : MethD X id op) (ho : DE X E o fo)
    (hbase : attributeBase o name X.env (eval o X.env) = eval o X.env := by rfl) (hline : (apos.endLine == cpos.line) = true := by rfl) :
    DE X E (.Call (.Attribute o name apos) [] [] cpos) (cMeth k op fo cNil) := by
  obtain ⟨r, m1, m2⟩ := hm; obtain ⟨to, o1, o2⟩ := ho
  refine ⟨_, pe_bm0 pa slot hty m1 o1 hbase hline, fun B α σ H env S Q rr s h => ?_⟩
  refine o2 B α σ H env S _ rr s (PostG.bind h fun α1 v H1 d S1 r1 s1 x1 h1 => ?_)
  by_cases hk : recvOk k S1 d = true
  · rw [if_pos hk] at h1
    refine ⟨recv_rep s1 r1 hk, ?_⟩
    exact m2 B α1 S1 H1 _ v d [] [] Q r1 .nil s1 h1
  · rw [if_neg hk] at h1; exact h1.elim
end
/-- an owned list is written -/
theorem post_setL {W : Wr} {α : List Addr} {S : Store} {H : Hp} {n : Nat} {a : Addr} {mo : MO} {ds : List Dt} {vs : List V} {γ β : Type} {R : List Addr → Store → Hp → β → γ → Prop} {E : XK} {Q : β → Hp → Prop} {d : γ} {v : β} (s : Sim W α S H) (ha : α[n]? = some a) (h0 : S[n]? = some mo) (hg : mo ≠ MO.gone) (r : Reps W α S H vs ds)
    (h : PostG W R E α S H Q (.ok d (S.set n (.lst ds)))) (hr : R α (S.set n (.lst ds)) (upd H a (.lst vs)) v d) : Q v (upd H a (.lst vs)) := by
  have x : Ext W α S H α (S.set n (.lst ds)) (upd H a (.lst vs)) := Ext.write s ha h0 hg
  exact h α v _ hr (s.write ha h0 hg ⟨vs, upd_same, r.ext x⟩) x
theorem post_setD {W : Wr} {α : List Addr} {S : Store} {H : Hp} {n : Nat} {a : Addr} {mo : MO} {ds : List (Key × Dt)} {vs : List (Key × V)} {γ β : Type} {R : List Addr → Store → Hp → β → γ → Prop} {E : XK} {Q : β → Hp → Prop} {d : γ} {v : β} (s : Sim W α S H) (ha : α[n]? = some a) (h0 : S[n]? = some mo) (hg : mo ≠ MO.gone) (r : KReps W α S H vs ds)
    (h : PostG W R E α S H Q (.ok d (S.set n (.dct ds)))) (hr : R α (S.set n (.dct ds)) (upd H a (.dK vs)) v d) : Q v (upd H a (.dK vs)) := by
  have x : Ext W α S H α (S.set n (.dct ds)) (upd H a (.dK vs)) := Ext.write s ha h0 hg
  exact h α v _ hr (s.write ha h0 hg ⟨vs, upd_same, r.ext x⟩) x
/-- the owned list that a value is -/
theorem own_lst {W : Wr} {α : List Addr} {S : Store} {H : Hp} {x : V} {n : Nat} {ds : List Dt} (s : Sim W α S H) (r : Rep W α S H x (.ref n)) (h : S[n]? = some (.lst ds)) : ∃ a vs, x = .ref a ∧ α[n]? = some a ∧ H a = some (.lst vs) ∧ Reps W α S H vs ds := by
  cases r with
  | ref e =>
    obtain ⟨vs, h1, h2⟩ := s.obj n _ _ e h
    exact ⟨_, vs, rfl, e, h1, h2⟩
theorem own_dct {W : Wr} {α : List Addr} {S : Store} {H : Hp} {x : V} {n : Nat} {ds : List (Key × Dt)} (s : Sim W α S H) (r : Rep W α S H x (.ref n)) (h : S[n]? = some (.dct ds)) : ∃ a vs, x = .ref a ∧ α[n]? = some a ∧ H a = some (.dK vs) ∧ KReps W α S H vs ds := by
  cases r with
  | ref e =>
    obtain ⟨vs, h1, h2⟩ := s.obj n _ _ e h
    exact ⟨_, vs, rfl, e, h1, h2⟩
def opAppend : Dt → List Dt → Store → Out Dt := fun d as S => match d, as with
  | .ref n, [y] => (match S[n]? with
    | some (.lst ds) => if ds.length < LINE then .ok .non (S.set n (.lst (ds ++ [y]))) else .bad
    | _ => .bad)
  | _, _ => .bad
def opExtend : Dt → List Dt → Store → Out Dt := fun d as S => match d, as with
  | .ref n, [y] => (match S[n]?, asList S y with
    | some (.lst ds), some es => if ds.length + es.length ≤ LINE then .ok .non (S.set n (.lst (ds ++ es))) else .bad
    | _, _ => .bad)
  | _, _ => .bad
def opPop : Dt → List Dt → Store → Out Dt := fun d as S => match d, as with
  | .ref n, [] => (match S[n]? with
    | some (.lst ds) => (match ds[ds.length - 1]? with | some y => .ok y (S.set n (.lst ds.dropLast)) | none => .bad)
    | _ => .bad)
  | _, _ => .bad
def opReverse : Dt → List Dt → Store → Out Dt := fun d as S => match d, as with
  | .ref n, [] => (match S[n]? with
    | some (.lst ds) => .ok .non (S.set n (.lst ds.reverse))
    | _ => .bad)
  | _, _ => .bad
def opClear : Dt → List Dt → Store → Out Dt := fun d as S => match d, as with
  | .ref n, [] => (match S[n]? with
    | some (.lst _) => .ok .non (S.set n (.lst []))
    | _ => .bad)
  | _, _ => .bad
def opInsert : Dt → List Dt → Store → Out Dt := fun d as S => match d, as with
  | .ref n, [.int i, y] => (match S[n]? with
    | some (.lst ds) => if ds.length < LINE ∧ 0 ≤ i ∧ i < 2 ^ 63 then .ok .non (S.set n (.lst (ds.take i.toNat ++ [y] ++ ds.drop i.toNat))) else .bad
    | _ => .bad)
  | _, _ => .bad
def opJoin : Dt → List Dt → Store → Out Dt := fun d as S => match d, as with
  | .str a, [y] => (match (asSeq S y).bind strsOf with
    | some ys => if (ys.map (·.length)).sum + ys.length * a.length ≤ 16777216 then .ok (.str (Txt.join a ys)) S else .bad
    | none => .bad)
  | _, _ => .bad
def opSplit : Dt → List Dt → Store → Out Dt := fun d as S => match d, as with
  | .str a, [.str b] => if (b.length == 0) = false ∧ a.length + 2 ≤ LINE then .ok (.lst ((Txt.split a b).map Dt.str)) S else .bad
  | .str a, [] => if a.length + 2 ≤ LINE then .ok (.lst ((Txt.words a).map Dt.str)) S else .bad
  | _, _ => .bad
section
variable {X : Cx}
theorem MtM.mtr {id : String} {r : V → List V → Hp → VK → Prop} (h : MtM X id r) : MtR X id r := h
theorem Reps.dropLast {W : Wr} {α : List Addr} {S : Store} {H : Hp} {vs : List V} {ds : List Dt} (r : Reps W α S H vs ds) : Reps W α S H vs.dropLast ds.dropLast := by
  rw [List.dropLast_eq_take, List.dropLast_eq_take, r.length]
  exact r.take _
theorem Reps.reverse {W : Wr} {α : List Addr} {S : Store} {H : Hp} : ∀ {vs : List V} {ds : List Dt}, Reps W α S H vs ds → Reps W α S H vs.reverse ds.reverse
  | _, _, .nil => .nil
  | _, _, .cons r t => by
    rw [List.reverse_cons, List.reverse_cons]
    exact (Reps.reverse t).snoc r
theorem md_append : MethD X "list.append" opAppend := by
  refine ⟨_, MtM.mtr mt_append, fun B α S H E x d xs ds Q rx rs s h => ?_⟩
  unfold opAppend at h
  split at h
  · rename_i n y
    split at h
    · rename_i es hn
      obtain ⟨a, vs, rfl, ha, hH, q⟩ := own_lst s rx hn
      cases rs with
      | cons ry rr =>
        cases rr
        by_cases hl : es.length < LINE
        · rw [if_pos hl] at h
          exact ⟨a, vs, _, rfl, rfl, hH, by rw [q.length]; exact hl, post_setL (mo := .lst es) s ha hn (by simp) (q.snoc ry) h .non⟩
        · rw [if_neg hl] at h; exact h.elim
    · exact h.elim
  · exact h.elim
theorem md_pop : MethD X "list.pop" opPop := by
  refine ⟨_, MtM.mtr mt_pop, fun B α S H E x d xs ds Q rx rs s h => ?_⟩
  unfold opPop at h
  split at h
  · rename_i n
    split at h
    · rename_i es hn
      obtain ⟨a, vs, rfl, ha, hH, q⟩ := own_lst s rx hn
      cases rs
      split at h
      · rename_i y hy
        obtain ⟨v, e1, e2⟩ := q.get hy
        refine ⟨a, vs, v, rfl, rfl, hH, by rw [q.length]; exact e1, post_setL (mo := .lst es) s ha hn (by simp) q.dropLast h (e2.ext (Ext.write s ha hn (by simp)))⟩
      · exact h.elim
    · exact h.elim
  · exact h.elim
theorem md_reverse : MethD X "list.reverse" opReverse := by
  refine ⟨_, MtM.mtr mt_reverse, fun B α S H E x d xs ds Q rx rs s h => ?_⟩
  unfold opReverse at h
  split at h
  · rename_i n
    split at h
    · rename_i es hn
      obtain ⟨a, vs, rfl, ha, hH, q⟩ := own_lst s rx hn
      cases rs
      exact ⟨a, vs, rfl, rfl, hH, post_setL (mo := .lst es) s ha hn (by simp) q.reverse h .non⟩
    · exact h.elim
  · exact h.elim
theorem md_clear : MethD X "list.clear" opClear := by
  refine ⟨_, MtM.mtr mt_clear, fun B α S H E x d xs ds Q rx rs s h => ?_⟩
  unfold opClear at h
  split at h
  · rename_i n
    split at h
    · rename_i es hn
      obtain ⟨a, vs, rfl, ha, hH, q⟩ := own_lst s rx hn
      cases rs
      exact ⟨a, vs, rfl, rfl, hH, post_setL (mo := .lst es) s ha hn (by simp) .nil h .non⟩
    · exact h.elim
  · exact h.elim
theorem md_insert : MethD X "list.insert" opInsert := by
  refine ⟨_, mt_insert, fun B α S H E x d xs ds Q rx rs s h => ?_⟩
  unfold opInsert at h
  split at h
  · rename_i n i y
    split at h
    · rename_i es hn
      obtain ⟨a, vs, rfl, ha, hH, q⟩ := own_lst s rx hn
      cases rs with
      | cons ri rs =>
        cases rs with
        | cons ry rr =>
          cases rr; cases ri
          by_cases hl : es.length < LINE ∧ 0 ≤ i ∧ i < 2 ^ 63
          · rw [if_pos hl] at h
            exact ⟨a, vs, i, _, rfl, rfl, hH, by rw [q.length]; exact hl.1, hl.2.1, hl.2.2, post_setL (mo := .lst es) s ha hn (by simp) (((q.take _).snoc ry).append (q.drop _)) h .non⟩
          · rw [if_neg hl] at h; exact h.elim
    · exact h.elim
  · exact h.elim
theorem md_join : MethD X "str.join" opJoin := by
  refine ⟨_, mt_join, fun B α S H E x d xs ds Q rx rs s h => ?_⟩
  unfold opJoin at h
  split at h
  · rename_i a y
    cases rx
    cases rs with
    | cons ry rr =>
      cases rr
      split at h
      · rename_i ys hy
        obtain ⟨es, h1, h2⟩ := Option.bind_eq_some_iff.mp hy
        obtain ⟨b, vs, rfl, sa, ra⟩ := asSeq_rep s ry h1
        have e := ra.strs h2
        subst e
        by_cases hl : (ys.map (·.length)).sum + ys.length * a.length ≤ 16777216
        · rw [if_pos hl] at h
          exact ⟨a, b, ys, rfl, rfl, sa, hl, post_ok s (.str _) h⟩
        · rw [if_neg hl] at h; exact h.elim
      · exact h.elim
  · exact h.elim
theorem mtr_or {id : String} {r r' : V → List V → Hp → VK → Prop} (h : MtR X id r) (h' : MtR X id r') : MtR X id (fun x xs H Q => r x xs H Q ∨ r' x xs H Q) := by
  intro pins s σ H x xs v us Q I rx rs q
  rcases q with q | q
  · exact h pins s σ H x xs v us Q I rx rs q
  · exact h' pins s σ H x xs v us Q I rx rs q
theorem md_split : MethD X "str.split" opSplit := by
  refine ⟨_, mtr_or mt_split mt_words, fun B α S H E x d xs ds Q rx rs s h => ?_⟩
  unfold opSplit at h
  split at h
  · rename_i a b
    cases rx
    cases rs with
    | cons ry rr =>
      cases rr; cases ry
      by_cases hl : (b.length == 0) = false ∧ a.length + 2 ≤ LINE
      · rw [if_pos hl] at h
        exact .inl ⟨a, b, rfl, rfl, hl.1, hl.2, fun p hp => post_new_lst s (Reps.ofStrs _) h hp⟩
      · rw [if_neg hl] at h; exact h.elim
  · rename_i a
    cases rx
    cases rs
    by_cases hl : a.length + 2 ≤ LINE
    · rw [if_pos hl] at h
      exact .inr ⟨a, rfl, rfl, hl, fun p hp => post_new_lst s (Reps.ofStrs _) h hp⟩
    · rw [if_neg hl] at h; exact h.elim
  · exact h.elim
end
end DL

set_option Elab.async false
set_option linter.all false
set_option maxRecDepth 100000
set_option maxHeartbeats 4000000
namespace DL
open PySem PySem.Spec PyProof.Rows L2

/-! ### stores o[i] = v -/
def putD (kvs : List (Key × Dt)) (k : Key) (v : Dt) : List (Key × Dt) :=
  if (kvs.any fun kv => decide (kv.1 = k)) = true then kvs.map (fun kv => if kv.1 = k then (kv.1, v) else kv) else kvs ++ [(k, v)]
def mergeD (kvs more : List (Key × Dt)) : List (Key × Dt) := more.foldl (fun acc kv => putD acc kv.1 kv.2) kvs
section
variable {W : Wr} {α : List Addr} {S : Store} {H : Hp}
theorem KReps.any : ∀ {vs : List (Key × V)} {ds : List (Key × Dt)} (k : Key), KReps W α S H vs ds → (vs.any fun kv => decide (kv.1 = k)) = ds.any fun kv => decide (kv.1 = k)
  | _, _, _, .nil => rfl
  | _, _, k, .cons r t => by simp only [List.any_cons]; rw [KReps.any k t]
theorem KReps.mapPut {k : Key} {v : V} {d : Dt} (q : Rep W α S H v d) : ∀ {vs : List (Key × V)} {ds : List (Key × Dt)}, KReps W α S H vs ds → KReps W α S H (vs.map fun kv => if kv.1 = k then (kv.1, v) else kv) (ds.map fun kv => if kv.1 = k then (kv.1, d) else kv)
  | _, _, .nil => .nil
  | _, _, .cons (k := k') r t => by
    simp only [List.map_cons]
    by_cases e : k' = k
    · simp only [e, if_true]; exact .cons q (KReps.mapPut q t)
    · simp only [e, if_false]; exact .cons r (KReps.mapPut q t)
theorem KReps.snoc {k : Key} {v : V} {d : Dt} (q : Rep W α S H v d) : ∀ {vs : List (Key × V)} {ds : List (Key × Dt)}, KReps W α S H vs ds → KReps W α S H (vs ++ [(k, v)]) (ds ++ [(k, d)])
  | _, _, .nil => .cons q .nil
  | _, _, .cons r t => .cons r (KReps.snoc q t)
theorem KReps.put {k : Key} {v : V} {d : Dt} {vs : List (Key × V)} {ds : List (Key × Dt)} (r : KReps W α S H vs ds) (q : Rep W α S H v d) : KReps W α S H (putK vs k v) (putD ds k d) := by
  unfold putK putD
  rw [r.any k]
  split
  · exact r.mapPut q
  · exact r.snoc q
theorem KReps.merge : ∀ {ms : List (Key × V)} {es : List (Key × Dt)} {vs : List (Key × V)} {ds : List (Key × Dt)}, KReps W α S H ms es → KReps W α S H vs ds → KReps W α S H (mergeK vs ms) (mergeD ds es)
  | _, _, _, _, .nil, r => r
  | _, _, vs, ds, .cons (k := k) (v := v) (d := d) (vs := ms) (ds := es) q t, r => by
    show KReps W α S H (mergeK (putK vs k v) ms) (mergeD (putD ds k d) es)
    exact KReps.merge t (r.put q)
end
def opSet : Dt → Dt → Dt → Store → Option Store := fun o i v S => match o with
  | .ref n => (match S[n]? with
    | some (.lst ds) => (match i with
      | .int k => (ixN ds.length k).map fun j => S.set n (.lst (ds.set j v))
      | _ => none)
    | some (.dct kvs) => (keyD i).bind fun k => if kvs.length < LINE then some (S.set n (.dct (putD kvs k v))) else none
    | _ => none)
  | _ => none
def sSetIx (fv fo fi : FE) : FS := fun env S => sOut (fv env S) env fun v S1 => sOut (fo env S1) env fun o S2 => sOut (fi env S2) env fun i S3 => match opSet o i v S3 with
  | some S4 => .nx env S4
  | none => .bad
def rSetD : V → V → V → Hp → (Hp → Prop) → Prop := fun o i v H Q => ∃ a H', o = .ref a ∧ DPut H a i v H' ∧ Q H'
section
variable {X : Cx} {E : Sl → XK} {pos : Pos}
theorem set_dict (hu : X.A.units + 1 < cLine) : PSet X rSetD := by
  intro pins s σ H o i v ov iv u Q I ro ri rv h
  obtain ⟨a, H', rfl, g, q⟩ := h
  cases ro
  exact d_setItem hu I g ri rv fun s' I' => ⟨H', I', q⟩
theorem pset_or {t u : TSet} (h : PSet X t) (k : PSet X u) : PSet X (fun o i v H Q => t o i v H Q ∨ u o i v H Q) := by
  intro pins s σ H o i v ov iv w Q I ro ri rv q
  rcases q with q | q
  · exact h pins s σ H o i v ov iv w Q I ro ri rv q
  · exact k pins s σ H o i v ov iv w Q I ro ri rv q
theorem ds_setIx {o i e : Expr} {fo fi fe : FE} {p2 : Pos} (hu : X.A.units + 1 < cLine) (he : DE X E e fe) (ho : DE X E o fo) (hi : DE X E i fi)
    (hs : swapsWithSole [.Subscript o i p2] e pos.line X.env = pure false := by rfl) (hw : swappedStores [.Subscript o i p2] e X.env = pure none := by rfl)
    (h1 : (assignEach [.Subscript o i p2] X.env).map (·.2) = [assign (.Subscript o i p2) X.env] := by rfl)
    (ha : ∀ v, assign (.Subscript o i p2) X.env v = (do
      let ov ← holding [v] (eval o X.env)
      let iv ← holding [v, ov] (eval i X.env)
      standAt p2
      holding [v, ov, iv] (setItem ov iv v)
      release [v, ov, iv] []) := by intro _; rfl) : DS X E (.Assign [.Subscript o i p2] e pos) (sSetIx fe fo fi) := by
  obtain ⟨te, a1, a2⟩ := he; obtain ⟨to, b1, b2⟩ := ho; obtain ⟨ti, c1, c2⟩ := hi
  refine ⟨_, ps_asg a1 (pg_sub b1 c1 (pset_or set_list (set_dict hu)) ha) hs hw h1, fun B α σ H env S D r s h => ?_⟩
  refine a2 B α σ H env S _ r s (SPost.bind r h fun α1 v H1 d S1 r1 s1 x1 h1 => ?_)
  refine b2 B α1 σ H1 env S1 _ (r.ext x1) s1 (SPost.bind (r.ext x1) h1 fun α2 ov H2 od S2 r2 s2 x2 h2 => ?_)
  refine c2 B α2 σ H2 env S2 _ ((r.ext x1).ext x2) s2 (SPost.bind ((r.ext x1).ext x2) h2 fun α3 iv H3 id S3 r3 s3 x3 h3 => ?_)
  have ro := r2.ext x3
  have rv := (r1.ext x2).ext x3
  have re := ((r.ext x1).ext x2).ext x3
  unfold opSet at h3
  cases od with
  | ref n =>
    simp only at h3
    cases hn : S3[n]? with
    | none => simp only [hn] at h3; exact h3.elim
    | some mo =>
      simp only [hn] at h3
      cases mo with
      | gone => exact h3.elim
      | lst ds =>
        simp only at h3
        cases id with
        | int k =>
          simp only at h3
          cases r3
          obtain ⟨a, vs, rfl, ha', hH, q⟩ := own_lst s3 ro hn
          cases hj : ixN ds.length k with
          | none => simp only [hj, Option.map_none] at h3; exact h3.elim
          | some j =>
            simp only [hj, Option.map_some] at h3
            have x4 : Ext (Cx.wr X B) α3 S3 H3 α3 (S3.set n (.lst (ds.set j d))) (upd H3 a (.lst (vs.set j v))) := Ext.write s3 ha' hn (by simp)
            refine .inl ⟨a, vs, k, j, rfl, rfl, hH, by rw [q.length]; exact hj, ?_⟩
            exact h3 α3 σ _ (re.ext x4) (s3.write ha' hn (by simp) ⟨_, upd_same, (q.set rv j).ext x4⟩) x4
        | _ => exact h3.elim
      | dct kvs =>
        simp only at h3
        obtain ⟨a, vs, rfl, ha', hH, q⟩ := own_dct s3 ro hn
        cases hk : keyD id with
        | none => simp only [hk, Option.bind_none] at h3; exact h3.elim
        | some k =>
          simp only [hk, Option.bind_some] at h3
          have ek := keyD_rep r3 hk
          subst ek
          by_cases hl : kvs.length < LINE
          · rw [if_pos hl] at h3
            have x4 : Ext (Cx.wr X B) α3 S3 H3 α3 (S3.set n (.dct (putD kvs k d))) (upd H3 a (.dK (putK vs k v))) := Ext.write s3 ha' hn (by simp)
            refine .inr ⟨a, _, rfl, DPut.k hH (by rw [q.length]; exact hl), ?_⟩
            exact h3 α3 σ _ (re.ext x4) (s3.write ha' hn (by simp) ⟨_, upd_same, (q.put rv).ext x4⟩) x4
          · rw [if_neg hl] at h3; exact h3.elim
  | _ => exact h3.elim

/-! ### x += e -/
def IpD (X : Cx) (op : Operator) (f : Dt → Dt → Store → Out Dt) : Prop :=
  ∃ r, PIp X op r ∧ ∀ B α S H E x y d e Q, Rep (Cx.wr X B) α S H x d → Rep (Cx.wr X B) α S H y e → Sim (Cx.wr X B) α S H → Post (Cx.wr X B) E α S H Q (f d e S) → r x y H Q
def sAug (i : Nat) (f : Dt → Dt → Store → Out Dt) (fe : FE) : FS := fun env S => match slot env i with
  | some d => sOut (fe env S) env fun e S1 => sOut (f d e S1) env fun z S2 => .nx (env.set i (some (.vl z))) S2
  | none => .bad
theorem ds_aug {x : Str} {op : Operator} {f : Dt → Dt → Store → Out Dt} {e : Expr} {fe : FE} {pos' : Pos} (i : Nat) (hN : X.N.Nodup) (hop : IpD X op f) (he : DE X E e fe) (hi : X.N[i]? = some x := by rfl) (hx : Loc X.env.scope x := by first | exact Or.inl rfl | exact Or.inr rfl)
    (hf : X.fn x = true ∨ X.env.scope.names.lookup x = some .local := by first | exact .inl rfl | exact .inr rfl | assumption) : DS X E (.AugAssign (.Name x pos') op e pos) (sAug i f fe) := by
  obtain ⟨r, o1, o2⟩ := hop; obtain ⟨te, a1, a2⟩ := he
  refine ⟨_, ps_aug hN hi hx a1 o1 hf, fun B α σ H env S D rr s h => ?_⟩
  unfold sAug at h
  cases hs : slot env i with
  | none => simp only [hs] at h; exact h.elim
  | some d =>
    simp only [hs] at h
    obtain ⟨v, h1, h2⟩ := slot_rep rr hs
    refine ⟨v, h1, ?_⟩
    refine a2 B α σ H env S _ rr s (SPost.bind rr h fun α1 y H1 e1 S1 r1 s1 x1 h1' => ?_)
    refine o2 B α1 S1 H1 (E σ) v y d e1 _ (h2.ext x1) r1 s1 (SPost.bind (rr.ext x1) h1' fun α2 z H2 zd S2 r2 s2 x2 h2' => ?_)
    exact h2' α2 _ H2 (((rr.ext x1).ext x2).set r2 i) s2 Ext.refl
def opAddI : Dt → Dt → Store → Out Dt := fun d e S => match d, e with | .int i, .int j => .ok (.int (i + j)) S | _, _ => .bad
theorem ipd_add : IpD X .Add opAddI := by
  refine ⟨_, ip_add, fun B α S H E x y d e Q rx ry s h => ?_⟩
  unfold opAddI at h
  split at h
  · cases rx; cases ry; exact ⟨_, _, rfl, rfl, post_ok s (.int _) h⟩
  · exact h.elim
end

/-! ### extend -/
section
variable {X : Cx}
def rExtL (K : PySem.W.Frag) : V → List V → Hp → VK → Prop := fun x vs H Q => ∃ l b xs zs, x = .ref l ∧ vs = [.ref b] ∧ H l = some (.lst xs) ∧ LstAt K H b zs ∧ xs.length + zs.length ≤ sizeLine ∧ Q .non (upd H l (.lst (xs ++ zs)))
theorem mt_extL : MtR X "list.extend" (rExtL X.K) := by
  intro pins s σ H x vs v us Q I rx rv h
  obtain ⟨l, b, xs, zs, rfl, rfl, hl, hb, hz, q⟩ := h
  cases rx
  obtain ⟨u, rfl, ru⟩ := rv.one
  cases ru
  obtain ⟨_, i1, n1, r1, _, e1⟩ := I.lstM hl
  obtain ⟨i2, n2, r2, e2, _⟩ := hb.at_ I
  have k1 := r1.length
  have k2 := r2.length
  have tot : i1.toArray.size + i2.toArray.size ≤ sizeLine := by simp only [List.size_toArray]; omega
  have no : ¬ (!i1.toArray.isEmpty && Builtin.List.listTooLong (i1.toArray.size + i2.toArray.size)) = true := by
    rw [notLongL tot]; simp
  refine call_meets F.slot_list_extend ⟨_, e1, rfl⟩ F.entry_list_extend (F.args_list_extend_2 _ _) (AutoSeq1.list_extend_list_list_0 l i1.toArray n1 b i2.toArray n2 no ?_ (by omega)) ⟨e1, e2, .non, _, I.lset (its' := i1 ++ i2) hl e1 ?_ (r1.append r2) ?_, rfl, q⟩
  · have z := tot
    simp only [List.size_toArray] at z
    first | omega | (rw [List.size_toArray]; omega)
  · simp
  · rw [List.length_append]; omega
theorem md_extend : MethD X "list.extend" opExtend := by
  refine ⟨_, mt_extL, fun B α S H E x d xs ds Q rx rs s h => ?_⟩
  unfold opExtend at h
  split at h
  · rename_i n y
    split at h
    · rename_i es fs hn hy
      obtain ⟨a, vs, rfl, ha, hH, q⟩ := own_lst s rx hn
      cases rs with
      | cons ry rr =>
        cases rr
        obtain ⟨b, us, rfl, sb, rb⟩ := asList_rep s ry hy
        by_cases hl : es.length + fs.length ≤ LINE
        · rw [if_pos hl] at h
          exact ⟨a, b, vs, us, rfl, rfl, hH, sb, by rw [q.length, rb.length]; exact hl, post_setL (mo := .lst es) s ha hn (by simp) (q.append rb) h .non⟩
        · rw [if_neg hl] at h; exact h.elim
    · exact h.elim
  · exact h.elim
end
end DL

set_option Elab.async false
set_option linter.all false
set_option maxRecDepth 100000
set_option maxHeartbeats 4000000
namespace DL
open PySem PySem.Spec PyProof.Rows L2

/-! ### a module's constant -/
structure GlD (X : Cx) (x : Str) (d : Dt) : Prop where
  ex : ∃ (v : V) (u : Value), X.mg x = some u ∧ RelV v u ∧ ∀ B α S H, Rep (Cx.wr X B) α S H v d
theorem de_glob {X : Cx} {E : Sl → XK} {x : Str} {d : Dt} {pos : Pos} (g : GlD X x d) (hg : Gl X x) (hd : (x == ("__debug__" : Str)) = false := by decide) : DE X E (.Name x pos) (cC d) := by
  obtain ⟨v, u, h1, h2, h3⟩ := g
  exact de_c (pe_glob hg h1 h2 hd) h3

/-! ### displays of dicts -/
section
variable {W : Wr} {α α' : List Addr} {S S' : Store} {H H' : Hp}
theorem XRep.unhold {D : Addr} {c : Str} {fs : List (Str × Dt)} {cls : Value} {od : Option Addr} (x : XRep (W.hold D) α S H c fs cls od) : XRep W α S H c fs cls od := by
  obtain ⟨C, h1, h2, h3⟩ := x
  refine ⟨C, h1, h2, h3.imp id ?_⟩
  rintro ⟨dx, fvs, a1, a2, a3, a4, a5⟩
  exact ⟨dx, fvs, a1, a2, fun z => a3 z.unhold, a4, a5.unhold⟩
/-- run while D is held -/
theorem PostG.held {β γ β' γ' : Type} {R : List Addr → Store → Hp → β → γ → Prop} {R' : List Addr → Store → Hp → β' → γ' → Prop} {E : XK} {Q : β → Hp → Prop} {Q' : β' → Hp → Prop} {o : Out γ'} {k : γ' → Store → Out γ} {D : Addr} {u : HO}
    (hD : H D = none) (hB : D ∉ W.B) (h : PostG W R E α S H Q (o.bind k)) (hk : ∀ α' v H' d S', R' α' S' H' v d → Sim (W.hold D) α' S' H' → Ext (W.hold D) α S (upd H D u) α' S' H' → PostG W R E α S H Q (k d S') → Q' v H') : PostG (W.hold D) R' E α S (upd H D u) Q' o := by
  cases o with
  | ok d S1 => exact fun α1 v H1 r s x => hk α1 v H1 d S1 r s x h
  | exc c fs S1 => exact fun α1 cls od H1 r s x => h α1 cls od H1 r.unhold s.unhold (x.unhold hD hB)
  | bad => exact h.elim
end
abbrev FPs := EnvD → Store → Out (List (Dt × Dt))
def PReps (W : Wr) (α : List Addr) (S : Store) (H : Hp) (ps : List (V × V)) (ds : List (Dt × Dt)) : Prop := Reps W α S H (ps.map (·.1)) (ds.map (·.1)) ∧ Reps W α S H (ps.map (·.2)) (ds.map (·.2))
structure DPs (X : Cx) (E : Sl → XK) (pos : Pos) (keys : List (Option Expr)) (values : List Expr) (f : FPs) : Prop where
  ex : ∃ trs, PPs X pos keys values trs ∧ ∀ B α σ H env S Q, REnv X.pn (Cx.wr X B) α S H σ env → Sim (Cx.wr X B) α S H → PostG (Cx.wr X B) (PReps (Cx.wr X B)) (E σ) α S H Q (f env S) → tPairs trs σ H Q
def cPNil : FPs := fun _ S => .ok [] S
def cPCons (fk fv : FE) (r : FPs) : FPs := fun env S => (fk env S).bind fun k S1 => (fv env S1).bind fun v S2 => (r env S2).bind fun ps S3 => .ok ((k, v) :: ps) S3
def keysD : List (Dt × Dt) → Option (List (Key × Dt))
  | [] => some []
  | (k, v) :: r => match keyD k, keysD r with
    | some k, some r => some ((k, v) :: r)
    | _, _ => none
def cDisp (f : FPs) : FE := fun env S => (f env S).bind fun ps S1 => match keysD ps with
  | some kvs => if kvs.length ≤ 15 then .ok (.dct (mergeD [] kvs)) S1 else .bad
  | none => .bad
theorem keysD_rep {W : Wr} {α : List Addr} {S : Store} {H : Hp} : ∀ {ps : List (V × V)} {ds : List (Dt × Dt)} {kds : List (Key × Dt)}, PReps W α S H ps ds → keysD ds = some kds → ∃ kvs, ps = kvs.map (fun kv => (kV kv.1, kv.2)) ∧ KReps W α S H kvs kds
  | [], [], _, _, h => by cases h; exact ⟨[], rfl, .nil⟩
  | [], _ :: _, _, ⟨r, _⟩, _ => by cases r
  | _ :: _, [], _, ⟨r, _⟩, _ => by cases r
  | (a, b) :: ps, (k, v) :: ds, kds, ⟨r1, r2⟩, h => by
    cases r1 with
    | cons r1 t1 =>
      cases r2 with
      | cons r2 t2 =>
        unfold keysD at h
        cases hk : keyD k with
        | none => simp only [hk] at h; cases h
        | some k' =>
          cases hr : keysD ds with
          | none => simp only [hk, hr] at h; cases h
          | some r' =>
            simp only [hk, hr] at h
            cases h
            obtain ⟨kvs, e1, e2⟩ := keysD_rep (ps := ps) ⟨t1, t2⟩ hr
            have ek := keyD_rep r1 hk
            exact ⟨(k', b) :: kvs, by rw [e1]; simp only [List.map_cons]; rw [show a = kV k' from ek], .cons r2 e2⟩
section
variable {X : Cx} {E : Sl → XK} {pos : Pos}
theorem dps_nil : DPs X E pos [] [] cPNil := ⟨_, pps_nil, fun B α σ H env S Q _ s h => h α [] H ⟨.nil, .nil⟩ s Ext.refl⟩
theorem dps_cons {k v : Expr} {fk fv : FE} {ks : List (Option Expr)} {vs : List Expr} {r : FPs} (hk : DE X E k fk) (hv : DE X E v fv) (hr : DPs X E pos ks vs r) : DPs X E pos (some k :: ks) (v :: vs) (cPCons fk fv r) := by
  obtain ⟨tk, a1, a2⟩ := hk; obtain ⟨tv, b1, b2⟩ := hv; obtain ⟨trs, c1, c2⟩ := hr
  refine ⟨_, pps_cons a1 b1 c1, fun B α σ H env S Q rr s h => ?_⟩
  refine a2 B α σ H env S _ rr s (PostG.bind h fun α1 x H1 d S1 r1 s1 x1 h1 => ?_)
  refine b2 B α1 σ H1 env S1 _ (rr.ext x1) s1 (PostG.bind h1 fun α2 y H2 e S2 r2 s2 x2 h2 => ?_)
  refine c2 B α2 σ H2 env S2 _ ((rr.ext x1).ext x2) s2 (PostG.bind h2 fun α3 ps H3 ds S3 r3 s3 x3 h3 => ?_)
  exact h3 α3 _ H3 ⟨.cons ((r1.ext x2).ext x3) r3.1, .cons (r2.ext x3) r3.2⟩ s3 Ext.refl
theorem de_disp {keys : List (Option Expr)} {values : List Expr} {f : FPs} (h : DPs X E pos keys values f) (hall : keys.all (·.isSome) = true := by rfl) (hl : keys.length = values.length := by rfl) (h0 : keys ≠ [] := by simp)
    (h15 : keys.length ≤ 15 := by decide) : DE X E (.Dict keys values pos) (cDisp f) := by
  obtain ⟨trs, a1, a2⟩ := h
  refine ⟨_, pe_disp a1 hall hl h0 h15, fun B α σ H env S Q r s h => ?_⟩
  intro p hp
  have hB : p ∉ B := fun z => s.bs p z hp
  refine a2 (p :: B) α σ _ env S _ (r.hold hp) (s.hold hp) (PostG.held hp hB h fun α1 ps H1 ds S1 r1 s1 x1 h1 => ?_)
  have hk : H1 p = some (.dK []) := by rw [x1.held p List.mem_cons_self]; exact upd_same
  cases hd : keysD ds with
  | none => simp only [hd] at h1; exact h1.elim
  | some kds =>
    simp only [hd] at h1
    by_cases h15 : kds.length ≤ 15
    case neg => rw [if_neg h15] at h1; exact h1.elim
    rw [if_pos h15] at h1
    obtain ⟨kvs, e1, e2⟩ := keysD_rep r1 hd
    refine ⟨hk, kvs, e1, by rw [e2.length]; exact h15, ?_⟩
    have s2 := (s1.turn (o := .dK (mergeK [] kvs))).unhold
    have e2' : KReps ((Cx.wr X B).hold p) α1 S1 H1 kvs kds := e2
    have e3 : KReps (Cx.wr X B) α1 S1 (upd H1 p (.dK (mergeK [] kvs))) (mergeK [] kvs) (mergeD [] kds) := (KReps.merge e2'.turn .nil).unhold
    have x2 : Ext (Cx.wr X B) α S H α1 S1 (upd H1 p (.dK (mergeK [] kvs))) := by
      have x3 := x1.unhold hp hB
      refine ⟨x3.pre, fun b o nb q => ?_, fun b hb => ?_⟩
      · have ne : b ≠ p := ne_of_none q hp
        obtain ⟨g1, g2⟩ := x3.keep b o nb q
        exact ⟨g1, by rw [upd_ne ne]; exact g2⟩
      · have ne : b ≠ p := fun z => hB (z ▸ hb)
        rw [upd_ne ne]; exact x3.held b hb
    refine h1 α1 _ _ (.dct (.inl ⟨fun z => ?_, upd_same⟩) e3) s2 x2
    rcases z with ⟨n, mo, z1, _⟩ | z
    · exact s1.bd p List.mem_cons_self (List.mem_of_getElem? z1)
    · exact hB z

/-! ### list(d.items()), dict(xs) -/
def keyDt : Key → Dt
  | .inl i => .int i
  | .inr x => .str x
def itemsD (kvs : List (Key × Dt)) : List Dt := kvs.map fun kv => .tup [keyDt kv.1, kv.2]
theorem rep_key {W : Wr} {α : List Addr} {S : Store} {H : Hp} (k : Key) : Rep W α S H (kV k) (keyDt k) := by
  cases k with
  | inl i => exact .int i
  | inr x => exact .str x
def itemsP (S : Store) (d : Dt) : Option (List (Key × Dt)) := match d with
  | .ref n => asDict S (.ref n)
  | _ => none
/-- list(d.items()) of a dict that is owned -/
def cItems (fe : FE) : FE := fun env S => (fe env S).bind fun d S1 => match asDict S1 d with
  | some kvs => .ok (.lst (itemsD kvs)) S1
  | none => .bad
end
end DL

set_option Elab.async false
set_option linter.all false
set_option maxRecDepth 100000
set_option maxHeartbeats 4000000
namespace DL
open PySem PySem.Spec PyProof.Rows L2

/-! ### new lists: by value, or owned -/
structure DF (X : Cx) (E : Sl → XK) (e : Expr) (f : FA) : Prop where
  ex : ∃ t, PE X e t ∧ ∀ B α σ H env S Q, REnv X.pn (Cx.wr X B) α S H σ env → Sim (Cx.wr X B) α S H → PostF (Cx.wr X B) (E σ) α S H Q (f env S) → t σ H Q
def cAddA (a b : FE) : FA := fun env S => (a env S).bind fun x S1 => (b env S1).bind fun y S2 => match asList S2 x, asList S2 y with
  | some xs, some ys => if xs.length + ys.length ≤ LINE then .ok (xs ++ ys) S2 else .bad
  | _, _ => .bad
def cCutA (a : FE) (lo hi : FO) : FA := fun env S => (a env S).bind fun x S1 => (lo env S1).bind fun l S2 => (hi env S2).bind fun u S3 => match asList S3 x with
  | some ds => .ok (cutD ds l u) S3
  | none => .bad
def cListA (a : FA) : FA := fun env S => (a env S).bind fun ds S1 => match ds with
  | [d] => (match asSeq S1 d with | some es => .ok es S1 | none => .bad)
  | _ => .bad
def cSortA (a : FA) : FA := fun env S => (a env S).bind fun ds S1 => match listInts S1 ds with
  | some ns => .ok ((sortI ns).map Dt.int) S1
  | none => .bad
def cDispL (a : FA) : FA := fun env S => (a env S).bind fun ds S1 => if ds.length ≤ LINE then .ok ds S1 else .bad
section
variable {X : Cx} {E : Sl → XK} {e a b : Expr} {es : List Expr} {f : FA} {fa fb fe : FE} {pos p : Pos}
theorem DF.val (h : DF X E e f) : DE X E e (cVal f) := by
  obtain ⟨t, a1, a2⟩ := h
  exact ⟨t, a1, fun B α σ H env S Q r s h => a2 B α σ H env S Q r s (PostF.val h)⟩
theorem DF.own (h : DF X E e f) : DE X E e (cOwn f) := by
  obtain ⟨t, a1, a2⟩ := h
  exact ⟨t, a1, fun B α σ H env S Q r s h => a2 B α σ H env S Q r s (PostF.own h)⟩
theorem df_add (ha : DE X E a fa) (hb : DE X E b fb) : DF X E (.BinOp a .Add b pos) (cAddA fa fb) := by
  obtain ⟨ta, a1, a2⟩ := ha; obtain ⟨tb, b1, b2⟩ := hb
  refine ⟨_, pe_op op_catL a1 b1, fun B α σ H env S Q r s h => ?_⟩
  refine a2 B α σ H env S _ r s (PostF.bind h fun α1 v H1 d S1 r1 s1 x1 h1 => ?_)
  refine b2 B α1 σ H1 env S1 _ (r.ext x1) s1 (PostF.bind h1 fun α2 w H2 d2 S2 r2 s2 x2 h2 => ?_)
  cases hx : asList S2 d with
  | none => simp only [hx] at h2; exact h2.elim
  | some xs =>
    cases hy : asList S2 d2 with
    | none => simp only [hx, hy] at h2; exact h2.elim
    | some ys =>
      simp only [hx, hy] at h2
      by_cases hl : xs.length + ys.length ≤ LINE
      · rw [if_pos hl] at h2
        obtain ⟨p1, vs, rfl, l1, q1⟩ := asList_rep s2 (r1.ext x2) hx
        obtain ⟨p2, us, rfl, l2, q2⟩ := asList_rep s2 r2 hy
        exact ⟨p1, p2, vs, us, rfl, rfl, l1, l2, by rw [q1.length, q2.length]; exact hl, fun p hp => h2 α2 H2 p _ hp (q1.append q2) s2 Ext.refl⟩
      · rw [if_neg hl] at h2; exact h2.elim
theorem df_cut {lo hi : Option Expr} {fl fh : FO} {p2 : Pos} (he : DE X E e fe) (hl : DO X E lo fl) (hh : DO X E hi fh) : DF X E (.Subscript e (.Slice lo hi none p2) pos) (cCutA fe fl fh) := by
  obtain ⟨t, a1, a2⟩ := he; obtain ⟨tl, b1, b2⟩ := hl; obtain ⟨th, c1, c2⟩ := hh
  refine ⟨_, pe_slice sl_list a1 b1 c1, fun B α σ H env S Q r s h => ?_⟩
  refine a2 B α σ H env S _ r s (PostF.bind h fun α1 v H1 d S1 r1 s1 x1 h1 => ?_)
  refine b2 B α1 σ H1 env S1 _ (r.ext x1) s1 (PostF.bind h1 fun α2 l H2 ld S2 r2 s2 x2 h2 => ?_)
  refine c2 B α2 σ H2 env S2 _ ((r.ext x1).ext x2) s2 (PostF.bind h2 fun α3 u H3 ud S3 r3 s3 x3 h3 => ?_)
  obtain rfl : l = ld := r2
  obtain rfl : u = ud := r3
  have rv := (r1.ext x2).ext x3
  cases hp : asList S3 d with
  | none => simp only [hp] at h3; exact h3.elim
  | some ds =>
    simp only [hp] at h3
    obtain ⟨a, vs, rfl, hs, rs⟩ := asList_rep s3 rv hp
    exact ⟨a, vs, rfl, hs.sq, fun p hp => h3 α3 H3 p _ hp (rs.cut l u) s3 Ext.refl⟩
theorem df_list {x : Expr} (hg : Gl X "list") (hm : X.mg "list" = none) (ha : DA X E (x :: es) f)
    (he : starEach (x :: es) X.env = (false, eval x X.env) :: starEach es X.env := by rfl) (hpl : (backTo pos (starEach es X.env)).any (·.1) = false := by rfl) : DF X E (.Call (.Name "list" p) (x :: es) [] pos) (cListA f) := by
  obtain ⟨t, a1, a2⟩ := ha
  refine ⟨_, pe_callTy call_list_of hg hm (by rfl) a1 (by decide) (by decide) he hpl, fun B α σ H env S Q r s h => ?_⟩
  refine a2 B α σ H env S _ r s (PostF.bind h fun α1 vs H1 ds S1 r1 s1 x1 h1 => ?_)
  split at h1
  · rename_i d
    cases r1 with
    | cons rd t =>
      cases t
      split at h1
      · rename_i es hs
        obtain ⟨a, vs, rfl, sa, ra⟩ := asSeq_rep s1 rd hs
        exact ⟨a, vs, rfl, sa, fun p hp => h1 α1 H1 p _ hp ra s1 Ext.refl⟩
      · exact h1.elim
  · exact h1.elim
theorem df_sorted {x : Expr} (hg : Gl X "sorted") (hm : X.mg "sorted" = none) (ha : DA X E (x :: es) f)
    (he : starEach (x :: es) X.env = (false, eval x X.env) :: starEach es X.env := by rfl) (hpl : (backTo pos (starEach es X.env)).any (·.1) = false := by rfl) : DF X E (.Call (.Name "sorted" p) (x :: es) [] pos) (cSortA f) := by
  obtain ⟨t, a1, a2⟩ := ha
  refine ⟨_, pe_callB cr_sortedI hg hm (by rfl) a1 (by decide) (by decide) he hpl, fun B α σ H env S Q r s h => ?_⟩
  refine a2 B α σ H env S _ r s (PostF.bind h fun α1 vs H1 ds S1 r1 s1 x1 h1 => ?_)
  split at h1
  · rename_i ns hn
    obtain ⟨a, rfl, sa⟩ := listInts_rep s1 r1 hn
    refine ⟨a, ns, rfl, sa, fun ns' p g1 g2 hp => ?_⟩
    have e : ns' = sortI ns := PySem.W.ksm_same (g1.trans (sortI_perm ns).symm) g2 (sortI_sorted ns)
    subst e
    exact h1 α1 H1 p _ hp (Reps.ofInts _) s1 Ext.refl
  · exact h1.elim
theorem df_lst (h : DA X E es f) : DF X E (.List es pos) (cDispL f) := by
  obtain ⟨t, a1, a2⟩ := h
  refine ⟨_, pe_lst a1, fun B α σ H env S Q r s h => ?_⟩
  refine a2 B α σ H env S _ r s (PostF.bind h fun α1 vs H1 ds S1 r1 s1 x1 h1 => ?_)
  by_cases hl : ds.length ≤ LINE
  · rw [if_pos hl] at h1
    exact ⟨by rw [r1.length]; exact hl, fun p hp => h1 α1 H1 p _ hp r1 s1 Ext.refl⟩
  · rw [if_neg hl] at h1; exact h1.elim
end
section
variable {X : Cx} {E : Sl → XK} {elt tg iter : Expr} {ifs : List Expr} {scope : Scope} {own : List (Str × Nat)} {fi : FA} {g : FG} {ft : FT} {is : List Nat} {fe : FE} {pos : Pos}
theorem df_comp (hc : X.calm = true) (hN : X.N.Nodup) (hi : DI X E tg iter fi) (ok : BlkOk X.N X.env.scope scope own)
    (hvs : ∀ i ∈ is, i ∈ own.map (·.2))
    (hg : ∀ (s : Shared) (H : Hp) (C : Addr) (cl : List (Str × Addr)) (fp : List Addr), DG (X.blk s H scope (compEnvC scope cl C X.env) fp) tg g is)
    (ht : ∀ (s : Shared) (H : Hp) (C : Addr) (cl : List (Str × Addr)) (fp : List Addr), DTs (X.blk s H scope (compEnvC scope cl C X.env) fp) ifs ft)
    (he : ∀ (s : Shared) (H : Hp) (C : Addr) (cl : List (Str × Addr)) (fp : List Addr), DE (X.blk s H scope (compEnvC scope cl C X.env) fp) E0d elt fe)
    (hs : ∀ x, foldedSetIterable iter X.env x = pure x := by intro _; rfl) : DF X E (.ListComp elt [⟨tg, iter, ifs, 0⟩] scope pos) (cCompA fi (own.map (·.2)) g ft fe) := by
  obtain ⟨wi, i1, i2⟩ := hi
  refine ⟨_, pe_lc (g := canG X.K X.w X.mg g is) (tt := canT X.K X.w X.mg E0d ft) (te := canE X.K X.w X.mg E0d fe) hc hN i1 ok (fun s H C cl fp => (hg s H C cl fp).can rfl) (fun s H C cl fp => (ht s H C cl fp).can rfl) (fun s H C cl fp => (he s H C cl fp).can rfl) hs, ?_⟩
  exact tLc_of (elt := elt) (iter := iter) (tg := tg) hvs i2 (fun B α σ H env S v d env' Q r q h hq => ⟨B, α, env, S, d, env', r, q, h, hq⟩) (fun B α σ H env S Q r s h => ⟨B, α, env, S, r, s, h⟩) (fun B α σ H env S Q r s h => ⟨B, α, env, S, r, s, h⟩)
/-- y = [..], where y is changed later on -/
theorem ds_setCompO {y : Str} {py : Pos} {spos : Pos} (i : Nat) (hc : X.calm = true) (hN : X.N.Nodup) (hi : DI X E tg iter fi) (ok : BlkOk X.N X.env.scope scope own)
    (hvs : ∀ i ∈ is, i ∈ own.map (·.2))
    (hg : ∀ (s : Shared) (H : Hp) (C : Addr) (cl : List (Str × Addr)) (fp : List Addr), DG (X.blk s H scope (compEnvC scope cl C X.env) fp) tg g is)
    (ht : ∀ (s : Shared) (H : Hp) (C : Addr) (cl : List (Str × Addr)) (fp : List Addr), DTs (X.blk s H scope (compEnvC scope cl C X.env) fp) ifs ft)
    (he : ∀ (s : Shared) (H : Hp) (C : Addr) (cl : List (Str × Addr)) (fp : List Addr), DE (X.blk s H scope (compEnvC scope cl C X.env) fp) E0d elt fe)
    (hsw : swapsWith (.ListComp elt [⟨tg, iter, ifs, 0⟩] scope pos) (some (.Name y py)) spos.line X.env = pure true)
    (hy : X.N[i]? = some y := by rfl) (hyl : X.env.scope.names.lookup y = some .local := by rfl)
    (hs : ∀ x, foldedSetIterable iter X.env x = pure x := by intro _; rfl) : DS X E (.Assign [.Name y py] (.ListComp elt [⟨tg, iter, ifs, 0⟩] scope pos) spos) (sSet i (cOwn (cCompA fi (own.map (·.2)) g ft fe))) := by
  obtain ⟨wi, i1, i2⟩ := hi
  refine ⟨_, ps_setLc (g := canG X.K X.w X.mg g is) (tt := canT X.K X.w X.mg E0d ft) (te := canE X.K X.w X.mg E0d fe) hc hN hy hyl hsw i1 ok (fun s H C cl fp => (hg s H C cl fp).can rfl) (fun s H C cl fp => (ht s H C cl fp).can rfl) (fun s H C cl fp => (he s H C cl fp).can rfl) hs, ?_⟩
  intro B α σ H env S D r s h
  refine tLc_of (elt := elt) (iter := iter) (tg := tg) hvs i2 (fun B α σ H env S v d env' Q r q h hq => ⟨B, α, env, S, d, env', r, q, h, hq⟩) (fun B α σ H env S Q r s h => ⟨B, α, env, S, r, s, h⟩) (fun B α σ H env S Q r s h => ⟨B, α, env, S, r, s, h⟩) B α σ H env S _ r s (PostF.own ?_)
  exact SPost.bind r h fun α1 v H1 d S1 r1 s1 x1 h1 => h1 α1 _ H1 ((r.ext x1).set r1 i) s1 Ext.refl
end

/-! ### new dicts -/
def PostK (W : Wr) (E : XK) (α : List Addr) (S : Store) (H : Hp) (Q : VK) : Out (List (Key × Dt)) → Prop
  | .ok ds S' => ∀ α' H1 p vs, H1 p = none → KReps W α' S' H1 vs ds → Sim W α' S' H1 → Ext W α S H α' S' H1 → Q (.ref p) (upd H1 p (.dK vs))
  | .exc c fs S' => ∀ α' cls od H', XRep W α' S' H' c fs cls od → Sim W α' S' H' → Ext W α S H α' S' H' → E cls od H'
  | .bad => False
section
variable {W : Wr} {α α' : List Addr} {S S' : Store} {H H' : Hp}
theorem PostK.mono {E : XK} {Q : VK} {o : Out (List (Key × Dt))} (e : Ext W α S H α' S' H') (h : PostK W E α S H Q o) : PostK W E α' S' H' Q o := by
  cases o with
  | ok d S1 => exact fun α1 H1 p vs n r s x => h α1 H1 p vs n r s (e.trans x)
  | exc c fs S1 => exact fun α1 cls od H1 r s x => h α1 cls od H1 r s (e.trans x)
  | bad => exact h
theorem PostK.bind {β' γ' : Type} {R' : List Addr → Store → Hp → β' → γ' → Prop} {E : XK} {Q : VK} {Q' : β' → Hp → Prop} {o : Out γ'} {k : γ' → Store → Out (List (Key × Dt))}
    (h : PostK W E α S H Q (o.bind k)) (hk : ∀ α' v H' d S', R' α' S' H' v d → Sim W α' S' H' → Ext W α S H α' S' H' → PostK W E α' S' H' Q (k d S') → Q' v H') : PostG W R' E α S H Q' o := by
  cases o with
  | ok d S1 => exact fun α1 v H1 r s x => hk α1 v H1 d S1 r s x (PostK.mono x h)
  | exc c fs S1 => exact h
  | bad => exact h.elim
theorem PostK.held {β' γ' : Type} {R' : List Addr → Store → Hp → β' → γ' → Prop} {E : XK} {Q : VK} {Q' : β' → Hp → Prop} {o : Out γ'} {k : γ' → Store → Out (List (Key × Dt))} {D : Addr} {u : HO}
    (hD : H D = none) (hB : D ∉ W.B) (h : PostK W E α S H Q (o.bind k)) (hk : ∀ α' v H' d S', R' α' S' H' v d → Sim (W.hold D) α' S' H' → Ext (W.hold D) α S (upd H D u) α' S' H' → PostK W E α S H Q (k d S') → Q' v H') : PostG (W.hold D) R' E α S (upd H D u) Q' o := by
  cases o with
  | ok d S1 => exact fun α1 v H1 r s x => hk α1 v H1 d S1 r s x h
  | exc c fs S1 => exact fun α1 cls od H1 r s x => h α1 cls od H1 r.unhold s.unhold (x.unhold hD hB)
  | bad => exact h.elim
theorem PostK.val {E : XK} {Q : VK} {o : Out (List (Key × Dt))} (h : Post W E α S H Q (o.bind fun ys S2 => .ok (.dct ys) S2)) : PostK W E α S H Q o := by
  cases o with
  | ok d S1 => exact fun α1 H1 p vs n r s x => h α1 _ _ (.dct (.inl ⟨s.off n, upd_same⟩) (r.ext (Ext.new s n))) (s.new n) (x.trans (Ext.new s n))
  | exc c fs S1 => exact h
  | bad => exact h
theorem PostK.own {E : XK} {Q : VK} {o : Out (List (Key × Dt))} (h : Post W E α S H Q (o.bind fun ys S2 => .ok (.ref S2.length) (S2 ++ [.dct ys]))) : PostK W E α S H Q o := by
  cases o with
  | ok d S1 =>
    intro α1 H1 p vs n r s x
    have x2 : Ext W α1 S1 H1 (α1 ++ [p]) (S1 ++ [.dct d]) (upd H1 p (.dK vs)) := Ext.alloc s n
    refine h (α1 ++ [p]) _ _ (.ref ?_) (s.alloc n ⟨vs, upd_same, r.ext x2⟩) (x.trans x2)
    rw [List.getElem?_append_right (by rw [s.len]; omega), ← s.len]
    simp
  | exc c fs S1 => exact h
  | bad => exact h
end
abbrev FK := EnvD → Store → Out (List (Key × Dt))
structure DK (X : Cx) (E : Sl → XK) (e : Expr) (f : FK) : Prop where
  ex : ∃ t, PE X e t ∧ ∀ B α σ H env S Q, REnv X.pn (Cx.wr X B) α S H σ env → Sim (Cx.wr X B) α S H → PostK (Cx.wr X B) (E σ) α S H Q (f env S) → t σ H Q
def kVal (f : FK) : FE := fun env S => (f env S).bind fun ys S2 => .ok (.dct ys) S2
def kOwn (f : FK) : FE := fun env S => (f env S).bind fun ys S2 => .ok (.ref S2.length) (S2 ++ [.dct ys])
def kDisp (f : FPs) : FK := fun env S => (f env S).bind fun ps S1 => match keysD ps with
  | some kvs => if kvs.length ≤ 15 then .ok (mergeD [] kvs) S1 else .bad
  | none => .bad
section
variable {X : Cx} {E : Sl → XK} {e : Expr} {f : FK} {pos p : Pos}
theorem DK.val (h : DK X E e f) : DE X E e (kVal f) := by
  obtain ⟨t, a1, a2⟩ := h
  exact ⟨t, a1, fun B α σ H env S Q r s h => a2 B α σ H env S Q r s (PostK.val h)⟩
theorem DK.own (h : DK X E e f) : DE X E e (kOwn f) := by
  obtain ⟨t, a1, a2⟩ := h
  exact ⟨t, a1, fun B α σ H env S Q r s h => a2 B α σ H env S Q r s (PostK.own h)⟩
theorem dk_disp {keys : List (Option Expr)} {values : List Expr} {f : FPs} (h : DPs X E pos keys values f) (hall : keys.all (·.isSome) = true := by rfl) (hl : keys.length = values.length := by rfl) (h0 : keys ≠ [] := by simp)
    (h15 : keys.length ≤ 15 := by decide) : DK X E (.Dict keys values pos) (kDisp f) := by
  obtain ⟨trs, a1, a2⟩ := h
  refine ⟨_, pe_disp a1 hall hl h0 h15, fun B α σ H env S Q r s h => ?_⟩
  intro p hp
  have hB : p ∉ B := fun z => s.bs p z hp
  refine a2 (p :: B) α σ _ env S _ (r.hold hp) (s.hold hp) (PostK.held hp hB h fun α1 ps H1 ds S1 r1 s1 x1 h1 => ?_)
  have hk : H1 p = some (.dK []) := by rw [x1.held p List.mem_cons_self]; exact upd_same
  cases hd : keysD ds with
  | none => simp only [hd] at h1; exact h1.elim
  | some kds =>
    simp only [hd] at h1
    by_cases h15 : kds.length ≤ 15
    case neg => rw [if_neg h15] at h1; exact h1.elim
    rw [if_pos h15] at h1
    obtain ⟨kvs, e1, e2⟩ := keysD_rep r1 hd
    refine ⟨hk, kvs, e1, by rw [e2.length]; exact h15, ?_⟩
    have e2' : KReps ((Cx.wr X B).hold p) α1 S1 H1 kvs kds := e2
    have e3 : KReps (Cx.wr X B) α1 S1 (dropH H1 p) (mergeK [] kvs) (mergeD [] kds) := KReps.merge e2'.drop .nil
    have e5 := h1 α1 (dropH H1 p) p _ dropH_same e3 (Sim.drop (W := Cx.wr X B) s1 hB) ((x1.unhold hp hB).drop hp hB)
    have e6 : upd (dropH H1 p) p (.dK (mergeK [] kvs)) = upd H1 p (.dK (mergeK [] kvs)) := by
      funext b
      by_cases e : b = p
      · subst e; rw [upd_same, upd_same]
      · rw [upd_ne e, upd_ne e, dropH_ne e]
    rw [e6] at e5
    exact e5
end
/-- pairs by value -/
def pairsD : List Dt → Option (List (Key × Dt))
  | [] => some []
  | .tup [k, v] :: r => match keyD k, pairsD r with
    | some k, some r => some ((k, v) :: r)
    | _, _ => none
  | _ => none
theorem pairsD_rep {W : Wr} {α : List Addr} {S : Store} {H : Hp} : ∀ {vs : List V} {ds : List Dt} {kds : List (Key × Dt)}, Reps W α S H vs ds → pairsD ds = some kds →
    ∃ (ps : List Addr) (kvs : List (Key × V)), vs = ps.map V.ref ∧ Paired (fun p kv => SqT W.K H p [kV kv.1, kv.2]) ps kvs ∧ KReps W α S H kvs kds
  | _, _, _, .nil, h => by cases h; exact ⟨[], [], rfl, .nil, .nil⟩
  | _, d :: ds, kds, .cons r t, h => by
    unfold pairsD at h
    split at h
    · rename_i h0; cases h0
    · rename_i k v r' h0
      cases h0
      cases hk : keyD k with
      | none => simp only [hk] at h; cases h
      | some k' =>
        cases hr : pairsD ds with
        | none => simp only [hk, hr] at h; cases h
        | some rr =>
          simp only [hk, hr] at h
          cases h
          obtain ⟨ps, kvs, e1, e2, e3⟩ := pairsD_rep t hr
          cases r with
          | tup o q =>
            rename_i a us
            cases q with
            | cons q1 q =>
              cases q with
              | cons q2 q =>
                cases q
                have ek := keyD_rep q1 hk
                subst ek
                exact ⟨a :: ps, (k', _) :: kvs, by rw [e1]; rfl, .cons o.sq e2, .cons q2 e3⟩
    · cases h
/-- dict(xs), dict(d) -/
def kDictOf (a : FA) : FK := fun env S => (a env S).bind fun ds S1 => match ds with
  | [d] => (match (asList S1 d).bind pairsD with
    | some kvs => .ok (mergeD [] kvs) S1
    | none => .bad)
  | _ => .bad
section
variable {X : Cx} {E : Sl → XK} {e : Expr} {es : List Expr} {f : FA} {fe : FE} {pos p p2 apos cpos : Pos}
theorem dk_dict {x : Expr} (hc : X.calm = true) (hg : Gl X "dict") (hm : X.mg "dict" = none) (ha : DA X E (x :: es) f)
    (he : starEach (x :: es) X.env = (false, eval x X.env) :: starEach es X.env := by rfl) (hpl : (backTo pos (starEach es X.env)).any (·.1) = false := by rfl) : DK X E (.Call (.Name "dict" p) (x :: es) [] pos) (kDictOf f) := by
  obtain ⟨t, a1, a2⟩ := ha
  refine ⟨_, pe_callTy (call_dictP hc) hg hm (by rfl) a1 (by decide) (by decide) he hpl, fun B α σ H env S Q r s h => ?_⟩
  refine a2 B α σ H env S _ r s (PostK.bind h fun α1 vs H1 ds S1 r1 s1 x1 h1 => ?_)
  split at h1
  · rename_i d
    cases r1 with
    | cons rd t =>
      cases t
      split at h1
      · rename_i kvs hk
        obtain ⟨ds, k1, k2⟩ := Option.bind_eq_some_iff.mp hk
        obtain ⟨a, vs, rfl, sa, ra⟩ := asList_rep s1 rd k1
        obtain ⟨ps, kv, rfl, e2, e3⟩ := pairsD_rep ra k2
        exact ⟨a, ps, kv, rfl, sa.sq, e2, fun p hp => h1 α1 H1 p _ hp (KReps.merge e3 .nil) s1 Ext.refl⟩
      · exact h1.elim
  · exact h1.elim
/-- list(d.items()), the dict an owned one -/
def cItemsA (fe : FE) : FA := fun env S => (fe env S).bind fun d S1 => match itemsP S1 d with
  | some kvs => .ok (itemsD kvs) S1
  | none => .bad
end
end DL

set_option Elab.async false
set_option linter.all false
set_option maxRecDepth 100000
set_option maxHeartbeats 4000000
namespace DL
open PySem PySem.Spec PyProof.Rows L2

/-! ### more is tracked -/
section
variable {W : Wr} {α : List Addr} {S : Store} {H H' : Hp}
theorem Ext.more (s : Sim W α S H) (k : ∀ b o, H b = some o → H' b = some o) : Ext W α S H α S H' :=
  ⟨fun _ _ h => h, fun b x n e => ⟨n, k b x e⟩, fun b hb => by
    cases e : H b with
    | none => exact absurd e (s.bs b hb)
    | some o => exact k b o e⟩
theorem Sim.more (s : Sim W α S H) (k : ∀ b o, H b = some o → H' b = some o) : Sim W α S H' := by
  have up : ∀ b, H b ≠ none → H' b = H b := fun b h => by
    cases e : H b with
    | none => exact absurd e h
    | some o => exact k b o e
  refine ⟨s.len, s.nd, fun n a mo h1 h2 => (s.obj n a mo h1 h2).ext (Ext.more s k) (up a (s.ne n a h1)), fun n a h => ?_, fun b hb => ?_, s.bd⟩
  · rw [up a (s.ne n a h)]; exact s.ne n a h
  · rw [up b (s.bs b hb)]; exact s.bs b hb
theorem items_rep {kvs : List (Key × V)} {kds : List (Key × Dt)} {ts : List Addr} (s : Sim W α S H) (hn : ∀ t ∈ ts, ¬ Owned W α S t) (hp : Paired (fun (t : Addr) (q : Key × V) => H t = some (.tup [kV q.1, q.2])) ts kvs) (r : KReps W α S H kvs kds) : Reps W α S H (ts.map V.ref) (itemsD kds) := by
  induction hp generalizing kds with
  | nil => cases r; exact .nil
  | cons h t ih =>
    cases r with
    | cons q qs =>
      exact .cons (.tup (.inl ⟨hn _ List.mem_cons_self, .inl h⟩) (.cons (rep_key _) (.cons q .nil))) (ih (fun t ht => hn t (List.mem_cons_of_mem _ ht)) qs)
end
theorem paired_mono {β γ : Type} {F G : β → γ → Prop} : ∀ {xs : List β} {ys : List γ}, Paired F xs ys → (∀ x y, x ∈ xs → F x y → G x y) → Paired G xs ys
  | _, _, .nil, _ => .nil
  | _, _, .cons h t, k => .cons (k _ _ List.mem_cons_self h) (paired_mono t fun x y m => k x y (List.mem_cons_of_mem _ m))
section
variable {X : Cx} {E : Sl → XK} {e : Expr} {fe : FE} {pos p p2 apos cpos : Pos}
theorem df_items (hc : X.calm = true) (hg : Gl X "list") (hm : X.mg "list" = none) (he : DE X E e fe) (hbase : attributeBase e "items" X.env (eval e X.env) = eval e X.env := by rfl) (hline : (apos.endLine == cpos.line) = true := by rfl)
    (hs : starEach [.Call (.Attribute e "items" apos) [] [] cpos] X.env = (false, eval (.Call (.Attribute e "items" apos) [] [] cpos) X.env) :: starEach [] X.env := by rfl) :
    DF X E (.Call (.Name "list" p) [.Call (.Attribute e "items" apos) [] [] cpos] [] pos) (cItemsA fe) := by
  obtain ⟨t, a1, a2⟩ := he
  refine ⟨_, LiI.pe_listItems hc a1 hg hm (by rfl) hbase hline hs, fun B α σ H env S Q r s h => ?_⟩
  refine a2 B α σ H env S _ r s (PostF.bind h fun α1 v H1 d S1 r1 s1 x1 h1 => ?_)
  cases hi : itemsP S1 d with
  | none => simp only [hi] at h1; exact h1.elim
  | some kds =>
    simp only [hi] at h1
    unfold itemsP at hi
    cases d with
    | ref n =>
      simp only at hi
      unfold asDict at hi
      simp only at hi
      cases hn : S1[n]? with
      | none => simp only [hn] at hi; cases hi
      | some mo =>
        simp only [hn] at hi
        cases mo with
        | dct kvs =>
          cases hi
          obtain ⟨a, vs, rfl, ha, hH, q⟩ := own_dct s1 r1 hn
          refine ⟨a, vs, rfl, hH, fun H' p ts k hp hts hpt hH' hpr => ?_⟩
          have k2 : ∀ b o, H1 b = some o → dropH H' p b = some o := fun b o e => by
            rw [dropH_ne (ne_of_none e hp)]; exact k b o e
          have e := h1 α1 (dropH H' p) p (ts.map V.ref) dropH_same (items_rep (s1.more k2) (fun t ht => s1.off (hts t ht)) (paired_mono hpr fun t q ht h => by
            rw [dropH_ne (show t ≠ p from fun z => hpt (z ▸ ht))]; exact h) (q.ext (Ext.more s1 k2))) (s1.more k2) (Ext.more s1 k2)
          rw [upd_dropH hH'] at e
          exact e
        | _ => cases hi
    | _ => cases hi
end

/-! ### sorted(d), the keys ints, any number of them -/
section
variable {X : Cx}
/-- ints that were gathered are laid as a new list and sorted there -/
theorem laid_sorted {pins : List (Addr × Obj)} {σ : L2.St} {H : Hp} {s s1 : Shared} {A' : Around} {vs : List Value} {ks : List Int} {Q : VK} {E' : Value → Shared → Prop} (I1 : Inv X pins σ H s1) (hI : IntsAre vs ks) (hz : vs.length ≤ sizeLine)
    (q : ∀ (ys : List Int) (p : Addr), ys.Perm ks → ys.Pairwise (· ≤ ·) → H p = none → Q (.ref p) (upd H p (.lst (ys.map V.int)))) (R : PySem.Fin → Shared → Prop) (hR : ∀ v s', EP X pins σ Q v s' → R (.done (.ret v)) s') :
    wpAny (model X.prog X.w) A' (do let l ← newList vs; let _ ← holding [l] (call (.builtin "list.sort") [l] []); ret l) R E' s1 := by
  refine wpAny_bind (wpAny_newList ?_ hz)
  have hoL : (s1.heap.push (seqObj "list" vs.toArray 0)).get? s1.heap.objs.size = some (seqObj "list" vs.toArray 0) := Heap.get?_push_size _ rfl
  show wpAny _ _ _ _ _ { s1 with heap := s1.heap.push (seqObj "list" vs.toArray 0) }
  refine wpAny_bind (wpAny_holding (wpAny_call_entry PyProof.Rows.slot_list_sort ⟨_, hoL, rfl⟩ PyProof.Rows.entry_list_sort
    (SrtO.list_sort_ord (s := { s1 with heap := s1.heap.push (seqObj "list" vs.toArray 0) }) SrtO.swo_int hoL hz (fun h2 => SrtO.ints_sortable hI h2) fun out g1 g2 => ⟨_, rfl, ?_⟩) (PyProof.Rows.args_list_sort _)))
  obtain ⟨k1, k2, k3⟩ := SrtO.ints_out hI g1 g2
  obtain ⟨e', he'⟩ := PyProof.Rows.sortedHeap_at (vs := vs) (out := out.toArray) hoL
  have hlen : ((out.map SrtO.iv).map V.int).length ≤ sizeLine := by
    rw [List.length_map, k2.length_eq, ← hI.length]; exact hz
  refine wpAny_pure (hR _ _ ⟨.ref s1.heap.objs.size, upd H s1.heap.objs.size (.lst ((out.map SrtO.iv).map V.int)), I1.laid (t' := s1.toks) (fun b u e => ?_) (Nat.le_refl _)
    (show ObjOk X.prog X.w _ _ _ (.lst _) from ⟨hlen, out, e', vals_of_ints k1, he'⟩), rfl, q _ _ k2 k3 (I1.hok.fresh (Nat.le_refl _))⟩)
  have hb : b < s1.heap.objs.size := Heap.lt_size e
  rw [PyProof.Rows.sortedHeap_old (Nat.ne_of_lt hb) (by rw [size_push']; exact Nat.lt_succ_of_lt hb)]
  exact Heap.get?_push_of_some _ e
def rSortedDI : List V → Hp → VK → Prop := fun xs H Q => ∃ (a : Addr) (kvs : List (Key × V)) (ks : List Int), xs = [.ref a] ∧ H a = some (.dK kvs) ∧ kvs.map (·.1) = ks.map Sum.inl ∧
    ∀ (ys : List Int) (p : Addr), ys.Perm ks → ys.Pairwise (· ≤ ·) → H p = none → Q (.ref p) (upd H p (.lst (ys.map V.int)))
theorem cr_sortedDI (hcalm : X.calm = true) : CallR X (.builtin "sorted") rSortedDI := by
  intro pins s σ H xs us Q I r q
  obtain ⟨a, kvs, ks, rfl, hd, hks, q⟩ := q
  obtain ⟨u, rfl, rx⟩ := vals1 r
  cases rx
  obtain ⟨z, lo, vs, rel, dd⟩ := dk_of I.hok hd
  obtain ⟨ep, hat⟩ := dd.dictAt
  have hkeys : vs.map (·.1) = ks.map Sum.inl := rel.keys.symm.trans hks
  have hl : vs.length = ks.length := by simpa using congrArg List.length hkeys
  have hz : vs.length ≤ sizeLine := by rw [← rel.length]; exact z
  refine Calls.call_function_entry PyProof.Rows.kind_sorted PyProof.Rows.plain_sorted PyProof.Rows.entry_sorted (PyProof.Rows.args_sorted1 _) ?_
  unfold Builtin.«sorted»
  refine wpAny_bind (m := checkCount "sorted" 1 1 _) (wpAny_pure ?_)
  refine wpAny_bind (PySem.W.kdu_collect (A := X.A.in1) (PySem.W.kdl_dict (knd := mixKind X.prog X.w) (kvs := vs) (ep := ep) lo) (I.ok.hd hcalm) hat hz fun h' tk acc hk hacc => ?_)
  have hal : acc.toList.length = ks.length := by rw [Array.length_toList, hacc.1, hl]
  have hI : IntsAre acc.toList ks := ints_each hal fun j v e => by
    obtain ⟨k, x, e1, e2⟩ := hacc.2 j v (by rw [← Array.getElem?_toList]; exact e)
    have e3 : (ks.map (Sum.inl : Int → Key))[j]? = some k := by rw [← hkeys, List.getElem?_map, e1] <;> rfl
    rw [List.getElem?_map] at e3
    obtain ⟨y, e4, rfl⟩ := Option.map_eq_some_iff.mp e3
    rcases keyIs_shape (show keyIs (Sum.inl y) v = true from e2) with ⟨i, t, ek, ev⟩ | ⟨z, t, ek, ev⟩
    · cases ek; exact ⟨y, t, e4, ev⟩
    · cases ek
  exact laid_sorted (s := s) (I.kept hk) hI (by rw [hal, ← hl]; exact hz) q _ fun v s' h => ⟨v, rfl, h⟩
end
end DL

set_option Elab.async false
set_option linter.all false
set_option maxRecDepth 100000
set_option maxHeartbeats 4000000
/-! sorted(set(xs)), xs a list of ints: set_of_list is the library's rule for tuples (SetFor), turned to lists -/
namespace DL
open PySem PySem.Spec PyProof.Rows L2
section
variable {P : Program} {w : World} {A : Around} {E : Value → Shared → Prop} {s : Shared}
set_option maxRecDepth 100000 in
set_option maxHeartbeats 3200000 in
theorem set_of_list {l : Addr} {items : Array Value} (ns : List Int) {Q : Value → Shared → Prop} (hh : A.handled = none) (hl : s.heap.IsList l items) (hit : IntsAre items.toList ns) (hb : ns.length + 1 < scanBound)
    (h : ∀ (h' : Heap) (tk c : Nat), SetR w h' s.heap.objs.size (fun j => decide (j ∈ ns)) c → c ≤ ns.length → (∀ b o, s.heap.get? b = some o → h'.get? b = some o) → Q (.ref s.heap.objs.size) { s with heap := h', toks := tk }) :
    wpAny (model P w) A (call (.type "set") [.ref l]) Q E s := by
  have hisz : items.size = ns.length := by
    have q := IntsAre.length hit
    rw [Array.length_toList] at q
    exact q
  obtain ⟨c, tl, hmro⟩ := F.called_set.mro
  have hmade := F.called_set.made
  have hsub := F.called_set.sub
  refine wpAny_call (codeAny_of_tree ?_)
  show wpAny _ _ (callAny (.type "set") _) _ _ _
  refine wpAny_pure ⟨Code.quiet_builtin _ (by decide +kernel), codeAny_builtin F.entry_type_call ?_⟩
  rw [Around.under_plain (weight_type_call_type "set" [.ref l] []) rfl]
  have h1 := F.called_set.notType
  have h2 := F.called_set.canCreate
  have hct := F.typeCall_set_1 (.ref l)
  repeat (any_goals (first | assumption | wp_step))

  refine codeAny_mono (code_set_led1 (.ref l) (E := E) (Q₁ := fun obj s₁ => obj = .ref s.heap.objs.size ∧ s₁ = { s with heap := s.heap.push { cls := .type "set", dict := none, data := .set #[] 0 (.fresh 0 0 (!w.params.followText "set-order")) } }) ⟨rfl, rfl⟩) fun r s₁ hr => ?_
  cases r with
  | error e => exact hr
  | ok fl =>
    cases fl with
    | ret obj =>
      obtain ⟨rfl, rfl⟩ := hr
      have hS : (s.heap.push { cls := .type "set", dict := none, data := .set #[] 0 (.fresh 0 0 (!w.params.followText "set-order")) }).get? s.heap.objs.size = some { cls := .type "set", dict := none, data := .set #[] 0 (.fresh 0 0 (!w.params.followText "set-order")) } := Heap.get?_push_size _ rfl
      have hT : Shared.TypeIs { s with heap := s.heap.push { cls := .type "set", dict := none, data := .set #[] 0 (.fresh 0 0 (!w.params.followText "set-order")) } } (.ref s.heap.objs.size) "set" := ⟨_, hS, rfl⟩
      have hli := F.called_set.init.lookup
      have hbi := F.called_set.init.bind (.ref s.heap.objs.size)
      repeat (any_goals (first | assumption | wp_step))

      refine codeAny_mono (codeAny_call_builtin (R := wants (fun r s₂ => r = .none ∧ ∃ h' tk c, s₂ = { s with heap := h', toks := tk } ∧ SetR w h' s.heap.objs.size (fun j => decide (j ∈ ns)) c ∧ c ≤ ns.length ∧
          (∀ b o, s.heap.get? b = some o → h'.get? b = some o)) E) F.called_set.init.plain F.entry_set_init (check_set_init_1 hT ?_)) fun r₂ s₂ hr₂ => ?_
      · obtain ⟨ol, hol, hcl, nl, hdl⟩ := hl
        obtain ⟨ocls, odict, odata, oslots⟩ := ol
        simp only at hcl hdl
        subst hcl; subst hdl
        have hol' : (s.heap.push { cls := .type "set", dict := none, data := .set #[] 0 (.fresh 0 0 (!w.params.followText "set-order")) }).get? l = some { cls := .type "list", dict := odict, data := .seq items nl, slots := oslots } := Heap.get?_push_of_some _ hol
        have hsls := F.sub_list_set
        have hslf := F.sub_list_frozenset
        have hne : (Value.type "list" == Value.type "dict") = false := by decide
        have hl1 : (s.heap.push { cls := .type "set", dict := none, data := .set #[] 0 (.fresh 0 0 (!w.params.followText "set-order")) }).IsList l items := ⟨_, hol', rfl, nl, rfl⟩
        unfold Builtin.«set.__init__» noKeywords Builtin.Frozenset.updateFrom
        generalize hPI : pyIter = PI
        wp_walk
        subst hPI

        refine wpAny_pyIter_list hl1 ?_
        refine wpAny_bind (wpAny_runValue ?_)
        have hlS : l < s.heap.objs.size := Heap.lt_size hol
        have hh3 : A.in1.in1.in1.handled = none := by simp [hh]
        have hz1 : (s.heap.push { cls := .type "set", dict := none, data := .set #[] 0 (.fresh 0 0 (!w.params.followText "set-order")) }).objs.size = s.heap.objs.size + 1 := Heap.size_push ..
        have hneI : l ≠ (s.heap.push { cls := .type "set", dict := none, data := .set #[] 0 (.fresh 0 0 (!w.params.followText "set-order")) }).objs.size := by
          rw [Heap.size_push]; exact Nat.ne_of_lt (Nat.lt_succ_of_lt hlS)
        have hSf : s.heap.objs.size ∉ [(s.heap.push { cls := .type "set", dict := none, data := .set #[] 0 (.fresh 0 0 (!w.params.followText "set-order")) }).objs.size, l] := by
          rw [Heap.size_push]; simp only [List.mem_cons, List.mem_singleton, List.not_mem_nil, or_false, not_or]
          exact ⟨Nat.ne_of_lt (Nat.lt_succ_self _), Nat.ne_of_gt hlS⟩
        have hval : ∀ (i : Nat) (v : Value), items[i]? = some v → ∃ k t, ns[i]? = some k ∧ v = .int k t := fun i v hv => by
          have hi : i < ns.length := by rw [← hisz]; exact (Array.getElem?_eq_some_iff.mp hv).1
          obtain ⟨t, e⟩ := PyProof.Rows.IntsAre.int_at hit i v (by rw [Array.getElem?_toList]; exact hv)
          refine ⟨ns[i], t, List.getElem?_eq_getElem hi, ?_⟩
          rw [e, List.getD_eq_getElem?_getD, List.getElem?_eq_getElem hi] <;> rfl
        refine set_update_ints ((Walks.list hh3 _ l hneI items).toS) s.heap.objs.size
          hSf ns hisz hb hval (items.size - 0) 0 _ (by omega) (Nat.zero_le _)
          ⟨⟨_, Heap.get?_push_size _ rfl, rfl, rfl⟩, (hl1.push _)⟩ ?hS0 ?hR
        case hS0 =>
          have hget : ((s.heap.push { cls := .type "set", dict := none, data := .set #[] 0 (.fresh 0 0 (!w.params.followText "set-order")) }).push { cls := .type "list_iterator", data := .fields #[.ref l, .int 0 0] }).get? s.heap.objs.size
              = some { cls := .type "set", dict := none, data := .set #[] 0 (.fresh 0 0 (!w.params.followText "set-order")) } := Heap.get?_push_of_some _ hS
          exact ⟨0, Nat.le_refl 0, setR_new_at hget⟩
        case hR =>
          intro s' c' hm hc' hS'
          obtain ⟨h', g2, d', tk', os'⟩ := s'
          have eg : g2 = s.gens := hm.gens
          have ed : d' = s.drawn := hm.drawn
          have eo : os' = s.os := hm.os
          subst eg; subst ed; subst eo
          show wpAny _ _ _ _ _ _
          refine wpAny_pure ?_
          show wpAny _ _ (ret Value.none) _ _ _
          rw [hisz] at hc'
          refine wpAny_pure ⟨rfl, h', tk', c', rfl, hS', hc', fun b o e => ?_⟩
          have hb0 : b < s.heap.objs.size := Heap.lt_size e
          have hb1 : b ≠ s.heap.objs.size := Nat.ne_of_lt hb0
          have hb2 : b ≠ (s.heap.push { cls := .type "set", dict := none, data := .set #[] 0 (.fresh 0 0 (!w.params.followText "set-order")) }).objs.size := by
            rw [Heap.size_push]; exact Nat.ne_of_lt (Nat.lt_succ_of_lt hb0)
          exact hm.heap b o (by simp only [List.mem_cons, List.mem_singleton, List.not_mem_nil, or_false, not_or]; exact ⟨hb1, hb2⟩) (Heap.get?_push_of_some _ (Heap.get?_push_of_some _ e))

      · cases r₂ with
        | error e => exact hr₂
        | ok fl₂ =>
          cases fl₂ with
          | ret r =>
            obtain ⟨rfl, h', tk, c', rfl, hS', hc', hk'⟩ := hr₂
            repeat (any_goals (first | assumption | wp_step))
            exact h _ _ _ hS' hc' hk'
          | _ => exact hr₂.elim
    | _ => exact hr.elim

end
end DL

set_option Elab.async false
set_option linter.all false
set_option maxRecDepth 100000
set_option maxHeartbeats 4000000
namespace DL
open PySem PySem.Spec PyProof.Rows L2
/-- set(xs): what lies there is not tracked by more than this -/
def setO (w : World) (a : Addr) (S : Int → Bool) (n : Nat) : HO := .ext fun h => SetR w h a S n
theorem setO_ok {w : World} {P : Program} {H : Hp} {h : Heap} {a : Addr} {S : Int → Bool} {n : Nat} (R : SetR w h a S n) : ObjOk P w H h a (setO w a S n) := by
  have ⟨o, _, _, _, ho, _⟩ := R
  exact ⟨R, ⟨o, ho⟩, fun h1 h2 p k => SetR.at p k⟩
section
variable {X : Cx}
def rSetL (K : PySem.W.Frag) (w : World) : List V → Hp → VK → Prop := fun vs H Q => ∃ (a : Addr) (ns : List Int), vs = [V.ref a] ∧ SqL K H a (ns.map V.int) ∧ ns.length + 1 < scanBound ∧
  ∀ p c, H p = none → c ≤ ns.length → Q (.ref p) (upd H p (setO w p (fun j => decide (j ∈ ns)) c))
theorem cr_setL (hc : X.calm = true) : CallR X (.type "set") (rSetL X.K X.w) := by
  intro pins s σ H vs us Q I r h
  obtain ⟨a, ns, rfl, hs, hb, q⟩ := h
  obtain ⟨its, rv, hl, _⟩ := I.list hs
  rw [Vals.ref1 r]
  refine set_of_list ns (I.ok.hd hc) hl.isList (by simpa using rv.ints) hb fun h' tk c R hcl k => ?_
  exact ⟨.ref s.heap.objs.size, _, I.laid (t' := tk) k (Nat.le_refl _) (setO_ok R), rfl, q _ c (I.hok.fresh (Nat.le_refl _)) hcl⟩
def rSortSet (w : World) : List V → Hp → VK → Prop := fun vs H Q => ∃ (a : Addr) (ns : List Int) (c : Nat), vs = [V.ref a] ∧ H a = some (setO w a (fun j => decide (j ∈ ns)) c) ∧
  ∀ (ys : List Int) (p : Addr), ys.Pairwise (· < ·) → (∀ k, k ∈ ys ↔ k ∈ ns) → H p = none → Q (.ref p) (upd H p (.lst (ys.map V.int)))
theorem cr_sortSet (hc : X.calm = true) : CallR X (.builtin "sorted") (rSortSet X.w) := by
  intro pins s σ H vs us Q I r h
  obtain ⟨a, ns, c, rfl, ha, q⟩ := h
  have R : SetR X.w s.heap a (fun j => decide (j ∈ ns)) c := (I.hok a _ ha).1
  rw [Vals.ref1 r]
  obtain ⟨o, es, ep, t, ho, hex, hd, g, nd, hm, hb, hf, hn, hr, hl⟩ := R
  refine Calls.call_function_entry PyProof.Rows.kind_sorted PyProof.Rows.plain_sorted PyProof.Rows.entry_sorted (PyProof.Rows.args_sorted1 _) ?_
  unfold Builtin.«sorted»
  refine wpAny_bind (m := checkCount "sorted" 1 1 _) (wpAny_pure ?_)
  refine wpAny_bind (collect_set (A := X.A.in1) (I.ok.hd hc) ⟨o, ho, hex.1, hd⟩ hf hb hr hl fun s1 vs k1 hz g1 o1 pm => ?_)
  have hvl : vs.length = c := by rw [pm.length_eq, List.length_map, Array.length_toList]; exact hn
  have hI : IntsAre vs (vs.map Builtin.Re.reRawOf) := ints_of vs fun v hv => by
    obtain ⟨e, he, z⟩ := List.mem_map.mp (pm.mem_iff.mp hv)
    obtain ⟨k, tk, h1, _⟩ := g e he
    exact ⟨k, tk, by rw [← z]; exact h1⟩
  have pk : (vs.map Builtin.Re.reRawOf).Perm (es.toList.map keyOf) := by
    have z := pm.map Builtin.Re.reRawOf
    rw [List.map_map] at z
    exact z
  have I1 : Inv X pins σ H s1 := by
    have J : Inv X pins σ H { s with heap := s1.heap, gens := s1.gens, drawn := s1.drawn, toks := s1.toks } :=
      I.call (ch := []) (Un.kept k1) (I.hok.kept k1) (by rw [g1]; exact I.bare) (fun _ z => nomatch z)
    have e : s1 = { s with heap := s1.heap, gens := s1.gens, drawn := s1.drawn, toks := s1.toks } := by
      cases s1; cases s; cases o1; rfl
    rw [e]
    exact J
  refine laid_sorted (s := s) I1 hI (by have z : scanBound ≤ sizeLine := (by decide); rw [hvl]; omega) (fun ys p h1 h2 hp => ?_) _ fun v s' h => ⟨v, rfl, h⟩
  have pn : ys.Perm (es.toList.map keyOf) := h1.trans pk
  exact q ys p (lt_of_le_nodup ys h2 (pn.nodup_iff.mpr nd)) (fun k => by rw [pn.mem_iff, ← hm k]; simp) hp
end
def dedupI : List Int → List Int
  | [] => []
  | x :: xs => if x ∈ xs then dedupI xs else x :: dedupI xs
theorem mem_dedupI : ∀ {l : List Int} {x : Int}, x ∈ dedupI l ↔ x ∈ l
  | [], x => by simp [dedupI]
  | y :: ys, x => by
    unfold dedupI
    split
    · rename_i h
      rw [mem_dedupI, List.mem_cons]
      exact ⟨.inr, fun z => z.elim (fun e => e ▸ h) id⟩
    · rw [List.mem_cons, List.mem_cons, mem_dedupI]
theorem nodup_dedupI : ∀ l : List Int, (dedupI l).Nodup
  | [] => by simp [dedupI]
  | y :: ys => by
    unfold dedupI
    split
    · exact nodup_dedupI ys
    · rename_i h
      exact List.nodup_cons.mpr ⟨fun z => h (mem_dedupI.mp z), nodup_dedupI ys⟩
/-- rising, each once -/
def setI (l : List Int) : List Int := sortI (dedupI l)
theorem lt_unique : ∀ {a b : List Int}, a.Pairwise (· < ·) → b.Pairwise (· < ·) → (∀ k, k ∈ a ↔ k ∈ b) → a = b
  | a, b, ha, hb, h => by
    have na : a.Nodup := ha.imp fun z e => by omega
    have nb : b.Nodup := hb.imp fun z e => by omega
    exact PySem.W.ksm_same ((List.perm_ext_iff_of_nodup na nb).mpr h) (ha.imp fun z => Int.le_of_lt z) (hb.imp fun z => Int.le_of_lt z)
theorem setI_lt (l : List Int) : (setI l).Pairwise (· < ·) := lt_of_le_nodup _ (sortI_sorted _) ((sortI_perm _).nodup_iff.mpr (nodup_dedupI l))
theorem mem_setI {l : List Int} {x : Int} : x ∈ setI l ↔ x ∈ l := (sortI_perm _).mem_iff.trans mem_dedupI
def cSortSetA (a : FA) : FA := fun env S => (a env S).bind fun ds S1 => match listInts S1 ds with
  | some ns => if ns.length < 4095 then .ok ((setI ns).map Dt.int) S1 else .bad
  | none => .bad
/-- sorted(d), d a dict that is owned, its keys ints -/
def keysI : List (Key × Dt) → Option (List Int)
  | [] => some []
  | (.inl i, _) :: r => (keysI r).map (i :: ·)
  | _ => none
def cSortDictA (f : FE) : FA := fun env S => (f env S).bind fun d S1 => match (itemsP S1 d).bind keysI with
  | some ks => .ok ((sortI ks).map Dt.int) S1
  | none => .bad
theorem keysI_rep : ∀ {kds : List (Key × Dt)} {ks : List Int}, keysI kds = some ks → kds.map (·.1) = ks.map Sum.inl
  | [], ks, h => by cases h; rfl
  | (.inl i, d) :: r, ks, h => by
    unfold keysI at h
    obtain ⟨z, h1, rfl⟩ := Option.map_eq_some_iff.mp h
    simp only [List.map_cons]
    rw [keysI_rep h1]
  | (.inr x, d) :: r, ks, h => by cases h
section
variable {X : Cx} {E : Sl → XK} {e : Expr} {es : List Expr} {f : FA} {fe : FE} {pos p p2 pos2 : Pos}
theorem df_sortSet {x : Expr} (hc : X.calm = true) (hg : Gl X "sorted") (hm : X.mg "sorted" = none) (hg2 : Gl X "set") (hm2 : X.mg "set" = none) (ha : DA X E (x :: es) f)
    (he : starEach (x :: es) X.env = (false, eval x X.env) :: starEach es X.env := by rfl) (hpl : (backTo pos2 (starEach es X.env)).any (·.1) = false := by rfl)
    (he2 : starEach [.Call (.Name "set" p2) (x :: es) [] pos2] X.env = (false, eval (.Call (.Name "set" p2) (x :: es) [] pos2) X.env) :: starEach [] X.env := by rfl) (hpl2 : (backTo pos (starEach [] X.env)).any (·.1) = false := by rfl) :
    DF X E (.Call (.Name "sorted" p) [.Call (.Name "set" p2) (x :: es) [] pos2] [] pos) (cSortSetA f) := by
  obtain ⟨t, a1, a2⟩ := ha
  refine ⟨_, pe_callB (cr_sortSet hc) hg hm (by rfl) (pa_cons (pe_callTy (cr_setL hc) hg2 hm2 (by rfl) a1 (by decide) (by decide) he hpl) pa_nil he2) (by decide) (by decide) he2 hpl2, fun B α σ H env S Q r s h => ?_⟩
  refine a2 B α σ H env S _ r s (PostF.bind h fun α1 vs H1 ds S1 r1 s1 x1 h1 => ?_)
  split at h1
  · rename_i ns hn
    by_cases hb : ns.length < 4095
    · rw [if_pos hb] at h1
      obtain ⟨a, rfl, sa⟩ := listInts_rep s1 r1 hn
      refine ⟨a, ns, rfl, sa, by show ns.length + 1 < 4096; omega, fun p c hp hc => ?_⟩
      refine ⟨p, ns, c, rfl, upd_same, fun ys q h1' h2' hq => ?_⟩
      have e : ys = setI ns := lt_unique h1' (setI_lt ns) fun k => (h2' k).trans mem_setI.symm
      subst e
      exact h1 α1 _ q _ hq (Reps.ofInts _) (s1.new hp) (Ext.new s1 hp)
    · rw [if_neg hb] at h1; exact h1.elim
  · exact h1.elim
theorem df_sortDict {x : Expr} (hc : X.calm = true) (hg : Gl X "sorted") (hm : X.mg "sorted" = none) (ha : DE X E x fe)
    (he : starEach [x] X.env = (false, eval x X.env) :: starEach [] X.env := by rfl) (hpl : (backTo pos (starEach [] X.env)).any (·.1) = false := by rfl) : DF X E (.Call (.Name "sorted" p) [x] [] pos) (cSortDictA fe) := by
  obtain ⟨t, a1, a2⟩ := ha
  refine ⟨_, pe_callB (cr_sortedDI hc) hg hm (by rfl) (pa_cons a1 pa_nil he) (by decide) (by decide) he hpl, fun B α σ H env S Q r s h => ?_⟩
  refine a2 B α σ H env S _ r s (PostF.bind h fun α1 v H1 d S1 r1 s1 x1 h1 => ?_)
  split at h1
  · rename_i ks hk
    obtain ⟨kds, k1, k2⟩ := Option.bind_eq_some_iff.mp hk
    unfold itemsP at k1
    cases d with
    | ref n =>
      simp only at k1
      unfold asDict at k1
      simp only at k1
      cases hn : S1[n]? with
      | none => simp only [hn] at k1; cases k1
      | some mo =>
        simp only [hn] at k1
        cases mo with
        | dct kvs =>
          cases k1
          obtain ⟨a, vs, rfl, ha, hH, q⟩ := own_dct s1 r1 hn
          refine ⟨a, vs, ks, rfl, hH, q.keys.trans (keysI_rep k2), fun ys p g1 g2 hp => ?_⟩
          have e : ys = sortI ks := PySem.W.ksm_same (g1.trans (sortI_perm ks).symm) g2 (sortI_sorted ks)
          subst e
          exact h1 α1 H1 p _ hp (Reps.ofInts _) s1 Ext.refl
        | _ => cases k1
    | _ => cases k1
  · exact h1.elim
end
end DL

set_option Elab.async false
set_option linter.all false
set_option maxRecDepth 100000
set_option maxHeartbeats 4000000
namespace DL
open PySem PySem.Spec PyProof.Rows L2

/-! ### own exceptions with fields: __init__(self, f, ..) that stores each -/
inductive InitTxt : List Stmt → List Str → Prop
  | nil : InitTxt [] []
  | cons {f : Str} {p1 p2 p3 p4 : Pos} {rest : List Stmt} {fs : List Str} : InitTxt rest fs → InitTxt (.Assign [.Attribute (.Name "self" p1) f p2] (.Name f p3) p4 :: rest) (f :: fs)
theorem init_more {X : Cx} {C : Addr} (h0 : X.N[0]? = some (Str.ofString "self")) (hv0 : Vis X.env.scope "self") : ∀ {body : List Stmt} {fs : List Str} (T : InitTxt body fs) (k : Nat) (hN : ∀ j f, fs[j]? = some f → X.N[k + j]? = some f)
    (hv : ∀ f ∈ fs, Vis X.env.scope f ∧ (f == ("__debug__" : Str)) = false ∧ (f == ("__classdict__" : Str)) = false),
    ∃ t, PSs X body t ∧ ∀ (D : Ends) (σ : Sl) (H : Hp) (a dx : Addr) (acc : List (Str × V)) (ys : List V), σ[0]? = some (some (.ref a)) → (∀ j y, ys[j]? = some y → σ[k + j]? = some (some y)) → ys.length = fs.length → OexC X.K C → (∀ f ∈ fs, PySem.W.findIn X.K (.ref C) f = some none) →
      H a = some (exo a C (some dx)) → H dx = some (exd dx acc) → dx ≠ a → acc.length + fs.length ≤ 900 → (∀ H2 : Hp, H2 dx = some (exd dx ((fs.zip ys).reverse ++ acc)) → (∀ b, b ≠ dx → H2 b = H b) → D.nx σ H2) → t D σ H
  | _, _, .nil, k, hN, hv => ⟨_, pss_nil, fun D σ H a dx acc ys e0 ey el T hf ha hd _ hl hq => hq H hd fun _ _ => rfl⟩
  | _, _, .cons (f := f) (fs := fs) (rest := rest) (p1 := p1) (p2 := p2) (p3 := p3) (p4 := p4) T, k, hN, hv => by
    obtain ⟨t, h1, h2⟩ := init_more h0 hv0 (C := C) T (k + 1) (fun j g e => by rw [Nat.add_assoc, Nat.add_comm 1 j]; exact hN (j + 1) g (by simpa using e)) (fun g hg => hv g (List.mem_cons_of_mem _ hg))
    obtain ⟨v1, v2, v3⟩ := hv f List.mem_cons_self
    refine ⟨_, pss_cons (ps_ost (pos := p4) (p' := p2) (pe_var (pos := p1) h0 hv0 (by decide) (by decide)) (pe_var (pos := p3) (hN 0 f (by simp)) v1 v2 v3)) h1, fun D σ H a dx acc ys e0 ey el TC hf ha hd ha' hl hq => ?_⟩
    cases ys with
    | nil => simp at el
    | cons y ys =>
      refine ⟨y, ey 0 y (by simp), .ref a, e0, a, C, rfl, TC, hf f List.mem_cons_self, .inr ⟨dx, acc, ha, hd, by simp at hl; omega, ?_⟩⟩
      refine h2 D σ _ a dx ((f, y) :: acc) ys e0 (fun j z e => by rw [Nat.add_assoc, Nat.add_comm 1 j]; exact ey (j + 1) z (by simpa using e)) (by simpa using el) TC (fun g hg => hf g (List.mem_cons_of_mem _ hg)) (by rw [upd_ne ha'.symm]; exact ha) upd_same ha' (by simp at hl ⊢; omega) fun H2 g1 g2 => ?_
      refine hq H2 ?_ fun b hb => ?_
      · rw [g1]; simp
      · rw [g2 b hb, upd_ne hb]
theorem init_all {X : Cx} {C : Addr} (h0 : X.N[0]? = some (Str.ofString "self")) (hv0 : Vis X.env.scope "self") {body : List Stmt} {f : Str} {fs : List Str} (T : InitTxt body (f :: fs)) (hN : ∀ j g, (f :: fs)[j]? = some g → X.N[1 + j]? = some g)
    (hv : ∀ g ∈ f :: fs, Vis X.env.scope g ∧ (g == ("__debug__" : Str)) = false ∧ (g == ("__classdict__" : Str)) = false) :
    ∃ t, PSs X body t ∧ ∀ (D : Ends) (σ : Sl) (H : Hp) (a : Addr) (ys : List V), σ[0]? = some (some (.ref a)) → (∀ j y, ys[j]? = some y → σ[1 + j]? = some (some y)) → ys.length = (f :: fs).length → OexC X.K C → (∀ g ∈ f :: fs, PySem.W.findIn X.K (.ref C) g = some none) →
      H a = some (exo a C none) → fs.length ≤ 800 → (∀ (d : Addr) (H2 : Hp), H d = none → H2 a = some (exo a C (some d)) → H2 d = some (exd d (((f :: fs).zip ys).reverse)) → (∀ b, b ≠ a → b ≠ d → H2 b = H b) → D.nx σ H2) → t D σ H := by
  cases T with
  | cons T =>
    rename_i p1 p2 p3 p4 rest
    obtain ⟨t, h1, h2⟩ := init_more h0 hv0 (C := C) T 2 (fun j g e => by have := hN (j + 1) g (by simpa using e); rw [show 2 + j = 1 + (j + 1) by omega]; exact this) (fun g hg => hv g (List.mem_cons_of_mem _ hg))
    obtain ⟨v1, v2, v3⟩ := hv f List.mem_cons_self
    refine ⟨_, pss_cons (ps_ost (pos := p4) (p' := p2) (pe_var (pos := p1) h0 hv0 (by decide) (by decide)) (pe_var (pos := p3) (hN 0 f (by simp)) v1 v2 v3)) h1, fun D σ H a ys e0 ey el TC hf ha hl hq => ?_⟩
    cases ys with
    | nil => simp at el
    | cons y ys =>
      refine ⟨y, ey 0 y (by simp), .ref a, e0, a, C, rfl, TC, hf f List.mem_cons_self, .inl ⟨ha, fun dx hn hne => ?_⟩⟩
      refine h2 D σ _ a dx [(f, y)] ys e0 (fun j z e => by rw [show 2 + j = 1 + (j + 1) by omega]; exact ey (j + 1) z (by simpa using e)) (by simpa using el) TC (fun g hg => hf g (List.mem_cons_of_mem _ hg)) upd_same (by rw [upd_ne hne]; exact upd_same) hne (by simp; omega) fun H2 g1 g2 => ?_
      refine hq dx H2 hn (by rw [g2 a hne.symm]; exact upd_same) (by rw [g1]; simp) fun b hb hb2 => by rw [g2 b hb2, upd_ne hb, upd_ne hb2]
/-- what __init__ promises -/
def spInit (C : Addr) (fs : List Str) : Sp := fun vs H Q _ => ∃ (a : Addr) (ys : List V), vs = .ref a :: ys ∧ ys.length = fs.length ∧ H a = some (exo a C none) ∧
  ∀ (d : Addr) (H2 : Hp), H d = none → H2 a = some (exo a C (some d)) → H2 d = some (exd d ((fs.zip ys).reverse)) → (∀ b, b ≠ a → b ≠ d → H2 b = H b) → Q .non H2
section
variable {P : Program} {w : World} {K : PySem.W.Frag} {mg : Str → Option Value} {base : Heap}
theorem init_ok {qual : Str} {st : Stmt} {fI C : Addr} {fd : FuncData} {f : Str} {fs : List Str} {k : Nat} (F : Fun K "__init__" qual st fI fd) (Sc : FnScope (Str.ofString "self" :: f :: fs) (Str.ofString "self" :: f :: fs) (defScope st)) (T : InitTxt (defBody st) (f :: fs))
    (OC : OexC K C) (no : ∀ g ∈ f :: fs, PySem.W.findIn K (.ref C) g = some none) (hl : fs.length ≤ 800)
    (hv0 : Vis (defScope st) "self") (hv : ∀ g ∈ f :: fs, Vis (defScope st) g ∧ (g == ("__debug__" : Str)) = false ∧ (g == ("__classdict__" : Str)) = false) :
    FnOk P w K mg base CX0 (k + 1) fI fd (Str.ofString "self" :: f :: fs) (spInit C (f :: fs)) := by
  refine Fun.ok F Sc (fun vs H Q E h => ?_) (fun cdv A outer s H vs Q E hr h => ?_)
  · obtain ⟨a, ys, rfl, h2, _⟩ := h
    simp [h2]
  · obtain ⟨a, ys, rfl, h2, h3, h4⟩ := h
    obtain ⟨t, t1, t2⟩ := init_all (X := (cxOf CX0 P w K mg base (Str.ofString "self" :: f :: fs) qual (defScope st) fI cdv A outer s H E).nox) (C := C) rfl hv0 T (fun j g e => by rw [Nat.add_comm]; show (Str.ofString "self" :: f :: fs)[j + 1]? = some g; simpa using e) hv
    refine ⟨t, t1, t2 _ _ H a ys (by simp [L2.start]) (fun j y e => ?_) h2 OC no h3 hl fun d H2 g1 g2 g3 g4 => h4 d H2 g1 g2 g3 g4⟩
    unfold L2.start
    rw [List.getElem?_append_left (by simp; have := (List.getElem?_eq_some_iff.mp e).1; omega), Nat.add_comm]
    simpa using e
end

/-- C is a class of exceptions with such fields -/
structure ExcD (X : Cx) (c : Str) (fs : List Str) : Prop where
  ex : ∃ (C fI : Addr) (k : Nat) (fd : FuncData) (ps : List Str), X.mg c = some (.ref C) ∧ OexC X.K C ∧ PySem.W.findIn X.K (.ref C) "__init__" = some (some (.ref fI)) ∧ PySem.W.typeIn X.K (.ref fI) = some (.type "function") ∧
    FnOk X.prog X.w X.K X.mg X.base CX0 k fI fd ps (spInit C fs) ∧ Room (k + 1) X.A ∧ Binds X.K fd ps []
def sRaise (c : Str) (fs : List Str) (fa : FA) : FS := fun env S => sOut (fa env S) env fun ds S1 => if ds.length = fs.length ∧ ds.length ≤ 1000 then .exc c ((fs.zip ds).reverse) env S1 else .bad
theorem Reps.zipRev {W : Wr} {α : List Addr} {S : Store} {H : Hp} : ∀ {vs : List V} {ds : List Dt} (fs : List Str), Reps W α S H vs ds → Reps W α S H ((fs.zip vs).reverse.map (·.2)) ((fs.zip ds).reverse.map (·.2)) ∧ (fs.zip vs).reverse.map (·.1) = (fs.zip ds).reverse.map (·.1)
  | _, _, [], _ => by simp; exact .nil
  | _, _, _ :: _, .nil => by simp; exact .nil
  | _, _, f :: fs, .cons r t => by
    obtain ⟨h1, h2⟩ := Reps.zipRev fs t
    simp only [List.zip_cons_cons, List.reverse_cons, List.map_append, List.map_cons, List.map_nil]
    exact ⟨h1.snoc r, by rw [h2]⟩
theorem ds_raise {X : Cx} {E : Sl → XK} {c : Str} {fs : List Str} {e : Expr} {es : List Expr} {fa : FA} {p pos pos2 : Pos} (hc : X.calm = true) (tk : TkD X E) (hd : ExcD X c fs) (hg : Gl X c) (ha : DA X E (e :: es) fa) (hdb : (c == ("__debug__" : Str)) = false := by decide)
    (he : starEach (e :: es) X.env = (false, eval e X.env) :: starEach es X.env := by rfl) (hpl : (backTo pos (starEach es X.env)).any (·.1) = false := by rfl) : DS X E (.Raise (some (.Call (.Name c p) (e :: es) [] pos)) none pos2) (sRaise c fs fa) := by
  obtain ⟨C, fI, k, fd, ps, hm, OC, iC, tI, F, hr, hb⟩ := hd
  obtain ⟨t, a1, a2⟩ := ha
  refine ⟨_, ps_raise hc tk (pmk_oex (sp := spInit C fs) (dvs := []) OC iC tI F hr hb .nil (fun _ _ _ _ _ _ _ z => z.elim) hg hm a1 hdb he hpl), fun B α σ H env S D r s h => ?_⟩
  refine a2 B α σ H env S _ r s (SPost.bind r h fun α1 vs H1 ds S1 r1 s1 x1 h1 => ?_)
  by_cases hl : ds.length = fs.length ∧ ds.length ≤ 1000
  case neg => rw [if_neg hl] at h1; exact h1.elim
  rw [if_pos hl] at h1
  have hvl := r1.length
  refine ⟨by omega, fun a ha => ⟨a, vs, by rw [List.append_nil], by omega, upd_same, fun d H2 g1 g2 g3 g4 => ⟨rfl, d, _, g2, g3, ?_, ?_⟩⟩⟩
  · by_cases hda : d = a
    · rw [hda, upd_same] at g1; cases g1
    · rw [upd_ne hda] at g1; exact g1
  · have hda : d ≠ a := fun hda => by rw [hda, upd_same] at g1; cases g1
    have hd1 : H1 d = none := by rw [upd_ne hda] at g1; exact g1
    have ef : upd (del H2 a) d (.xd (fs.zip vs).reverse) = upd H1 d (.xd (fs.zip vs).reverse) := by
      funext b
      by_cases e1 : b = d
      · subst e1; rw [upd_same, upd_same]
      · rw [upd_ne e1, upd_ne e1]
        by_cases e2 : b = a
        · subst e2; rw [del_same, ha]
        · rw [del_ne e2, g4 b e2 e1, upd_ne e2]
    rw [ef]
    obtain ⟨z1, z2⟩ := Reps.zipRev fs r1
    have x2 : Ext (Cx.wr X B) α1 S1 H1 α1 S1 (upd H1 d (.xd (fs.zip vs).reverse)) := Ext.new s1 hd1
    exact h1 α1 σ (.ref C) (some d) _ ((r.ext x1).ext x2) ⟨C, hm, rfl, .inr ⟨d, _, rfl, upd_same, s1.off hd1, z2, z1.ext x2⟩⟩ (s1.new hd1) x2
end DL

set_option Elab.async false
set_option linter.all false
set_option maxRecDepth 100000
set_option maxHeartbeats 4000000
namespace DL
open PySem PySem.Spec PyProof.Rows L2

/-! ### try: clauses with a name or without one, one class each; a last clause that is never reached -/
/-- a clause: the class, the slot of its name, its suite's reading; or one that is not looked at -/
inductive HdT where
  | on (c : Value) (slot : Option Nat) (ts : Addr → Value → Option Addr → TS)
  | dead
def endsAt (slot : Option Nat) (D : Ends) : Ends := match slot with
  | none => D
  | some i => { nx := fun σ' H' => D.nx (σ'.set i none) H', rt := D.rt, bk := fun σ' H' => D.bk (σ'.set i none) H', ct := fun σ' H' => D.ct (σ'.set i none) H' }
def slotAt (slot : Option Nat) (σ : Sl) (a : Addr) : Sl := match slot with
  | none => σ
  | some i => σ.set i (some (.ref a))
def wHds (K : PySem.W.Frag) (Wout : WX) (D : Ends) : List HdT → WX
  | [] => Wout
  | .on c slot ts :: r => fun cls d σ H => ∃ b, PySem.W.exmOne K cls c = some b ∧ (b = true → ∀ a, H a = none → ts a cls d (endsAt slot D) (slotAt slot σ a) H) ∧ (b = false → wHds K Wout D r cls d σ H)
  | .dead :: _ => fun _ _ _ _ => False
inductive HdC (X : Cx) : List ExceptHandler → List HdT → Prop
  | nil : HdC X [] []
  | dead {hds : List ExceptHandler} : HdC X hds [.dead]
  | plain {x : Str} {c : Value} {ts : Addr → Value → Option Addr → TS} {b₀ : Stmt} {suite : List Stmt} {np pos' : Pos} {hds : List ExceptHandler} {l : List HdT} (hc : Names X x c)
      (hsu : ∀ (a : Addr) (oe : Obj) (cls : Value) (d : Option Addr) (pn : List (Addr × Obj)), Zc cls d oe → (∃ vs, oe.data = .fields vs) → PSs (X.suite a ((a, oe) :: pn)) (b₀ :: suite) (ts a cls d)) (r : HdC X hds l) :
      HdC X (.ExceptHandler (some (.Name x np)) none (b₀ :: suite) pos' :: hds) (.on c none ts :: l)
  | named {x n : Str} {i : Nat} {c : Value} {ts : Addr → Value → Option Addr → TS} {b₀ : Stmt} {suite : List Stmt} {np pos' : Pos} {hds : List ExceptHandler} {l : List HdT} (hc : Names X x c) (hi : X.N[i]? = some n) (hln : X.env.kindOf n = some .local)
      (hsu : ∀ (a : Addr) (oe : Obj) (cls : Value) (d : Option Addr) (pn : List (Addr × Obj)), Zc cls d oe → (∃ vs, oe.data = .fields vs) → PSs (X.suite a ((a, oe) :: pn)) (b₀ :: suite) (ts a cls d)) (r : HdC X hds l) :
      HdC X (.ExceptHandler (some (.Name x np)) (some n) (b₀ :: suite) pos' :: hds) (.on c (some i) ts :: l)
section
variable {X : Cx} {body : List Stmt} {h₀ : ExceptHandler} {hds : List ExceptHandler} {l : List HdT} {pos : Pos} {tb : WX → TS} {Wout : WX}
theorem ps_tryH (hs : X.stack = X.env :: X.outer) (hf : X.env.frame = some X.env.locals) (hN : X.N.Nodup) (tk : Takes X Wout)
    (hb : ∀ (W : WX) (pn : List (Addr × Obj)) (xe : Value → Shared → Prop), Takes (X.tr pn xe) W → PassesOwn (model X.prog X.w) X.A X.env xe → PSs (X.tr pn xe) body (tb W))
    (hh : HdC X (h₀ :: hds) l) : PS X (.Try body (h₀ :: hds) [] [] pos) (fun D σ H => tb (wHds X.K Wout D l) D σ H) := by
  refine ⟨fun pins s σ H D I h => ?_⟩
  have ok := I.ok
  have hfr : X.A.frames = some (X.env :: X.outer) := by rw [ok.frames, hs]
  refine wpAny_Try_except ?_
  refine wpAny_mono ((hb (wHds X.K Wout D l) (X.pn ++ pins) (fun e s₁ => wpAny (model X.prog X.w) X.A (noteFrame e X.env) (fun _ s₂ => wpAny (model X.prog X.w) X.A (setFlight e none) (fun _ s₃ =>
    wpAny (model X.prog X.w) X.A (handleBy e X.env (h₀ :: hds)) (SP X pins D) X.xe s₃) X.xe s₂) X.xe s₁) (fun u s' xx => ?_) PassesOwn.looking).run [] s σ H D (I.toTry _) h) (fun f s1 hsp => ?_) (fun e s1 he => he)
  · obtain ⟨a, B, sI, pins', σ', H', cls, d, rfl, J', nb, up, sky, na, os, ag, w⟩ := xx
    have J : Inv X pins σ' H' sI := J'.ofTry ok
    have sky' : Sky B (X.env :: X.outer) a (Zc cls d) X.env.locals s'.heap := by rw [← hs]; exact sky
    show wpAny (model X.prog X.w) X.A (noteFrame (.ref a) X.env) _ _ _
    refine Sky.land Zc.steady hfr hf sky' fun h3 fl3 up3 => ?_
    have J3 : Inv X pins σ' H' { s' with heap := h3 } := J.landed nb fl3.1 (up.trans up3) os ag
    obtain ⟨oe3, vs3, he3, hz3, hd3⟩ := fl3.there
    have notFr : ∀ {h : Heap} {o : Obj} {vs : Array Value}, h.FunFrames B (X.env :: X.outer) → h.get? a = some o → o.data = .fields vs → a ∉ frs (X.env :: X.outer) := fun {h o vs} ff e dd hm => by
      obtain ⟨_, o', e', hnf⟩ := ff.mem hm
      rw [e] at e'; cases e'
      exact hnf _ dd
    have nfr := notFr fl3.2.2.1 he3 hd3
    have nL : a ≠ X.env.locals := fun z => nfr (List.mem_filterMap.mpr ⟨X.env, List.mem_cons_self, by rw [hf, z]⟩)
    have nF : a ∉ X.fs := fun hm => by
      obtain ⟨e, he, q⟩ := List.mem_filterMap.mp hm
      exact nfr (List.mem_filterMap.mpr ⟨e, List.mem_cons_of_mem _ he, q⟩)
    have S3 := J3.suite he3 hd3 na nL nF
    have LT : PySem.W.Looks (model X.prog X.w) h3 (typeOf (.ref a)) cls := fun A Q E s k q => wpAny_typeOf_ref (k _ _ he3) (by rw [hz3.1]; exact q)
    have test : ∀ {x : Str} {c : Value} {np : Pos} (hc : Names X x c) {Q : Value → Shared → Prop} {E : Value → Shared → Prop}, Q c { s' with heap := h3 } → wpAny (model X.prog X.w) (X.A.mark (some (.ref a))) (eval (.Name x np) X.env) Q E { s' with heap := h3 } := fun {x c np} hc {Q E} q => by
      obtain ⟨hg, hdbg, hm | ⟨hm, hv, hnn⟩⟩ := hc
      · exact ld_glob (X := X.suite a ((a, oe3) :: (X.pn ++ pins))) S3 hg hm q hdbg
      · exact ld_blt (X := X.suite a ((a, oe3) :: (X.pn ++ pins))) S3 hg hm hv q hnn hdbg
    have go : ∀ {hds' : List ExceptHandler} {l' : List HdT}, HdC X hds' l' → wHds X.K Wout D l' cls d σ' H' →
        wpAny (model X.prog X.w) X.A (handleBy (.ref a) X.env hds') (SP X pins D) X.xe { s' with heap := h3 } := by
      intro hds' l' hk
      induction hk with
      | nil =>
        intro w
        refine wpAny_handleBy_nil ?_
        obtain ⟨k1, k2, k3, oe, vs, T, oT, ts', he, hz, hd, h1, hr⟩ := id fl3
        unfold PySem.passOn
        refine wpAny_bind (wpAny_field he hd h1 ?_)
        rw [if_neg (show ¬ ((Value.ref T == Value.none) = true) from by simp)]
        have fin : wpAny (model X.prog X.w) X.A (setFlight (.ref a) X.env.frame) (fun _ s4 => wpAny (model X.prog X.w) X.A (throw (.ref a) : Sem Flow) (SP X pins D) X.xe s4) X.xe { s' with heap := h3 } := by
          rw [hf]
          refine HandSPX.setFlight_upZ fl3 fun h4 hh4 up4 => wpAny_throw (tk _ _ ?_)
          exact ⟨a, B, sI, pins, σ', H', cls, d, rfl, J, nb, (up.trans up3).trans up4, .inr (.inr (by rw [hs]; exact hh4)), na, os, ag, w⟩
        first
          | exact wpAny_bind (wpAny_pure (wpAny_bind fin))
          | exact wpAny_bind fin
      | dead => intro w; exact w.elim
      | @plain x c ts b₀ suite np pos' hds2 l2 hc hsu r ih =>
        intro w
        obtain ⟨b, hb1, hyes, hno⟩ := w
        refine wpAny_handleBy_cons (codeAny_handlers_test ?_) (by intro q; cases q)
        have LM := PySem.W.exm_one (M := model X.prog X.w) (J3.kIn) LT hb1
        refine test hc (LM.here ?_)
        cases b with
        | true =>
          refine codeAny_handlers_suite ?_
          refine HandSPX.lands_againZ fl3 fun h4 fl4 up4 => ?_
          have J4 : Inv X pins σ' H' { s' with heap := h4 } := J.landed nb fl4.1 ((up.trans up3).trans up4) os ag
          obtain ⟨oe4, vs4, he4, hz4, hd4⟩ := fl4.there
          have S4 := J4.suite he4 hd4 na nL nF
          refine wpAny_mono ((hsu a oe4 cls d (X.pn ++ pins) hz4 ⟨_, hd4⟩).run [] _ _ H' _ S4 (hyes rfl a na)) (fun f s6 hsp => ?_) (fun _ _ z => False.elim z)
          cases f with
          | next =>
            obtain ⟨σ6, H6, S6, q6⟩ := hsp
            exact ⟨_, _, S6.unsuite ok, q6⟩
          | brk =>
            obtain ⟨σ6, H6, S6, q6⟩ := hsp
            exact ⟨_, _, S6.unsuite ok, q6⟩
          | cont =>
            obtain ⟨σ6, H6, S6, q6⟩ := hsp
            exact ⟨_, _, S6.unsuite ok, q6⟩
          | ret u =>
            obtain ⟨v6, σ6, H6, S6, r6, q6⟩ := hsp
            exact ⟨_, _, _, S6.unsuite ok, r6, q6⟩
        | false =>
          show wpAny _ X.A (handleBy (.ref a) X.env hds2) _ _ _
          exact ih (hno rfl)
      | @named x n i c ts b₀ suite np pos' hds2 l2 hc hi hln hsu r ih =>
        intro w
        obtain ⟨b, hb1, hyes, hno⟩ := w
        refine wpAny_handleBy_cons (codeAny_handlers_test ?_) (by intro q; cases q)
        have LM := PySem.W.exm_one (M := model X.prog X.w) (J3.kIn) LT hb1
        refine test hc (LM.here ?_)
        cases b with
        | true =>
          refine codeAny_handlers_suite_as ?_
          refine HandSPX.lands_againZ fl3 fun h4 fl4 up4 => ?_
          have J4 : Inv X pins σ' H' { s' with heap := h4 } := J.landed nb fl4.1 ((up.trans up3).trans up4) os ag
          obtain ⟨oe4, vs4, he4, hz4, hd4⟩ := fl4.there
          have S4 := J4.suite he4 hd4 na nL nF
          refine store_ok (X := X.suite a ((a, oe4) :: (X.pn ++ pins))) (v := .ref a) S4 hN hi (.inl hln) rfl (fun s5 S5 => ?_) (.inr hln)
          refine wpAny_mono ((hsu a oe4 cls d (X.pn ++ pins) hz4 ⟨_, hd4⟩).run [] s5 _ H' _ S5 (hyes rfl a na)) (fun f s6 hsp => ?_) (fun _ _ z => False.elim z)
          have end_ : ∀ {σ6 : Sl} {H6 : Hp} {Q : Shared → Prop}, Inv (X.suite a ((a, oe4) :: (X.pn ++ pins))) [] σ6 H6 s6 → (∀ s7, Inv X pins (σ6.set i none) H6 s7 → Q s7) →
              wpAny (model X.prog X.w) X.A (do bindName X.env n .none; unbindBehindTheSuite X.env n pos') (fun _ s7 => Q s7) X.xe s6 := fun {σ6 H6 Q} S6 hq => gone_ok (S6.unsuite ok) hN hi hln hq
          cases f with
          | next =>
            obtain ⟨σ6, H6, S6, q6⟩ := hsp
            exact end_ S6 fun s7 J7 => ⟨_, _, J7, q6⟩
          | brk =>
            obtain ⟨σ6, H6, S6, q6⟩ := hsp
            exact end_ S6 fun s7 J7 => ⟨_, _, J7, q6⟩
          | cont =>
            obtain ⟨σ6, H6, S6, q6⟩ := hsp
            exact end_ S6 fun s7 J7 => ⟨_, _, J7, q6⟩
          | ret u =>
            obtain ⟨v6, σ6, H6, S6, r6, q6⟩ := hsp
            exact end_ S6 fun s7 J7 => ⟨_, _, _, J7, r6, q6⟩
        | false =>
          show wpAny _ X.A (handleBy (.ref a) X.env hds2) _ _ _
          exact ih (hno rfl)
    exact go hh w
  · cases f with
    | next =>
      obtain ⟨σ', H', J', q⟩ := hsp
      exact wpAny_execs_nil ⟨σ', H', J'.ofTry ok, q⟩
    | brk =>
      obtain ⟨σ', H', J', q⟩ := hsp
      exact ⟨σ', H', J'.ofTry ok, q⟩
    | cont =>
      obtain ⟨σ', H', J', q⟩ := hsp
      exact ⟨σ', H', J'.ofTry ok, q⟩
    | ret u =>
      obtain ⟨v, σ', H', J', r, q⟩ := hsp
      exact ⟨v, σ', H', J'.ofTry ok, r, q⟩
end

/-! ### the same by data -/
structure HdD where
  test : List (Str × Bool)
  slot : Option Nat
  run : FS
def hStart (slot : Option Nat) (c : Str) (fs : List (Str × Dt)) (env : EnvD) : EnvD := match slot with
  | none => dropX env
  | some i => (dropX env).set i (if fs.isEmpty then none else some (.ex c fs))
def hEnd (slot : Option Nat) (env : EnvD) : EnvD := match slot with
  | none => dropX env
  | some i => (dropX env).set i none
def hOut (slot : Option Nat) : SO → SO
  | .nx env S => .nx (hEnd slot env) S
  | .bk env S => .bk (hEnd slot env) S
  | .ct env S => .ct (hEnd slot env) S
  | .rt d S => .rt d S
  | _ => .bad
def pickH : List (Option HdD) → Str → List (Str × Dt) → EnvD → Store → SO
  | [], c, fs, env, S => .exc c fs (dropX env) S
  | some h :: r, c, fs, env, S => match h.test.lookup c with
    | some true => hOut h.slot (h.run (hStart h.slot c fs env) S)
    | some false => pickH r c fs env S
    | none => .bad
  | none :: _, _, _, _, _ => .bad
def tOut (hs : List (Option HdD)) : SO → SO
  | .nx env S => .nx (dropX env) S
  | .bk env S => .bk (dropX env) S
  | .ct env S => .ct (dropX env) S
  | .rt d S => .rt d S
  | .exc c fs env S => pickH hs c fs env S
  | .bad => .bad
def sTry (body : FS) (hs : List (Option HdD)) : FS := fun env S => tOut hs (body (dropX env) S)
/-- what a clause's test says -/
structure TestD (X : Cx) (x : Str) (test : List (Str × Bool)) : Prop where
  ex : ∃ D, Names X x (.ref D) ∧ ∀ c C b, X.mg c = some (.ref C) → test.lookup c = some b → PySem.W.exmOne X.K (.ref C) (.ref D) = some b
/-- the clauses, by data -/
inductive HdR (X : Cx) : List ExceptHandler → List (Option HdD) → Prop
  | nil : HdR X [] []
  | dead {hds : List ExceptHandler} : HdR X hds [none]
  | plain {x : Str} {test : List (Str × Bool)} {f : FS} {b₀ : Stmt} {suite : List Stmt} {np pos' : Pos} {hds : List ExceptHandler} {l : List (Option HdD)} (ht : TestD X x test)
      (hsu : ∀ (a : Addr) (oe : Obj) (pn : List (Addr × Obj)), DSs (X.suite a ((a, oe) :: pn)) E0d (b₀ :: suite) f) (r : HdR X hds l) :
      HdR X (.ExceptHandler (some (.Name x np)) none (b₀ :: suite) pos' :: hds) (some ⟨test, none, f⟩ :: l)
  | named {x n : Str} {test : List (Str × Bool)} {f : FS} {b₀ : Stmt} {suite : List Stmt} {np pos' : Pos} {hds : List ExceptHandler} {l : List (Option HdD)} (i : Nat) (ht : TestD X x test) (hi : X.N[i]? = some n) (hln : X.env.kindOf n = some .local)
      (hsu : ∀ (a : Addr) (oe : Obj) (pn : List (Addr × Obj)), DSs (X.suite a ((a, oe) :: pn)) E0d (b₀ :: suite) f) (r : HdR X hds l) :
      HdR X (.ExceptHandler (some (.Name x np)) (some n) (b₀ :: suite) pos' :: hds) (some ⟨test, some i, f⟩ :: l)
def canB (K : PySem.W.Frag) (w : World) (mg : Str → Option Value) (f : FS) (W : WX) : TS := fun D σ H => ∀ pn, ∃ B α env S, REnv pn ⟨K, w, mg, B⟩ α S H σ env ∧ Sim ⟨K, w, mg, B⟩ α S H ∧ SPost pn ⟨K, w, mg, B⟩ (fun σ cls d H => W cls d σ H) α S H D (f env S)
def canH (K : PySem.W.Frag) (w : World) (mg : Str → Option Value) (f : FS) : Addr → Value → Option Addr → TS := fun a cls d D σ H => ∀ oe pn, Zc cls d oe → (∃ vs, oe.data = .fields vs) → ∃ B α env S, REnv ((a, oe) :: pn) ⟨K, w, mg, B⟩ α S H σ env ∧ Sim ⟨K, w, mg, B⟩ α S H ∧ SPost ((a, oe) :: pn) ⟨K, w, mg, B⟩ E0d α S H D (f env S)
def tsOf (X : Cx) : List ExceptHandler → List (Option HdD) → HdT → Prop := fun _ _ _ => True
theorem REnv.start {pn pn' : List (Addr × Obj)} {W : Wr} {α : List Addr} {S : Store} {H : Hp} {σ : Sl} {env : EnvD} {c : Str} {fs : List (Str × Dt)} {cls : Value} {od : Option Addr} {a : Addr} {oe : Obj} (slot : Option Nat) (r : REnv pn W α S H σ env) (x : XRep W α S H c fs cls od) (hz : Zc cls od oe) (hf : ∃ vs, oe.data = .fields vs) :
    REnv ((a, oe) :: pn') W α S H (slotAt slot σ a) (hStart slot c fs env) := by
  cases slot with
  | none => exact r.dropX
  | some i =>
    have r2 : REnv ((a, oe) :: pn') W α S H σ (DL.dropX env) := r.dropX
    show REnv _ W α S H (σ.set i (some (.ref a))) ((DL.dropX env).set i _)
    cases fs with
    | nil =>
      refine ⟨by simp [r2.len], fun j y h => ?_⟩
      by_cases hj : i = j
      · subst hj
        by_cases hl : i < (DL.dropX env).length
        · rw [List.getElem?_set_self hl] at h; simp at h
        · rw [List.getElem?_eq_none (by simpa using hl)] at h; cases h
      · rw [List.getElem?_set_ne hj] at h
        rw [List.getElem?_set_ne hj]
        exact r2.at_ j y h
    | cons g fs =>
      refine r2.setX (d := .ex c (g :: fs)) ?_ i
      obtain ⟨C, h1, h2, h3⟩ := x
      rcases h3 with ⟨h3, _⟩ | ⟨dx, fvs, g1, g2, g3, g4, g5⟩
      · cases h3
      · exact ⟨a, oe, C, dx, fvs, rfl, List.mem_cons_self, hf, by rw [hz.1, h2], by rw [hz.2, g1], h1, g2, g3, g4, g5⟩
theorem SPost.ends {pn pn' : List (Addr × Obj)} {W : Wr} {α : List Addr} {S : Store} {H : Hp} {E : Sl → XK} {D : Ends} (slot : Option Nat) : ∀ {o : SO}, SPost pn W E α S H D (hOut slot o) → SPost pn' W E0d α S H (endsAt slot D) o
  | .nx env S1, h => fun α1 σ1 H1 r s x => by
    cases slot with
    | none => exact h α1 σ1 H1 r.dropX s x
    | some i => exact h α1 (σ1.set i none) H1 (r.dropX.forget i) s x
  | .bk env S1, h => fun α1 σ1 H1 r s x => by
    cases slot with
    | none => exact h α1 σ1 H1 r.dropX s x
    | some i => exact h α1 (σ1.set i none) H1 (r.dropX.forget i) s x
  | .ct env S1, h => fun α1 σ1 H1 r s x => by
    cases slot with
    | none => exact h α1 σ1 H1 r.dropX s x
    | some i => exact h α1 (σ1.set i none) H1 (r.dropX.forget i) s x
  | .rt d S1, h => fun α1 v H1 r s x => by
    cases slot with
    | none => exact h α1 v H1 r s x
    | some i => exact h α1 v H1 r s x
  | .exc c fs env S1, h => h.elim
  | .bad, h => h.elim
section
variable {X : Cx} {E : Sl → XK}
theorem DSs.canH {sts : List Stmt} {f : FS} (h : ∀ (a : Addr) (oe : Obj) (pn : List (Addr × Obj)), DSs (X.suite a ((a, oe) :: pn)) E0d sts f) (a : Addr) (oe : Obj) (cls : Value) (d : Option Addr) (pn : List (Addr × Obj)) (hz : Zc cls d oe) (hf : ∃ vs, oe.data = .fields vs) : PSs (X.suite a ((a, oe) :: pn)) sts (DL.canH X.K X.w X.mg f a cls d) := by
  obtain ⟨t, h1, h2⟩ := h a oe pn
  refine ⟨fun pins s σ H D I q => ?_⟩
  obtain ⟨B, α, env, S, r, sm, p⟩ := q oe pn hz hf
  exact h1.run pins s σ H D I (h2 B α σ H env S D r sm p)
theorem HdR.to {hds : List ExceptHandler} {l : List (Option HdD)} (h : HdR X hds l) : ∃ l', HdC X hds l' ∧ ∀ (B : List Addr) (α : List Addr) (S : Store) (H : Hp) (σ : Sl) (env : EnvD) (c : Str) (fs : List (Str × Dt)) (cls : Value) (od : Option Addr) (D : Ends) (pn : List (Addr × Obj)),
    REnv pn (Cx.wr X B) α S H σ env → XRep (Cx.wr X B) α S H c fs cls od → Sim (Cx.wr X B) α S H → SPost X.pn (Cx.wr X B) E α S H D (pickH l c fs env S) → wHds X.K (fun cls d σ H => E σ cls d H) D l' cls od σ H := by
  induction h with
  | nil => exact ⟨[], .nil, fun B α S H σ env c fs cls od D pn r x s q => q α σ cls od H r.dropX x s Ext.refl⟩
  | dead => exact ⟨[.dead], .dead, fun B α S H σ env c fs cls od D pn r x s q => q.elim⟩
  | @plain x test f b₀ suite np pos' hds l ht hsu r ih =>
    obtain ⟨l', i1, i2⟩ := ih
    obtain ⟨Dc, n1, n2⟩ := ht
    refine ⟨.on (.ref Dc) none (DL.canH X.K X.w X.mg f) :: l', .plain n1 (DSs.canH hsu) i1, fun B α S H σ env c fs cls od D pn r x s q => ?_⟩
    unfold pickH at q
    cases hl : test.lookup c with
    | none => simp only [hl] at q; exact q.elim
    | some b =>
      simp only [hl] at q
      obtain ⟨C, x1, x2, x3⟩ := id x
      refine ⟨b, by rw [x2]; exact n2 c C b x1 hl, fun hb a ha => ?_, fun hb => ?_⟩
      · subst hb
        exact fun oe pn' hz hf => ⟨B, α, _, S, REnv.start (a := a) (oe := oe) (pn' := pn') none r x hz hf, s, SPost.ends none q⟩
      · subst hb
        exact i2 B α S H σ env c fs cls od D pn r x s q
  | @named x n test f b₀ suite np pos' hds l i ht hi hln hsu r ih =>
    obtain ⟨l', i1, i2⟩ := ih
    obtain ⟨Dc, n1, n2⟩ := ht
    refine ⟨.on (.ref Dc) (some i) (DL.canH X.K X.w X.mg f) :: l', .named n1 hi hln (DSs.canH hsu) i1, fun B α S H σ env c fs cls od D pn r x s q => ?_⟩
    unfold pickH at q
    cases hl : test.lookup c with
    | none => simp only [hl] at q; exact q.elim
    | some b =>
      simp only [hl] at q
      obtain ⟨C, x1, x2, x3⟩ := id x
      refine ⟨b, by rw [x2]; exact n2 c C b x1 hl, fun hb a ha => ?_, fun hb => ?_⟩
      · subst hb
        exact fun oe pn' hz hf => ⟨B, α, _, S, REnv.start (a := a) (oe := oe) (pn' := pn') (some i) r x hz hf, s, SPost.ends (some i) q⟩
      · subst hb
        exact i2 B α S H σ env c fs cls od D pn r x s q
theorem ds_try {body : List Stmt} {h₀ : ExceptHandler} {hds : List ExceptHandler} {l : List (Option HdD)} {fb : FS} {pos : Pos} (hs : X.stack = X.env :: X.outer) (hf : X.env.frame = some X.env.locals) (hN : X.N.Nodup) (tk : TkD X E)
    (hb : ∀ (E' : Sl → XK) (pn : List (Addr × Obj)) (xe : Value → Shared → Prop), TkD (X.tr pn xe) E' → PassesOwn (model X.prog X.w) X.A X.env xe → DSs (X.tr pn xe) E' body fb)
    (hh : HdR X (h₀ :: hds) l) : DS X E (.Try body (h₀ :: hds) [] [] pos) (sTry fb l) := by
  obtain ⟨l', c1, c2⟩ := HdR.to (E := E) hh
  refine ⟨_, ps_tryH (tb := canB X.K X.w X.mg fb) hs hf hN tk (fun W pn xe tk' po => ?_) c1, fun B α σ H env S D r s h => ?_⟩
  · obtain ⟨t, h1, h2⟩ := hb (fun σ cls d H => W cls d σ H) pn xe tk' po
    refine ⟨fun pins s σ H D I q => ?_⟩
    obtain ⟨B, α, env, S, r, sm, p⟩ := q pn
    exact h1.run pins s σ H D I (h2 B α σ H env S D r sm p)
  · intro pn
    refine ⟨B, α, dropX env, S, r.dropX, s, ?_⟩
    unfold sTry at h
    cases hb : fb (dropX env) S with
    | nx e S1 => rw [hb] at h; exact fun α1 σ1 H1 r1 s1 x1 => h α1 σ1 H1 r1.dropX s1 x1
    | bk e S1 => rw [hb] at h; exact fun α1 σ1 H1 r1 s1 x1 => h α1 σ1 H1 r1.dropX s1 x1
    | ct e S1 => rw [hb] at h; exact fun α1 σ1 H1 r1 s1 x1 => h α1 σ1 H1 r1.dropX s1 x1
    | rt d S1 => rw [hb] at h; exact h
    | bad => rw [hb] at h; exact h.elim
    | exc c fs e S1 =>
      rw [hb] at h
      exact fun α1 σ1 cls od H1 r1 xr s1 x1 => c2 B α1 S1 H1 σ1 e c fs cls od D pn r1 xr s1 (SPost.mono x1 h)

/-! ### e.field in a suite -/
structure FldD (X : Cx) (c : Str) (f : Str) : Prop where
  ok : ∀ C, X.mg c = some (.ref C) → PySem.W.findIn X.K (.ref C) "__getattribute__" = some (some (.builtin "BaseException.__getattribute__")) ∧ PySem.W.findIn X.K (.ref C) "__getattr__" = some none ∧ PySem.W.subIn X.K (.ref C) (.type "BaseException") = some true ∧ PySem.W.hasDictIn X.K C = true ∧ PySem.W.findIn X.K (.ref C) f = some none
def cFld (i : Nat) (f : Str) (cs : List Str) : FE := fun env S => match env[i]? with
  | some (some (.ex c fs)) => if c ∈ cs then (match fs.lookup f with | some d => .ok d S | none => .bad) else .bad
  | _ => .bad
theorem lookup_reps {W : Wr} {α : List Addr} {S : Store} {H : Hp} {f : Str} {d : Dt} : ∀ {fvs : List (Str × V)} {fs : List (Str × Dt)}, fvs.map (·.1) = fs.map (·.1) → Reps W α S H (fvs.map (·.2)) (fs.map (·.2)) → fs.lookup f = some d → ∃ v, fvs.lookup f = some v ∧ Rep W α S H v d
  | [], [], _, _, h => by cases h
  | [], _ :: _, h, _, _ => by cases h
  | _ :: _, [], h, _, _ => by cases h
  | (g, v) :: fvs, (g', d') :: fs, h, r, e => by
    simp only [List.map_cons, List.cons.injEq] at h
    obtain ⟨rfl, h⟩ := h
    cases r with
    | cons r t =>
      rw [lookup_put] at *
      have e' : (if f = g then some d' else fs.lookup f) = some d := by
        by_cases hf : f = g
        · subst hf; simp [List.lookup] at e; simp [e]
        · have : (f == g) = false := by simpa using hf
          simp [List.lookup, this] at e
          rw [if_neg hf]; exact e
      by_cases hf : f = g
      · rw [if_pos hf] at e'
        rw [if_pos hf]
        cases e'
        exact ⟨v, rfl, r⟩
      · rw [if_neg hf] at e'
        rw [if_neg hf]
        exact lookup_reps h t e'
/-- the reading of e.f -/
def tFldX (X : Cx) (i : Nat) (f : Str) : TE := fun σ H Q => ∃ (a : Addr) (oe : Obj) (C dd : Addr) (fvs : List (Str × V)) (v : V), σ[i]? = some (some (.ref a)) ∧ (a, oe) ∈ X.pn ∧ (∃ vs, oe.data = .fields vs) ∧ oe.cls = .ref C ∧ oe.dict = some dd ∧ H dd = some (.xd fvs) ∧ fvs.lookup f = some v ∧
  PySem.W.findIn X.K (.ref C) "__getattribute__" = some (some (.builtin "BaseException.__getattribute__")) ∧ PySem.W.findIn X.K (.ref C) "__getattr__" = some none ∧ PySem.W.subIn X.K (.ref C) (.type "BaseException") = some true ∧ PySem.W.hasDictIn X.K C = true ∧ PySem.W.findIn X.K (.ref C) f = some none ∧ Q v H
theorem pe_fldX {n f : Str} {p pos : Pos} (i : Nat) (hN : X.N[i]? = some n) (hv : Vis X.env.scope n) (hd : (n == ("__debug__" : Str)) = false) (hcd : (n == ("__classdict__" : Str)) = false)
    (hb : attributeBase (.Name n p) f X.env (eval (.Name n p) X.env) = eval (.Name n p) X.env) : PE X (.Attribute (.Name n p) f pos) (tFldX X i f) := by
  refine ⟨fun pins s σ H Q I h => ?_⟩
  obtain ⟨a, oe, C, dd, fvs, v, h1, h2, ⟨vs, h3⟩, h4, h5, h6, h7, g1, gg, g2, g3, g4, q⟩ := h
  refine attr_of hb (thn ((pe_var (pos := p) hN hv hd hcd).run pins s σ H (fun x H1 => x = .ref a ∧ H1 = H) I ⟨.ref a, h1, rfl, rfl⟩) fun u s1 hh => ?_)
  obtain ⟨x, H1, I1, rx, ex, eh⟩ := hh
  subst ex eh
  obtain rfl : u = Value.ref a := rx
  obtain ⟨ha, _⟩ := I1.pin (a, oe) (List.mem_append_left _ h2)
  have hx : ObjOk X.prog X.w H1 s1.heap dd (.xd fvs) := I1.hok dd _ h6
  obtain ⟨mA, hns, hr⟩ := hx
  obtain ⟨od, ho, hl⟩ := lookIn_ns hns
  obtain ⟨u, hu, ru⟩ := RelO.some_of (v := v) (o := mA f) (by rw [← h7]; exact hr f)
  have J : PySem.W.InstAt s1.heap a oe C (some od) := ⟨ha, h4, by unfold PySem.W.notCls; rw [h3] <;> rfl, by rw [h5]; exact ho⟩
  exact HandSPX.exc_get I1.kIn J g1 gg g2 (PySem.W.findObj_own g3 g4 rfl (by rw [hl, hu])) (handed_of ru) ⟨v, H1, I1.tok _, ru, q⟩
theorem de_fld {n f : Str} {p pos : Pos} (i : Nat) (cs : List Str) (hF : ∀ c ∈ cs, FldD X c f) (hN : X.N[i]? = some n := by rfl) (hv : Vis X.env.scope n := by first | exact Or.inl rfl | exact Or.inr (Or.inl rfl) | exact Or.inr (Or.inr rfl)) (hd : (n == ("__debug__" : Str)) = false := by decide) (hcd : (n == ("__classdict__" : Str)) = false := by decide)
    (hb : attributeBase (.Name n p) f X.env (eval (.Name n p) X.env) = eval (.Name n p) X.env := by rfl) : DE X E (.Attribute (.Name n p) f pos) (cFld i f cs) := by
  refine ⟨_, pe_fldX i hN hv hd hcd hb, fun B α σ H env S Q r s h => ?_⟩
  unfold cFld at h
  split at h
  · rename_i c fs he
    by_cases hc : c ∈ cs
    · rw [if_pos hc] at h
      cases hl : fs.lookup f with
      | none => simp only [hl] at h; exact h.elim
      | some d =>
        simp only [hl] at h
        obtain ⟨v0, e1, e2⟩ := r.at_ i _ he
        obtain ⟨a, oe, C, dd, fvs, rfl, x2, x3, x4, x5, x6, x7, x8, x9, x10⟩ := e2
        obtain ⟨v, l1, l2⟩ := lookup_reps x9 x10 hl
        obtain ⟨f1, fg, f2, f3, f4⟩ := (hF c hc).ok C x6
        exact ⟨a, oe, C, dd, fvs, v, e1, x2, x3, x4, x5, x7, l1, f1, fg, f2, f3, f4, post_ok s l2 h⟩
    · rw [if_neg hc] at h; exact h.elim
  · exact h.elim
end
end DL

set_option Elab.async false
set_option linter.all false
set_option maxRecDepth 100000
set_option maxHeartbeats 4000000
namespace DL
open PySem PySem.Spec PyProof.Rows L2

/-! ### what a def made for itself goes -/
mutual
def closedD (n : Nat) : Dt → Bool
  | .tup ds => closedL n ds
  | .lst ds => closedL n ds
  | .dct kvs => closedK n kvs
  | .ref m => decide (m < n)
  | _ => true
def closedL (n : Nat) : List Dt → Bool
  | [] => true
  | d :: ds => closedD n d && closedL n ds
def closedK (n : Nat) : List (Key × Dt) → Bool
  | [] => true
  | (_, d) :: ds => closedD n d && closedK n ds
end
def closedM (n : Nat) : MO → Bool
  | .gone => true
  | .lst ds => closedL n ds
  | .dct kvs => closedK n kvs
/-- the result is a new owned thing: it alone is kept -/
def retR (n : Nat) (d : Dt) (S : Store) : Option Store := match d with
  | .ref m => (match S[m]? with
    | some mo => if (decide (n ≤ m) && closedM n mo && (S.take n).all (closedM n)) = true then some (S.take n ++ [mo]) else none
    | none => none)
  | _ => none
def trimO (n : Nat) : Out Dt → Out Dt
  | .ok d S => if (closedD n d && (S.take n).all (closedM n)) = true then .ok d (S.take n) else (match retR n d S with | some S2 => .ok (.ref n) S2 | none => .ok d S)
  | .exc c fs S => if (closedL n (fs.map (·.2)) && (S.take n).all (closedM n)) = true then .exc c fs (S.take n) else .exc c fs S
  | .bad => .bad
section
variable {W : Wr} {α : List Addr} {S : Store} {H : Hp} {n : Nat}
theorem Owned.untake {a : Addr} (h : Owned W (α.take n) (S.take n) a) : Owned W α S a := by
  rcases h with ⟨m, mo, h1, h2, h3⟩ | h
  · rw [List.getElem?_take] at h1 h2
    by_cases hm : m < n
    · rw [if_pos hm] at h1 h2; exact .inl ⟨m, mo, h1, h2, h3⟩
    · rw [if_neg hm] at h1; cases h1
  · exact .inr h
mutual
theorem Rep.trim : ∀ {v : V} {d : Dt}, closedD n d = true → Rep W α S H v d → Rep W (α.take n) (S.take n) H v d
  | _, _, _, .non => .non
  | _, _, _, .bl b => .bl b
  | _, _, _, .int i => .int i
  | _, _, _, .str x => .str x
  | _, _, c, .tup (.inl ⟨h, r⟩) q => .tup (.inl ⟨fun z => h z.untake, r⟩) (Reps.trim c q)
  | _, _, c, .tup (.inr k) q => .tup (.inr k) (Reps.trim c q)
  | _, _, c, .lst (.inl ⟨h, r⟩) q => .lst (.inl ⟨fun z => h z.untake, r⟩) (Reps.trim c q)
  | _, _, c, .lst (.inr k) q => .lst (.inr k) (Reps.trim c q)
  | _, _, c, .dct (.inl ⟨h, r⟩) q => .dct (.inl ⟨fun z => h z.untake, r⟩) (KReps.trim c q)
  | _, _, c, .dct (.inr k) q => .dct (.inr k) (KReps.trim c q)
  | _, .ref m, c, .ref h => .ref (by
      have hm : m < n := of_decide_eq_true c
      rw [List.getElem?_take, if_pos hm]; exact h)
  | _, _, _, .fn h => .fn h
theorem Reps.trim : ∀ {vs : List V} {ds : List Dt}, closedL n ds = true → Reps W α S H vs ds → Reps W (α.take n) (S.take n) H vs ds
  | _, _, _, .nil => .nil
  | _, _ :: _, c, .cons r t => by
    unfold closedL at c
    rw [Bool.and_eq_true] at c
    exact .cons (Rep.trim c.1 r) (Reps.trim c.2 t)
theorem KReps.trim : ∀ {vs : List (Key × V)} {ds : List (Key × Dt)}, closedK n ds = true → KReps W α S H vs ds → KReps W (α.take n) (S.take n) H vs ds
  | _, _, _, .nil => .nil
  | _, _ :: _, c, .cons r t => by
    unfold closedK at c
    rw [Bool.and_eq_true] at c
    exact .cons (Rep.trim c.1 r) (KReps.trim c.2 t)
end
theorem Sim.trim (s : Sim W α S H) (c : (S.take n).all (closedM n) = true) : Sim W (α.take n) (S.take n) H := by
  refine ⟨by simp [s.len], s.nd.sublist (List.take_sublist _ _), fun m a mo h1 h2 => ?_, fun m a h => ?_, s.bs, fun b hb z => s.bd b hb (List.mem_of_mem_take z)⟩
  · have hmo : closedM n mo = true := List.all_eq_true.mp c mo (List.mem_of_getElem? h2)
    rw [List.getElem?_take] at h1 h2
    by_cases hm : m < n
    · rw [if_pos hm] at h1 h2
      have q := s.obj m a mo h1 h2
      cases mo with
      | gone => trivial
      | lst ds => obtain ⟨vs, e, r⟩ := q; exact ⟨vs, e, Reps.trim hmo r⟩
      | dct ds => obtain ⟨vs, e, r⟩ := q; exact ⟨vs, e, KReps.trim hmo r⟩
    · rw [if_neg hm] at h1; cases h1
  · rw [List.getElem?_take] at h
    by_cases hm : m < n
    · rw [if_pos hm] at h; exact s.ne m a h
    · rw [if_neg hm] at h; cases h
theorem Ext.trim {α' : List Addr} {S' : Store} {H' : Hp} (s : Sim W α S H) (x : Ext W α S H α' S' H') : Ext W α S H (α'.take S.length) (S'.take S.length) H' := by
  refine ⟨fun m a h => ?_, fun b o nb e => ?_, x.held⟩
  · have hm : m < S.length := by rw [← s.len]; exact (List.getElem?_eq_some_iff.mp h).1
    rw [List.getElem?_take, if_pos hm]; exact x.pre m a h
  · obtain ⟨h1, h2⟩ := x.keep b o nb e
    exact ⟨fun z => h1 z.untake, h2⟩
/-! some of what is owned is chosen -/
structure Sel (W : Wr) (α : List Addr) (S : Store) (n : Nat) (α2 : List Addr) (S2 : Store) : Prop where
  ow : ∀ a, Owned W α2 S2 a → Owned W α S a
  at_ : ∀ k, k < n → α2[k]? = α[k]?
section
variable {α2 : List Addr} {S2 : Store}
mutual
theorem Rep.sel (z : Sel W α S n α2 S2) : ∀ {v : V} {d : Dt}, closedD n d = true → Rep W α S H v d → Rep W α2 S2 H v d
  | _, _, _, .non => .non
  | _, _, _, .bl b => .bl b
  | _, _, _, .int i => .int i
  | _, _, _, .str x => .str x
  | _, _, c, .tup (.inl ⟨h, r⟩) q => .tup (.inl ⟨fun y => h (z.ow _ y), r⟩) (Reps.sel z c q)
  | _, _, c, .tup (.inr k) q => .tup (.inr k) (Reps.sel z c q)
  | _, _, c, .lst (.inl ⟨h, r⟩) q => .lst (.inl ⟨fun y => h (z.ow _ y), r⟩) (Reps.sel z c q)
  | _, _, c, .lst (.inr k) q => .lst (.inr k) (Reps.sel z c q)
  | _, _, c, .dct (.inl ⟨h, r⟩) q => .dct (.inl ⟨fun y => h (z.ow _ y), r⟩) (KReps.sel z c q)
  | _, _, c, .dct (.inr k) q => .dct (.inr k) (KReps.sel z c q)
  | _, .ref m, c, .ref h => .ref (by
      have hm : m < n := of_decide_eq_true c
      rw [z.at_ m hm]; exact h)
  | _, _, _, .fn h => .fn h
theorem Reps.sel (z : Sel W α S n α2 S2) : ∀ {vs : List V} {ds : List Dt}, closedL n ds = true → Reps W α S H vs ds → Reps W α2 S2 H vs ds
  | _, _, _, .nil => .nil
  | _, _ :: _, c, .cons r t => by
    unfold closedL at c
    rw [Bool.and_eq_true] at c
    exact .cons (Rep.sel z c.1 r) (Reps.sel z c.2 t)
theorem KReps.sel (z : Sel W α S n α2 S2) : ∀ {vs : List (Key × V)} {ds : List (Key × Dt)}, closedK n ds = true → KReps W α S H vs ds → KReps W α2 S2 H vs ds
  | _, _, _, .nil => .nil
  | _, _ :: _, c, .cons r t => by
    unfold closedK at c
    rw [Bool.and_eq_true] at c
    exact .cons (Rep.sel z c.1 r) (KReps.sel z c.2 t)
end
theorem sel_one {m : Nat} {a : Addr} {mo : MO} (s : Sim W α S H) (hm : α[m]? = some a) (hs : S[m]? = some mo) (hn : n ≤ m) : Sel W α S n (α.take n ++ [a]) (S.take n ++ [mo]) := by
  have lm : m < S.length := (List.getElem?_eq_some_iff.mp hs).1
  have l1 : (α.take n).length = n := by rw [List.length_take, s.len]; omega
  have l2 : (S.take n).length = n := by rw [List.length_take]; omega
  refine ⟨fun x h => ?_, fun k hk => ?_⟩
  · rcases h with ⟨k, mo', h1, h2, h3⟩ | h
    · by_cases hk : k < n
      · rw [List.getElem?_append_left (by omega), List.getElem?_take, if_pos hk] at h1 h2
        exact .inl ⟨k, mo', h1, h2, h3⟩
      · have : k = n := by
          have := (List.getElem?_eq_some_iff.mp h1).1
          simp [l1] at this
          omega
        subst this
        rw [List.getElem?_append_right (by omega)] at h1 h2
        simp only [l1, l2, Nat.sub_self, List.getElem?_cons_zero, Option.some.injEq] at h1 h2
        subst h1 h2
        exact .inl ⟨m, mo, hm, hs, h3⟩
    · exact .inr h
  · rw [List.getElem?_append_left (by omega), List.getElem?_take, if_pos hk]
theorem Sim.one {m : Nat} {a : Addr} {mo : MO} (s : Sim W α S H) (hm : α[m]? = some a) (hs : S[m]? = some mo) (hn : n ≤ m) (c : (S.take n).all (closedM n) = true) (cm : closedM n mo = true) : Sim W (α.take n ++ [a]) (S.take n ++ [mo]) H := by
  have z := sel_one s hm hs hn
  have lm : m < S.length := (List.getElem?_eq_some_iff.mp hs).1
  have l1 : (α.take n).length = n := by rw [List.length_take, s.len]; omega
  have l2 : (S.take n).length = n := by rw [List.length_take]; omega
  have mrep : ∀ (b : Addr) (mo' : MO), closedM n mo' = true → MRep W α S H b mo' → MRep W (α.take n ++ [a]) (S.take n ++ [mo]) H b mo' := by
    intro b mo' hc q
    cases mo' with
    | gone => trivial
    | lst ds => obtain ⟨vs, e, r⟩ := q; exact ⟨vs, e, Reps.sel z hc r⟩
    | dct ds => obtain ⟨vs, e, r⟩ := q; exact ⟨vs, e, KReps.sel z hc r⟩
  refine ⟨by simp [l1, l2], ?_, fun k b mo' h1 h2 => ?_, fun k b h => ?_, s.bs, fun b hb h => ?_⟩
  · rw [List.nodup_append]
    refine ⟨s.nd.sublist (List.take_sublist _ _), by simp, fun x hx y hy e => ?_⟩
    simp at hy
    subst hy e
    obtain ⟨k, hk⟩ := List.getElem?_of_mem hx
    have hkn : k < n := by
      have := (List.getElem?_eq_some_iff.mp hk).1
      omega
    rw [List.getElem?_take, if_pos hkn] at hk
    have := (List.getElem?_inj (List.getElem?_eq_some_iff.mp hk).1 s.nd).mp (hk.trans hm.symm)
    omega
  · by_cases hk : k < n
    · rw [List.getElem?_append_left (by omega), List.getElem?_take, if_pos hk] at h1 h2
      refine mrep b mo' (List.all_eq_true.mp c mo' (List.mem_of_getElem? (by rw [List.getElem?_take, if_pos hk]; exact h2))) (s.obj k b mo' h1 h2)
    · have : k = n := by
        have := (List.getElem?_eq_some_iff.mp h1).1
        simp [l1] at this
        omega
      subst this
      rw [List.getElem?_append_right (by omega)] at h1 h2
      simp only [l1, l2, Nat.sub_self, List.getElem?_cons_zero, Option.some.injEq] at h1 h2
      subst h1 h2
      exact mrep _ _ cm (s.obj m _ _ hm hs)
  · rcases List.mem_append.mp (List.mem_of_getElem? h) with h | h
    · obtain ⟨j, hj⟩ := List.getElem?_of_mem (List.mem_of_mem_take h)
      exact s.ne j b hj
    · simp at h; subst h; exact s.ne m _ hm
  · rcases List.mem_append.mp h with h | h
    · exact s.bd b hb (List.mem_of_mem_take h)
    · simp at h; subst h; exact s.bd _ hb (List.mem_of_getElem? hm)
theorem Ext.one {α' : List Addr} {S' : Store} {H' : Hp} {m : Nat} {a : Addr} {mo : MO} (s : Sim W α S H) (s' : Sim W α' S' H') (x : Ext W α S H α' S' H') (hm : α'[m]? = some a) (hs : S'[m]? = some mo) (hn : S.length ≤ m) : Ext W α S H (α'.take S.length ++ [a]) (S'.take S.length ++ [mo]) H' := by
  have z := sel_one s' hm hs hn
  refine ⟨fun k b h => ?_, fun b o nb e => ?_, x.held⟩
  · have hk : k < S.length := by rw [← s.len]; exact (List.getElem?_eq_some_iff.mp h).1
    rw [z.at_ k hk]; exact x.pre k b h
  · obtain ⟨h1, h2⟩ := x.keep b o nb e
    exact ⟨fun y => h1 (z.ow _ y), h2⟩
end
theorem post_trim {E : XK} {Q : VK} {o : Out Dt} (s : Sim W α S H) (h : Post W E α S H Q (trimO S.length o)) : Post W E α S H Q o := by
  cases o with
  | bad => exact h
  | ok d S1 =>
    simp only [trimO] at h
    by_cases hc : (closedD S.length d && (S1.take S.length).all (closedM S.length)) = true
    · rw [if_pos hc] at h
      rw [Bool.and_eq_true] at hc
      exact fun α1 v H1 r s1 x => h _ v H1 (r.trim hc.1) (s1.trim hc.2) (x.trim s)
    · rw [if_neg hc] at h
      cases hr : retR S.length d S1 with
      | none => rw [hr] at h; exact h
      | some S2 =>
        rw [hr] at h
        unfold retR at hr
        split at hr
        · rename_i m
          split at hr
          · rename_i mo hs
            split at hr
            · rename_i hcc
              cases hr
              simp only [Bool.and_eq_true, decide_eq_true_eq] at hcc
              intro α1 v H1 r s1 x
              cases r with
              | ref hm =>
                refine h _ _ H1 (.ref ?_) (s1.one hm hs hcc.1.1 hcc.2 hcc.1.2) (Ext.one s s1 x hm hs hcc.1.1)
                have lm : m < S1.length := (List.getElem?_eq_some_iff.mp hs).1
                have l1 : (α1.take S.length).length = S.length := by rw [List.length_take, s1.len]; omega
                rw [List.getElem?_append_right (by omega), l1]
                simp
            · cases hr
          · cases hr
        · cases hr
  | exc c fs S1 =>
    simp only [trimO] at h
    by_cases hc : (closedL S.length (fs.map (·.2)) && (S1.take S.length).all (closedM S.length)) = true
    · rw [if_pos hc] at h
      rw [Bool.and_eq_true] at hc
      intro α1 cls od H1 xr s1 x
      obtain ⟨C, x1, x2, x3⟩ := xr
      refine h _ cls od H1 ⟨C, x1, x2, x3.imp id ?_⟩ (s1.trim hc.2) (x.trim s)
      rintro ⟨dx, fvs, g1, g2, g3, g4, g5⟩
      exact ⟨dx, fvs, g1, g2, fun z => g3 z.untake, g4, Reps.trim hc.1 g5⟩
    · rw [if_neg hc] at h; exact h
end
def trimF (F : List Dt → Store → Out Dt) : List Dt → Store → Out Dt := fun ds S => trimO S.length (F ds S)
section
variable {P : Program} {w : World} {K : PySem.W.Frag} {mg : Str → Option Value} {base : Heap}
theorem FnG.trim {k : Nat} {f : Addr} {fd : FuncData} {ps : List Str} {F : List Dt → Store → Out Dt} (G : FnG P w K mg base k f fd ps (spD K w mg F)) : FnG P w K mg base k f fd ps (spD K w mg (trimF F)) :=
  G.imp fun vs H Q E ⟨B, α, ds, S, r, s, h⟩ => ⟨B, α, ds, S, r, s, post_trim s h⟩

/-! ### the law -/
theorem law_callG {k : Nat} {fa a : Addr} {fd : FuncData} {x : Str} {sp : Sp} {s₁ : Shared} {mb : Str → Option Value} {vs : List Value} {ns : List Int}
    (KX : K.In s₁.heap) (hns : s₁.heap.Ns mainGlobals mg) (hb : s₁.heap.Ns builtinsNs mb) (hbb : ∀ x : Str, x ≠ "__name__" → mb x = bootBuiltins x) (hlim : s₁.heap.NoLimit) (hg : s₁.gens = #[])
    (ha : s₁.heap.get? a = some { cls := .type "list", data := .seq vs.toArray }) (hi : IntsAre vs ns) (hl : ns.length ≤ sizeLine) (hr : Room k callerA)
    (F : ∀ base : Heap, K.In base → base.Ns mainGlobals mg → FnG P w K mg base k fa fd [x] sp) (hbind : ∀ (s : Shared) (u : Value), BindsTo s fd ⟨[u], []⟩ [(x, u)])
    (hsp : ∀ H : Hp, LstAt K H a (ns.map V.int) → sp [.ref a] H (fun v _ => v = .bl true) fun _ _ _ => False) :
    codeAny (model P w) callerA (.call (.ref fa) ⟨[.ref a], []⟩) (fun r s' => r = .ok (.ret (.bool true)) ∧ OldK s₁.heap s'.heap ∧ s'.os = s₁.os ∧ AllBare s'.gens) s₁ := by
  have rv := vals_ints hi
  have lenV := hi.length
  have core : ∀ H : Hp, Only H → LstAt K H a (ns.map V.int) → HOk P w H s₁.heap → (∀ b, H b ≠ none → b = a) → (H a ≠ none → K.lookup a = none) →
      codeAny (model P w) callerA (.call (.ref fa) ⟨[.ref a], []⟩) (fun r s' => r = .ok (.ret (.bool true)) ∧ OldK s₁.heap s'.heap ∧ s'.os = s₁.os ∧ AllBare s'.gens) s₁ := by
    intro H hO hS hok hA hK
    have base_of : ∀ {b : Addr} {o : Obj}, s₁.heap.get? b = some o → H b = none → (hidT s₁.heap H).get? b = some o := fun e n => hidT_get e n
    have noA : ∀ {b : Addr} {o : Obj} {es : Array DictEntry} {ep : Nat}, s₁.heap.get? b = some o → o.data = .dict es ep → H b = none := fun {b o es ep} e d => by
      cases q : H b with
      | none => rfl
      | some u =>
        have e' : b = a := hA b (by rw [q]; simp)
        subst e'
        rw [ha] at e; cases e
        have d' : Data.seq vs.toArray _ = Data.dict es ep := d
        cases d'
    have nsK : ∀ {b : Addr} {m : Str → Option Value}, s₁.heap.Ns b m → (hidT s₁.heap H).Ns b m := fun {b m} ⟨o, es, ep, e, d, r⟩ => ⟨o, es, ep, base_of e (noA e d), d, r⟩
    have hKb : K.In (hidT s₁.heap H) := fun b o e => base_of (KX b o e) (by
      cases q : H b with
      | none => rfl
      | some u =>
        have e' : b = a := hA b (by rw [q]; simp)
        subst e'
        rw [hK (by rw [q]; simp)] at e; cases e)
    have hM : Mod K mg (hidT s₁.heap H) := ⟨hKb, nsK hns, ⟨mb, nsK hb, hbb⟩, let ⟨mc, h1, h2⟩ := hlim; ⟨mc, nsK h1, h2⟩⟩
    have e0 : Env0 P w K mg (hidT s₁.heap H) callerA [] s₁ H := ⟨rfl, hM, fun b o e => of_hidT e, Nat.le_of_eq (hidT_size _ _), trivial, fun b hb => absurd (show b ∈ ([] : List Addr) from hb) (by simp), hok, .of_eq hg⟩
    refine codeAny_mono ((F _ hKb (nsK hns)).go callerA [] s₁ H ⟨[.ref a], []⟩ [.ref a] [.ref a] _ _ rfl hr e0 (hbind s₁ (.ref a)) (.cons rfl .nil) (hsp H hS)) fun r s' h => ?_
    cases r with
    | error e =>
      obtain ⟨_, _, _, _, _, _, _, _, _, _, _, _, z⟩ := h
      exact z.elim
    | ok fl =>
      cases fl with
      | next => exact False.elim h
      | brk => exact False.elim h
      | cont => exact False.elim h
      | ret u =>
        obtain ⟨v, H', os, bare, un, hok', r', q⟩ := h
        have q' : v = .bl true := q
        subst q'
        obtain rfl : u = Value.bool true := r'
        refine ⟨rfl, OldK.of_keep fun b o e => ?_, os, bare⟩
        cases q : H b with
        | none => exact un.keep b o e q (by intro z; exact absurd (show b ∈ ([] : List Addr) from z) (by simp)) (by simp)
        | some u =>
          rcases hO b with z | ⟨ob, xs, z⟩
          · rw [q] at z; cases z
          · have z2 := un.frzs b ob _ z
            obtain ⟨e1, _⟩ := hok b _ z
            obtain ⟨e2, _⟩ := hok' b _ z2
            rw [e] at e1; cases e1
            exact e2
  cases hk : K.lookup a with
  | some o =>
    have e := KX a o hk
    rw [ha] at e
    cases e
    refine core (fun _ => none) (fun _ => .inl rfl) (.inr ⟨vs, _, hk, by rw [lenV]; exact hl, rv⟩) (fun b u z => by have z' : (none : Option HO) = some u := z; cases z') (fun b z => absurd rfl z) fun z => absurd rfl z
  | none =>
    refine core (fun b => if b = a then some (.frz { cls := .type "list", data := .seq vs.toArray } (.lst (ns.map V.int))) else none) (fun b => ?_) (.inl (.inr ⟨{ cls := .type "list", data := .seq vs.toArray }, if_pos rfl⟩)) (fun b u z => ?_) (fun b z => ?_) fun _ => hk
    · by_cases hb : b = a
      · exact .inr ⟨_, _, if_pos hb⟩
      · exact .inl (if_neg hb)
    · by_cases hb : b = a
      · have z' := (if_pos hb).symm.trans z
        cases z'
        subst hb
        exact ⟨ha, by rw [List.length_map]; exact hl, vs, _, rv, ha⟩
      · have z' := (if_neg hb).symm.trans z
        cases z'
    · by_cases hb : b = a
      · exact hb
      · exact absurd (if_neg hb) z
end
/-- the goal behind the head, from what the law's def does -/
theorem walk_D {l : PySem.W.OpenLaw} {n k : Nat} {q : Program} {loose : List Str} {XP : (Str → Option Value) → Heap → Prop} {YP : World → Heap → Prop} {d : DefRec} {K : Params → PySem.W.Frag} {x : Str} {F : List Dt → Store → Out Dt}
    (hn : l.most = some n) (hn2 : n ≤ sizeLine) (hdf : d.params.defaults = []) (hr : Room k callerA)
    (hY : ∀ (w : World) (h : Heap), YP w h → (K w.params).In h)
    (hF : ∀ (w : World) (mg : Str → Option Value) (fa : Addr) (h : Heap), (K w.params).In h → h.Ns mainGlobals mg → mg d.name = some (.ref fa) →
      ∃ fd : FuncData, (∀ (s : Shared) (u : Value), BindsTo s fd ⟨[u], []⟩ [(x, u)]) ∧
        ∀ base : Heap, (K w.params).In base → base.Ns mainGlobals mg → FnG l.prog w (K w.params) mg base k fa fd [x] (spD (K w.params) w mg F))
    (hlaw : ∀ ns : List Int, ns.length ≤ n → ∃ S, F [.lst (ns.map Dt.int)] [] = .ok (.bl true) S) :
    PySem.W.WalkO q loose XP YP l.row.toRowW d [] (fun f vs => PySem.call f vs) := by
  refine Att.attach_call hn hdf fun w s₀ s₁ mg mb fa o pm cd doc a vs ns G Y ho hd hcd hmg hobj hints hlen hg => ?_
  have KX := hY w _ Y
  obtain ⟨fd, hb, h2⟩ := hF w mg fa _ KX G.T.g hmg
  refine law_callG KX G.T.g G.T.b G.T.builtins G.T.nolimit hg hobj hints (Nat.le_trans hlen hn2) hr h2 hb fun H hS => ?_
  obtain ⟨S, hS'⟩ := hlaw ns hlen
  refine ⟨[], [], [.lst (ns.map Dt.int)], [], .cons (.lst ?_ (Reps.ofInts ns)) .nil, ⟨rfl, .nil, fun n a mo h _ => (by simp at h), fun n a h => (by simp at h), fun b (hb : b ∈ ([] : List Addr)) => (by cases hb), fun b (hb : b ∈ ([] : List Addr)) => (by cases hb)⟩, ?_⟩
  · rcases hS with r | r
    · refine .inl ⟨?_, r⟩
      rintro (⟨n, mo, z, _⟩ | z)
      · simp at z
      · cases z
    · exact .inr r
  · rw [hS']
    intro α1 v H1 r s1 x1
    cases r
    rfl
end DL

set_option Elab.async false
set_option linter.all false
set_option maxRecDepth 100000
set_option maxHeartbeats 4000000
namespace DL
open PySem PySem.Spec PyProof.Rows L2

/-! ### what the written part says of the text's defs -/
def HasFn (K : PySem.W.Frag) (x qual : Str) (st : Stmt) : Prop := ∃ (f : Addr) (oc : Value) (od : Option Addr) (dV kV doc pm : Value) (an : Option Addr) (cdv ct : Value) (osl : Array (Option Value)),
  PySem.W.nsIn K mainGlobals x = some (some (.ref f)) ∧ K.lookup f = some ⟨oc, od, .func (PySem.W.fnOf x qual (defArgs st) (defBody st) (defScope st) dV kV doc pm an cdv ct), osl⟩ ∧ PySem.W.codeIn K cdv qual = true ∧ PySem.W.keepIn K (.ref f) = true
/-- without defaults -/
def HasFn0 (K : PySem.W.Frag) (x qual : Str) (st : Stmt) : Prop := ∃ (f : Addr) (oc : Value) (od : Option Addr) (kV doc pm : Value) (an : Option Addr) (cdv ct : Value) (osl : Array (Option Value)),
  PySem.W.nsIn K mainGlobals x = some (some (.ref f)) ∧ K.lookup f = some ⟨oc, od, .func (PySem.W.fnOf x qual (defArgs st) (defBody st) (defScope st) .none kV doc pm an cdv ct), osl⟩ ∧ PySem.W.codeIn K cdv qual = true ∧ PySem.W.keepIn K (.ref f) = true
/-- the defaults: ints, as a written tuple -/
def HasFnD (K : PySem.W.Frag) (x qual : Str) (st : Stmt) (dvs : List V) : Prop := ∃ (f T : Addr) (oc : Value) (od : Option Addr) (kV doc pm : Value) (an : Option Addr) (cdv ct : Value) (osl : Array (Option Value)) (o : Obj) (its : List Value) (m : Nat),
  PySem.W.nsIn K mainGlobals x = some (some (.ref f)) ∧ K.lookup f = some ⟨oc, od, .func (PySem.W.fnOf x qual (defArgs st) (defBody st) (defScope st) (.ref T) kV doc pm an cdv ct), osl⟩ ∧ PySem.W.codeIn K cdv qual = true ∧ PySem.W.keepIn K (.ref f) = true ∧
  K.lookup T = some o ∧ o.data = .seq its.toArray m ∧ Vals dvs its
/-- the def named x does F; dfs: what may be left out -/
structure Does (P : Program) (w : World) (K : PySem.W.Frag) (mg : Str → Option Value) (base : Heap) (k : Nat) (x : Str) (dfs : List (List Dt)) (F : List Dt → Store → Out Dt) : Prop where
  ex : ∃ (f : Addr) (fd : FuncData) (ps : List Str), mg x = some (.ref f) ∧ PySem.W.keepIn K (.ref f) = true ∧ FnG P w K mg base k f fd ps (spD K w mg F) ∧
    ∀ dd ∈ dfs, ∃ (ds : List Value) (dvs : List V), Binds K fd ps ds ∧ Vals dvs ds ∧ ∀ B α S H, Reps ⟨K, w, mg, B⟩ α S H dvs dd
section
variable {P : Program} {w : World} {K : PySem.W.Frag} {mg : Str → Option Value} {base : Heap}
theorem Does.mono {j k : Nat} {x : Str} {dfs : List (List Dt)} {F : List Dt → Store → Out Dt} (D : Does P w K mg base j x dfs F) (h : j ≤ k) : Does P w K mg base k x dfs F := by
  obtain ⟨f, fd, ps, h1, h2, h3, h4⟩ := D
  exact ⟨f, fd, ps, h1, h2, h3.mono h, h4⟩
theorem Does.trim {k : Nat} {x : Str} {dfs : List (List Dt)} {F : List Dt → Store → Out Dt} (D : Does P w K mg base k x dfs F) : Does P w K mg base k x dfs (trimF F) := by
  obtain ⟨f, fd, ps, h1, h2, h3, h4⟩ := D
  exact ⟨f, fd, ps, h1, h2, h3.trim, h4⟩
/-- as it is called -/
theorem Does.dfn {X : Cx} {k k' : Nat} {x : Str} {dfs : List (List Dt)} {F : List Dt → Store → Out Dt} (D : Does X.prog X.w X.K X.mg X.base k x dfs F) (hr : Room k' X.A) (hk : k ≤ k') (dd : List Dt) (hd : dd ∈ dfs := by simp) : DFn X x F dd := by
  obtain ⟨f, fd, ps, h1, h2, h3, h4⟩ := D
  obtain ⟨ds, dvs, b, v, r⟩ := h4 dd hd
  exact ⟨f, fd, ps, k, ds, dvs, h3, hr.mono hk, h1, h2, b, v, r⟩
/-- some defs by their names -/
inductive DFns (X : Cx) : List (Str × (List Dt → Store → Out Dt)) → Prop
  | nil : DFns X []
  | cons {x : Str} {F : List Dt → Store → Out Dt} {l : List (Str × (List Dt → Store → Out Dt))} : DFn X x F [] → DFns X l → DFns X ((x, F) :: l)
theorem DFns.all {X : Cx} : ∀ {l : List (Str × (List Dt → Store → Out Dt))}, DFns X l → ∀ (y : Str) (F : List Dt → Store → Out Dt), (fun y => l.lookup y) y = some F → DFn X y F []
  | _, .nil, _, _, h => by cases h
  | _, .cons (x := x) d t, y, F, h => by
    by_cases e : y = x
    · subst e
      simp [List.lookup] at h
      subst h
      exact d
    · have e' : (y == x) = false := by simpa using e
      simp only [List.lookup, e'] at h
      exact DFns.all t y F h
/-- never called -/
theorem does_bad {k : Nat} {x qual : Str} {st : Stmt} {h : Heap} {ps : List Str} (X : K.In h) (G : h.Ns mainGlobals mg) (T : HasFn0 K x qual st)
    (hb : ∀ (kV doc pm : Value) (an : Option Addr) (cdv ct : Value) (us : List Value), us.length = ps.length → bindArgs (PySem.W.fnOf x qual (defArgs st) (defBody st) (defScope st) .none kV doc pm an cdv ct) ⟨us, []⟩ = pure (ps.zip us)) : Does P w K mg base k x [[]] (fun _ _ => .bad) := by
  obtain ⟨f, oc, od, kV, doc, pm, an, cdv, ct, osl, h1, h2, h3, h4⟩ := T
  refine ⟨f, PySem.W.fnOf x qual (defArgs st) (defBody st) (defScope st) .none kV doc pm an cdv ct, ps, PySem.W.mg_of X G h1, h4, ⟨fun vs H Q E ⟨B, α, ds, S, r, s, q⟩ => q.elim, fun A outer s H args us vs Q E hg hr e0 hb hv ⟨B, α, ds, S, r, sm, q⟩ => q.elim⟩, fun dd hd => ?_⟩
  have e : dd = [] := by simpa using hd
  subst e
  exact ⟨[], [], Binds.all (fd := PySem.W.fnOf x qual (defArgs st) (defBody st) (defScope st) .none kV doc pm an cdv ct) (hb kV doc pm an cdv ct), .nil, fun _ _ _ _ => .nil⟩
/-- THE RULE for a def without defaults -/
theorem does_ok {x qual : Str} {st : Stmt} {h : Heap} {N ps : List Str} {k nl : Nat} {body : FS} (X : K.In h) (G : h.Ns mainGlobals mg) (T : HasFn0 K x qual st) (Sc : FnScope N ps (defScope st)) (hl : N.length = ps.length + nl)
    (hb : ∀ (kV doc pm : Value) (an : Option Addr) (cdv ct : Value) (us : List Value), us.length = ps.length → bindArgs (PySem.W.fnOf x qual (defArgs st) (defBody st) (defScope st) .none kV doc pm an cdv ct) ⟨us, []⟩ = pure (ps.zip us))
    (hbody : ∀ (f : Addr) (cdv : Value) (A : Around) (outer : List Env) (s : Shared) (H : Hp) (E : XK), A.guards = some [] → Room k (A.deeper (envOfC qual (defScope st) s.heap.objs.size f cdv)) →
      TkD (cxOf (L2.CX P w) P w K mg base N qual (defScope st) f cdv A outer s H E) (fun _ => E) →
      PassesOwn (model P w) (cxOf (L2.CX P w) P w K mg base N qual (defScope st) f cdv A outer s H E).A (cxOf (L2.CX P w) P w K mg base N qual (defScope st) f cdv A outer s H E).env (cxOf (L2.CX P w) P w K mg base N qual (defScope st) f cdv A outer s H E).xe →
      DSs (cxOf (L2.CX P w) P w K mg base N qual (defScope st) f cdv A outer s H E) (fun _ => E) (defBody st) body) : Does P w K mg base (k + 1) x [[]] (fnBody ps.length nl body) := by
  obtain ⟨f, oc, od, kV, doc, pm, an, cdv, ct, osl, h1, h2, h3, h4⟩ := T
  refine ⟨f, _, ps, PySem.W.mg_of X G h1, h4, fn_ok ⟨⟨oc, od, .none, kV, doc, pm, an, cdv, ct, osl, rfl, h2, h3⟩⟩ Sc hl (hbody f), fun dd hd => ?_⟩
  have e : dd = [] := by simpa using hd
  subst e
  exact ⟨[], [], Binds.all (hb kV doc pm an cdv ct), .nil, fun _ _ _ _ => .nil⟩
/-- with defaults: the last j parameters' ones; they may be left out from the right -/
theorem does_okD {x qual : Str} {st : Stmt} {h : Heap} {N ps : List Str} {k nl : Nat} {body : FS} {dvs : List V} {dds : List Dt} (dfs : List (List Dt)) (X : K.In h) (G : h.Ns mainGlobals mg) (T : HasFnD K x qual st dvs) (Sc : FnScope N ps (defScope st)) (hl : N.length = ps.length + nl)
    (hdd : ∀ B α S H, Reps ⟨K, w, mg, B⟩ α S H dvs dds) (hne : dvs ≠ [])
    (hb : ∀ dd ∈ dfs, ∃ j, dd = dds.drop j ∧ ∃ n, n + (dvs.length - j) = ps.length ∧ ∀ (T : Addr) (kV doc pm : Value) (an : Option Addr) (cdv ct : Value) (us its : List Value), us.length = n → its.length = dvs.length →
      ∃ k, bindArgs (PySem.W.fnOf x qual (defArgs st) (defBody st) (defScope st) (.ref T) kV doc pm an cdv ct) ⟨us, []⟩ = seqItems? (.ref T) >>= k ∧ k (some its.toArray) = pure (ps.zip (us ++ its.drop j)))
    (hbody : ∀ (f : Addr) (cdv : Value) (A : Around) (outer : List Env) (s : Shared) (H : Hp) (E : XK), A.guards = some [] → Room k (A.deeper (envOfC qual (defScope st) s.heap.objs.size f cdv)) →
      TkD (cxOf (L2.CX P w) P w K mg base N qual (defScope st) f cdv A outer s H E) (fun _ => E) →
      PassesOwn (model P w) (cxOf (L2.CX P w) P w K mg base N qual (defScope st) f cdv A outer s H E).A (cxOf (L2.CX P w) P w K mg base N qual (defScope st) f cdv A outer s H E).env (cxOf (L2.CX P w) P w K mg base N qual (defScope st) f cdv A outer s H E).xe →
      DSs (cxOf (L2.CX P w) P w K mg base N qual (defScope st) f cdv A outer s H E) (fun _ => E) (defBody st) body) : Does P w K mg base (k + 1) x dfs (fnBody ps.length nl body) := by
  obtain ⟨f, Ta, oc, od, kV, doc, pm, an, cdv, ct, osl, o, its, m, h1, h2, h3, h4, h5, h6, h7⟩ := T
  refine ⟨f, _, ps, PySem.W.mg_of X G h1, h4, fn_ok ⟨⟨oc, od, .ref Ta, kV, doc, pm, an, cdv, ct, osl, rfl, h2, h3⟩⟩ Sc hl (hbody f), fun dd hd => ?_⟩
  obtain ⟨j, e, n, hn, h⟩ := hb dd hd
  subst e
  have F : FunD K x qual (defArgs st) (defBody st) (defScope st) dvs [] f (PySem.W.fnOf x qual (defArgs st) (defBody st) (defScope st) (.ref Ta) kV doc pm an cdv ct) :=
    ⟨⟨oc, od, .ref Ta, kV, doc, pm, an, cdv, ct, osl, rfl, h2, h3, .inr ⟨hne, Ta, o, its, m, rfl, h5, h6, h7⟩, .inl rfl⟩, h4⟩
  obtain ⟨ds, r1, r2⟩ := F.binds1 n j hne hn h
  exact ⟨ds, dvs.drop j, r2, r1, fun B α S H => (hdd B α S H).drop j⟩
end
end DL

set_option Elab.async false
set_option linter.all false
set_option maxRecDepth 100000
set_option maxHeartbeats 4000000
namespace DL
open PySem PySem.Spec PyProof.Rows L2

theorem Room.u1 {k : Nat} {A : Around} (hr : Room k A) : A.units + 1 < cLine := by have := hr.un; omega
theorem Room.u200 {k : Nat} {A : Around} (hr : Room k A) : A.units + 200 < cLine := by have := hr.un; omega
theorem Room.u210 {k : Nat} {A : Around} (hr : Room k A) (hk : 1 ≤ k) : A.units + 210 < cLine := by have := hr.un; omega

/-! ### own exceptions, from the written part -/
def NoFlds (K : PySem.W.Frag) (C : Addr) : List Str → Prop
  | [] => True
  | f :: fs => PySem.W.findIn K (.ref C) f = some none ∧ NoFlds K C fs
theorem NoFlds.all {K : PySem.W.Frag} {C : Addr} : ∀ {fs : List Str}, NoFlds K C fs → ∀ f ∈ fs, PySem.W.findIn K (.ref C) f = some none
  | _ :: _, ⟨h, _⟩, _, .head _ => h
  | _ :: _, ⟨_, r⟩, _, .tail _ m => r.all _ m
def initS (cls : Stmt) (j : Nat) : Stmt := match cls with
  | .ClassDef _ _ _ body _ _ _ _ _ _ _ => body.getD j (.Pass ⟨0, 0, 0, 0⟩)
  | s => s
def ExcK (K : PySem.W.Frag) (c qual : Str) (fs : List Str) (st : Stmt) : Prop :=
  ∃ (C fI : Addr) (oc : Value) (od : Option Addr) (kV doc pm : Value) (an : Option Addr) (cdv ct : Value) (osl : Array (Option Value)) (nm q : Str) (N : Addr) (bs : List Value) (bm : List Value) (sn : List Str) (sub : List Value) (ab : Bool) (col : Option Bool) (dd : Option Addr) (k0 k1 k2 k3 k5 : Option Value),
    PySem.W.nsIn K mainGlobals c = some (some (.ref C)) ∧
    K.lookup C = some (excClassObj nm q C N bs bm true sn sub ab col dd k0 k1 k2 k3 k5 "ValueError.__new__") ∧ PySem.HandSPX.refsVE bm = true ∧
    PySem.W.findIn K (.ref C) "__setattr__" = some (some (.builtin "object.__setattr__")) ∧ PySem.W.subIn K (.ref C) (.type "BaseException") = some true ∧ PySem.W.typeIn K (.ref C) = some (.type "type") ∧ PySem.W.keepIn K (.ref C) = true ∧
    PySem.W.findIn K (.ref C) "__init__" = some (some (.ref fI)) ∧ PySem.W.typeIn K (.ref fI) = some (.type "function") ∧
    K.lookup fI = some ⟨oc, od, .func (PySem.W.fnOf "__init__" qual (defArgs st) (defBody st) (defScope st) .none kV doc pm an cdv ct), osl⟩ ∧ PySem.W.codeIn K cdv qual = true ∧ PySem.W.keepIn K (.ref fI) = true ∧ NoFlds K C fs ∧
    PySem.W.findIn K (.ref C) "__getattribute__" = some (some (.builtin "BaseException.__getattribute__")) ∧ PySem.W.findIn K (.ref C) "__getattr__" = some none ∧ PySem.W.hasDictIn K C = true
def VisAll (sc : Scope) : List Str → Prop
  | [] => True
  | f :: fs => (sc.names.lookup f = some .local ∧ (f == ("__debug__" : Str)) = false ∧ (f == ("__classdict__" : Str)) = false) ∧ VisAll sc fs
theorem VisAll.all {sc : Scope} : ∀ {fs : List Str}, VisAll sc fs → ∀ g ∈ fs, Vis sc g ∧ (g == ("__debug__" : Str)) = false ∧ (g == ("__classdict__" : Str)) = false
  | _ :: _, ⟨h, _⟩, _, .head _ => ⟨.inl h.1, h.2⟩
  | _ :: _, ⟨_, r⟩, _, .tail _ m => r.all _ m
theorem excD_of {Y : Cx} {h : Heap} {c qual f : Str} {fs : List Str} {st : Stmt} {k : Nat} (X : Y.K.In h) (G : h.Ns mainGlobals Y.mg) (T : ExcK Y.K c qual (f :: fs) st) (hr : Room k Y.A) (hk : 2 ≤ k)
    (Sc : FnScope (Str.ofString "self" :: f :: fs) (Str.ofString "self" :: f :: fs) (defScope st)) (Tx : InitTxt (defBody st) (f :: fs)) (hl : fs.length ≤ 800)
    (hv0 : Vis (defScope st) "self") (hv : VisAll (defScope st) (f :: fs))
    (hb : ∀ (kV doc pm : Value) (an : Option Addr) (cdv ct : Value) (us : List Value), us.length = (Str.ofString "self" :: f :: fs).length → bindArgs (PySem.W.fnOf "__init__" qual (defArgs st) (defBody st) (defScope st) .none kV doc pm an cdv ct) ⟨us, []⟩ = pure ((Str.ofString "self" :: f :: fs).zip us)) : ExcD Y c (f :: fs) := by
  obtain ⟨C, fI, oc, od, kV, doc, pm, an, cdv, ct, osl, nm, q, N, bs, bm, sn, sub, ab, col, dd, k0, k1, k2, k3, k5, a1, a2, a3, a4, a5, a6, a7, b1, b2, b3, b4, b5, b6, _, _, _⟩ := T
  have OC : OexC Y.K C := ⟨⟨nm, q, N, bs, bm, sn, sub, ab, col, dd, k0, k1, k2, k3, k5, a2, a3⟩, a4, a5, a6, a7⟩
  have F : Fun Y.K "__init__" qual st fI (PySem.W.fnOf "__init__" qual (defArgs st) (defBody st) (defScope st) .none kV doc pm an cdv ct) := ⟨⟨oc, od, kV, doc, pm, an, cdv, ct, osl, rfl, b3, b4⟩, b5⟩
  exact ⟨C, fI, 1, _, _, PySem.W.mg_of X G a1, OC, b1, b2, init_ok (k := 0) F Sc Tx OC b6.all hl hv0 hv.all, hr.mono (by omega), F.binds hb⟩
theorem fldD_of {Y : Cx} {h : Heap} {c qual f : Str} {fs : List Str} {st : Stmt} (X : Y.K.In h) (G : h.Ns mainGlobals Y.mg) (T : ExcK Y.K c qual fs st) (hf : f ∈ fs := by simp) : FldD Y c f := by
  obtain ⟨C, fI, oc, od, kV, doc, pm, an, cdv, ct, osl, nm, q, N, bs, bm, sn, sub, ab, col, dd, k0, k1, k2, k3, k5, a1, a2, a3, a4, a5, a6, a7, b1, b2, b3, b4, b5, b6, c1, c2, c3⟩ := T
  refine ⟨fun C' hC => ?_⟩
  have e := (PySem.W.mg_of X G a1).symm.trans hC
  cases e
  exact ⟨c1, c2, a5, c3, b6.all f hf⟩
/-- a class that a clause names, over that of an exception -/
def ExmK (K : PySem.W.Frag) (c d : Str) (b : Bool) : Prop := ∃ C D, PySem.W.nsIn K mainGlobals c = some (some (.ref C)) ∧ PySem.W.nsIn K mainGlobals d = some (some (.ref D)) ∧
  PySem.W.subIn K (.ref D) (.type "BaseException") = some true ∧ PySem.W.isClsIn K D = true ∧ PySem.W.typeIn K (.ref D) = some (.type "type") ∧ PySem.W.subIn K (.ref C) (.ref D) = some b
theorem ExmK.exm {K : PySem.W.Frag} {C D : Addr} {b : Bool} (h1 : PySem.W.subIn K (.ref D) (.type "BaseException") = some true) (h2 : PySem.W.isClsIn K D = true) (h3 : PySem.W.typeIn K (.ref D) = some (.type "type")) (h4 : PySem.W.subIn K (.ref C) (.ref D) = some b) :
    PySem.W.exmOne K (.ref C) (.ref D) = some b := by
  have e1 : (PySem.W.subIn K (.ref D) (.type "BaseException") == some true) = true := by rw [h1] <;> rfl
  have h2' : (PySem.W.clsIn K D).isSome = true := h2
  have e2 : ((PySem.W.clsIn K D).isSome && PySem.W.typeIn K (.ref D) == some (.type "type")) = true := by rw [h2', h3] <;> rfl
  show (if _ = true then (if ((PySem.W.clsIn K D).isSome && PySem.W.typeIn K (.ref D) == some (.type "type")) = true then PySem.W.subIn K (.ref C) (.ref D) else none) else none) = some b
  rw [if_pos e1, if_pos e2]
  exact h4
def ExmsK (K : PySem.W.Frag) (d : Str) : List (Str × Bool) → Prop
  | [] => True
  | (c, b) :: r => ExmK K c d b ∧ ExmsK K d r
theorem testD_of {Y : Cx} {h : Heap} {d : Str} {test : List (Str × Bool)} (X : Y.K.In h) (G : h.Ns mainGlobals Y.mg) (T : ExmsK Y.K d test) (hne : test ≠ []) (hg : Gl Y d) (hd : (d == ("__debug__" : Str)) = false := by decide) : TestD Y d test := by
  have key : ∀ {l : List (Str × Bool)}, ExmsK Y.K d l → ∀ c C b D, Y.mg d = some (.ref D) → Y.mg c = some (.ref C) → l.lookup c = some b → PySem.W.exmOne Y.K (.ref C) (.ref D) = some b := by
    intro l
    induction l with
    | nil => intro _ c C b D _ _ h; cases h
    | cons p r ih =>
      intro hT c C b D hD hC hl
      obtain ⟨c', b'⟩ := p
      obtain ⟨⟨C0, D0, e1, e2, e3, e4, e5, e6⟩, hr⟩ := hT
      by_cases hc : c = c'
      · subst hc
        simp [List.lookup] at hl
        subst hl
        have z1 := (PySem.W.mg_of X G e1).symm.trans hC
        have z2 := (PySem.W.mg_of X G e2).symm.trans hD
        cases z1; cases z2
        exact ExmK.exm e3 e4 e5 e6
      · have : (c == c') = false := by simpa using hc
        simp [List.lookup, this] at hl
        exact ih hr c C b D hD hC hl
  cases test with
  | nil => exact (hne rfl).elim
  | cons p r =>
    obtain ⟨c, b⟩ := p
    obtain ⟨⟨C0, D0, e1, e2, e3, e4, e5, e6⟩, hr⟩ := id T
    exact ⟨D0, ⟨hg, hd, .inl (PySem.W.mg_of X G e2)⟩, fun c C b h1 h2 => key T c C b D0 (PySem.W.mg_of X G e2) h1 h2⟩

/-! ### constants of the module -/
def GlStr (K : PySem.W.Frag) (x z : Str) : Prop := ∃ t, PySem.W.nsIn K mainGlobals x = some (some (.str z t))
def GlInt (K : PySem.W.Frag) (x : Str) (i : Int) : Prop := ∃ t, PySem.W.nsIn K mainGlobals x = some (some (.int i t))
def StrVals : List Str → List Value → Prop
  | [], [] => True
  | z :: zs, v :: vs => (∃ t, v = .str z t) ∧ StrVals zs vs
  | _, _ => False
def GlTup (K : PySem.W.Frag) (x : Str) (zs : List Str) : Prop := ∃ (a : Addr) (o : Obj) (its : Array Value) (n : Nat), PySem.W.nsIn K mainGlobals x = some (some (.ref a)) ∧ K.lookup a = some o ∧ o.cls = .type "tuple" ∧ o.data = .seq its n ∧ StrVals zs its.toList
def StrEnts : List (Str × Str) → List DictEntry → Prop
  | [], [] => True
  | (k, z) :: zs, e :: es => (∃ t, e.key = .str k t) ∧ (∃ t, e.val = .str z t) ∧ StrEnts zs es
  | _, _ => False
def GlDct (K : PySem.W.Frag) (w : World) (x : Str) (kvs : List (Str × Str)) : Prop := ∃ (a : Addr) (es : Array DictEntry) (n : Nat), PySem.W.nsIn K mainGlobals x = some (some (.ref a)) ∧ K.lookup a = some ⟨.type "dict", none, .dict es n, #[]⟩ ∧ PySem.W.KeysLit w.params es.toList ∧ (a == sysModules) = false ∧ StrEnts kvs es.toList
theorem StrVals.vals : ∀ {zs : List Str} {vs : List Value}, StrVals zs vs → Vals (zs.map V.str) vs
  | [], [], _ => .nil
  | _ :: _, _ :: _, ⟨⟨t, e⟩, r⟩ => .cons ⟨t, e⟩ (StrVals.vals r)
theorem StrEnts.pair : ∀ {zs : List (Str × Str)} {es : List DictEntry}, StrEnts zs es → Paired (fun (e : DictEntry) (p : Key × V) => ∃ z t, p.1 = Sum.inr z ∧ e.key = Value.str z t ∧ RelV p.2 e.val) es (zs.map fun p => (Sum.inr p.1, V.str p.2))
  | [], [], _ => .nil
  | (k, z) :: _, _ :: _, ⟨⟨t, e⟩, ⟨t', e'⟩, r⟩ => .cons ⟨k, t, rfl, e, ⟨t', e'⟩⟩ (StrEnts.pair r)
theorem kreps_strs {W : Wr} {α : List Addr} {S : Store} {H : Hp} : ∀ zs : List (Str × Str), KReps W α S H (zs.map fun p => (Sum.inr p.1, V.str p.2)) (zs.map fun p => (Sum.inr p.1, Dt.str p.2))
  | [] => .nil
  | _ :: zs => .cons (.str _) (kreps_strs zs)
section
variable {Y : Cx} {h : Heap} {x : Str}
theorem glStr {z : Str} (X : Y.K.In h) (G : h.Ns mainGlobals Y.mg) (T : GlStr Y.K x z) : GlD Y x (.str z) := by
  obtain ⟨t, e⟩ := T
  exact ⟨.str z, _, PySem.W.mg_of X G e, ⟨t, rfl⟩, fun _ _ _ _ => .str z⟩
theorem glInt {z : Int} (X : Y.K.In h) (G : h.Ns mainGlobals Y.mg) (T : GlInt Y.K x z) : GlD Y x (.int z) := by
  obtain ⟨t, e⟩ := T
  exact ⟨.int z, _, PySem.W.mg_of X G e, ⟨t, rfl⟩, fun _ _ _ _ => .int z⟩
theorem glTup {zs : List Str} (X : Y.K.In h) (G : h.Ns mainGlobals Y.mg) (T : GlTup Y.K x zs) (hl : zs.length ≤ 1000 := by decide) : GlD Y x (.tup (zs.map Dt.str)) := by
  obtain ⟨a, o, its, n, e1, e2, e3, e4, e5⟩ := T
  have r := e5.vals
  have hlen := r.length
  refine ⟨.ref a, _, PySem.W.mg_of X G e1, rfl, fun B α S H => .tup (.inr ⟨o, its, n, e2, e3, e4, ?_, r⟩) (Reps.ofStrs zs)⟩
  rw [List.length_map] at hlen
  have : its.size = its.toList.length := by simp
  rw [this, ← hlen, sizeLine_eq]
  omega
theorem glDct {kvs : List (Str × Str)} (X : Y.K.In h) (G : h.Ns mainGlobals Y.mg) (T : GlDct Y.K Y.w x kvs) : GlD Y x (.dct (kvs.map fun p => (Sum.inr p.1, Dt.str p.2))) := by
  obtain ⟨a, es, n, e1, e2, e3, e4, e5⟩ := T
  exact ⟨.ref a, _, PySem.W.mg_of X G e1, rfl, fun B α S H => .dct (.inr ⟨es, n, ⟨e2, e3, e4⟩, e5.pair⟩) (kreps_strs kvs)⟩
theorem fnVal {K : PySem.W.Frag} {mg : Str → Option Value} {q : Str} {st : Stmt} (X : K.In h) (G : h.Ns mainGlobals mg) (T : HasFn0 K x q st) : ∃ f, mg x = some (.ref f) := by
  obtain ⟨f, _, _, _, _, _, _, _, _, _, h1, _⟩ := T
  exact ⟨f, PySem.W.mg_of X G h1⟩
theorem fnValD {K : PySem.W.Frag} {mg : Str → Option Value} {q : Str} {st : Stmt} {dvs : List V} (X : K.In h) (G : h.Ns mainGlobals mg) (T : HasFnD K x q st dvs) : ∃ f, mg x = some (.ref f) := by
  obtain ⟨f, _, _, _, _, _, _, _, _, _, _, _, _, _, h1, _⟩ := T
  exact ⟨f, PySem.W.mg_of X G h1⟩
end
/-- what stands where no such def is called -/
theorem does_badD {P : Program} {w : World} {K : PySem.W.Frag} {mg : Str → Option Value} {base : Heap} {k : Nat} {x qual : Str} {st : Stmt} {h : Heap} {ps : List Str} {dvs : List V} {dds : List Dt} (dfs : List (List Dt)) (X : K.In h) (G : h.Ns mainGlobals mg) (T : HasFnD K x qual st dvs)
    (hdd : ∀ B α S H, Reps ⟨K, w, mg, B⟩ α S H dvs dds) (hne : dvs ≠ [])
    (hb : ∀ dd ∈ dfs, ∃ j, dd = dds.drop j ∧ ∃ n, n + (dvs.length - j) = ps.length ∧ ∀ (T : Addr) (kV doc pm : Value) (an : Option Addr) (cdv ct : Value) (us its : List Value), us.length = n → its.length = dvs.length →
      ∃ k, bindArgs (PySem.W.fnOf x qual (defArgs st) (defBody st) (defScope st) (.ref T) kV doc pm an cdv ct) ⟨us, []⟩ = seqItems? (.ref T) >>= k ∧ k (some its.toArray) = pure (ps.zip (us ++ its.drop j))) : Does P w K mg base k x dfs (fun _ _ => .bad) := by
  obtain ⟨f, Ta, oc, od, kV, doc, pm, an, cdv, ct, osl, o, its, m, h1, h2, h3, h4, h5, h6, h7⟩ := T
  refine ⟨f, PySem.W.fnOf x qual (defArgs st) (defBody st) (defScope st) (.ref Ta) kV doc pm an cdv ct, ps, PySem.W.mg_of X G h1, h4, ⟨fun vs H Q E ⟨B, α, ds, S, r, s, q⟩ => q.elim, fun A outer s H args us vs Q E hg hr e0 hb hv ⟨B, α, ds, S, r, sm, q⟩ => q.elim⟩, fun dd hd => ?_⟩
  obtain ⟨j, e, n, hn, h⟩ := hb dd hd
  subst e
  have F : FunD K x qual (defArgs st) (defBody st) (defScope st) dvs [] f (PySem.W.fnOf x qual (defArgs st) (defBody st) (defScope st) (.ref Ta) kV doc pm an cdv ct) :=
    ⟨⟨oc, od, .ref Ta, kV, doc, pm, an, cdv, ct, osl, rfl, h2, h3, .inr ⟨hne, Ta, o, its, m, rfl, h5, h6, h7⟩, .inl rfl⟩, h4⟩
  obtain ⟨ds, r1, r2⟩ := F.binds1 n j hne hn h
  exact ⟨ds, dvs.drop j, r2, r1, fun B α S H => (hdd B α S H).drop j⟩
/-! ### how these are told, their values left to be found -/
section
variable {K : PySem.W.Frag} {x qual : Str} {st : Stmt} {f T C D fI : Addr} {oc dV kV doc pm cdv ct : Value} {od an : Option Addr} {osl : Array (Option Value)} {o : Obj} {its : List Value} {itsA : Array Value} {es : Array DictEntry} {n m : Nat}
theorem hasFn0_mk (a : PySem.W.nsIn K mainGlobals x = some (some (.ref f))) (l : K.lookup f = some ⟨oc, od, .func (PySem.W.fnOf x qual (defArgs st) (defBody st) (defScope st) .none kV doc pm an cdv ct), osl⟩) (c : PySem.W.codeIn K cdv qual = true) (k : PySem.W.keepIn K (.ref f) = true) : HasFn0 K x qual st :=
  ⟨f, oc, od, kV, doc, pm, an, cdv, ct, osl, a, l, c, k⟩
theorem hasFnD_mk {dvs : List V} (a : PySem.W.nsIn K mainGlobals x = some (some (.ref f))) (l : K.lookup f = some ⟨oc, od, .func (PySem.W.fnOf x qual (defArgs st) (defBody st) (defScope st) (.ref T) kV doc pm an cdv ct), osl⟩) (c : PySem.W.codeIn K cdv qual = true) (k : PySem.W.keepIn K (.ref f) = true)
    (d : K.lookup T = some o) (e : o.data = .seq its.toArray m) (v : Vals dvs its) : HasFnD K x qual st dvs :=
  ⟨f, T, oc, od, kV, doc, pm, an, cdv, ct, osl, o, its, m, a, l, c, k, d, e, v⟩
theorem excK_mk {c : Str} {fs : List Str} {nm q : Str} {N : Addr} {bs bm : List Value} {sn : List Str} {sub : List Value} {ab : Bool} {col : Option Bool} {dd : Option Addr} {k0 k1 k2 k3 k5 : Option Value}
    (a1 : PySem.W.nsIn K mainGlobals c = some (some (.ref C))) (a2 : K.lookup C = some (excClassObj nm q C N bs bm true sn sub ab col dd k0 k1 k2 k3 k5 "ValueError.__new__")) (a3 : PySem.HandSPX.refsVE bm = true)
    (a4 : PySem.W.findIn K (.ref C) "__setattr__" = some (some (.builtin "object.__setattr__"))) (a5 : PySem.W.subIn K (.ref C) (.type "BaseException") = some true) (a6 : PySem.W.typeIn K (.ref C) = some (.type "type")) (a7 : PySem.W.keepIn K (.ref C) = true)
    (b1 : PySem.W.findIn K (.ref C) "__init__" = some (some (.ref fI))) (b2 : PySem.W.typeIn K (.ref fI) = some (.type "function"))
    (b3 : K.lookup fI = some ⟨oc, od, .func (PySem.W.fnOf "__init__" qual (defArgs st) (defBody st) (defScope st) .none kV doc pm an cdv ct), osl⟩) (b4 : PySem.W.codeIn K cdv qual = true) (b5 : PySem.W.keepIn K (.ref fI) = true) (b6 : NoFlds K C fs)
    (c1 : PySem.W.findIn K (.ref C) "__getattribute__" = some (some (.builtin "BaseException.__getattribute__"))) (c2 : PySem.W.findIn K (.ref C) "__getattr__" = some none) (c3 : PySem.W.hasDictIn K C = true) : ExcK K c qual fs st :=
  ⟨C, fI, oc, od, kV, doc, pm, an, cdv, ct, osl, nm, q, N, bs, bm, sn, sub, ab, col, dd, k0, k1, k2, k3, k5, a1, a2, a3, a4, a5, a6, a7, b1, b2, b3, b4, b5, b6, c1, c2, c3⟩
theorem noFlds_cons {f : Str} {fs : List Str} (a : PySem.W.findIn K (.ref C) f = some none) (r : NoFlds K C fs) : NoFlds K C (f :: fs) := ⟨a, r⟩
theorem exmsK_cons {c d : Str} {b : Bool} {r : List (Str × Bool)} (e : ExmK K c d b) (t : ExmsK K d r) : ExmsK K d ((c, b) :: r) := ⟨e, t⟩
theorem exmK_mk {c d : Str} {b : Bool} (a1 : PySem.W.nsIn K mainGlobals c = some (some (.ref C))) (a2 : PySem.W.nsIn K mainGlobals d = some (some (.ref D))) (a3 : PySem.W.subIn K (.ref D) (.type "BaseException") = some true) (a4 : PySem.W.isClsIn K D = true)
    (a5 : PySem.W.typeIn K (.ref D) = some (.type "type")) (a6 : PySem.W.subIn K (.ref C) (.ref D) = some b) : ExmK K c d b := ⟨C, D, a1, a2, a3, a4, a5, a6⟩
theorem glStr_mk {z : Str} {t : Tok} (a : PySem.W.nsIn K mainGlobals x = some (some (.str z t))) : GlStr K x z := ⟨t, a⟩
theorem glInt_mk {z : Int} {t : Tok} (a : PySem.W.nsIn K mainGlobals x = some (some (.int z t))) : GlInt K x z := ⟨t, a⟩
theorem glTup_mk {zs : List Str} (a : PySem.W.nsIn K mainGlobals x = some (some (.ref f))) (b : K.lookup f = some o) (c : o.cls = .type "tuple") (d : o.data = .seq itsA n) (e : StrVals zs itsA.toList) : GlTup K x zs := ⟨f, o, itsA, n, a, b, c, d, e⟩
theorem glDct_mk {w : World} {kvs : List (Str × Str)} (a : PySem.W.nsIn K mainGlobals x = some (some (.ref f))) (b : K.lookup f = some ⟨.type "dict", none, .dict es n, #[]⟩) (c : PySem.W.KeysLit w.params es.toList) (d : (f == sysModules) = false) (e : StrEnts kvs es.toList) : GlDct K w x kvs := ⟨f, es, n, a, b, c, d, e⟩
end
/-- the law's own def, at its address -/
theorem law_ok {P : Program} {w : World} {K : PySem.W.Frag} {mg : Str → Option Value} {x qual p : Str} {st : Stmt} {h : Heap} {fa : Addr} {N : List Str} {k nl : Nat} {body : FS} (X : K.In h) (G : h.Ns mainGlobals mg) (hfa : mg x = some (.ref fa)) (T : HasFn0 K x qual st) (Sc : FnScope N [p] (defScope st)) (hl : N.length = 1 + nl)
    (hb : ∀ (kV doc pm : Value) (an : Option Addr) (cdv ct : Value) (us : List Value), us.length = [p].length → bindArgs (PySem.W.fnOf x qual (defArgs st) (defBody st) (defScope st) .none kV doc pm an cdv ct) ⟨us, []⟩ = pure ([p].zip us))
    (hbody : ∀ (base : Heap) (f : Addr) (cdv : Value) (A : Around) (outer : List Env) (s : Shared) (H : Hp) (E : XK), A.guards = some [] → Room k (A.deeper (envOfC qual (defScope st) s.heap.objs.size f cdv)) →
      TkD (cxOf (L2.CX P w) P w K mg base N qual (defScope st) f cdv A outer s H E) (fun _ => E) →
      PassesOwn (model P w) (cxOf (L2.CX P w) P w K mg base N qual (defScope st) f cdv A outer s H E).A (cxOf (L2.CX P w) P w K mg base N qual (defScope st) f cdv A outer s H E).env (cxOf (L2.CX P w) P w K mg base N qual (defScope st) f cdv A outer s H E).xe →
      DSs (cxOf (L2.CX P w) P w K mg base N qual (defScope st) f cdv A outer s H E) (fun _ => E) (defBody st) body) :
    ∃ fd : FuncData, (∀ (s : Shared) (u : Value), BindsTo s fd ⟨[u], []⟩ [(p, u)]) ∧ ∀ base : Heap, K.In base → base.Ns mainGlobals mg → FnG P w K mg base (k + 1) fa fd [p] (spD K w mg (fnBody 1 nl body)) := by
  obtain ⟨f, oc, od, kV, doc, pm, an, cdv, ct, osl, h1, h2, h3, h4⟩ := T
  have e := (PySem.W.mg_of X G h1).symm.trans hfa
  cases e
  refine ⟨PySem.W.fnOf x qual (defArgs st) (defBody st) (defScope st) .none kV doc pm an cdv ct, fun s u => .of_eq (hb kV doc pm an cdv ct [u] rfl), fun base _ _ => fn_ok (ps := [p]) ⟨⟨oc, od, .none, kV, doc, pm, an, cdv, ct, osl, rfl, h2, h3⟩⟩ Sc hl (hbody base _)⟩
end DL

set_option Elab.async false
set_option linter.all false
set_option maxRecDepth 1000000
set_option maxHeartbeats 4000000
namespace DL
open PySem PySem.Spec PyProof.Rows L2
/-! MB -/

/-! ### data without owned parts: what may be shown and compared -/
def okKeyD : Key → Bool
  | .inl i => decide (i.natAbs ≤ 10 ^ 31)
  | .inr z => PyData.strOk z
def wtKey : Key → Nat
  | .inl _ => 120
  | .inr z => z.length
mutual
def okD : Dt → Bool
  | .non => true
  | .bl _ => true
  | .int i => decide (i.natAbs ≤ 10 ^ 31)
  | .str z => PyData.strOk z
  | .tup ds => okL ds
  | .lst ds => okL ds
  | .dct kvs => okK kvs
  | .ref _ => false
  | .fn _ => false
def okL : List Dt → Bool
  | [] => true
  | d :: ds => okD d && okL ds
def okK : List (Key × Dt) → Bool
  | [] => true
  | (k, d) :: ds => okKeyD k && okD d && okK ds
end
mutual
def noDct : Dt → Bool
  | .tup ds => noDctL ds
  | .lst ds => noDctL ds
  | .dct _ => false
  | _ => true
def noDctL : List Dt → Bool
  | [] => true
  | d :: ds => noDct d && noDctL ds
end
mutual
def dpD : Dt → Nat
  | .tup ds => dpL ds + 1
  | .lst ds => dpL ds + 1
  | .dct kvs => dpK kvs + 1
  | _ => 0
def dpL : List Dt → Nat
  | [] => 0
  | d :: ds => max (dpD d) (dpL ds)
def dpK : List (Key × Dt) → Nat
  | [] => 0
  | (_, d) :: ds => max (dpD d) (dpK ds)
end
mutual
def wtD : Dt → Nat
  | .int _ => 120
  | .str z => z.length
  | .tup ds => wtL ds
  | .lst ds => wtL ds
  | .dct kvs => wtK kvs
  | _ => 0
def wtL : List Dt → Nat
  | [] => 0
  | d :: ds => wtD d + 1 + wtL ds
def wtK : List (Key × Dt) → Nat
  | [] => 0
  | (k, d) :: ds => wtKey k + wtD d + 2 + wtK ds
end
theorem int_shown_le {i : Int} (hl : i.natAbs.log2 < 120) : (PyData.int i).shown.length ≤ 121 := by
  show (Str.ofString (toString i)).length ≤ 121
  rw [PySem.ofString_length]
  exact int_text_length_le (k := 120) (by decide) hl
theorem int_leaf {i : Int} (h : i.natAbs < 2 ^ 120) : (PyData.int i).showable = true ∧ (PyData.int i).leavesShort 121 = true ∧ (PyData.int i).weight ≤ 120 := by
  have hl : i.natAbs.log2 < 120 := by
    by_cases h0 : i.natAbs = 0
    · rw [h0]; decide
    · exact (Nat.log2_lt h0).mpr h
  refine ⟨?_, ?_, ?_⟩
  · show decide _ = true
    exact decide_eq_true (by omega)
  · show decide _ = true
    exact decide_eq_true (int_shown_le hl)
  · show (if (i == 0) = true then 0 else i.natAbs.log2 + 1) ≤ 120
    split <;> omega
theorem str_leaf {z : Str} (h : PyData.strOk z = true) : (PyData.str z).leavesShort 121 = true := by
  show (z.cps.toList.all fun c => decide (c < 16 ^ 8)) = true
  rw [List.all_eq_true]
  intro c hc
  have h' : z.cps.all (· < 0x110000) = true := h
  rw [← Array.all_toList, List.all_eq_true] at h'
  have := h' c hc
  simp only [decide_eq_true_eq] at this ⊢
  omega
mutual
theorem okD_py (S : Store) : ∀ d : Dt, okD d = true → ∃ p, toPy0 d = some p ∧ toPy S d = some p ∧ p.showable = true ∧ p.leavesShort 121 = true ∧ p.depth ≤ dpD d ∧ p.weight ≤ wtD d ∧ (noDct d = true → p.canLay0 = true)
  | .non, _ => ⟨.none, rfl, rfl, rfl, rfl, Nat.le_refl _, Nat.le_refl _, fun _ => rfl⟩
  | .bl b, _ => ⟨.bool b, rfl, rfl, rfl, rfl, Nat.le_refl _, Nat.le_refl _, fun _ => rfl⟩
  | .int i, h => by
    have h' : i.natAbs < 2 ^ 120 := Nat.lt_of_le_of_lt (of_decide_eq_true h) (by decide)
    obtain ⟨a, b, c⟩ := int_leaf h'
    exact ⟨.int i, rfl, rfl, a, b, Nat.le_refl _, c, fun _ => rfl⟩
  | .str z, h => ⟨.str z, rfl, rfl, rfl, str_leaf h, Nat.le_refl _, Nat.le_refl _, fun _ => h⟩
  | .tup ds, h => by
    obtain ⟨ps, h1, h2, h3, h4, h5, h6, h7⟩ := okL_py S ds h
    refine ⟨.tuple ps, ?_, ?_, h3, h4, Nat.succ_le_succ h5, h6, h7⟩
    · show (toPys0 ds).map _ = _; rw [h1]; rfl
    · show (toPys S ds).map _ = _; rw [h2]; rfl
  | .lst ds, h => by
    obtain ⟨ps, h1, h2, h3, h4, h5, h6, h7⟩ := okL_py S ds h
    refine ⟨.list ps, ?_, ?_, h3, h4, Nat.succ_le_succ h5, h6, h7⟩
    · show (toPys0 ds).map _ = _; rw [h1]; rfl
    · show (toPys S ds).map _ = _; rw [h2]; rfl
  | .dct kvs, h => by
    obtain ⟨ps, h1, h2, h3, h4, h5, h6⟩ := okK_py S kvs h
    refine ⟨.dict ps, ?_, ?_, h3, h4, Nat.succ_le_succ h5, h6, fun z => by cases z⟩
    · show (toKvs0 kvs).map _ = _; rw [h1]; rfl
    · show (toKvs S kvs).map _ = _; rw [h2]; rfl
  | .ref _, h => by cases h
  | .fn _, h => by cases h
theorem okL_py (S : Store) : ∀ ds : List Dt, okL ds = true → ∃ ps, toPys0 ds = some ps ∧ toPys S ds = some ps ∧ PyData.showableAll ps = true ∧ PyData.leavesShortAll 121 ps = true ∧ PyData.depthAll ps ≤ dpL ds ∧ PyData.weightAll ps ≤ wtL ds ∧ (noDctL ds = true → PyData.canLayAll0 ps = true)
  | [], _ => ⟨[], rfl, rfl, rfl, rfl, Nat.le_refl _, Nat.le_refl _, fun _ => rfl⟩
  | d :: ds, h => by
    unfold okL at h
    rw [Bool.and_eq_true] at h
    obtain ⟨p, a1, a2, a3, a4, a5, a6, a7⟩ := okD_py S d h.1
    obtain ⟨ps, b1, b2, b3, b4, b5, b6, b7⟩ := okL_py S ds h.2
    refine ⟨p :: ps, ?_, ?_, ?_, ?_, ?_, ?_, ?_⟩
    · unfold toPys0; rw [a1, b1]
    · unfold toPys; rw [a2, b2]
    · unfold PyData.showableAll; rw [a3, b3]; rfl
    · unfold PyData.leavesShortAll; rw [a4, b4]; rfl
    · unfold PyData.depthAll dpL; omega
    · unfold PyData.weightAll wtL; omega
    · intro hn
      unfold noDctL at hn
      rw [Bool.and_eq_true] at hn
      unfold PyData.canLayAll0
      rw [a7 hn.1, b7 hn.2]; rfl
theorem okK_py (S : Store) : ∀ ds : List (Key × Dt), okK ds = true → ∃ ps, toKvs0 ds = some ps ∧ toKvs S ds = some ps ∧ PyData.showableKv ps = true ∧ PyData.leavesShortKv 121 ps = true ∧ PyData.depthKv ps ≤ dpK ds ∧ PyData.weightKv ps ≤ wtK ds
  | [], _ => ⟨[], rfl, rfl, rfl, rfl, Nat.le_refl _, Nat.le_refl _⟩
  | (k, d) :: ds, h => by
    unfold okK at h
    rw [Bool.and_eq_true, Bool.and_eq_true] at h
    obtain ⟨p, a1, a2, a3, a4, a5, a6, a7⟩ := okD_py S d h.1.2
    obtain ⟨ps, b1, b2, b3, b4, b5, b6⟩ := okK_py S ds h.2
    have hk : (keyP k).showable = true ∧ (keyP k).leavesShort 121 = true ∧ (keyP k).depth = 0 ∧ (keyP k).weight ≤ wtKey k := by
      cases k with
      | inl i => have h' : i.natAbs < 2 ^ 120 := Nat.lt_of_le_of_lt (of_decide_eq_true h.1.1) (by decide); obtain ⟨x, y, z⟩ := int_leaf h'; exact ⟨x, y, rfl, z⟩
      | inr z => exact ⟨rfl, str_leaf h.1.1, rfl, Nat.le_refl _⟩
    obtain ⟨k1, k2, k3, k4⟩ := hk
    refine ⟨(keyP k, p) :: ps, ?_, ?_, ?_, ?_, ?_, ?_⟩
    · unfold toKvs0; rw [a1, b1]
    · unfold toKvs; rw [a2, b2]
    · unfold PyData.showableKv; rw [k1, a3, b3]; rfl
    · unfold PyData.leavesShortKv; rw [k2, a4, b4]; rfl
    · unfold PyData.depthKv dpK; rw [k3]; omega
    · unfold PyData.weightKv wtK; omega
end
/-- what is shown of it -/
def shownD (d : Dt) : Str := match toPy0 d with
  | some p => p.shown
  | none => ""
theorem opRepr_ok {d : Dt} (S : Store) (h : okD d = true) (hd : dpD d ≤ 200) (hw : wtD d ≤ 100000) : opRepr [d] S = .ok (.str (shownD d)) S := by
  obtain ⟨p, h1, h2, h3, h4, h5, h6, _⟩ := okD_py S d h
  have hl : p.shown.length ≤ LINE := Nat.le_trans (PyData.shown_le 121 (by decide) p h4) (by
    have : (121 + 2) * p.weight ≤ 123 * 100000 := Nat.mul_le_mul_left 123 (Nat.le_trans h6 hw)
    show _ ≤ 16777216
    omega)
  have e : (p.showable && decide (p.depth ≤ 200) && decide (p.shown.length ≤ LINE)) = true := by
    rw [h3, decide_eq_true (show p.depth ≤ 200 by omega), decide_eq_true hl]; rfl
  unfold opRepr reprP
  simp only [h2, e, if_true]
  unfold shownD
  rw [h1]
mutual
theorem eqv_refl : ∀ p : PyData, p.canLay0 = true → PyData.eqv p p = true
  | .none, _ => rfl
  | .bool b, _ => by show (b == b) = true; simp
  | .int i, _ => by show (i == i) = true; simp
  | .str x, _ => by show (x == x) = true; simp
  | .list xs, h => eqvAll_refl xs h
  | .tuple xs, h => eqvAll_refl xs h
  | .dict _, h => by cases h
theorem eqvAll_refl : ∀ ps : List PyData, PyData.canLayAll0 ps = true → PyData.eqvAll ps ps = true
  | [], _ => rfl
  | p :: ps, h => by
    unfold PyData.canLayAll0 at h
    rw [Bool.and_eq_true] at h
    unfold PyData.eqvAll
    rw [eqv_refl p h.1, eqvAll_refl ps h.2]; rfl
end
/-- equal as the language has it -/
def eqD (d e : Dt) : Bool := match toPy0 d, toPy0 e with
  | some p, some q => PyData.eqv p q
  | _, _ => false
theorem noneT_eqD {d e : Dt} {b : Bool} (hd : okD d = true) (h : noneT d e = some b) : b = eqD d e := by
  unfold noneT at h
  split at h
  · rename_i ds
    cases h
    obtain ⟨ps, h1, _⟩ := okL_py [] ds hd
    unfold eqD
    have e1 : toPy0 (.tup ds) = some (.tuple ps) := by show (toPys0 ds).map _ = _; rw [h1]; rfl
    have e2 : toPy0 (.tup []) = some (.tuple []) := rfl
    rw [e1, e2]
    show _ = PyData.eqvAll ps []
    cases ds with
    | nil => cases h1; rfl
    | cons d ds =>
      unfold toPys0 at h1
      split at h1
      · cases h1; rfl
      · cases h1
  · cases h; rfl
  · rename_i ds
    cases h
    obtain ⟨ps, h1, _⟩ := okL_py [] ds hd
    unfold eqD
    have e1 : toPy0 (.lst ds) = some (.list ps) := by show (toPys0 ds).map _ = _; rw [h1]; rfl
    have e2 : toPy0 (.lst []) = some (.list []) := rfl
    rw [e1, e2]
    show _ = PyData.eqvAll ps []
    cases ds with
    | nil => cases h1; rfl
    | cons d ds =>
      unfold toPys0 at h1
      split at h1
      · cases h1; rfl
      · cases h1
  · cases h
theorem eqP_ok {d e : Dt} (S : Store) (hd : okD d = true) (he : okD e = true) (nd : noDct d = true) (ne : noDct e = true) (hp : dpD d ≤ 200) : eqP S d e = some (eqD d e) := by
  obtain ⟨p, h1, h2, _, _, h5, _, h7⟩ := okD_py S d hd
  obtain ⟨q, g1, g2, _, _, g5, _, g7⟩ := okD_py S e he
  unfold eqP eqD
  simp only [h1, g1, h2, g2]
  rw [if_pos]
  rw [h7 nd, g7 ne, decide_eq_true (show p.depth ≤ 200 by omega)]; rfl
theorem opEq_ok {d e : Dt} (S : Store) (hd : okD d = true) (he : okD e = true) (nd : noDct d = true) (ne : noDct e = true) (hp : dpD d ≤ 200) : opEq d e S = .ok (.bl (eqD d e)) S := by
  unfold opEq
  cases hn : noneT d e with
  | some b => simp only [hn]; rw [noneT_eqD hd hn]
  | none => simp only [hn, eqP_ok S hd he nd ne hp]
theorem opNe_ok {d e : Dt} (S : Store) (hd : okD d = true) (he : okD e = true) (nd : noDct d = true) (ne : noDct e = true) (hp : dpD d ≤ 200) : opNe d e S = .ok (.bl (!eqD d e)) S := by
  unfold opNe
  cases hn : noneT d e with
  | some b => simp only [hn]; rw [noneT_eqD hd hn]
  | none => simp only [hn, eqP_ok S hd he nd ne hp]
theorem eqD_refl {d : Dt} (hd : okD d = true) (nd : noDct d = true) : eqD d d = true := by
  obtain ⟨p, h1, _, _, _, _, _, h7⟩ := okD_py [] d hd
  unfold eqD
  simp only [h1]
  exact eqv_refl p (h7 nd)
theorem eqD_int (i j : Int) : eqD (.int i) (.int j) = decide (i = j) := by
  show (i == j) = _
  by_cases h : i = j <;> simp [h]
theorem eqD_str (i j : Str) : eqD (.str i) (.str j) = decide (i = j) := by
  show (i == j) = _
  by_cases h : i = j <;> simp [h]
/-- t == (), whatever stands in t -/
theorem opEq_nil (ds : List Dt) (S : Store) : opEq (.tup ds) (.tup []) S = .ok (.bl ds.isEmpty) S := rfl
theorem opNe_nil (ds : List Dt) (S : Store) : opNe (.tup ds) (.tup []) S = .ok (.bl (!ds.isEmpty)) S := rfl
theorem opEq_nilL (ds : List Dt) (S : Store) : opEq (.lst ds) (.lst []) S = .ok (.bl ds.isEmpty) S := rfl
theorem opNe_nilL (ds : List Dt) (S : Store) : opNe (.lst ds) (.lst []) S = .ok (.bl (!ds.isEmpty)) S := rfl
theorem opEq_strs (x y : Str) (S : Store) : opEq (.str x) (.str y) S = .ok (.bl (decide (x = y))) S := by
  show Out.ok (Dt.bl (x == y)) S = _
  by_cases h : x = y <;> simp [h]
theorem opNe_strs (x y : Str) (S : Store) : opNe (.str x) (.str y) S = .ok (.bl (!decide (x = y))) S := by
  show Out.ok (Dt.bl (!(x == y))) S = _
  by_cases h : x = y <;> simp [h]
/-! ME -/

/-! ### evaluation by simp -/
section
variable {α β γ : Type} {S S1 : Store} {env r : EnvD} {d e : Dt} {i : Nat} {p : Prop} [Decidable p]
@[simp] theorem bind_ok {a : α} {k : α → Store → Out β} : (Out.ok a S).bind k = k a S := rfl
@[simp] theorem bind_exc {c fs} {k : α → Store → Out β} : (Out.exc c fs S).bind k = .exc c fs S := rfl
@[simp] theorem bind_bad {k : α → Store → Out β} : (Out.bad).bind k = .bad := rfl
@[simp] theorem bind_ite {a b : Out α} {k : α → Store → Out β} : (if p then a else b).bind k = if p then a.bind k else b.bind k := by split <;> rfl
@[simp] theorem only_ok {a : α} : (Out.ok a S).only = .ok a S := rfl
@[simp] theorem only_ite {a b : Out α} : (if p then a else b).only = if p then a.only else b.only := by split <;> rfl
@[simp] theorem sOut_ok {a : γ} {k : γ → Store → SO} : sOut (.ok a S) env k = k a S := rfl
@[simp] theorem sOut_exc {c fs} {k : γ → Store → SO} : sOut (.exc c fs S) env k = .exc c fs env S := rfl
@[simp] theorem sOut_bad {k : γ → Store → SO} : sOut .bad env k = .bad := rfl
@[simp] theorem sOut_ite {a b : Out γ} {k : γ → Store → SO} : sOut (if p then a else b) env k = if p then sOut a env k else sOut b env k := by split <;> rfl
@[simp] theorem slot_0 : slot (some (.vl d) :: r) 0 = some d := rfl
@[simp] theorem slot_s {x : Option DX} : slot (x :: r) (i + 1) = slot r i := by cases x with
  | none => rfl
  | some z => cases z <;> rfl
@[simp] theorem ev_var : cVar i env S = (match slot env i with | some d => .ok d S | none => .bad) := rfl
@[simp] theorem ev_c : cC d env S = .ok d S := rfl
@[simp] theorem ev_un {op} {a : FE} : cUn op a env S = (a env S).bind op := rfl
@[simp] theorem ev_bin {op} {a b : FE} : cBin op a b env S = (a env S).bind fun x S1 => (b env S1).bind fun y S2 => op x y S2 := rfl
@[simp] theorem ev_nil : cNil env S = .ok [] S := rfl
@[simp] theorem ev_cons {a : FE} {t : FA} : cCons a t env S = (a env S).bind fun x S1 => (t env S1).bind fun xs S2 => .ok (x :: xs) S2 := rfl
@[simp] theorem ev_app {op} {a : FA} : cApp op a env S = (a env S).bind op := rfl
@[simp] theorem ev_if {c : FT} {a b : FE} : cIf c a b env S = (c env S).bind fun k S1 => if k = true then a env S1 else b env S1 := rfl
def kAnd (x : Dt) (o : Out Dt) (S : Store) : Out Dt := match x with | .bl true => o | .bl false => .ok (.bl false) S | _ => .bad
@[simp] theorem kAnd_bl {b : Bool} {o : Out Dt} : kAnd (.bl b) o S = if b = true then o else .ok (.bl false) S := by cases b <;> rfl
@[simp] theorem ev_and {a b : FE} : cAnd a b env S = (a env S).bind fun x S1 => kAnd x (b env S1) S1 := rfl
def kOr (x : Dt) (o : Out Dt) (S : Store) : Out Dt := match x with | .bl false => o | .bl true => .ok (.bl true) S | _ => .bad
@[simp] theorem kOr_bl {b : Bool} {o : Out Dt} : kOr (.bl b) o S = if b = true then .ok (.bl true) S else o := by cases b <;> rfl
@[simp] theorem ev_or {a b : FE} : cOr a b env S = (a env S).bind fun x S1 => kOr x (b env S1) S1 := rfl
@[simp] theorem opNot_bl {b : Bool} : opNot (.bl b) S = .ok (.bl (!b)) S := rfl
def kBl (x : Dt) (S : Store) : Out Bool := match x with | .bl b => .ok b S | _ => .bad
@[simp] theorem kBl_bl {b : Bool} : kBl (.bl b) S = .ok b S := rfl
@[simp] theorem ev_val {a : FE} : tVal a env S = (a env S).bind kBl := rfl
@[simp] theorem ev_tnot {a : FT} : tNot' a env S = (a env S).bind fun k S1 => .ok (!k) S1 := rfl
@[simp] theorem ev_tand {a b : FT} : tAnd' a b env S = (a env S).bind fun k S1 => if k = true then b env S1 else .ok false S1 := rfl
@[simp] theorem ev_tor {a b : FT} : tOr' a b env S = (a env S).bind fun k S1 => if k = true then .ok true S1 else b env S1 := rfl
@[simp] theorem ite_bl {x y : Bool} : (if p then Out.ok (Dt.bl x) S else .ok (Dt.bl y) S) = .ok (Dt.bl (if p then x else y)) S := by split <;> rfl
@[simp] theorem ite_bool {x y : Bool} : (if p then Out.ok x S else .ok y S) = .ok (if p then x else y) S := by split <;> rfl
@[simp] theorem ite_int {x y : Int} : (if p then Out.ok (Dt.int x) S else .ok (Dt.int y) S) = .ok (Dt.int (if p then x else y)) S := by split <;> rfl
def kIsi (cs : List String) (d : Dt) (S : Store) : Out Dt := match isiP S cs d with
  | some b => .ok (.bl b) S
  | none => .bad
@[simp] theorem ev_isi {cs} {f : FE} : cIsi cs f env S = (f env S).bind (kIsi cs) := rfl
@[simp] theorem kIsi_non {cs} : kIsi cs .non S = .ok (.bl (cs.any fun c => subTy "NoneType" c)) S := rfl
@[simp] theorem kIsi_bl {cs b} : kIsi cs (.bl b) S = .ok (.bl (cs.any fun c => subTy "bool" c)) S := rfl
@[simp] theorem kIsi_int {cs b} : kIsi cs (.int b) S = .ok (.bl (cs.any fun c => subTy "int" c)) S := rfl
@[simp] theorem kIsi_str {cs b} : kIsi cs (.str b) S = .ok (.bl (cs.any fun c => subTy "str" c)) S := rfl
@[simp] theorem kIsi_tup {cs b} : kIsi cs (.tup b) S = .ok (.bl (cs.any fun c => subTy "tuple" c)) S := rfl
@[simp] theorem kIsi_lst {cs b} : kIsi cs (.lst b) S = .ok (.bl (cs.any fun c => subTy "list" c)) S := rfl
@[simp] theorem kIsi_dct {cs b} : kIsi cs (.dct b) S = .ok (.bl (cs.any fun c => subTy "dict" c)) S := rfl
@[simp] theorem ev_chain {f g} {a b c : FE} : cChain f g a b c env S = (a env S).bind fun x S1 => (b env S1).bind fun y S2 => (f x y S2).bind fun z S3 => kAnd z ((c env S3).bind fun w S4 => g y w S4) S3 := rfl
def kSeq (o : SO) (g : FS) : SO := match o with | .nx e S1 => g e S1 | o => o
@[simp] theorem kSeq_nx {g : FS} : kSeq (.nx env S) g = g env S := rfl
@[simp] theorem kSeq_rt {g : FS} : kSeq (.rt d S) g = .rt d S := rfl
@[simp] theorem kSeq_bk {g : FS} : kSeq (.bk env S) g = .bk env S := rfl
@[simp] theorem kSeq_ct {g : FS} : kSeq (.ct env S) g = .ct env S := rfl
@[simp] theorem kSeq_exc {c fs} {g : FS} : kSeq (.exc c fs env S) g = .exc c fs env S := rfl
@[simp] theorem kSeq_ite {a b : SO} {g : FS} : kSeq (if p then a else b) g = if p then kSeq a g else kSeq b g := by split <;> rfl
@[simp] theorem ev_seq {f g : FS} : sSeq f g env S = kSeq (f env S) g := rfl
@[simp] theorem ev_next : sNext env S = .nx env S := rfl
@[simp] theorem ev_sif {c : FT} {f g : FS} : sIf c f g env S = sOut (c env S) env fun k S1 => if k = true then f env S1 else g env S1 := rfl
@[simp] theorem ev_set {a : FE} : sSet i a env S = sOut (a env S) env fun d S1 => .nx (env.set i (some (.vl d))) S1 := rfl
@[simp] theorem ev_expr {a : FE} : sExpr a env S = sOut (a env S) env fun _ S1 => .nx env S1 := rfl
@[simp] theorem ev_ret {a : FE} : sRet a env S = sOut (a env S) env fun d S1 => .rt d S1 := rfl
@[simp] theorem ev_retN : sRetN env S = .rt .non S := rfl
@[simp] theorem ev_par {i j} {a b : FE} : sPar i j a b env S = sOut (a env S) env fun d S1 => sOut (b env S1) env fun d' S2 => .nx ((env.set i (some (.vl d))).set j (some (.vl d'))) S2 := rfl
def kFn (o : SO) : Out Dt := match o with
    | .nx _ S1 => .ok .non S1
    | .rt d S1 => .ok d S1
    | .exc c fs _ S1 => .exc c fs S1
    | _ => .bad
@[simp] theorem kFn_nx : kFn (.nx env S) = .ok .non S := rfl
@[simp] theorem kFn_rt : kFn (.rt d S) = .ok d S := rfl
@[simp] theorem kFn_exc {c fs} : kFn (.exc c fs env S) = .exc c fs S := rfl
@[simp] theorem kFn_ite {a b : SO} : kFn (if p then a else b) = if p then kFn a else kFn b := by split <;> rfl
@[simp] theorem ite_rt {d e : Dt} : kFn (if p then SO.rt d S else .rt e S) = if p then .ok d S else .ok e S := by split <;> rfl
theorem fn_body {np nl : Nat} {b : FS} {ds : List Dt} (h : ds.length = np) : fnBody np nl b ds S = kFn (b (ds.map (fun d => some (DX.vl d)) ++ List.replicate nl none) S) := by
  show (if ds.length = np then kFn (b (ds.map (fun d => some (DX.vl d)) ++ List.replicate nl none) S) else .bad) = _
  rw [if_pos h]
theorem fnB0 {nl : Nat} {b : FS} : fnBody 0 nl b [] S = kFn (b (List.replicate nl none) S) := fn_body rfl
theorem fnB1 {nl : Nat} {b : FS} {x : Dt} : fnBody 1 nl b [x] S = kFn (b (some (.vl x) :: List.replicate nl none) S) := fn_body rfl
theorem fnB2 {nl : Nat} {b : FS} {x y : Dt} : fnBody 2 nl b [x, y] S = kFn (b (some (.vl x) :: some (.vl y) :: List.replicate nl none) S) := fn_body rfl
theorem fnB3 {nl : Nat} {b : FS} {x y z : Dt} : fnBody 3 nl b [x, y, z] S = kFn (b (some (.vl x) :: some (.vl y) :: some (.vl z) :: List.replicate nl none) S) := fn_body rfl
theorem fnB4 {nl : Nat} {b : FS} {x y z u : Dt} : fnBody 4 nl b [x, y, z, u] S = kFn (b (some (.vl x) :: some (.vl y) :: some (.vl z) :: some (.vl u) :: List.replicate nl none) S) := fn_body rfl
@[simp] theorem ev_call {F} {dds : List Dt} {a : FA} : cCall F dds a env S = (a env S).bind fun ds S1 => F (ds ++ dds) S1 := rfl
@[simp] theorem ev_vall {f : FA} : cVal f env S = (f env S).bind fun ys S2 => .ok (.lst ys) S2 := rfl
@[simp] theorem ev_own {f : FA} : cOwn f env S = (f env S).bind fun ys S2 => .ok (.ref S2.length) (S2 ++ [.lst ys]) := rfl
@[simp] theorem ev_for {fi : FA} {g : FG} {b : FS} : sFor fi g b env S = sOut (fi env S) env fun items S1 => forL g b items env S1 := rfl
@[simp] theorem ev_tup {f : FA} : cTup f env S = (f env S).bind okTup := rfl
@[simp] theorem ev_lst {f : FA} : cLst f env S = (f env S).bind okList := rfl
def kComp (g : FG) (ft : FT) (fe : FE) (env : EnvD) (items : List Dt) (S : Store) : Out (List Dt) := if items.length ≤ 16777216 then compL g ft fe env items [] S else .bad
@[simp] theorem ev_comp {fi : FA} {vs g ft fe} : cCompA fi vs g ft fe env S = (fi env S).bind (kComp g ft fe (wipeE (dropX env) vs)) := rfl
@[simp] theorem wipe_nil : wipeE env [] = env := rfl
@[simp] theorem wipe_cons {v vs} : wipeE env (v :: vs) = (wipeE env vs).set v none := rfl
@[simp] theorem dropX_nil : dropX [] = [] := rfl
@[simp] theorem dropX_vl : dropX (some (.vl d) :: r) = some (.vl d) :: dropX r := rfl
@[simp] theorem dropX_no : dropX (none :: r) = none :: dropX r := rfl
def kIt (x : Dt) (S : Store) : Out (List Dt) := match iterP x with
  | some ds => .ok ds S
  | none => .bad
@[simp] theorem ev_iVal {a : FE} : iVal a env S = (a env S).bind kIt := rfl
@[simp] theorem kIt_lst {ds} : kIt (.lst ds) S = .ok ds S := rfl
@[simp] theorem kIt_tup {ds} : kIt (.tup ds) S = .ok ds S := rfl
@[simp] theorem kIt_str {x} : kIt (.str x) S = .ok (charsD x) S := rfl
@[simp] theorem ev_tyes : tYesD env S = .ok true S := rfl
@[simp] theorem ev_gN : gN i d env = some (env.set i (some (.vl d))) := rfl
@[simp] theorem ev_g2 {i j : Nat} {d e : Dt} : gTupD 2 (gConsD (gN i) (gConsD (gN j) gNilD)) (.tup [d, e]) env = some ((env.set i (some (.vl d))).set j (some (.vl e))) := rfl
/-- a pure comprehension -/
theorem comp_pure {g : FG} {ft : FT} {fe : FE} (f : Dt → Dt) : ∀ (ds acc : List Dt), (∀ d ∈ ds, ∃ env1, g d env = some env1 ∧ ft env1 S = .ok true S ∧ fe env1 S = .ok (f d) S) → compL g ft fe env ds acc S = .ok (acc ++ ds.map f) S
  | [], acc, _ => by simp [compL]
  | d :: ds, acc, h => by
    obtain ⟨env1, h1, h2, h3⟩ := h d (by simp)
    simp only [compL, h1, h2, h3, only_ok, bind_ok, if_true]
    rw [comp_pure f ds (acc ++ [f d]) fun x hx => h x (by simp [hx])]
    simp
theorem comp_filter {g : FG} {ft : FT} {fe : FE} (q : Dt → Bool) (f : Dt → Dt) : ∀ (ds acc : List Dt), (∀ d ∈ ds, ∃ env1, g d env = some env1 ∧ ft env1 S = .ok (q d) S ∧ (q d = true → fe env1 S = .ok (f d) S)) → compL g ft fe env ds acc S = .ok (acc ++ (ds.filter q).map f) S
  | [], acc, _ => by simp [compL]
  | d :: ds, acc, h => by
    obtain ⟨env1, h1, h2, h3⟩ := h d (by simp)
    simp only [compL, h1, h2, only_ok, bind_ok]
    cases hq : q d with
    | true =>
      simp only [if_true, h3 hq, only_ok, bind_ok]
      rw [comp_filter q f ds (acc ++ [f d]) fun x hx => h x (by simp [hx])]
      simp [hq]
    | false =>
      simp only [Bool.false_eq_true, if_false]
      rw [comp_filter q f ds acc fun x hx => h x (by simp [hx])]
      simp [hq]
theorem kComp_pure {g : FG} {ft : FT} {fe : FE} (f : Dt → Dt) {ds : List Dt} (hl : ds.length ≤ 16777216) (h : ∀ d ∈ ds, ∃ env1, g d env = some env1 ∧ ft env1 S = .ok true S ∧ fe env1 S = .ok (f d) S) : kComp g ft fe env ds S = .ok (ds.map f) S := by
  unfold kComp
  rw [if_pos hl, comp_pure f ds [] h]
  simp
theorem kComp_filter {g : FG} {ft : FT} {fe : FE} (q : Dt → Bool) (f : Dt → Dt) {ds : List Dt} (hl : ds.length ≤ 16777216) (h : ∀ d ∈ ds, ∃ env1, g d env = some env1 ∧ ft env1 S = .ok (q d) S ∧ (q d = true → fe env1 S = .ok (f d) S)) : kComp g ft fe env ds S = .ok ((ds.filter q).map f) S := by
  unfold kComp
  rw [if_pos hl, comp_filter q f ds [] h]
  simp
/-! operators -/
@[simp] theorem opLe_int {i j : Int} : opLe (.int i) (.int j) S = .ok (.bl (decide (i ≤ j))) S := rfl
@[simp] theorem opLt_int {i j : Int} : opLt (.int i) (.int j) S = .ok (.bl (decide (i < j))) S := rfl
@[simp] theorem opGe_int {i j : Int} : opGe (.int i) (.int j) S = .ok (.bl (decide (j ≤ i))) S := rfl
@[simp] theorem opGt_int {i j : Int} : opGt (.int i) (.int j) S = .ok (.bl (decide (j < i))) S := rfl
@[simp] theorem opAdd_int {i j : Int} : opAdd (.int i) (.int j) S = .ok (.int (i + j)) S := rfl
@[simp] theorem opAdd_tup {i j : List Dt} : opAdd (.tup i) (.tup j) S = okTup (i ++ j) S := rfl
@[simp] theorem opAdd_lst {i j : List Dt} : opAdd (.lst i) (.lst j) S = okList (i ++ j) S := rfl
@[simp] theorem opSub_int {i j : Int} : opSub (.int i) (.int j) S = .ok (.int (i - j)) S := rfl
@[simp] theorem opNeg_int {i : Int} : opNeg (.int i) S = .ok (.int (-i)) S := rfl
@[simp] theorem opMax2_int {i j : Int} : opMax2 [.int i, .int j] S = .ok (.int (if j > i then j else i)) S := rfl
@[simp] theorem opMin2_int {i j : Int} : opMin2 [.int i, .int j] S = .ok (.int (if j < i then j else i)) S := rfl
@[simp] theorem opInt_int {i : Int} : opInt [.int i] S = .ok (.int i) S := rfl
@[simp] theorem opInt_bl {i : Bool} : opInt [.bl i] S = .ok (.int (if i then 1 else 0)) S := rfl
@[simp] theorem okTup_ok {ds : List Dt} (h : ds.length ≤ 16777216) : okTup ds S = .ok (.tup ds) S := if_pos h
@[simp] theorem okList_ok {ds : List Dt} (h : ds.length ≤ 16777216) : okList ds S = .ok (.lst ds) S := if_pos h
@[simp] theorem opLen_tup {ds : List Dt} : opLen [.tup ds] S = .ok (.int ds.length) S := rfl
@[simp] theorem opLen_lst {ds : List Dt} : opLen [.lst ds] S = .ok (.int ds.length) S := rfl
theorem opLen_str {z : Str} (h : z.length ≤ LINE) : opLen [.str z] S = .ok (.int z.length) S := if_pos h
@[simp] theorem opList_tup {ds : List Dt} : opList [.tup ds] S = .ok (.lst ds) S := rfl
@[simp] theorem opList_lst {ds : List Dt} : opList [.lst ds] S = .ok (.lst ds) S := rfl
@[simp] theorem opTuple_lst {ds : List Dt} : opTuple [.lst ds] S = .ok (.tup ds) S := rfl
@[simp] theorem opTuple_tup {ds : List Dt} : opTuple [.tup ds] S = .ok (.tup ds) S := rfl
theorem blsOf_map : ∀ (ds : List Dt) (f : Dt → Bool), blsOf (ds.map fun d => .bl (f d)) = some (ds.map f)
  | [], f => rfl
  | d :: ds, f => by simp [blsOf, blsOf_map ds f]
theorem intsOf_map {ι : Type} : ∀ (ds : List ι) (f : ι → Int), intsOf (ds.map fun d => .int (f d)) = some (ds.map f)
  | [], f => rfl
  | d :: ds, f => by simp [intsOf, intsOf_map ds f]
theorem opAll_map {ds : List Dt} {f : Dt → Bool} : opAll [.lst (ds.map fun d => .bl (f d))] S = .ok (.bl (ds.all f)) S := by
  unfold opAll listBls
  simp only [asList, Option.bind_some, blsOf_map]
  congr 2
  rw [List.all_map]
  rfl
@[simp] theorem opEq_int {i j : Int} : opEq (.int i) (.int j) S = .ok (.bl (decide (i = j))) S := by
  show Out.ok (Dt.bl (i == j)) S = _
  by_cases h : i = j <;> simp [h]
@[simp] theorem opNe_int {i j : Int} : opNe (.int i) (.int j) S = .ok (.bl (!decide (i = j))) S := by
  show Out.ok (Dt.bl (!(i == j))) S = _
  by_cases h : i = j <;> simp [h]
theorem opEq_str {x y : Str} (hx : PyData.strOk x = true) (hy : PyData.strOk y = true) : opEq (.str x) (.str y) S = .ok (.bl (decide (x = y))) S := by
  rw [opEq_ok S (show okD (.str x) = true from hx) (show okD (.str y) = true from hy) rfl rfl (Nat.zero_le _), eqD_str]
@[simp] theorem opEq_tnil {ds : List Dt} : opEq (.tup ds) (.tup []) S = .ok (.bl ds.isEmpty) S := rfl
@[simp] theorem opNe_tnil {ds : List Dt} : opNe (.tup ds) (.tup []) S = .ok (.bl (!ds.isEmpty)) S := rfl
def kSl (x : Dt) (l u : Option Int) (S : Store) : Out Dt := match sliceP S x l u with
  | some d => .ok d S
  | none => .bad
@[simp] theorem ev_slice {a : FE} {lo hi : FO} : cSlice a lo hi env S = (a env S).bind fun x S1 => (lo env S1).bind fun l S2 => (hi env S2).bind fun u S3 => kSl x l u S3 := rfl
@[simp] theorem kSl_tup {ds l u} : kSl (.tup ds) l u S = .ok (.tup (cutD ds l u)) S := rfl
@[simp] theorem kSl_lst {ds l u} : kSl (.lst ds) l u S = .ok (.lst (cutD ds l u)) S := rfl
@[simp] theorem ev_noPart : cNoPart env S = .ok none S := rfl
def kPart (x : Dt) (S : Store) : Out (Option Int) := match x with | .int i => .ok (some i) S | _ => .bad
@[simp] theorem kPart_int {i : Int} : kPart (.int i) S = .ok (some i) S := rfl
@[simp] theorem ev_part {f : FE} : cPart f env S = (f env S).bind kPart := rfl
@[simp] theorem ev_meth {k op} {fo : FE} {fa : FA} : cMeth k op fo fa env S = (fo env S).bind fun d S1 => if recvOk k S1 d = true then (fa env S1).bind fun ds S2 => op d ds S2 else .bad := rfl
@[simp] theorem recv_str {x : Str} : recvOk .str S (.str x) = true := rfl
@[simp] theorem recv_lst {x : List Dt} : recvOk .lst S (.lst x) = true := rfl
theorem opSplit_ok {a b : Str} (h1 : (b.length == 0) = false) (h2 : a.length + 2 ≤ LINE) : opSplit (.str a) [.str b] S = .ok (.lst ((Txt.split a b).map Dt.str)) S := if_pos ⟨h1, h2⟩
theorem cut_tail (d : Dt) (ds : List Dt) : cutD (d :: ds) (some 1) none = ds := by
  have e : HT.sIx (d :: ds).length 0 (some 1) = 1 := by
    have := HT.sIx_nat (d :: ds).length 0 1
    rw [show (1 : Int) = ((1 : Nat) : Int) from rfl, this]
    simp
  unfold cutD
  rw [e, HT.sIx_none]
  simp
end
/-! T2 -/

section
variable {S : Store}
theorem all_flat (zs : List Str) : (zs.map Dt.str).all flatD = true := by
  rw [List.all_eq_true]
  intro d hd
  obtain ⟨z, _, rfl⟩ := List.mem_map.mp hd
  rfl
theorem inV_strs (x : Str) (zs : List Str) : inV (.str x) ((zs.map Dt.str).map toV) = decide (x ∈ zs) := by
  unfold inV
  rw [List.map_map, List.any_map]
  induction zs with
  | nil => rfl
  | cons z zs ih =>
    rw [List.any_cons, ih]
    show ((z == x) || _) = _
    by_cases h : z = x
    · subst h; simp
    · have h' : x ≠ z := fun e => h e.symm
      simp [h, h']
theorem opIn_tstrs {x : Str} {zs : List Str} : opIn (.str x) (.tup (zs.map Dt.str)) S = .ok (.bl (decide (x ∈ zs))) S := by
  have e : inP S (.str x) (.tup (zs.map Dt.str)) = some (decide (x ∈ zs)) := by
    show (if flatD (.str x) && (zs.map Dt.str).all flatD then some (inV (toV (.str x)) ((zs.map Dt.str).map toV)) else none) = _
    rw [all_flat, ← inV_strs]
    rfl
  unfold opIn
  rw [e]
theorem opIn_lstrs {x : Str} {zs : List Str} : opIn (.str x) (.lst (zs.map Dt.str)) S = .ok (.bl (decide (x ∈ zs))) S := by
  have e : inP S (.str x) (.lst (zs.map Dt.str)) = some (decide (x ∈ zs)) := by
    show (if flatD (.str x) && (zs.map Dt.str).all flatD then some (inV (toV (.str x)) ((zs.map Dt.str).map toV)) else none) = _
    rw [all_flat, ← inV_strs]
    rfl
  unfold opIn
  rw [e]
theorem opIn_char {c : Nat} {y : Str} : opIn (.str ⟨#[c]⟩) (.str y) S = .ok (.bl (decide (c ∈ y.cps.toList))) S := rfl
theorem opEq_lnil {ds : List Dt} (h : okL ds = true) (hn : noDctL ds = true) (hd : dpL ds ≤ 199) : opEq (.lst ds) (.lst []) S = .ok (.bl ds.isEmpty) S := by
  rw [opEq_ok S (show okD (.lst ds) = true from h) rfl (show noDct (.lst ds) = true from hn) rfl (Nat.succ_le_succ hd)]
  obtain ⟨ps, h1, _⟩ := okL_py [] ds h
  have e1 : toPy0 (.lst ds) = some (.list ps) := by show (toPys0 ds).map _ = _; rw [h1]; rfl
  have e : eqD (.lst ds) (.lst []) = ds.isEmpty := by
    unfold eqD
    rw [e1, show toPy0 (.lst []) = some (.list []) from rfl]
    show PyData.eqvAll ps [] = _
    cases ds with
    | nil => cases h1; rfl
    | cons d ds =>
      unfold toPys0 at h1
      split at h1
      · cases h1; rfl
      · cases h1
  rw [e]
theorem okL_all : ∀ ds : List Dt, okL ds = ds.all okD
  | [] => rfl
  | d :: ds => by unfold okL; rw [okL_all ds]; rfl
theorem noDctL_all : ∀ ds : List Dt, noDctL ds = ds.all noDct
  | [] => rfl
  | d :: ds => by unfold noDctL; rw [noDctL_all ds]; rfl
theorem dpL_le {n : Nat} : ∀ ds : List Dt, (∀ d ∈ ds, dpD d ≤ n) → dpL ds ≤ n
  | [], _ => Nat.zero_le _
  | d :: ds, h => by
    unfold dpL
    exact Nat.max_le.mpr ⟨h d (by simp), dpL_le ds fun x hx => h x (by simp [hx])⟩
theorem dpL_mem : ∀ {ds : List Dt} {d : Dt}, d ∈ ds → dpD d ≤ dpL ds
  | e :: ds, d, h => by
    unfold dpL
    rcases List.mem_cons.mp h with rfl | h
    · exact Nat.le_max_left _ _
    · exact Nat.le_trans (dpL_mem h) (Nat.le_max_right _ _)
theorem char_ok {z : Str} (h : PyData.strOk z = true) {d : Dt} (hd : d ∈ charsD z) : ∃ c, c ∈ z.cps.toList ∧ d = .str ⟨#[c]⟩ ∧ PyData.strOk ⟨#[c]⟩ = true := by
  obtain ⟨c, hc, rfl⟩ := List.mem_map.mp hd
  refine ⟨c, hc, rfl, ?_⟩
  have h' : z.cps.all (· < 0x110000) = true := h
  rw [← Array.all_toList, List.all_eq_true] at h'
  have := h' c hc
  show (#[c] : Array Nat).all (· < 0x110000) = true
  simpa using this
theorem charsD_len (z : Str) : (charsD z).length = z.length := by
  unfold charsD
  rw [List.length_map]
  rfl
theorem opLe_char {a c : Nat} : opLe (.str ⟨#[a]⟩) (.str ⟨#[c]⟩) S = .ok (.bl (decide (a ≤ c))) S := by
  show Out.ok (Dt.bl (!decide ([c] < [a]))) S = _
  congr 2
  rw [← decide_not]
  congr 1
  simp [List.cons_lt_cons_iff]
end
/-! T3 -/

section
variable {S : Store}
theorem atI_nat {α : Type} (xs : List α) (j : Nat) : atI xs (j : Int) = xs[j]? := by
  unfold atI ixN
  rw [if_pos (by omega)]
  by_cases h : (j : Int) < (xs.length : Int)
  · rw [if_pos h]; simp
  · rw [if_neg h]; simp; omega
theorem opIx_tup {ds : List Dt} {j : Nat} {d : Dt} (h : ds[j]? = some d) : opIx (.tup ds) (.int (j : Int)) S = .ok d S := by
  have e : atP S (.tup ds) (.int (j : Int)) = atI ds j := rfl
  unfold opIx
  rw [e, atI_nat, h]
theorem opIx_lst {ds : List Dt} {j : Nat} {d : Dt} (h : ds[j]? = some d) : opIx (.lst ds) (.int (j : Int)) S = .ok d S := by
  have e : atP S (.lst ds) (.int (j : Int)) = atI ds j := rfl
  unfold opIx
  rw [e, atI_nat, h]
@[simp] theorem opIx_tup0 {ds : List Dt} {d : Dt} : opIx (.tup (d :: ds)) (.int 0) S = .ok d S := opIx_tup (j := 0) rfl
@[simp] theorem opIx_tup1 {ds : List Dt} {d e : Dt} : opIx (.tup (d :: e :: ds)) (.int 1) S = .ok e S := opIx_tup (j := 1) rfl
theorem opIn_dct {x : Str} {kvs : List (Key × Dt)} : opIn (.str x) (.dct kvs) S = .ok (.bl (lookD kvs (.inr x)).isSome) S := rfl
theorem opNotIn_dct {x : Str} {kvs : List (Key × Dt)} : opNotIn (.str x) (.dct kvs) S = .ok (.bl (!(lookD kvs (.inr x)).isSome)) S := rfl
theorem opIx_dct {x : Str} {kvs : List (Key × Dt)} {v : Dt} (h : lookD kvs (.inr x) = some v) : opIx (.dct kvs) (.str x) S = .ok v S := by
  have e : atP S (.dct kvs) (.str x) = lookD kvs (.inr x) := rfl
  unfold opIx
  rw [e, h]
theorem chr_eq (c a : Nat) : ((⟨#[c]⟩ : Str) = ⟨#[a]⟩) ↔ c = a := by simp
theorem chr_ok {c : Nat} (h : c < 1114112) : PyData.strOk ⟨#[c]⟩ = true := by
  show (#[c] : Array Nat).all (· < 0x110000) = true
  simpa using h
theorem opEq_chr {c a : Nat} (hc : c < 1114112) (ha : a < 1114112) : opEq (.str ⟨#[c]⟩) (.str ⟨#[a]⟩) S = .ok (.bl (decide (c = a))) S := by
  rw [opEq_str (chr_ok hc) (chr_ok ha)]
  simp
def kZip (ds : List Dt) (S : Store) : Out (List Dt) := match ds with
  | [d, e] => (match iterP d, iterP e with
    | some xs, some ys => .ok (zipD xs ys) S
    | _, _ => .bad)
  | _ => .bad
@[simp] theorem ev_zip {a : FA} {env : EnvD} : iZipD a env S = (a env S).bind kZip := rfl
@[simp] theorem kZip_st {x : Str} {ds : List Dt} : kZip [.str x, .tup ds] S = .ok (zipD (charsD x) ds) S := rfl
end
/-! T4 -/

section
variable {S : Store} {env : EnvD}
def Cl (S : Store) : Prop := S.all (closedM S.length) = true
def kItems (d : Dt) (S : Store) : Out (List Dt) := match itemsP S d with
  | some kvs => .ok (itemsD kvs) S
  | none => .bad
@[simp] theorem ev_items {f : FE} : cItemsA f env S = (f env S).bind kItems := rfl
theorem kItems_ok {n : Nat} {kvs : List (Key × Dt)} (h : S[n]? = some (.dct kvs)) : kItems (.ref n) S = .ok (itemsD kvs) S := by
  unfold kItems itemsP asDict
  simp only [h]
@[simp] theorem ev_kOwn {f : FK} : kOwn f env S = (f env S).bind fun ys S2 => .ok (.ref S2.length) (S2 ++ [.dct ys]) := rfl
@[simp] theorem ev_kVal {f : FK} : kVal f env S = (f env S).bind fun ys S2 => .ok (.dct ys) S2 := rfl
theorem trimO_c {n : Nat} {d : Dt} (h1 : closedD n d = true) (h2 : (S.take n).all (closedM n) = true) : trimO n (.ok d S) = .ok d (S.take n) := by
  have h : (closedD n d && (S.take n).all (closedM n)) = true := by rw [h1, h2]; rfl
  exact if_pos h
theorem trimO_r {n m : Nat} {mo : MO} (hm : n ≤ m) (hs : S[m]? = some mo) (h1 : closedM n mo = true) (h2 : (S.take n).all (closedM n) = true) : trimO n (.ok (.ref m) S) = .ok (.ref n) (S.take n ++ [mo]) := by
  have h : ¬ (closedD n (.ref m) && (S.take n).all (closedM n)) = true := by
    have : closedD n (.ref m) = false := decide_eq_false (by omega)
    rw [this]; simp
  have e : trimO n (.ok (.ref m) S) = (match retR n (.ref m) S with | some S2 => .ok (.ref n) S2 | none => .ok (.ref m) S) := if_neg h
  rw [e]
  have e2 : retR n (.ref m) S = some (S.take n ++ [mo]) := by
    unfold retR
    simp only [hs, decide_eq_true hm, h1, h2, Bool.and_self, if_true]
  rw [e2]
theorem trim_ok {F : List Dt → Store → Out Dt} {ds : List Dt} {d : Dt} {T : Store} (h : F ds S = .ok d (S ++ T)) (hd : closedD S.length d = true) (hc : Cl S) : trimF F ds S = .ok d S := by
  have e : (S ++ T).take S.length = S := by simp
  show trimO S.length (F ds S) = _
  rw [h, trimO_c hd (by rw [e]; exact hc), e]
theorem merge_app : ∀ (more acc : List (Key × Dt)), ((acc ++ more).map (·.1)).Nodup → mergeD acc more = acc ++ more
  | [], acc, _ => by simp [mergeD]
  | kv :: more, acc, h => by
    have hn : (acc.any fun p => decide (p.1 = kv.1)) = false := by
      rw [List.any_eq_false]
      intro p hp e
      rw [List.map_append, List.nodup_append] at h
      exact h.2.2 p.1 (List.mem_map_of_mem hp) kv.1 (by simp) (by simpa using e)
    have e : putD acc kv.1 kv.2 = acc ++ [kv] := by
      unfold putD
      rw [hn]
      rfl
    show mergeD (putD acc kv.1 kv.2) more = _
    rw [e, merge_app more (acc ++ [kv]) (by simpa using h)]
    simp
theorem merge_nil {kvs : List (Key × Dt)} (h : (kvs.map (·.1)).Nodup) : mergeD [] kvs = kvs := merge_app kvs [] h
end
/-! T5 -/

section
variable {S : Store} {env env1 : EnvD} {d : Dt} {p : Prop} [Decidable p]
def kLoop (o : SO) (k : FS) : SO := match o with
      | .nx e S1 => k e S1
      | .ct e S1 => k e S1
      | .bk e S1 => .nx e S1
      | .rt d S1 => .rt d S1
      | .exc c fs e S1 => .exc c fs e S1
      | .bad => .bad
@[simp] theorem kLoop_nx {k : FS} : kLoop (.nx env S) k = k env S := rfl
@[simp] theorem kLoop_ct {k : FS} : kLoop (.ct env S) k = k env S := rfl
@[simp] theorem kLoop_bk {k : FS} : kLoop (.bk env S) k = .nx env S := rfl
@[simp] theorem kLoop_rt {k : FS} : kLoop (.rt d S) k = .rt d S := rfl
@[simp] theorem kLoop_exc {c fs} {k : FS} : kLoop (.exc c fs env S) k = .exc c fs env S := rfl
@[simp] theorem kLoop_ite {a b : SO} {k : FS} : kLoop (if p then a else b) k = if p then kLoop a k else kLoop b k := by split <;> rfl
@[simp] theorem forL_nil {g : FG} {b : FS} : forL g b [] env S = .nx env S := rfl
theorem forL_cons {g : FG} {b : FS} {ds : List Dt} (h : g d env = some env1) : forL g b (d :: ds) env S = kLoop (b env1 S) (forL g b ds) := by
  conv => lhs; unfold forL
  simp only [h]
  rfl
end
/-! T7 -/

section
variable {S S' S'' : Store} {n : Nat}
theorem opIx_ref {ds : List Dt} {j : Nat} {d : Dt} (h : S[n]? = some (.lst ds)) (hj : ds[j]? = some d) : opIx (.ref n) (.int (j : Int)) S = .ok d S := by
  have e0 : asSeq S (.ref n) = some ds := by unfold asSeq asList; simp only [h]
  have e : atP S (.ref n) (.int (j : Int)) = atI ds j := by unfold atP; simp only [e0]
  unfold opIx
  rw [e, atI_nat, hj]
theorem opIx_ref0 {a b c : Dt} (h : S[n]? = some (.lst [a, b, c])) : opIx (.ref n) (.int 0) S = .ok a S := opIx_ref (j := 0) h rfl
theorem opIx_ref1 {a b c : Dt} (h : S[n]? = some (.lst [a, b, c])) : opIx (.ref n) (.int 1) S = .ok b S := opIx_ref (j := 1) h rfl
theorem opIx_ref2 {a b c : Dt} (h : S[n]? = some (.lst [a, b, c])) : opIx (.ref n) (.int 2) S = .ok c S := opIx_ref (j := 2) h rfl
/-- only the cell n has changed -/
def Fr (n : Nat) (S S' : Store) : Prop := S'.length = S.length ∧ ∀ j, j ≠ n → S'[j]? = S[j]?
theorem Fr.refl : Fr n S S := ⟨rfl, fun _ _ => rfl⟩
theorem Fr.trans (a : Fr n S S') (b : Fr n S' S'') : Fr n S S'' := ⟨b.1.trans a.1, fun j h => (b.2 j h).trans (a.2 j h)⟩
theorem Fr.set (n : Nat) (S : Store) (mo : MO) : Fr n S (S.set n mo) := ⟨by simp, fun j h => by rw [List.getElem?_set_ne]; exact fun e => h e.symm⟩
theorem Cl.set {mo : MO} (h : DL.Cl S) (hm : closedM S.length mo = true) : DL.Cl (S.set n mo) := by
  have h' : S.all (closedM S.length) = true := h
  show (S.set n mo).all (closedM (S.set n mo).length) = true
  rw [List.length_set, List.all_eq_true]
  intro x hx
  rcases List.mem_or_eq_of_mem_set hx with h1 | rfl
  · exact List.all_eq_true.mp h' x h1
  · exact hm
/-- the cell n is a purse that has been asked k times at most -/
structure PuI (S : Store) (n : Nat) (k : Int) : Prop where
  cl : DL.Cl S
  pu : ∃ a b c : Int, S[n]? = some (.lst [.int a, .int b, .int c]) ∧ 0 ≤ a ∧ 0 ≤ b ∧ b < 2147483629 ∧ 0 ≤ c ∧ c ≤ k
theorem PuI.mono {k k' : Int} (h : PuI S n k) (hk : k ≤ k') : PuI S n k' := ⟨h.cl, let ⟨a, b, c, h1, h2, h3, h4, h5, h6⟩ := h.pu; ⟨a, b, c, h1, h2, h3, h4, h5, by omega⟩⟩
def kSetIx (o i v : Dt) (env : EnvD) (S : Store) : SO := match opSet o i v S with
  | some S4 => .nx env S4
  | none => .bad
@[simp] theorem ev_setIx {fv fo fi : FE} {env : EnvD} : sSetIx fv fo fi env S = sOut (fv env S) env fun v S1 => sOut (fo env S1) env fun o S2 => sOut (fi env S2) env fun i S3 => kSetIx o i v env S3 := rfl
theorem opPow_ok {i : Int} {j : Nat} (h1 : j ≤ 1000000) (h2 : i.natAbs < 2 ^ 64) : opPow (.int i) (.int (j : Int)) S = .ok (.int (i ^ j)) S := by
  show (if 0 ≤ (j : Int) ∧ (j : Int) ≤ 1000000 ∧ i.natAbs < 2 ^ 64 then Out.ok (Dt.int (i ^ (j : Int).toNat)) S else .bad) = _
  rw [if_pos ⟨by omega, by omega, h2⟩, Int.toNat_natCast]
theorem opMul_ok {i j : Int} (h1 : -(2 ^ 64) < i) (h2 : i < 2 ^ 64) : opMul (.int i) (.int j) S = .ok (.int (i * j)) S := if_pos ⟨h1, h2⟩
theorem opMod_ok {i j : Int} (h : 0 < j) : opMod (.int i) (.int j) S = .ok (.int (i % j)) S := if_pos h
theorem opFdiv_ok {i j : Int} (h : 0 < j) (h2 : j < 2 ^ 64) : opFdiv (.int i) (.int j) S = .ok (.int (i / j)) S := if_pos ⟨h, h2⟩
end
/-! T8 -/

section
variable {S : Store} {n : Nat}
theorem kSetIx_ref {ds : List Dt} {j : Nat} {v : Dt} {env : EnvD} (h : S[n]? = some (.lst ds)) (hj : j < ds.length) : kSetIx (.ref n) (.int (j : Int)) v env S = .nx env (S.set n (.lst (ds.set j v))) := by
  have e : opSet (.ref n) (.int (j : Int)) v S = some (S.set n (.lst (ds.set j v))) := by
    unfold opSet
    simp only [h]
    unfold ixN
    rw [if_pos (by omega), if_pos (by omega)]
    simp
  unfold kSetIx
  rw [e]
theorem set_get {mo mo' : MO} (h : S[n]? = some mo) : (S.set n mo')[n]? = some mo' := by
  rw [List.getElem?_set_self]
  exact (List.getElem?_eq_some_iff.mp h).1
end
/-! T9 -/

section
variable {env : EnvD}
theorem comp_eff {g : FG} {ft : FT} {fe : FE} (N : Nat) (I : Nat → Store → Prop) (Q : Dt → Prop) : ∀ (ds acc : List Dt) (i : Nat) (S : Store), i + ds.length ≤ N → (∀ d ∈ ds, ∀ i S, i < N → I i S → ∃ env1 y S', g d env = some env1 ∧ ft env1 S = .ok true S ∧ fe env1 S = .ok y S' ∧ Q y ∧ I (i + 1) S') → I i S →
    ∃ ys S', compL g ft fe env ds acc S = .ok (acc ++ ys) S' ∧ ys.length = ds.length ∧ (∀ y ∈ ys, Q y) ∧ I (i + ds.length) S'
  | [], acc, i, S, _, _, h => ⟨[], S, by simp [compL], rfl, by simp, h⟩
  | d :: ds, acc, i, S, hN, hs, h => by
    rw [List.length_cons] at hN
    obtain ⟨env1, y, S1, h1, h2, h3, h4, h5⟩ := hs d (by simp) i S (by omega) h
    obtain ⟨ys, S2, k1, k2, k3, k4⟩ := comp_eff N I Q ds (acc ++ [y]) (i + 1) S1 (by omega) (fun d hd => hs d (by simp [hd])) h5
    refine ⟨y :: ys, S2, ?_, by simp [k2], ?_, ?_⟩
    · simp only [compL, h1, h2, h3, only_ok, bind_ok, if_true]
      rw [k1]
      simp
    · intro z hz
      rcases List.mem_cons.mp hz with rfl | hz
      · exact h4
      · exact k3 z hz
    · rw [List.length_cons, show i + (ds.length + 1) = i + 1 + ds.length by omega]; exact k4
theorem forL_inv {g : FG} {b : FS} (N : Nat) (I : Nat → EnvD → Store → Prop) : ∀ (ds : List Dt) (i : Nat) (env : EnvD) (S : Store), i + ds.length ≤ N → (∀ d ∈ ds, ∀ i env S, i < N → I i env S → ∃ env1 env' S', g d env = some env1 ∧ b env1 S = .nx env' S' ∧ I (i + 1) env' S') → I i env S →
    ∃ env' S', forL g b ds env S = .nx env' S' ∧ I (i + ds.length) env' S'
  | [], i, env, S, _, _, h => ⟨env, S, rfl, h⟩
  | d :: ds, i, env, S, hN, hs, h => by
    rw [List.length_cons] at hN
    obtain ⟨env1, env2, S1, h1, h2, h3⟩ := hs d (by simp) i env S (by omega) h
    obtain ⟨env3, S3, k1, k2⟩ := forL_inv N I ds (i + 1) env2 S1 (by omega) (fun d hd => hs d (by simp [hd])) h3
    refine ⟨env3, S3, ?_, ?_⟩
    · rw [forL_cons h1, h2, kLoop_nx, k1]
    · rw [List.length_cons, show i + (ds.length + 1) = i + 1 + ds.length by omega]; exact k2
theorem rangeD_len (lo : Int) (n : Nat) : (rangeD lo n).length = n := by simp [rangeD]
def kRange1 (ds : List Dt) (S : Store) : Out (List Dt) := match ds with
  | [.int j] => if -(2 ^ 62) ≤ j ∧ j < 2 ^ 62 then .ok (rangeD 0 j.toNat) S else .bad
  | _ => .bad
@[simp] theorem ev_range1 {a : FA} {S : Store} : iRange1 a env S = (a env S).bind kRange1 := rfl
theorem kRange1_ok {j : Int} {S : Store} (h0 : 0 ≤ j) (h : j < 2 ^ 62) : kRange1 [.int j] S = .ok (rangeD 0 j.toNat) S := if_pos ⟨by omega, h⟩
end
/-! T10 -/

theorem joinL_chars : ∀ cs : List Nat, TL.joinL [] (cs.map fun c => [c]) = cs
  | [] => rfl
  | [c] => rfl
  | c :: e :: cs => by
    have := joinL_chars (e :: cs)
    simp only [List.map_cons] at this ⊢
    simp only [TL.joinL, List.nil_append, List.singleton_append]
    rw [this]
theorem strsOf_map : ∀ zs : List Str, strsOf (zs.map Dt.str) = some zs
  | [] => rfl
  | z :: zs => by
    simp only [List.map_cons, strsOf, strsOf_map zs, Option.map_some]
theorem opJoin_chars {cs : List Nat} {S : Store} (h : cs.length ≤ 1000) : opJoin (.str "") [.lst (cs.map fun c => .str ⟨#[c]⟩)] S = .ok (.str ⟨cs.toArray⟩) S := by
  have e1 : (asSeq S (.lst (cs.map fun c => .str ⟨#[c]⟩))).bind strsOf = some (cs.map fun c => (⟨#[c]⟩ : Str)) := by
    show strsOf (cs.map fun c => .str ⟨#[c]⟩) = _
    have := strsOf_map (cs.map fun c => (⟨#[c]⟩ : Str))
    rwa [List.map_map] at this
  have e2 : Txt.join ("" : Str) (cs.map fun c => (⟨#[c]⟩ : Str)) = ⟨cs.toArray⟩ := by
    have := SX.join_S [] (cs.map fun c => [c])
    rw [joinL_chars, List.map_map] at this
    exact this
  have e3 : ((cs.map fun c => (⟨#[c]⟩ : Str)).map (·.length)).sum + (cs.map fun c => (⟨#[c]⟩ : Str)).length * ("" : Str).length ≤ 16777216 := by
    have : ∀ cs : List Nat, ((cs.map fun c => (⟨#[c]⟩ : Str)).map (·.length)).sum = cs.length := by
      intro cs
      induction cs with
      | nil => rfl
      | cons c cs ih =>
        simp only [List.map_cons, List.sum_cons, ih, List.length_cons]
        show 1 + _ = _
        omega
    rw [this]
    show cs.length + _ * 0 ≤ _
    omega
  unfold opJoin
  simp only [e1, e3, if_true, e2]
theorem opIx_str {z : Str} {j : Nat} {c : Nat} {S : Store} (hz : z.length ≤ LINE) (h : z.cps.toList[j]? = some c) : opIx (.str z) (.int (j : Int)) S = .ok (.str ⟨#[c]⟩) S := by
  have e : atP S (.str z) (.int (j : Int)) = some (.str ⟨#[c]⟩) := by
    show (if z.length ≤ LINE then (atI z.cps.toList (j : Int)).map fun c => Dt.str ⟨#[c]⟩ else none) = _
    rw [if_pos hz, atI_nat, h]
    rfl
  unfold opIx
  rw [e]
/-! T14 -/

section
mutual
theorem closedD_mono {m n : Nat} (h : m ≤ n) : ∀ d : Dt, closedD m d = true → closedD n d = true
  | .tup ds, e => closedL_mono h ds e
  | .lst ds, e => closedL_mono h ds e
  | .dct ds, e => closedK_mono h ds e
  | .ref k, e => decide_eq_true (Nat.lt_of_lt_of_le (of_decide_eq_true e) h)
  | .non, _ | .bl _, _ | .int _, _ | .str _, _ | .fn _, _ => rfl
theorem closedL_mono {m n : Nat} (h : m ≤ n) : ∀ ds : List Dt, closedL m ds = true → closedL n ds = true
  | [], _ => rfl
  | d :: ds, e => by
    unfold closedL at e ⊢
    rw [Bool.and_eq_true] at e ⊢
    exact ⟨closedD_mono h d e.1, closedL_mono h ds e.2⟩
theorem closedK_mono {m n : Nat} (h : m ≤ n) : ∀ ds : List (Key × Dt), closedK m ds = true → closedK n ds = true
  | [], _ => rfl
  | (_, d) :: ds, e => by
    unfold closedK at e ⊢
    rw [Bool.and_eq_true] at e ⊢
    exact ⟨closedD_mono h d e.1, closedK_mono h ds e.2⟩
end
theorem closedM_mono {m n : Nat} (h : m ≤ n) : ∀ mo : MO, closedM m mo = true → closedM n mo = true
  | .gone, _ => rfl
  | .lst ds, e => closedL_mono h ds e
  | .dct ds, e => closedK_mono h ds e
variable {S S' : Store} {n : Nat} {k : Int}
theorem PuI.lt (h : PuI S n k) : n < S.length := by
  obtain ⟨a, b, c, h1, _⟩ := h.pu
  exact (List.getElem?_eq_some_iff.mp h1).1
theorem PuI.push {mo : MO} (h : PuI S n k) (hm : closedM (S.length + 1) mo = true) : PuI (S ++ [mo]) n k := by
  refine ⟨?_, ?_⟩
  · have h' : S.all (closedM S.length) = true := h.cl
    show (S ++ [mo]).all (closedM (S ++ [mo]).length) = true
    rw [List.length_append, List.all_append, Bool.and_eq_true]
    refine ⟨List.all_eq_true.mpr fun x hx => closedM_mono (by omega) x (List.all_eq_true.mp h' x hx), ?_⟩
    simpa using hm
  · obtain ⟨a, b, c, h1, h2⟩ := h.pu
    exact ⟨a, b, c, by rw [List.getElem?_append_left h.lt]; exact h1, h2⟩
theorem Fr.set_eq {mo : MO} (f : Fr n S S') (h : S'[n]? = some mo) : S' = S.set n mo := by
  apply List.ext_getElem?
  intro j
  by_cases hj : j = n
  · subst hj
    have := (List.getElem?_eq_some_iff.mp h).1
    rw [h, List.getElem?_set_self (by rw [← f.1]; exact this)]
  · rw [f.2 j hj, List.getElem?_set_ne fun e => hj e.symm]
theorem PuI.split {S0 : Store} {mo : MO} (h : PuI S' n k) (f : Fr n (S0 ++ [mo]) S') (hn : n < S0.length) (hc : DL.Cl S0) : ∃ S1, S' = S1 ++ [mo] ∧ PuI S1 n k ∧ Fr n S0 S1 := by
  obtain ⟨a, b, c, h1, h2⟩ := h.pu
  have e := f.set_eq h1
  rw [List.set_append_left _ _ hn] at e
  exact ⟨_, e, ⟨hc.set rfl, a, b, c, by rw [List.getElem?_set_self hn], h2⟩, Fr.set n S0 _⟩
end
/-! T15 -/

theorem app_ok {S0 S1 : Store} {ds : List Dt} {y : Dt} {env : EnvD} {i : Nat} {fe : FE} (he : fe env (S0 ++ [.lst ds]) = .ok y (S1 ++ [.lst ds])) (hl : S1.length = S0.length) (hv : slot env i = some (.ref S0.length)) (hd : ds.length < LINE) :
    sExpr (cMeth .lst opAppend (cVar i) (cCons fe cNil)) env (S0 ++ [.lst ds]) = .nx env (S1 ++ [.lst (ds ++ [y])]) := by
  have g0 : (S0 ++ [MO.lst ds])[S0.length]? = some (.lst ds) := by simp
  have r : recvOk .lst (S0 ++ [MO.lst ds]) (.ref S0.length) = true := by
    show (asList (S0 ++ [MO.lst ds]) (.ref S0.length)).isSome = true
    unfold asList
    simp only [g0]
    rfl
  have a : opAppend (.ref S0.length) [y] (S1 ++ [MO.lst ds]) = .ok .non (S1 ++ [.lst (ds ++ [y])]) := by
    have g1 : (S1 ++ [MO.lst ds])[S0.length]? = some (.lst ds) := by rw [← hl]; simp
    unfold opAppend
    simp only [g1, hd, if_true]
    rw [← hl, List.set_append_right _ _ (Nat.le_refl _)]
    simp
  simp only [ev_expr, ev_meth, ev_var, hv, bind_ok, r, if_true, ev_cons, ev_nil, he, a, sOut_ok]
theorem if_test {S : Store} {env : EnvD} {i : Nat} {c L : Dt} {b : Bool} {f : FS} (hv : slot env i = some c) (he : ∀ S, opEq c L S = .ok (.bl b) S) : sIf (tVal (cBin opEq (cVar i) (cC L))) f sNext env S = if b = true then f env S else .nx env S := by
  simp only [ev_sif, ev_val, ev_bin, ev_var, hv, ev_c, bind_ok, he, kBl_bl, sOut_ok, ev_next]
/-! MC -/

/-! evaluation goes from the front: what comes behind has a name, and is left alone -/
section
variable {α β γ : Type} {S S1 S2 : Store} {env : EnvD} {d e x y z : Dt} {i j : Nat}
def kBin2 (op : Dt → Dt → Store → Out Dt) (x y : Dt) (S : Store) : Out Dt := op x y S
def kBin1 (op : Dt → Dt → Store → Out Dt) (b : FE) (env : EnvD) (x : Dt) (S : Store) : Out Dt := (b env S).bind (kBin2 op x)
@[simp high] theorem nv_bin {op} {a b : FE} : cBin op a b env S = (a env S).bind (kBin1 op b env) := rfl
@[simp] theorem kBin1_at {op} {b : FE} : kBin1 op b env x S = (b env S).bind (kBin2 op x) := rfl
@[simp] theorem kBin2_at {op} : kBin2 op x y S = op x y S := rfl
def kCons2 (x : Dt) (xs : List Dt) (S : Store) : Out (List Dt) := .ok (x :: xs) S
def kCons1 (t : FA) (env : EnvD) (x : Dt) (S : Store) : Out (List Dt) := (t env S).bind (kCons2 x)
@[simp high] theorem nv_cons {a : FE} {t : FA} : cCons a t env S = (a env S).bind (kCons1 t env) := rfl
@[simp] theorem kCons1_at {t : FA} : kCons1 t env x S = (t env S).bind (kCons2 x) := rfl
@[simp] theorem kCons2_at {xs : List Dt} : kCons2 x xs S = .ok (x :: xs) S := rfl
def kIf (a b : FE) (env : EnvD) (k : Bool) (S : Store) : Out Dt := if k = true then a env S else b env S
@[simp high] theorem nv_if {c : FT} {a b : FE} : cIf c a b env S = (c env S).bind (kIf a b env) := rfl
@[simp] theorem kIf_t {a b : FE} : kIf a b env true S = a env S := rfl
@[simp] theorem kIf_f {a b : FE} : kIf a b env false S = b env S := rfl
theorem kIf_at {a b : FE} {k : Bool} : kIf a b env k S = if k = true then a env S else b env S := rfl
def kAnd1 (b : FE) (env : EnvD) (x : Dt) (S : Store) : Out Dt := match x with | .bl true => b env S | .bl false => .ok (.bl false) S | _ => .bad
@[simp high] theorem nv_and {a b : FE} : cAnd a b env S = (a env S).bind (kAnd1 b env) := rfl
@[simp] theorem kAnd1_t {b : FE} : kAnd1 b env (.bl true) S = b env S := rfl
@[simp] theorem kAnd1_f {b : FE} : kAnd1 b env (.bl false) S = .ok (.bl false) S := rfl
theorem kAnd1_at {b : FE} {k : Bool} : kAnd1 b env (.bl k) S = if k = true then b env S else .ok (.bl false) S := by cases k <;> rfl
def kOr1 (b : FE) (env : EnvD) (x : Dt) (S : Store) : Out Dt := match x with | .bl false => b env S | .bl true => .ok (.bl true) S | _ => .bad
@[simp high] theorem nv_or {a b : FE} : cOr a b env S = (a env S).bind (kOr1 b env) := rfl
@[simp] theorem kOr1_t {b : FE} : kOr1 b env (.bl true) S = .ok (.bl true) S := rfl
@[simp] theorem kOr1_f {b : FE} : kOr1 b env (.bl false) S = b env S := rfl
theorem kOr1_at {b : FE} {k : Bool} : kOr1 b env (.bl k) S = if k = true then .ok (.bl true) S else b env S := by cases k <;> rfl
def kNotT (k : Bool) (S : Store) : Out Bool := .ok (!k) S
@[simp high] theorem nv_tnot {a : FT} : tNot' a env S = (a env S).bind kNotT := rfl
@[simp] theorem kNotT_at {k : Bool} : kNotT k S = .ok (!k) S := rfl
def kAndT (b : FT) (env : EnvD) (k : Bool) (S : Store) : Out Bool := if k = true then b env S else .ok false S
@[simp high] theorem nv_tand {a b : FT} : tAnd' a b env S = (a env S).bind (kAndT b env) := rfl
@[simp] theorem kAndT_t {b : FT} : kAndT b env true S = b env S := rfl
@[simp] theorem kAndT_f {b : FT} : kAndT b env false S = .ok false S := rfl
theorem kAndT_at {b : FT} {k : Bool} : kAndT b env k S = if k = true then b env S else .ok false S := rfl
def kOrT (b : FT) (env : EnvD) (k : Bool) (S : Store) : Out Bool := if k = true then .ok true S else b env S
@[simp high] theorem nv_tor {a b : FT} : tOr' a b env S = (a env S).bind (kOrT b env) := rfl
@[simp] theorem kOrT_t {b : FT} : kOrT b env true S = .ok true S := rfl
@[simp] theorem kOrT_f {b : FT} : kOrT b env false S = b env S := rfl
theorem kOrT_at {b : FT} {k : Bool} : kOrT b env k S = if k = true then .ok true S else b env S := rfl
def kCh4 (y w : Dt) (g : Dt → Dt → Store → Out Dt) (S : Store) : Out Dt := g y w S
def kCh3 (g : Dt → Dt → Store → Out Dt) (c : FE) (env : EnvD) (y : Dt) (z : Dt) (S : Store) : Out Dt := match z with | .bl true => (c env S).bind fun w S4 => g y w S4 | .bl false => .ok (.bl false) S | _ => .bad
def kCh2 (f g : Dt → Dt → Store → Out Dt) (c : FE) (env : EnvD) (x y : Dt) (S : Store) : Out Dt := (f x y S).bind (kCh3 g c env y)
def kCh1 (f g : Dt → Dt → Store → Out Dt) (b c : FE) (env : EnvD) (x : Dt) (S : Store) : Out Dt := (b env S).bind (kCh2 f g c env x)
@[simp high] theorem nv_chain {f g} {a b c : FE} : cChain f g a b c env S = (a env S).bind (kCh1 f g b c env) := rfl
@[simp] theorem kCh1_at {f g} {b c : FE} : kCh1 f g b c env x S = (b env S).bind (kCh2 f g c env x) := rfl
@[simp] theorem kCh2_at {f g} {c : FE} : kCh2 f g c env x y S = (f x y S).bind (kCh3 g c env y) := rfl
@[simp] theorem kCh3_t {g} {c : FE} : kCh3 g c env y (.bl true) S = (c env S).bind (kBin2 g y) := rfl
@[simp] theorem kCh3_f {g} {c : FE} : kCh3 g c env y (.bl false) S = .ok (.bl false) S := rfl
theorem kCh3_at {g} {c : FE} {k : Bool} : kCh3 g c env y (.bl k) S = if k = true then (c env S).bind (kBin2 g y) else .ok (.bl false) S := by cases k <;> rfl
def kSIf (f g : FS) (env : EnvD) (k : Bool) (S : Store) : SO := if k = true then f env S else g env S
@[simp high] theorem nv_sif {c : FT} {f g : FS} : sIf c f g env S = sOut (c env S) env (kSIf f g env) := rfl
@[simp] theorem kSIf_t {f g : FS} : kSIf f g env true S = f env S := rfl
@[simp] theorem kSIf_f {f g : FS} : kSIf f g env false S = g env S := rfl
theorem kSIf_at {f g : FS} {k : Bool} : kSIf f g env k S = if k = true then f env S else g env S := rfl
def kSet (i : Nat) (env : EnvD) (d : Dt) (S : Store) : SO := .nx (env.set i (some (.vl d))) S
@[simp high] theorem nv_set {a : FE} : sSet i a env S = sOut (a env S) env (kSet i env) := rfl
@[simp] theorem kSet_at : kSet i env d S = .nx (env.set i (some (.vl d))) S := rfl
def kEx (env : EnvD) (_ : Dt) (S : Store) : SO := .nx env S
@[simp high] theorem nv_expr {a : FE} : sExpr a env S = sOut (a env S) env (kEx env) := rfl
@[simp] theorem kEx_at : kEx env d S = .nx env S := rfl
def kRet (d : Dt) (S : Store) : SO := .rt d S
@[simp high] theorem nv_ret {a : FE} : sRet a env S = sOut (a env S) env kRet := rfl
@[simp] theorem kRet_at : kRet d S = .rt d S := rfl
def kPar2 (i j : Nat) (env : EnvD) (d e : Dt) (S : Store) : SO := .nx ((env.set i (some (.vl d))).set j (some (.vl e))) S
def kPar1 (i j : Nat) (b : FE) (env : EnvD) (d : Dt) (S : Store) : SO := sOut (b env S) env (kPar2 i j env d)
@[simp high] theorem nv_par {a b : FE} : sPar i j a b env S = sOut (a env S) env (kPar1 i j b env) := rfl
@[simp] theorem kPar1_at {b : FE} : kPar1 i j b env d S = sOut (b env S) env (kPar2 i j env d) := rfl
@[simp] theorem kPar2_at : kPar2 i j env d e S = .nx ((env.set i (some (.vl d))).set j (some (.vl e))) S := rfl
def kCall (F : List Dt → Store → Out Dt) (dds ds : List Dt) (S : Store) : Out Dt := F (ds ++ dds) S
@[simp high] theorem nv_call {F} {dds : List Dt} {a : FA} : cCall F dds a env S = (a env S).bind (kCall F dds) := rfl
@[simp] theorem kCall_at {F} {dds ds : List Dt} : kCall F dds ds S = F (ds ++ dds) S := rfl
def kVall (ys : List Dt) (S : Store) : Out Dt := .ok (.lst ys) S
@[simp high] theorem nv_vall {f : FA} : cVal f env S = (f env S).bind kVall := rfl
@[simp] theorem kVall_at {ys : List Dt} : kVall ys S = .ok (.lst ys) S := rfl
def kOwnL (ys : List Dt) (S : Store) : Out Dt := .ok (.ref S.length) (S ++ [.lst ys])
@[simp high] theorem nv_own {f : FA} : cOwn f env S = (f env S).bind kOwnL := rfl
@[simp] theorem kOwnL_at {ys : List Dt} : kOwnL ys S = .ok (.ref S.length) (S ++ [.lst ys]) := rfl
def kFor (g : FG) (b : FS) (env : EnvD) (items : List Dt) (S : Store) : SO := forL g b items env S
@[simp high] theorem nv_for {fi : FA} {g : FG} {b : FS} : sFor fi g b env S = sOut (fi env S) env (kFor g b env) := rfl
@[simp] theorem kFor_at {g : FG} {b : FS} {items : List Dt} : kFor g b env items S = forL g b items env S := rfl
def kMeth2 (op : Dt → List Dt → Store → Out Dt) (d : Dt) (ds : List Dt) (S : Store) : Out Dt := op d ds S
def kMeth1 (k : RK) (op : Dt → List Dt → Store → Out Dt) (fa : FA) (env : EnvD) (d : Dt) (S : Store) : Out Dt := if recvOk k S d = true then (fa env S).bind (kMeth2 op d) else .bad
@[simp high] theorem nv_meth {k op} {fo : FE} {fa : FA} : cMeth k op fo fa env S = (fo env S).bind (kMeth1 k op fa env) := rfl
theorem kMeth1_at {k op} {fa : FA} (h : recvOk k S d = true) : kMeth1 k op fa env d S = (fa env S).bind (kMeth2 op d) := if_pos h
@[simp] theorem kMeth1_str {op} {fa : FA} {x : Str} : kMeth1 .str op fa env (.str x) S = (fa env S).bind (kMeth2 op (.str x)) := if_pos rfl
@[simp] theorem kMeth2_at {op} {ds : List Dt} : kMeth2 op d ds S = op d ds S := rfl
def kSl3 (x : Dt) (l : Option Int) (u : Option Int) (S : Store) : Out Dt := kSl x l u S
def kSl2 (x : Dt) (hi : FO) (env : EnvD) (l : Option Int) (S : Store) : Out Dt := (hi env S).bind (kSl3 x l)
def kSl1 (lo hi : FO) (env : EnvD) (x : Dt) (S : Store) : Out Dt := (lo env S).bind (kSl2 x hi env)
@[simp high] theorem nv_slice {a : FE} {lo hi : FO} : cSlice a lo hi env S = (a env S).bind (kSl1 lo hi env) := rfl
@[simp] theorem kSl1_at {lo hi : FO} : kSl1 lo hi env x S = (lo env S).bind (kSl2 x hi env) := rfl
@[simp] theorem kSl2_at {hi : FO} {l : Option Int} : kSl2 x hi env l S = (hi env S).bind (kSl3 x l) := rfl
@[simp] theorem kSl3_at {l u : Option Int} : kSl3 x l u S = kSl x l u S := rfl
def kSI3 (v o : Dt) (env : EnvD) (i : Dt) (S : Store) : SO := kSetIx o i v env S
def kSI2 (v : Dt) (fi : FE) (env : EnvD) (o : Dt) (S : Store) : SO := sOut (fi env S) env (kSI3 v o env)
def kSI1 (fo fi : FE) (env : EnvD) (v : Dt) (S : Store) : SO := sOut (fo env S) env (kSI2 v fi env)
@[simp high] theorem nv_setIx {fv fo fi : FE} : sSetIx fv fo fi env S = sOut (fv env S) env (kSI1 fo fi env) := rfl
@[simp] theorem kSI1_at {fo fi : FE} {v : Dt} : kSI1 fo fi env v S = sOut (fo env S) env (kSI2 v fi env) := rfl
@[simp] theorem kSI2_at {fi : FE} {v o : Dt} : kSI2 v fi env o S = sOut (fi env S) env (kSI3 v o env) := rfl
@[simp] theorem kSI3_at {v o i : Dt} : kSI3 v o env i S = kSetIx o i v env S := rfl
def kDispL (ds : List Dt) (S : Store) : Out (List Dt) := if ds.length ≤ LINE then .ok ds S else .bad
@[simp] theorem ev_dispL {a : FA} : cDispL a env S = (a env S).bind kDispL := rfl
@[simp] theorem kDispL_ok {ds : List Dt} (h : ds.length ≤ 16777216) : kDispL ds S = .ok ds S := if_pos h
@[simp] theorem ev_dct0 : cDct0 env S = .ok (.dct []) S := rfl
@[simp] theorem ev_frz {f : FE} : cFrz f env S = (f env S).bind freezeP := rfl
@[simp] theorem freeze_lst {ds : List Dt} : freezeP (.lst ds) S = .ok (.lst ds) S := rfl
theorem freeze_ref {n : Nat} {ds : List Dt} (h : S[n]? = some (.lst ds)) : freezeP (.ref n) S = .ok (.lst ds) (S.set n .gone) := by
  unfold freezeP
  simp only [h]
theorem freeze_last {ds : List Dt} : freezeP (.ref S.length) (S ++ [.lst ds]) = .ok (.lst ds) (S ++ [.gone]) := by
  rw [freeze_ref (ds := ds) (by simp)]
  rw [List.set_append_right _ _ (Nat.le_refl _)]
  simp
theorem trim_ok2 {F : List Dt → Store → Out Dt} {ds : List Dt} {d : Dt} {T : Store} (h : F ds S = .ok d (S2 ++ T)) (hl : S2.length = S.length) (hd : closedD S2.length d = true) (hc : Cl S2) : trimF F ds S = .ok d S2 := by
  have e : (S2 ++ T).take S2.length = S2 := by simp
  show trimO S.length (F ds S) = _
  rw [h, ← hl, trimO_c hd (by rw [e]; exact hc), e]
theorem trim_ref {F : List Dt → Store → Out Dt} {ds : List Dt} {m : Nat} {mo : MO} {T : Store} (h : F ds S = .ok (.ref m) (S2 ++ T)) (hl : S2.length = S.length) (hm : S.length ≤ m) (hs : (S2 ++ T)[m]? = some mo) (hd : closedM S2.length mo = true) (hc : Cl S2) : trimF F ds S = .ok (.ref S.length) (S2 ++ [mo]) := by
  have e : (S2 ++ T).take S2.length = S2 := by simp
  show trimO S.length (F ds S) = _
  rw [h, ← hl, trimO_r (by omega) hs hd (by rw [e]; exact hc), e]
theorem slot_set : ∀ (i : Nat) (env : EnvD), i < env.length → slot (env.set i (some (.vl d))) i = some d
  | _, [], h => by simp at h
  | 0, x :: r, _ => rfl
  | i + 1, x :: r, h => by
    rw [List.set_cons_succ, slot_s]
    exact slot_set i r (by simpa using h)
theorem wipe_len : ∀ (vs : List Nat) (env : EnvD), (wipeE env vs).length = env.length
  | [], _ => rfl
  | v :: vs, env => by rw [wipe_cons, List.length_set, wipe_len]
theorem dropX_len (env : EnvD) : (dropX env).length = env.length := by simp [dropX]
end
/-! T18 -/

section
variable {S S' : Store} {n : Nat} {k : Int}
theorem PuI.ofApp {S0 T : Store} (h : PuI S0 n k) (hc : Cl (S0 ++ T)) : PuI (S0 ++ T) n k := by
  refine ⟨hc, ?_⟩
  obtain ⟨a, b, c, h1, h2⟩ := h.pu
  exact ⟨a, b, c, by rw [List.getElem?_append_left h.lt]; exact h1, h2⟩
theorem PuI.splitL {S0 T : Store} (h : PuI S' n k) (f : Fr n (S0 ++ T) S') (hn : n < S0.length) (hc : Cl S0) : ∃ S1, S' = S1 ++ T ∧ PuI S1 n k ∧ Fr n S0 S1 := by
  obtain ⟨a, b, c, h1, h2⟩ := h.pu
  have e := f.set_eq h1
  rw [List.set_append_left _ _ hn] at e
  exact ⟨_, e, ⟨hc.set rfl, a, b, c, by rw [List.getElem?_set_self hn], h2⟩, Fr.set n S0 _⟩
theorem Cl.push {mo : MO} (h : Cl S) (hm : closedM (S.length + 1) mo = true) : Cl (S ++ [mo]) := by
  have h' : S.all (closedM S.length) = true := h
  show (S ++ [mo]).all (closedM (S ++ [mo]).length) = true
  rw [List.length_append, List.all_append, Bool.and_eq_true]
  exact ⟨List.all_eq_true.mpr fun x hx => closedM_mono (by omega) x (List.all_eq_true.mp h' x hx), by simpa using hm⟩
theorem ix_mem {ds : List Dt} {r : Int} (h0 : 0 ≤ r) (h : r < ds.length) : ∃ d, d ∈ ds ∧ ∀ S, opIx (.lst ds) (.int r) S = .ok d S := by
  obtain ⟨j, rfl⟩ := Int.eq_ofNat_of_zero_le h0
  have hj : j < ds.length := by omega
  exact ⟨ds[j], List.getElem_mem hj, fun S => opIx_lst (List.getElem?_eq_getElem hj)⟩
theorem ix_memT {ds : List Dt} {r : Int} (h0 : 0 ≤ r) (h : r < ds.length) : ∃ d, d ∈ ds ∧ ∀ S, opIx (.tup ds) (.int r) S = .ok d S := by
  obtain ⟨j, rfl⟩ := Int.eq_ofNat_of_zero_le h0
  have hj : j < ds.length := by omega
  exact ⟨ds[j], List.getElem_mem hj, fun S => opIx_tup (List.getElem?_eq_getElem hj)⟩
theorem ix_memR {S0 : Store} {ds : List Dt} {r : Int} (hn : S0.length = n) (h0 : 0 ≤ r) (h : r < ds.length) : ∃ d, d ∈ ds ∧ opIx (.ref n) (.int r) (S0 ++ [.lst ds]) = .ok d (S0 ++ [.lst ds]) := by
  obtain ⟨j, rfl⟩ := Int.eq_ofNat_of_zero_le h0
  have hj : j < ds.length := by omega
  refine ⟨ds[j], List.getElem_mem hj, opIx_ref (ds := ds) (by rw [← hn]; simp) (List.getElem?_eq_getElem hj)⟩
end
/-! T19 -/

mutual
theorem okD_closed (n : Nat) : ∀ d : Dt, okD d = true → closedD n d = true
  | .tup ds, e => okL_closed n ds e
  | .lst ds, e => okL_closed n ds e
  | .dct ds, e => okK_closed n ds e
  | .ref k, e => by cases e
  | .non, _ | .bl _, _ | .int _, _ | .str _, _ | .fn _, _ => rfl
theorem okL_closed (n : Nat) : ∀ ds : List Dt, okL ds = true → closedL n ds = true
  | [], _ => rfl
  | d :: ds, e => by
    unfold okL at e
    unfold closedL
    rw [Bool.and_eq_true] at e ⊢
    exact ⟨okD_closed n d e.1, okL_closed n ds e.2⟩
theorem okK_closed (n : Nat) : ∀ ds : List (Key × Dt), okK ds = true → closedK n ds = true
  | [], _ => rfl
  | (_, d) :: ds, e => by
    unfold okK at e
    unfold closedK
    rw [Bool.and_eq_true, Bool.and_eq_true] at e
    rw [Bool.and_eq_true]
    exact ⟨okD_closed n d e.1.2, okK_closed n ds e.2⟩
end
theorem cut_head (ds : List Dt) (j : Nat) : cutD ds none (some (j : Int)) = ds.take j := by
  unfold cutD
  rw [HT.sIx_none, HT.sIx_nat]
  simp
theorem cut_from (ds : List Dt) (j : Nat) : cutD ds (some (j : Int)) none = ds.drop j := by
  unfold cutD
  rw [HT.sIx_none, HT.sIx_nat]
  by_cases h : j ≤ ds.length
  · rw [Nat.min_eq_left h, List.take_of_length_le (by simp)]
  · have h' : ds.length ≤ j := by omega
    rw [Nat.min_eq_right h', List.drop_eq_nil_of_le h']
    simp
theorem cut_last (ds : List Dt) : cutD ds none (some (-1)) = ds.take (ds.length - 1) := by
  unfold cutD
  rw [HT.sIx_none]
  have e : HT.sIx ds.length ds.length (some (-1)) = ds.length - 1 := by
    show (if (-1 : Int) < 0 then ((-1 : Int) + (ds.length : Int)).toNat else min (-1 : Int).toNat ds.length) = _
    rw [if_pos (by omega)]; omega
  rw [e]
  simp
theorem okL_app : ∀ (xs ys : List Dt), okL (xs ++ ys) = (okL xs && okL ys)
  | [], ys => rfl
  | x :: xs, ys => by
    show (okD x && okL (xs ++ ys)) = ((okD x && okL xs) && okL ys)
    rw [okL_app, Bool.and_assoc]
theorem wtL_app : ∀ (xs ys : List Dt), wtL (xs ++ ys) = wtL xs + wtL ys
  | [], ys => by show wtL ys = 0 + _; omega
  | x :: xs, ys => by
    show wtD x + 1 + wtL (xs ++ ys) = wtD x + 1 + wtL xs + wtL ys
    rw [wtL_app]; omega
theorem dpL_app : ∀ (xs ys : List Dt), dpL (xs ++ ys) = max (dpL xs) (dpL ys)
  | [], ys => by show dpL ys = max 0 _; omega
  | x :: xs, ys => by
    show max (dpD x) (dpL (xs ++ ys)) = max (max (dpD x) (dpL xs)) (dpL ys)
    rw [dpL_app]; omega
theorem okL_sub {xs ys : List Dt} (h : okL ys = true) (hs : ∀ x ∈ xs, x ∈ ys) : okL xs = true := by
  rw [okL_all, List.all_eq_true] at *
  exact fun x hx => h x (hs x hx)
theorem split_at {ds : List Dt} {j : Nat} {d : Dt} (h : ds[j]? = some d) : ds = ds.take j ++ d :: ds.drop (j + 1) := by
  obtain ⟨hl, rfl⟩ := List.getElem?_eq_some_iff.mp h
  rw [List.getElem_cons_drop, List.take_append_drop]
theorem wtL_take (ds : List Dt) (j : Nat) : wtL (ds.take j) ≤ wtL ds := by
  have h := congrArg wtL (List.take_append_drop j ds)
  rw [wtL_app] at h
  omega
theorem wtL_drop (ds : List Dt) (j : Nat) : wtL (ds.drop j) ≤ wtL ds := by
  have h := congrArg wtL (List.take_append_drop j ds)
  rw [wtL_app] at h
  omega
theorem dpL_take (ds : List Dt) (j : Nat) : dpL (ds.take j) ≤ dpL ds := by
  have h := congrArg dpL (List.take_append_drop j ds)
  rw [dpL_app] at h
  omega
theorem dpL_drop (ds : List Dt) (j : Nat) : dpL (ds.drop j) ≤ dpL ds := by
  have h := congrArg dpL (List.take_append_drop j ds)
  rw [dpL_app] at h
  omega
/-! T20 -/

section
variable {S : Store} {env : EnvD}
@[simp] theorem ev_kValN {f : FK} : kVal f env S = (f env S).bind fun ys S2 => .ok (.dct ys) S2 := rfl
theorem wtL_sum (n : Nat) : ∀ ds : List Dt, (∀ d ∈ ds, wtD d ≤ n) → wtL ds ≤ (n + 1) * ds.length
  | [], _ => Nat.zero_le _
  | d :: ds, h => by
    have h1 := h d (by simp)
    have h2 := wtL_sum n ds fun d hd => h d (by simp [hd])
    show wtD d + 1 + wtL ds ≤ _
    rw [List.length_cons, Nat.mul_add]
    omega
end
/-! T22 -/

section
variable {S : Store} {env : EnvD} {d e : Dt} {ds acc : List Dt} {i j : Nat} {fe : FE}
def dX (o : Option DX) : Option DX := match o with | some (.vl d) => some (.vl d) | _ => none
@[simp] theorem dropX_cons {x : Option DX} {r : EnvD} : dropX (x :: r) = dX x :: dropX r := rfl
@[simp] theorem dX_vl : dX (some (.vl d)) = some (.vl d) := rfl
@[simp] theorem dX_no : dX none = none := rfl
def kCC (g : FG) (fe : FE) (env : EnvD) (ds acc : List Dt) (y : Dt) (S : Store) : Out (List Dt) := compL g tYesD fe env ds (acc ++ [y]) S
@[simp] theorem kCC_at {g : FG} {y : Dt} : kCC g fe env ds acc y S = compL g tYesD fe env ds (acc ++ [y]) S := rfl
@[simp] theorem compL_nil {g : FG} {ft : FT} : compL g ft fe env [] acc S = .ok acc S := rfl
theorem compL_yes {g : FG} {env1 : EnvD} (h : g d env = some env1) : compL g tYesD fe env (d :: ds) acc S = (fe env1 S).only.bind (kCC g fe env ds acc) := by
  conv => lhs; unfold compL
  simp only [h]
  rfl
@[simp] theorem compL_N : compL (gN i) tYesD fe env (d :: ds) acc S = (fe (env.set i (some (.vl d))) S).only.bind (kCC (gN i) fe env ds acc) := compL_yes rfl
@[simp] theorem compL_2 : compL (gTupD 2 (gConsD (gN i) (gConsD (gN j) gNilD))) tYesD fe env (.tup [d, e] :: ds) acc S = (fe ((env.set i (some (.vl d))).set j (some (.vl e))) S).only.bind (kCC (gTupD 2 (gConsD (gN i) (gConsD (gN j) gNilD))) fe env ds acc) := compL_yes rfl
theorem forL_N {b : FS} : forL (gN i) b (d :: ds) env S = kLoop (b (env.set i (some (.vl d))) S) (forL (gN i) b ds) := forL_cons rfl
theorem forL_2 {b : FS} : forL (gTupD 2 (gConsD (gN i) (gConsD (gN j) gNilD))) b (.tup [d, e] :: ds) env S = kLoop (b ((env.set i (some (.vl d))).set j (some (.vl e))) S) (forL (gTupD 2 (gConsD (gN i) (gConsD (gN j) gNilD))) b ds) := forL_cons rfl
theorem kComp_at {g : FG} {ft : FT} (h : ds.length ≤ 16777216) : kComp g ft fe env ds S = compL g ft fe env ds [] S := if_pos h
def kEnum (ds : List Dt) (S : Store) : Out (List Dt) := match ds with
  | [.lst es] => .ok (enumD 0 es) S
  | _ => .bad
@[simp] theorem ev_enum {a : FA} : iEnumD a env S = (a env S).bind kEnum := rfl
@[simp] theorem kEnum_at {es : List Dt} : kEnum [.lst es] S = .ok (enumD 0 es) S := rfl
theorem kComp_map {ι : Type} {g : FG} {ft : FT} (mk f : ι → Dt) (xs : List ι) (hl : xs.length ≤ 16777216) (h : ∀ x ∈ xs, ∃ env1, g (mk x) env = some env1 ∧ ft env1 S = .ok true S ∧ fe env1 S = .ok (f x) S) : kComp g ft fe env (xs.map mk) S = .ok (xs.map f) S := by
  rw [kComp_at (by simpa using hl)]
  have key : ∀ (xs : List ι) (acc : List Dt), (∀ x ∈ xs, ∃ env1, g (mk x) env = some env1 ∧ ft env1 S = .ok true S ∧ fe env1 S = .ok (f x) S) → compL g ft fe env (xs.map mk) acc S = .ok (acc ++ xs.map f) S := by
    intro xs
    induction xs with
    | nil => intro acc _; simp
    | cons x xs ih =>
      intro acc h
      obtain ⟨env1, h1, h2, h3⟩ := h x (by simp)
      simp only [List.map_cons, compL, h1, h2, h3, only_ok, bind_ok, if_true]
      rw [ih (acc ++ [f x]) fun y hy => h y (by simp [hy])]
      simp
  simpa using key xs [] h
theorem kComp_mapF {ι : Type} {g : FG} {ft : FT} (q : ι → Bool) (mk f : ι → Dt) (xs : List ι) (hl : xs.length ≤ 16777216) (h : ∀ x ∈ xs, ∃ env1, g (mk x) env = some env1 ∧ ft env1 S = .ok (q x) S ∧ (q x = true → fe env1 S = .ok (f x) S)) : kComp g ft fe env (xs.map mk) S = .ok ((xs.filter q).map f) S := by
  rw [kComp_at (by simpa using hl)]
  have key : ∀ (xs : List ι) (acc : List Dt), (∀ x ∈ xs, ∃ env1, g (mk x) env = some env1 ∧ ft env1 S = .ok (q x) S ∧ (q x = true → fe env1 S = .ok (f x) S)) → compL g ft fe env (xs.map mk) acc S = .ok (acc ++ (xs.filter q).map f) S := by
    intro xs
    induction xs with
    | nil => intro acc _; simp
    | cons x xs ih =>
      intro acc h
      obtain ⟨env1, h1, h2, h3⟩ := h x (by simp)
      simp only [List.map_cons, compL, h1, h2, only_ok, bind_ok]
      cases hq : q x with
      | true =>
        simp only [if_true, h3 hq, only_ok, bind_ok]
        rw [ih (acc ++ [f x]) fun y hy => h y (by simp [hy])]
        simp [hq]
      | false =>
        simp only [Bool.false_eq_true, if_false]
        rw [ih acc fun y hy => h y (by simp [hy])]
        simp [hq]
  simpa using key xs [] h
theorem opIn_ss {c : Nat} {y : Str} : opIn (.str ⟨#[c]⟩) (.str y) S = .ok (.bl (decide (c ∈ y.cps.toList))) S := rfl
end
/-! T23 -/

section
variable {S : Store}
theorem opSum_ints (ns : List Int) : opSum [.lst (ns.map Dt.int)] S = .ok (.int ns.sum) S := by
  have h := intsOf_map ns id
  simp only [List.map_id, id] at h
  unfold opSum listInts
  simp only [asList, Option.bind_some, h]
end
/-! T24 -/

section
variable {S : Store} {env : EnvD}
def kSortDict (d : Dt) (S : Store) : Out (List Dt) := match (itemsP S d).bind keysI with
  | some ks => .ok ((sortI ks).map Dt.int) S
  | none => .bad
@[simp] theorem ev_sortDict {f : FE} : cSortDictA f env S = (f env S).bind kSortDict := rfl
theorem kSortDict_ok {n : Nat} {kvs : List (Key × Dt)} {ks : List Int} (h : S[n]? = some (.dct kvs)) (hk : keysI kvs = some ks) : kSortDict (.ref n) S = .ok ((sortI ks).map Dt.int) S := by
  unfold kSortDict itemsP asDict
  simp only [h, Option.bind_some, hk]
def kSortSet (ds : List Dt) (S : Store) : Out (List Dt) := match listInts S ds with
  | some ns => if ns.length < 4095 then .ok ((setI ns).map Dt.int) S else .bad
  | none => .bad
@[simp] theorem ev_sortSet {a : FA} : cSortSetA a env S = (a env S).bind kSortSet := rfl
theorem kSortSet_ok (ns : List Int) (h : ns.length < 4095) : kSortSet [.lst (ns.map Dt.int)] S = .ok ((setI ns).map Dt.int) S := by
  have e := intsOf_map ns id
  simp only [List.map_id, id] at e
  unfold kSortSet listInts
  simp only [asList, Option.bind_some, e, h, if_true]
@[simp] theorem ev_dct0O : cDct0O env S = .ok (.ref S.length) (S ++ [.dct []]) := rfl
theorem keysI_len : ∀ {kvs : List (Key × Dt)} {ks : List Int}, keysI kvs = some ks → kvs.length = ks.length
  | kvs, ks, h => by
    have := congrArg List.length (keysI_rep h)
    simpa using this
theorem keysI_app : ∀ {kvs : List (Key × Dt)} {ks : List Int} {i : Int} {v : Dt}, keysI kvs = some ks → keysI (kvs ++ [(.inl i, v)]) = some (ks ++ [i])
  | [], ks, i, v, h => by cases h; rfl
  | (.inl j, d) :: r, ks, i, v, h => by
    unfold keysI at h
    obtain ⟨z, h1, rfl⟩ := Option.map_eq_some_iff.mp h
    show (keysI (r ++ [(.inl i, v)])).map (j :: ·) = _
    rw [keysI_app h1]; rfl
  | (.inr x, d) :: r, ks, i, v, h => by cases h
theorem keysI_map : ∀ {kvs : List (Key × Dt)} {ks : List Int} (f : Key × Dt → Dt), keysI kvs = some ks → keysI (kvs.map fun kv => (kv.1, f kv)) = some ks
  | [], ks, f, h => by cases h; rfl
  | (.inl j, d) :: r, ks, f, h => by
    unfold keysI at h
    obtain ⟨z, h1, rfl⟩ := Option.map_eq_some_iff.mp h
    show (keysI (r.map fun kv => (kv.1, f kv))).map (j :: ·) = _
    rw [keysI_map f h1]; rfl
  | (.inr x, d) :: r, ks, f, h => by cases h
theorem keysI_any : ∀ {kvs : List (Key × Dt)} {ks : List Int} (i : Int), keysI kvs = some ks → (kvs.any fun kv => decide (kv.1 = .inl i)) = decide (i ∈ ks)
  | [], ks, i, h => by cases h; rfl
  | (.inl j, d) :: r, ks, i, h => by
    unfold keysI at h
    obtain ⟨z, h1, rfl⟩ := Option.map_eq_some_iff.mp h
    rw [List.any_cons, keysI_any i h1]
    by_cases hj : j = i
    · subst hj; simp
    · have : ¬ i = j := fun e => hj e.symm
      simp [hj, this]
  | (.inr x, d) :: r, ks, i, h => by cases h
theorem keysI_put {kvs : List (Key × Dt)} {ks : List Int} {i : Int} {v : Dt} (h : keysI kvs = some ks) : keysI (putD kvs (.inl i) v) = some (if i ∈ ks then ks else ks ++ [i]) := by
  unfold putD
  rw [keysI_any i h]
  by_cases hi : i ∈ ks
  · rw [if_pos (by simpa using hi), if_pos hi]
    have := keysI_map (fun kv => if kv.1 = Sum.inl i then v else kv.2) h
    rw [← this]
    congr 2
    funext kv
    obtain ⟨a, b⟩ := kv
    by_cases ha : a = Sum.inl i
    · simp [ha]
    · simp [ha]
  · rw [if_neg (by simpa using hi), if_neg hi]
    exact keysI_app h
end
/-! T25 -/

section
variable {S : Store} {env : EnvD} {n : Nat}
theorem kSetIx_dct {G : Store} {kvs : List (Key × Dt)} {i : Int} {v : Dt} (hn : S.length = n) (hl : kvs.length < 16777216) : kSetIx (.ref n) (.int i) v env (S ++ .dct kvs :: G) = .nx env (S ++ .dct (putD kvs (.inl i) v) :: G) := by
  have g : (S ++ MO.dct kvs :: G)[n]? = some (.dct kvs) := by rw [← hn]; simp
  have e : opSet (.ref n) (.int i) v (S ++ MO.dct kvs :: G) = some (S ++ .dct (putD kvs (.inl i) v) :: G) := by
    unfold opSet
    have hl' : kvs.length < LINE := hl
    simp only [g, keyD, Option.bind_some, hl', if_true]
    rw [← hn, List.set_append_right _ _ (Nat.le_refl _)]
    simp
  unfold kSetIx
  rw [e]
theorem lt_of_perm {ks : List Int} (h : ks.Nodup) : (sortI ks).Pairwise (· < ·) := lt_of_le_nodup _ (sortI_sorted _) ((sortI_perm _).nodup_iff.mpr h)
theorem sort_set {ks L : List Int} (h : ks.Nodup) (hm : ∀ x, x ∈ ks ↔ x ∈ L) : sortI ks = setI L := lt_unique (lt_of_perm h) (setI_lt L) fun x => by rw [(sortI_perm _).mem_iff, hm, mem_setI]
theorem Cl.app {T : Store} (h : Cl S) (hT : ∀ mo ∈ T, ∀ n, closedM n mo = true) : Cl (S ++ T) := by
  induction T generalizing S with
  | nil => rw [List.append_nil]; exact h
  | cons x T ih =>
    have := ih (h.push (hT x (by simp) _)) (fun mo hm => hT mo (by simp [hm]))
    rwa [List.append_assoc] at this
theorem Cl.dct {kvs : List (Key × Dt)} {j : Nat} (h : Cl S) (hk : ∀ p ∈ kvs, p.2 = .bl true) : Cl (S ++ .dct kvs :: List.replicate j .gone) := by
  refine h.app fun mo hm n => ?_
  rcases List.mem_cons.mp hm with rfl | hm
  · show closedK _ kvs = true
    induction kvs with
    | nil => rfl
    | cons p r ih =>
      obtain ⟨k, d⟩ := p
      have := hk (k, d) (by simp)
      simp only at this
      subst this
      show (true && closedK _ r) = true
      rw [ih (fun p hp => hk p (by simp [hp])) (by simp)]; rfl
  · rw [(List.mem_replicate.mp hm).2]; rfl
theorem put_all {kvs : List (Key × Dt)} {k : Key} {v : Dt} (h : ∀ p ∈ kvs, p.2 = v) : ∀ p ∈ putD kvs k v, p.2 = v := by
  intro p hp
  unfold putD at hp
  split at hp
  · obtain ⟨q, hq, rfl⟩ := List.mem_map.mp hp
    split
    · rfl
    · exact h q hq
  · rcases List.mem_append.mp hp with hp | hp
    · exact h p hp
    · simp at hp; rw [hp]
end
/-! T26 -/

section
variable {S : Store} {env : EnvD}
theorem inV_ints (x : Int) (zs : List Int) : inV (.int x) ((zs.map Dt.int).map toV) = decide (x ∈ zs) := by
  unfold inV
  rw [List.map_map, List.any_map]
  induction zs with
  | nil => rfl
  | cons z zs ih =>
    rw [List.any_cons, ih]
    show ((z == x) || _) = _
    by_cases h : z = x
    · subst h; simp
    · have h' : x ≠ z := fun e => h e.symm
      simp [h, h']
theorem all_flatI (zs : List Int) : (zs.map Dt.int).all flatD = true := by
  rw [List.all_eq_true]
  intro d hd
  obtain ⟨z, _, rfl⟩ := List.mem_map.mp hd
  rfl
theorem inP_ints {x : Int} {zs : List Int} : inP S (.int x) (.lst (zs.map Dt.int)) = some (decide (x ∈ zs)) := by
  show (if flatD (.int x) && (zs.map Dt.int).all flatD then some (inV (toV (.int x)) ((zs.map Dt.int).map toV)) else none) = _
  rw [all_flatI, ← inV_ints]
  rfl
theorem opIn_lints {x : Int} {zs : List Int} : opIn (.int x) (.lst (zs.map Dt.int)) S = .ok (.bl (decide (x ∈ zs))) S := by
  unfold opIn
  rw [inP_ints]
theorem opNotIn_lints {x : Int} {zs : List Int} : opNotIn (.int x) (.lst (zs.map Dt.int)) S = .ok (.bl (!decide (x ∈ zs))) S := by
  unfold opNotIn
  rw [inP_ints]
def kRaise (c : Str) (fs : List Str) (env : EnvD) (ds : List Dt) (S : Store) : SO := if ds.length = fs.length ∧ ds.length ≤ 1000 then .exc c ((fs.zip ds).reverse) env S else .bad
@[simp] theorem ev_raise {c : Str} {fs : List Str} {fa : FA} : sRaise c fs fa env S = sOut (fa env S) env (kRaise c fs env) := rfl
@[simp] theorem kRaise_1 {c f : Str} {d : Dt} : kRaise c [f] env [d] S = .exc c [(f, d)] env S := rfl
theorem isi_ref {n : Nat} {ds : List Dt} {cs : List String} (h : S[n]? = some (.lst ds)) : kIsi cs (.ref n) S = .ok (.bl (cs.any fun c => subTy "list" c)) S := by
  have e : isiP S cs (.ref n) = some (cs.any fun c => subTy "list" c) := by
    unfold isiP tyD
    simp only [h]
    rfl
  unfold kIsi
  rw [e]
end

end DL

set_option Elab.async false
set_option linter.all false
set_option maxRecDepth 1000000
set_option maxHeartbeats 4000000
namespace DL
open PySem PySem.Spec PyProof.Rows L2
section
variable {S S1 : Store} {env : EnvD} {d e : Dt} {i n : Nat}
/-! while -/
def kWh (c : FT) (body : FS) (n : Nat) (env : EnvD) (k : Bool) (S : Store) : SO := if k = true then kLoop (body env S) (whileL c body n) else .nx env S
theorem whileL_succ {c : FT} {body : FS} : whileL c body (n + 1) env S = sOut (c env S) env (kWh c body n env) := rfl
@[simp] theorem kWh_t {c : FT} {body : FS} : kWh c body n env true S = kLoop (body env S) (whileL c body n) := rfl
@[simp] theorem kWh_f {c : FT} {body : FS} : kWh c body n env false S = .nx env S := rfl
@[simp] theorem ev_while {f : EnvD → Store → Nat} {c : FT} {body : FS} : sWhile f c body env S = whileL c body (f env S) env S := rfl
/-! += , targets -/
def kAug2 (i : Nat) (env : EnvD) (z : Dt) (S : Store) : SO := .nx (env.set i (some (.vl z))) S
def kAug1 (i : Nat) (f : Dt → Dt → Store → Out Dt) (env : EnvD) (d e : Dt) (S : Store) : SO := sOut (f d e S) env (kAug2 i env)
theorem ev_aug {f : Dt → Dt → Store → Out Dt} {fe : FE} (h : slot env i = some d) : sAug i f fe env S = sOut (fe env S) env (kAug1 i f env d) := by
  unfold sAug
  simp only [h]
  rfl
@[simp] theorem kAug1_at {f : Dt → Dt → Store → Out Dt} : kAug1 i f env d e S = sOut (f d e S) env (kAug2 i env) := rfl
@[simp] theorem kAug2_at {z : Dt} : kAug2 i env z S = .nx (env.set i (some (.vl z))) S := rfl
@[simp] theorem opAddI_int {a b : Int} : opAddI (.int a) (.int b) S = .ok (.int (a + b)) S := rfl
def kAsg (g : FG) (env : EnvD) (d : Dt) (S : Store) : SO := match g d env with | some env1 => .nx env1 S | none => .bad
@[simp] theorem ev_asg {g : FG} {e : FE} : sAsg g e env S = sOut (e env S) env (kAsg g env) := rfl
theorem kAsg_at {g : FG} {env1 : EnvD} (h : g d env = some env1) : kAsg g env d S = .nx env1 S := by
  unfold kAsg
  rw [h]
@[simp] theorem kAsg_2 {j : Nat} : kAsg (gTupD 2 (gConsD (gN i) (gConsD (gN j) gNilD))) env (.tup [d, e]) S = .nx ((env.set i (some (.vl d))).set j (some (.vl e))) S := rfl
/-! lists made owned -/
def kListA (ds : List Dt) (S : Store) : Out (List Dt) := match ds with
  | [d] => (match asSeq S d with | some es => .ok es S | none => .bad)
  | _ => .bad
@[simp] theorem ev_listA {a : FA} : cListA a env S = (a env S).bind kListA := rfl
@[simp] theorem kListA_lst {ds : List Dt} : kListA [.lst ds] S = .ok ds S := rfl
@[simp] theorem kListA_tup {ds : List Dt} : kListA [.tup ds] S = .ok ds S := rfl
def kAddA2 (d e : Dt) (S : Store) : Out (List Dt) := match asList S d, asList S e with
  | some xs, some ys => if xs.length + ys.length ≤ LINE then .ok (xs ++ ys) S else .bad
  | _, _ => .bad
def kAddA1 (b : FE) (env : EnvD) (d : Dt) (S : Store) : Out (List Dt) := (b env S).bind (kAddA2 d)
@[simp] theorem ev_addA {a b : FE} : cAddA a b env S = (a env S).bind (kAddA1 b env) := rfl
@[simp] theorem kAddA1_at {b : FE} : kAddA1 b env d S = (b env S).bind (kAddA2 d) := rfl
theorem asList_ref {ds : List Dt} (h : S[n]? = some (.lst ds)) : asList S (.ref n) = some ds := by
  unfold asList
  simp only [h]
theorem kAddA2_ok {xs ys : List Dt} (h1 : asList S d = some xs) (h2 : asList S e = some ys) (h : xs.length + ys.length ≤ 16777216) : kAddA2 d e S = .ok (xs ++ ys) S := by
  unfold kAddA2
  simp only [h1, h2]
  exact if_pos h
/-! an owned list at the end of the store -/
section
variable {ds : List Dt} {T : Store}
theorem at_end : (S ++ .lst ds :: T)[S.length]? = some (.lst ds) := by simp
theorem recv_end : recvOk .lst (S ++ .lst ds :: T) (.ref S.length) = true := by
  show (asList _ _).isSome = true
  rw [asList_ref at_end]; rfl
theorem set_end {mo : MO} : (S ++ .lst ds :: T).set S.length mo = S ++ mo :: T := by
  rw [List.set_append_right _ _ (Nat.le_refl _)]
  simp
theorem append_end {y : Dt} (h : ds.length < 16777216) : opAppend (.ref S.length) [y] (S ++ .lst ds :: T) = .ok .non (S ++ .lst (ds ++ [y]) :: T) := by
  have h' : ds.length < LINE := h
  unfold opAppend
  simp only [at_end, h', if_true, set_end]
theorem extend_end {ys : List Dt} (h : ds.length + ys.length ≤ 16777216) : opExtend (.ref S.length) [.lst ys] (S ++ .lst ds :: T) = .ok .non (S ++ .lst (ds ++ ys) :: T) := by
  have h' : ds.length + ys.length ≤ LINE := h
  unfold opExtend asList
  simp only [at_end, h', if_true, set_end]
theorem insert0_end {y : Dt} (h : ds.length < 16777216) : opInsert (.ref S.length) [.int 0, y] (S ++ .lst ds :: T) = .ok .non (S ++ .lst (y :: ds) :: T) := by
  have h' : ds.length < LINE ∧ 0 ≤ (0 : Int) ∧ (0 : Int) < 2 ^ 63 := ⟨h, by omega, by omega⟩
  unfold opInsert
  simp only [at_end]
  rw [if_pos h', set_end]
  simp
theorem ix_end {j : Nat} {y : Dt} (h : ds[j]? = some y) : opIx (.ref S.length) (.int (j : Int)) (S ++ .lst ds :: T) = .ok y (S ++ .lst ds :: T) := opIx_ref at_end h
theorem setix_end {j : Nat} {v : Dt} (h : j < ds.length) : kSetIx (.ref S.length) (.int (j : Int)) v env (S ++ .lst ds :: T) = .nx env (S ++ .lst (ds.set j v) :: T) := by
  rw [kSetIx_ref at_end h, set_end]
theorem freeze_end : freezeP (.ref S.length) (S ++ .lst ds :: T) = .ok (.lst ds) (S ++ .gone :: T) := by
  rw [freeze_ref at_end, set_end]
end
end
end DL

set_option Elab.async false
set_option linter.all false
set_option maxRecDepth 1000000
set_option maxHeartbeats 4000000
namespace DL
open PySem PySem.Spec PyProof.Rows L2

/-- data by value: no owned thing in it -/
def wholeB (d : Dt) (lo hi : Int) : Bool := match d with
  | .int i => decide (lo ≤ i) && decide (i ≤ hi)
  | _ => false
def numB (d : Dt) : Bool := match d with
  | .int i => decide (0 ≤ i)
  | _ => false
def kept : List Str := ["all", "fun", "same", "self", "put"]
def low (z : Str) : Bool := z.cps.toList.all fun c => decide (97 ≤ c) && decide (c ≤ 122)
def nameZ (z : Str) : Bool := decide (1 ≤ z.length) && decide (z.length ≤ 8) && !decide (z ∈ kept) && low z
def nameB (d : Dt) : Bool := match d with
  | .str z => nameZ z
  | _ => false
def lowc (d : Dt) : Bool := match d with | .str w => decide (97 ≤ w.cps.getD 0 0) && decide (w.cps.getD 0 0 ≤ 122) | _ => false
theorem lowc_char (c : Nat) : lowc (.str ⟨#[c]⟩) = (decide (97 ≤ c) && decide (c ≤ 122)) := rfl
theorem all_lowc (z : Str) : (charsD z).all lowc = low z := by
  unfold charsD low
  rw [List.all_map]
  rfl
theorem small_mem (c : Nat) : c ∈ ("abcdefghijklmnopqrstuvwxyz" : Str).cps.toList ↔ 97 ≤ c ∧ c ≤ 122 := by
  have e : ("abcdefghijklmnopqrstuvwxyz" : Str).cps.toList = List.range' 97 26 := by decide +kernel
  rw [e, List.mem_range'_1]
  omega
def forms : List (Str × Str) := [("at", "n"), ("kind", "h"), ("all", "tt"), ("fun", "tt"), ("app", "tt"), ("name", "w"), ("thing", "w"), ("maker", "wn"), ("eater", "wh"), ("same", "ttt"), ("self", "tt"), ("put", "ttt")]
def fm (w : Str) : Option Str := (forms.find? fun p => decide (p.1 = w)).map (·.2)
theorem look_forms (w : Str) : lookD (forms.map fun p => (Sum.inr p.1, Dt.str p.2)) (.inr w) = (fm w).map Dt.str := by
  unfold lookD fm
  rw [List.find?_map, Option.map_map, Option.map_map]
  congr 1
  congr 1
  funext p
  simp
theorem fm_cases {w f : Str} (h : fm w = some f) : f ∈ (["n", "h", "tt", "w", "wn", "wh", "ttt"] : List Str) := by
  unfold fm at h
  obtain ⟨p, h1, rfl⟩ := Option.map_eq_some_iff.mp h
  have := List.mem_of_find?_eq_some h1
  revert this
  have : ∀ q ∈ forms, q.2 ∈ (["n", "h", "tt", "w", "wn", "wh", "ttt"] : List Str) := by decide +kernel
  exact this p
theorem fm_chars {w f : Str} (h : fm w = some f) : f.length ≤ 3 ∧ ∀ c ∈ f.cps.toList, c = 110 ∨ c = 104 ∨ c = 119 ∨ c = 116 := by
  have := fm_cases h
  have key : ∀ f ∈ (["n", "h", "tt", "w", "wn", "wh", "ttt"] : List Str), f.length ≤ 3 ∧ ∀ c ∈ f.cps.toList, c = 110 ∨ c = 104 ∨ c = 119 ∨ c = 116 := by decide +kernel
  exact key f this
mutual
def isT : Dt → Bool
  | .tup ds => isTs ds
  | _ => false
def isTs : List Dt → Bool
  | .str w :: ds => (match fm w with | some f => isF f.cps.toList ds | none => false)
  | _ => false
def isF : List Nat → List Dt → Bool
  | [], [] => true
  | c :: cs, d :: ds => (if c = 110 then numB d else if c = 104 then wholeB d 0 5 else if c = 119 then nameB d else isT d) && isF cs ds
  | _, _ => false
end
def isC (c : Nat) (d : Dt) : Bool := if c = 110 then numB d else if c = 104 then wholeB d 0 5 else if c = 119 then nameB d else isT d
theorem isF_len : ∀ (cs : List Nat) (ds : List Dt), isF cs ds = true → ds.length = cs.length
  | [], [], _ => rfl
  | c :: cs, d :: ds, h => by
    unfold isF at h
    rw [Bool.and_eq_true] at h
    simp [isF_len cs ds h.2]
  | [], _ :: _, h => by simp [isF] at h
  | _ :: _, [], h => by simp [isF] at h
def isP2 (p : Dt) : Bool := match p with | .tup [.str z, d] => isC (z.cps.getD 0 0) d | _ => false
theorem isF_zip : ∀ (cs : List Nat) (ds : List Dt), ds.length = cs.length → (zipD (cs.map fun c => .str ⟨#[c]⟩) ds).all isP2 = isF cs ds
  | [], [], _ => by simp [zipD, isF]
  | c :: cs, d :: ds, h => by
    simp only [List.map_cons, zipD, List.all_cons]
    rw [isF_zip cs ds (by simpa using h)]
    conv => rhs; unfold isF
    rfl
  | [], _ :: _, h => by simp at h
  | _ :: _, [], h => by simp at h
theorem zip_mem : ∀ (xs ys : List Dt) (p : Dt), p ∈ zipD xs ys → ∃ x y, x ∈ xs ∧ y ∈ ys ∧ p = .tup [x, y]
  | [], _, p, h => by simp [zipD] at h
  | _ :: _, [], p, h => by simp [zipD] at h
  | x :: xs, y :: ys, p, h => by
    simp only [zipD, List.mem_cons] at h
    rcases h with rfl | h
    · exact ⟨x, y, by simp, by simp, rfl⟩
    · obtain ⟨a, b, h1, h2, h3⟩ := zip_mem xs ys p h
      exact ⟨a, b, by simp [h1], by simp [h2], h3⟩
theorem wtL_mem : ∀ {ds : List Dt} {d : Dt}, d ∈ ds → wtD d ≤ wtL ds
  | e :: ds, d, h => by
    unfold wtL
    rcases List.mem_cons.mp h with rfl | h
    · omega
    · have := wtL_mem h; omega
theorem wtL_len : ∀ (ds : List Dt), ds.length ≤ wtL ds
  | [] => Nat.zero_le _
  | d :: ds => by
    unfold wtL
    have := wtL_len ds
    simp only [List.length_cons]
    omega
structure Fine (d : Dt) : Prop where
  ok : okD d = true
  wt : wtD d ≤ 10000000
theorem Fine.str {d : Dt} (h : Fine d) : ∀ z, d = .str z → z.length ≤ LINE := by
  rintro z rfl
  have : z.length ≤ 10000000 := h.wt
  show _ ≤ 16777216
  omega
theorem Fine.mem {ds : List Dt} (h : Fine (.tup ds)) {d : Dt} (hd : d ∈ ds) : Fine d := by
  refine ⟨?_, Nat.le_trans (wtL_mem hd) h.wt⟩
  have : okL ds = true := h.ok
  rw [okL_all, List.all_eq_true] at this
  exact this d hd
theorem Fine.len {ds : List Dt} (h : Fine (.tup ds)) : ds.length ≤ 10000000 := Nat.le_trans (wtL_len ds) h.wt
theorem pow31 (S : Store) : opPow (.int 10) (.int 31) S = .ok (.int (10 ^ 31)) S := by
  show (if 0 ≤ (31 : Int) ∧ (31 : Int) ≤ 1000000 ∧ (10 : Int).natAbs < 2 ^ 64 then Out.ok (Dt.int (10 ^ (31 : Int).toNat)) S else .bad) = _
  rw [if_pos (by decide)]
  rfl
theorem whole31 {d : Dt} (h : okD d = true) : wholeB d 0 (10 ^ 31) = numB d := by
  cases d with
  | int i =>
    have : i.natAbs ≤ 10 ^ 31 := of_decide_eq_true h
    show (decide (0 ≤ i) && decide (i ≤ 10 ^ 31)) = decide (0 ≤ i)
    have e : decide (i ≤ 10 ^ 31) = true := decide_eq_true (by omega)
    rw [e, Bool.and_true]
  | _ => rfl
theorem whole31' {d : Dt} (h : okD d = true) : wholeB d 0 10000000000000000000000000000000 = numB d := whole31 h
def spotB (d : Dt) : Bool := match d with
  | .tup ds => ds.all numB
  | _ => false
def letters : Str := "abcdefghijklmnopqrstuvwxyz"
theorem letters_list : letters.cps.toList = List.range' 97 26 := by decide +kernel
theorem letter_at {r : Int} {S : Store} (h0 : 0 ≤ r) (h : r < 26) : ∃ c : Nat, 97 ≤ c ∧ c ≤ 122 ∧ opIx (.str letters) (.int r) S = .ok (.str ⟨#[c]⟩) S := by
  obtain ⟨j, rfl⟩ := Int.eq_ofNat_of_zero_le h0
  refine ⟨97 + j, by omega, by omega, opIx_str (by decide +kernel) ?_⟩
  rw [letters_list, List.getElem?_range' (by omega)]
  simp
theorem low_of {cs : List Nat} (h : ∀ c ∈ cs, 97 ≤ c ∧ c ≤ 122) : low ⟨cs.toArray⟩ = true := by
  unfold low
  rw [List.all_eq_true]
  intro c hc
  have := h c (by simpa using hc)
  simp [this]
theorem ok_of_low {z : Str} (h : low z = true) : PyData.strOk z = true := by
  show z.cps.all (· < 0x110000) = true
  rw [← Array.all_toList, List.all_eq_true]
  intro c hc
  have := List.all_eq_true.mp h c hc
  simp at this
  exact decide_eq_true (by omega)
theorem chars_of : ∀ {ys : List Dt}, (∀ y ∈ ys, ∃ c : Nat, 97 ≤ c ∧ c ≤ 122 ∧ y = .str ⟨#[c]⟩) → ∃ cs : List Nat, ys = cs.map (fun c => .str ⟨#[c]⟩) ∧ ∀ c ∈ cs, 97 ≤ c ∧ c ≤ 122
  | [], _ => ⟨[], rfl, by simp⟩
  | y :: ys, h => by
    obtain ⟨c, h1, h2, rfl⟩ := h y (by simp)
    obtain ⟨cs, h3, h4⟩ := chars_of (ys := ys) fun y hy => h y (by simp [hy])
    exact ⟨c :: cs, by simp [h3], by simp; exact ⟨⟨h1, h2⟩, h4⟩⟩
inductive Tm where
  | at (i : Int)
  | kind (i : Int)
  | name (z : Str)
  | thing (z : Str)
  | maker (z : Str) (i : Int)
  | eater (z : Str) (i : Int)
  | two (g : Str) (a b : Tm)
  | three (g : Str) (a b c : Tm)
def tD : Tm → Dt
  | .at i => .tup [.str "at", .int i]
  | .kind i => .tup [.str "kind", .int i]
  | .name z => .tup [.str "name", .str z]
  | .thing z => .tup [.str "thing", .str z]
  | .maker z i => .tup [.str "maker", .str z, .int i]
  | .eater z i => .tup [.str "eater", .str z, .int i]
  | .two g a b => .tup [.str g, tD a, tD b]
  | .three g a b c => .tup [.str g, tD a, tD b, tD c]
def twoG : List Str := ["all", "fun", "app", "self"]
def threeG : List Str := ["same", "put"]
/-- well formed, the places below m -/
def Ok (m : Int) : Tm → Prop
  | .at i => 0 ≤ i ∧ i < m
  | .kind i => 0 ≤ i ∧ i ≤ 5
  | .name z => nameZ z = true
  | .thing z => nameZ z = true
  | .maker z i => nameZ z = true ∧ 0 ≤ i ∧ i < 1000
  | .eater z i => nameZ z = true ∧ 0 ≤ i ∧ i ≤ 5
  | .two g a b => g ∈ twoG ∧ Ok m a ∧ Ok m b
  | .three g a b c => g ∈ threeG ∧ Ok m a ∧ Ok m b ∧ Ok m c
def ht : Tm → Nat
  | .two _ a b => max (ht a) (ht b) + 1
  | .three _ a b c => max (ht a) (max (ht b) (ht c)) + 1
  | _ => 0
def sz : Tm → Nat
  | .two _ a b => sz a + sz b + 1
  | .three _ a b c => sz a + sz b + sz c + 1
  | _ => 1
theorem name_ok {z : Str} (h : nameZ z = true) : PyData.strOk z = true ∧ z.length ≤ 8 := by
  unfold nameZ at h
  simp only [Bool.and_eq_true, decide_eq_true_eq] at h
  exact ⟨ok_of_low h.2, h.1.1.2⟩
theorem two_ok {g : Str} (h : g ∈ twoG) : PyData.strOk g = true ∧ g.length ≤ 4 ∧ fm g = some "tt" := by
  have key : ∀ g ∈ twoG, PyData.strOk g = true ∧ g.length ≤ 4 ∧ fm g = some "tt" := by decide +kernel
  exact key g h
theorem three_ok {g : Str} (h : g ∈ threeG) : PyData.strOk g = true ∧ g.length ≤ 4 ∧ fm g = some "ttt" := by
  have key : ∀ g ∈ threeG, PyData.strOk g = true ∧ g.length ≤ 4 ∧ fm g = some "ttt" := by decide +kernel
  exact key g h
theorem lit_ok (x : Str) (h : PyData.strOk x = true := by decide +kernel) : PyData.strOk x = true := h
theorem int_okD {i : Int} (h0 : 0 ≤ i) (h : i ≤ 10 ^ 31) : okD (.int i) = true := decide_eq_true (by omega)
theorem tD_isT {m : Int} : ∀ t : Tm, Ok m t → isT (tD t) = true
  | .at i, h => by
    have e : fm "at" = some "n" := by decide +kernel
    show (match fm "at" with | some f => isF f.cps.toList [.int i] | none => false) = true
    rw [e]
    show (decide (0 ≤ i) && true) = true
    simp [h.1]
  | .kind i, h => by
    have e : fm "kind" = some "h" := by decide +kernel
    show (match fm "kind" with | some f => isF f.cps.toList [.int i] | none => false) = true
    rw [e]
    show ((decide (0 ≤ i) && decide (i ≤ 5)) && true) = true
    simp [h.1, h.2]
  | .name z, h => by
    have e : fm "name" = some "w" := by decide +kernel
    show (match fm "name" with | some f => isF f.cps.toList [.str z] | none => false) = true
    rw [e]
    show (nameZ z && true) = true
    rw [show nameZ z = true from h]; rfl
  | .thing z, h => by
    have e : fm "thing" = some "w" := by decide +kernel
    show (match fm "thing" with | some f => isF f.cps.toList [.str z] | none => false) = true
    rw [e]
    show (nameZ z && true) = true
    rw [show nameZ z = true from h]; rfl
  | .maker z i, h => by
    have e : fm "maker" = some "wn" := by decide +kernel
    show (match fm "maker" with | some f => isF f.cps.toList [.str z, .int i] | none => false) = true
    rw [e]
    show (nameZ z && (decide (0 ≤ i) && true)) = true
    rw [show nameZ z = true from h.1]
    simp [h.2.1]
  | .eater z i, h => by
    have e : fm "eater" = some "wh" := by decide +kernel
    show (match fm "eater" with | some f => isF f.cps.toList [.str z, .int i] | none => false) = true
    rw [e]
    show (nameZ z && ((decide (0 ≤ i) && decide (i ≤ 5)) && true)) = true
    rw [show nameZ z = true from h.1]
    simp [h.2.1, h.2.2]
  | .two g a b, h => by
    show (match fm g with | some f => isF f.cps.toList [tD a, tD b] | none => false) = true
    rw [(two_ok h.1).2.2]
    show (isT (tD a) && (isT (tD b) && true)) = true
    rw [tD_isT a h.2.1, tD_isT b h.2.2]; rfl
  | .three g a b c, h => by
    show (match fm g with | some f => isF f.cps.toList [tD a, tD b, tD c] | none => false) = true
    rw [(three_ok h.1).2.2]
    show (isT (tD a) && (isT (tD b) && (isT (tD c) && true))) = true
    rw [tD_isT a h.2.1, tD_isT b h.2.2.1, tD_isT c h.2.2.2]; rfl
theorem tD_okD {m : Int} (hm : m ≤ 10 ^ 31) : ∀ t : Tm, Ok m t → okD (tD t) = true
  | .at i, h => by
    have := int_okD h.1 (by have := h.2; omega)
    show (PyData.strOk "at" && (okD (.int i) && true)) = true
    rw [this, lit_ok "at"]; rfl
  | .kind i, h => by
    have := int_okD h.1 (by have := h.2; omega)
    show (PyData.strOk "kind" && (okD (.int i) && true)) = true
    rw [this, lit_ok "kind"]; rfl
  | .name z, h => by
    show (PyData.strOk "name" && (PyData.strOk z && true)) = true
    rw [(name_ok h).1, lit_ok "name"]; rfl
  | .thing z, h => by
    show (PyData.strOk "thing" && (PyData.strOk z && true)) = true
    rw [(name_ok h).1, lit_ok "thing"]; rfl
  | .maker z i, h => by
    have := int_okD h.2.1 (by have := h.2.2; omega)
    show (PyData.strOk "maker" && (PyData.strOk z && (okD (.int i) && true))) = true
    rw [(name_ok h.1).1, this, lit_ok "maker"]; rfl
  | .eater z i, h => by
    have := int_okD h.2.1 (by have := h.2.2; omega)
    show (PyData.strOk "eater" && (PyData.strOk z && (okD (.int i) && true))) = true
    rw [(name_ok h.1).1, this, lit_ok "eater"]; rfl
  | .two g a b, h => by
    show (PyData.strOk g && (okD (tD a) && (okD (tD b) && true))) = true
    rw [(two_ok h.1).1, tD_okD hm a h.2.1, tD_okD hm b h.2.2]; rfl
  | .three g a b c, h => by
    show (PyData.strOk g && (okD (tD a) && (okD (tD b) && (okD (tD c) && true)))) = true
    rw [(three_ok h.1).1, tD_okD hm a h.2.1, tD_okD hm b h.2.2.1, tD_okD hm c h.2.2.2]; rfl
theorem tD_noDct : ∀ t : Tm, noDct (tD t) = true
  | .at _ | .kind _ | .name _ | .thing _ | .maker _ _ | .eater _ _ => rfl
  | .two g a b => by
    show (true && (noDct (tD a) && (noDct (tD b) && true))) = true
    rw [tD_noDct a, tD_noDct b]; rfl
  | .three g a b c => by
    show (true && (noDct (tD a) && (noDct (tD b) && (noDct (tD c) && true)))) = true
    rw [tD_noDct a, tD_noDct b, tD_noDct c]; rfl
theorem tD_closed (n : Nat) : ∀ t : Tm, closedD n (tD t) = true
  | .at _ | .kind _ | .name _ | .thing _ | .maker _ _ | .eater _ _ => rfl
  | .two g a b => by
    show (true && (closedD n (tD a) && (closedD n (tD b) && true))) = true
    rw [tD_closed n a, tD_closed n b]; rfl
  | .three g a b c => by
    show (true && (closedD n (tD a) && (closedD n (tD b) && (closedD n (tD c) && true)))) = true
    rw [tD_closed n a, tD_closed n b, tD_closed n c]; rfl
theorem tD_dp : ∀ t : Tm, dpD (tD t) = ht t + 1
  | .at _ | .kind _ | .name _ | .thing _ | .maker _ _ | .eater _ _ => rfl
  | .two g a b => by
    show max 0 (max (dpD (tD a)) (max (dpD (tD b)) 0)) + 1 = (max (ht a) (ht b) + 1) + 1
    rw [tD_dp a, tD_dp b]; omega
  | .three g a b c => by
    show max 0 (max (dpD (tD a)) (max (dpD (tD b)) (max (dpD (tD c)) 0))) + 1 = (max (ht a) (max (ht b) (ht c)) + 1) + 1
    rw [tD_dp a, tD_dp b, tD_dp c]; omega
theorem tD_wt {m : Int} : ∀ t : Tm, Ok m t → wtD (tD t) ≤ 140 * sz t
  | .at _, _ => by show 2 + 1 + (120 + 1 + 0) ≤ 140; decide
  | .kind _, _ => by show 4 + 1 + (120 + 1 + 0) ≤ 140; decide
  | .name z, h => by have := (name_ok h).2; show 4 + 1 + (z.length + 1 + 0) ≤ 140; omega
  | .thing z, h => by have := (name_ok h).2; show 5 + 1 + (z.length + 1 + 0) ≤ 140; omega
  | .maker z _, h => by have := (name_ok h.1).2; show 5 + 1 + (z.length + 1 + (120 + 1 + 0)) ≤ 140; omega
  | .eater z _, h => by have := (name_ok h.1).2; show 5 + 1 + (z.length + 1 + (120 + 1 + 0)) ≤ 140; omega
  | .two g a b, h => by
    have h1 := (two_ok h.1).2.1
    have h2 := tD_wt a h.2.1
    have h3 := tD_wt b h.2.2
    show g.length + 1 + (wtD (tD a) + 1 + (wtD (tD b) + 1 + 0)) ≤ 140 * (sz a + sz b + 1)
    omega
  | .three g a b c, h => by
    have h1 := (three_ok h.1).2.1
    have h2 := tD_wt a h.2.1
    have h3 := tD_wt b h.2.2.1
    have h4 := tD_wt c h.2.2.2
    show g.length + 1 + (wtD (tD a) + 1 + (wtD (tD b) + 1 + (wtD (tD c) + 1 + 0))) ≤ 140 * (sz a + sz b + sz c + 1)
    omega
def PT (m lim : Int) (dn : Nat) (c : Nat) (d : Dt) : Prop :=
  (c = 110 ∧ ∃ i, d = .int i ∧ 0 ≤ i ∧ i < lim) ∨ (c = 104 ∧ ∃ i, d = .int i ∧ 0 ≤ i ∧ i ≤ 5) ∨ (c = 119 ∧ ∃ z, d = .str z ∧ nameZ z = true) ∨ (c = 116 ∧ ∃ t, d = tD t ∧ Ok m t ∧ ht t + 1 ≤ dn ∧ 4 * sz t ≤ 4 ^ dn)
theorem PT.closed {m lim : Int} {dn c : Nat} {d : Dt} (h : PT m lim dn c d) (n : Nat) : closedD n d = true := by
  rcases h with ⟨_, i, rfl, _⟩ | ⟨_, i, rfl, _⟩ | ⟨_, i, rfl, _⟩ | ⟨_, t, rfl, _⟩
  · rfl
  · rfl
  · rfl
  · exact tD_closed n t
theorem closedL_app {n : Nat} : ∀ {xs ys : List Dt}, closedL n (xs ++ ys) = (closedL n xs && closedL n ys)
  | [], ys => rfl
  | x :: xs, ys => by
    show (closedD n x && closedL n (xs ++ ys)) = ((closedD n x && closedL n xs) && closedL n ys)
    rw [closedL_app, Bool.and_assoc]
def PTs (m lim : Int) (dn : Nat) : List Nat → List Dt → Prop
  | [], [] => True
  | c :: cs, d :: ds => PT m lim dn c d ∧ PTs m lim dn cs ds
  | _, _ => False
def tw : List Str := ["at", "at", "kind", "name", "thing", "maker", "eater", "all", "fun", "app", "app", "same", "self", "put"]
theorem tw_split : Txt.split "at at kind name thing maker eater all fun app app same self put" " " = tw := by decide +kernel
def chk (j : Nat) : Bool := match tw[j]? with
  | some w => (match fm w with | some f => PyData.strOk w && (decide (7 ≤ j) || decide (116 ∉ f.cps.toList)) | none => false)
  | none => false
theorem tw_at {r : Int} {S : Store} (h0 : 0 ≤ r) (h : r < 14) : ∃ w f, w ∈ tw ∧ opIx (.lst (tw.map Dt.str)) (.int r) S = .ok (.str w) S ∧ fm w = some f ∧ PyData.strOk w = true ∧ (r < 7 → 116 ∉ f.cps.toList) := by
  obtain ⟨j, rfl⟩ := Int.eq_ofNat_of_zero_le h0
  have hj : j < 14 := by omega
  have key : ∀ j, j < 14 → chk j = true := by decide +kernel
  have kj := key j hj
  unfold chk at kj
  cases h1 : tw[j]? with
  | none => rw [h1] at kj; cases kj
  | some w =>
  rw [h1] at kj
  simp only [] at kj
  cases h2 : fm w with
  | none => rw [h2] at kj; cases kj
  | some f =>
  rw [h2] at kj
  simp only [Bool.and_eq_true, Bool.or_eq_true, decide_eq_true_eq] at kj
  obtain ⟨h3, h4⟩ := kj
  refine ⟨w, f, List.mem_of_getElem? h1, opIx_lst (by simp [h1]), h2, h3, fun h => h4.resolve_left (by omega)⟩
/-- what stands behind a word makes a term -/
theorem term_of {m lim : Int} {dn : Nat} {w f : Str} {ys : List Dt} (hw : w ∈ tw) (hf : fm w = some f) (hlim : lim = if w = "maker" then 5 else m) (h : PTs m lim dn f.cps.toList ys) :
    ∃ t, .tup (.str w :: ys) = tD t ∧ Ok m t ∧ ht t ≤ dn ∧ sz t ≤ 4 ^ dn := by
  have one : 1 ≤ 4 ^ dn := Nat.one_le_pow _ _ (by omega)
  have key : ∀ w ∈ tw, w = "at" ∨ w = "kind" ∨ w = "name" ∨ w = "thing" ∨ w = "maker" ∨ w = "eater" ∨ w ∈ twoG ∨ w ∈ threeG := by decide +kernel
  rcases key w hw with rfl | rfl | rfl | rfl | rfl | rfl | h2 | h3
  · have e : fm "at" = some "n" := by decide +kernel
    rw [e] at hf; cases hf
    match ys, h with
    | [d], ⟨p, _⟩ =>
      rcases p with ⟨_, i, rfl, a, b⟩ | ⟨z, _⟩ | ⟨z, _⟩ | ⟨z, _⟩
      · exact ⟨.at i, rfl, ⟨a, by rw [hlim, if_neg (by decide +kernel)] at b; exact b⟩, Nat.zero_le _, one⟩
      · exact absurd z (by decide)
      · exact absurd z (by decide)
      · exact absurd z (by decide)
  · have e : fm "kind" = some "h" := by decide +kernel
    rw [e] at hf; cases hf
    match ys, h with
    | [d], ⟨p, _⟩ =>
      rcases p with ⟨z, _⟩ | ⟨_, i, rfl, a, b⟩ | ⟨z, _⟩ | ⟨z, _⟩
      · exact absurd z (by decide)
      · exact ⟨.kind i, rfl, ⟨a, b⟩, Nat.zero_le _, one⟩
      · exact absurd z (by decide)
      · exact absurd z (by decide)
  · have e : fm "name" = some "w" := by decide +kernel
    rw [e] at hf; cases hf
    match ys, h with
    | [d], ⟨p, _⟩ =>
      rcases p with ⟨z, _⟩ | ⟨z, _⟩ | ⟨_, i, rfl, a⟩ | ⟨z, _⟩
      · exact absurd z (by decide)
      · exact absurd z (by decide)
      · exact ⟨.name i, rfl, a, Nat.zero_le _, one⟩
      · exact absurd z (by decide)
  · have e : fm "thing" = some "w" := by decide +kernel
    rw [e] at hf; cases hf
    match ys, h with
    | [d], ⟨p, _⟩ =>
      rcases p with ⟨z, _⟩ | ⟨z, _⟩ | ⟨_, i, rfl, a⟩ | ⟨z, _⟩
      · exact absurd z (by decide)
      · exact absurd z (by decide)
      · exact ⟨.thing i, rfl, a, Nat.zero_le _, one⟩
      · exact absurd z (by decide)
  · have e : fm "maker" = some "wn" := by decide +kernel
    rw [e] at hf; cases hf
    match ys, h with
    | [d, d'], ⟨p, p', _⟩ =>
      rcases p with ⟨z, _⟩ | ⟨z, _⟩ | ⟨_, i, rfl, a⟩ | ⟨z, _⟩
      · exact absurd z (by decide)
      · exact absurd z (by decide)
      · rcases p' with ⟨_, j, rfl, b, c⟩ | ⟨z, _⟩ | ⟨z, _⟩ | ⟨z, _⟩
        · exact ⟨.maker i j, rfl, ⟨a, b, by rw [hlim, if_pos rfl] at c; omega⟩, Nat.zero_le _, one⟩
        · exact absurd z (by decide)
        · exact absurd z (by decide)
        · exact absurd z (by decide)
      · exact absurd z (by decide)
  · have e : fm "eater" = some "wh" := by decide +kernel
    rw [e] at hf; cases hf
    match ys, h with
    | [d, d'], ⟨p, p', _⟩ =>
      rcases p with ⟨z, _⟩ | ⟨z, _⟩ | ⟨_, i, rfl, a⟩ | ⟨z, _⟩
      · exact absurd z (by decide)
      · exact absurd z (by decide)
      · rcases p' with ⟨z, _⟩ | ⟨_, j, rfl, b, c⟩ | ⟨z, _⟩ | ⟨z, _⟩
        · exact absurd z (by decide)
        · exact ⟨.eater i j, rfl, ⟨a, b, c⟩, Nat.zero_le _, one⟩
        · exact absurd z (by decide)
        · exact absurd z (by decide)
      · exact absurd z (by decide)
  · rw [(two_ok h2).2.2] at hf; cases hf
    match ys, h with
    | [d, d'], ⟨p, p', _⟩ =>
      rcases p with ⟨z, _⟩ | ⟨z, _⟩ | ⟨z, _⟩ | ⟨_, t, rfl, a1, a2, a3⟩
      · exact absurd z (by decide)
      · exact absurd z (by decide)
      · exact absurd z (by decide)
      · rcases p' with ⟨z, _⟩ | ⟨z, _⟩ | ⟨z, _⟩ | ⟨_, t', rfl, b1, b2, b3⟩
        · exact absurd z (by decide)
        · exact absurd z (by decide)
        · exact absurd z (by decide)
        · exact ⟨.two w t t', rfl, ⟨h2, a1, b1⟩, by show max _ _ + 1 ≤ _; omega, by
            have : 4 ≤ 4 ^ dn := by
              have : 1 ≤ dn := by omega
              exact Nat.le_self_pow (by omega) 4
            show _ + _ + 1 ≤ _
            omega⟩
  · rw [(three_ok h3).2.2] at hf; cases hf
    match ys, h with
    | [d, d', d''], ⟨p, p', p'', _⟩ =>
      rcases p with ⟨z, _⟩ | ⟨z, _⟩ | ⟨z, _⟩ | ⟨_, t, rfl, a1, a2, a3⟩
      · exact absurd z (by decide)
      · exact absurd z (by decide)
      · exact absurd z (by decide)
      · rcases p' with ⟨z, _⟩ | ⟨z, _⟩ | ⟨z, _⟩ | ⟨_, t', rfl, b1, b2, b3⟩
        · exact absurd z (by decide)
        · exact absurd z (by decide)
        · exact absurd z (by decide)
        · rcases p'' with ⟨z, _⟩ | ⟨z, _⟩ | ⟨z, _⟩ | ⟨_, t'', rfl, c1, c2, c3⟩
          · exact absurd z (by decide)
          · exact absurd z (by decide)
          · exact absurd z (by decide)
          · exact ⟨.three w t t' t'', rfl, ⟨h3, a1, b1, c1⟩, by show max _ (max _ _) + 1 ≤ _; omega, by
              have : 4 ≤ 4 ^ dn := by
                have : 1 ≤ dn := by omega
                exact Nat.le_self_pow (by omega) 4
              show _ + _ + _ + 1 ≤ _
              omega⟩
def cost : Nat → Int
  | 0 => 20
  | d + 1 => 3 * cost d + 1
theorem cost_pos : ∀ d, 20 ≤ cost d
  | 0 => by decide
  | d + 1 => by have := cost_pos d; show 20 ≤ 3 * cost d + 1; omega
theorem isNot_bl {a b : Bool} {S : Store} : opIsNot (.bl a) (.bl b) S = .ok (.bl (!(a == b))) S := by
  cases a <;> cases b <;> rfl
theorem range_ints (n : Nat) : ∀ d ∈ rangeD 0 n, ∃ j : Int, 0 ≤ j ∧ d = .int j := by
  intro d hd
  unfold rangeD at hd
  obtain ⟨i, _, rfl⟩ := List.mem_map.mp hd
  exact ⟨_, by omega, rfl⟩
def wd : Tm → Str
  | .at _ => "at" | .kind _ => "kind" | .name _ => "name" | .thing _ => "thing" | .maker _ _ => "maker" | .eater _ _ => "eater"
  | .two g _ _ => g | .three g _ _ _ => g
def ar : Tm → List Dt
  | .at i => [.int i] | .kind i => [.int i] | .name z => [.str z] | .thing z => [.str z] | .maker z i => [.str z, .int i] | .eater z i => [.str z, .int i]
  | .two _ a b => [tD a, tD b] | .three _ a b c => [tD a, tD b, tD c]
def kids : Tm → List Tm
  | .two _ a b => [a, b] | .three _ a b c => [a, b, c] | _ => []
theorem tD_eq (t : Tm) : tD t = .tup (.str (wd t) :: ar t) := by cases t <;> rfl
def isB (g : Str) : Bool := decide (g ∈ (["all", "fun"] : List Str))
def bd (g : Str) : Int := if isB g then 1 else 0
/-- binders around the part of number i -/
def bi (t : Tm) (i : Nat) : Int := match t with
  | .two g _ _ => if isB g && decide (i = 1) then 1 else 0
  | _ => 0
theorem leaf_tab : ∀ p ∈ ([("at", "n"), ("kind", "h"), ("name", "w"), ("thing", "w"), ("maker", "wn"), ("eater", "wh")] : List (Str × Str)), fm p.1 = some p.2 ∧ decide (116 ∈ p.2.cps.toList) = false ∧ isB p.1 = false ∧ decide (p.1 = "at") = decide (p.2 = "n") := by decide +kernel
def isAt : Tm → Bool
  | .at _ => true
  | _ => false
theorem wd_facts {m : Int} (t : Tm) (h : Ok m t) : ∃ f, fm (wd t) = some f ∧ decide (116 ∈ f.cps.toList) = !(kids t).isEmpty ∧ (isB (wd t) = true → (kids t).length = 2) ∧ decide (wd t = "at") = isAt t := by
  have no : ∀ {b : Bool} {p : Prop}, b = false → b = true → p := fun e1 e2 => by rw [e1] at e2; cases e2
  cases t with
  | two g a b =>
    have key : ∀ g ∈ twoG, decide (g = "at") = false := by decide +kernel
    refine ⟨"tt", (two_ok h.1).2.2, ?_, fun _ => rfl, key g h.1⟩
    show decide (116 ∈ ("tt" : Str).cps.toList) = true
    decide +kernel
  | three g a b c =>
    have key : ∀ g ∈ threeG, isB g = false ∧ decide (g = "at") = false := by decide +kernel
    refine ⟨"ttt", (three_ok h.1).2.2, ?_, fun e => no (key g h.1).1 e, (key g h.1).2⟩
    show decide (116 ∈ ("ttt" : Str).cps.toList) = true
    decide +kernel
  | «at» i => obtain ⟨e1, e2, e3, e4⟩ := leaf_tab ("at", "n") (by simp); exact ⟨"n", e1, e2, fun e => no e3 e, by show decide (("at" : Str) = "at") = true; decide +kernel⟩
  | kind i => obtain ⟨e1, e2, e3, e4⟩ := leaf_tab ("kind", "h") (by simp); exact ⟨"h", e1, e2, fun e => no e3 e, by show decide (("kind" : Str) = "at") = false; decide +kernel⟩
  | name i => obtain ⟨e1, e2, e3, e4⟩ := leaf_tab ("name", "w") (by simp); exact ⟨"w", e1, e2, fun e => no e3 e, by show decide (("name" : Str) = "at") = false; decide +kernel⟩
  | thing i => obtain ⟨e1, e2, e3, e4⟩ := leaf_tab ("thing", "w") (by simp); exact ⟨"w", e1, e2, fun e => no e3 e, by show decide (("thing" : Str) = "at") = false; decide +kernel⟩
  | maker i j => obtain ⟨e1, e2, e3, e4⟩ := leaf_tab ("maker", "wn") (by simp); exact ⟨"wn", e1, e2, fun e => no e3 e, by show decide (("maker" : Str) = "at") = false; decide +kernel⟩
  | eater i j => obtain ⟨e1, e2, e3, e4⟩ := leaf_tab ("eater", "wh") (by simp); exact ⟨"wh", e1, e2, fun e => no e3 e, by show decide (("eater" : Str) = "at") = false; decide +kernel⟩
theorem ar_kids {m : Int} (t : Tm) (h : Ok m t) (hk : (kids t).isEmpty = false) : ar t = (kids t).map tD := by
  cases t <;> first | rfl | cases hk
section
variable {S : Store} {m : Int} {t : Tm}
theorem ix0 : opIx (tD t) (.int 0) S = .ok (.str (wd t)) S := by rw [tD_eq]; exact opIx_tup0
theorem is_at (h : Ok m t) : opEq (.str (wd t)) (.str "at") S = .ok (.bl (isAt t)) S := by
  obtain ⟨f, _, _, _, h4⟩ := wd_facts t h
  rw [opEq_strs, h4]
theorem bi_of (h : Ok m t) (i : Nat) : bi t i = if isB (wd t) && decide ((i : Int) = 1) then 1 else 0 := by
  have e : decide ((i : Int) = 1) = decide (i = 1) := by
    by_cases h : i = 1
    · subst h; rfl
    · rw [decide_eq_false h, decide_eq_false (by omega)]
  obtain ⟨f, _, _, h3, _⟩ := wd_facts t h
  rw [e]
  by_cases hk : (kids t).length = 2
  · cases t <;> first | rfl | (simp [kids] at hk; done)
  · have : isB (wd t) = false := by
      cases hb : isB (wd t) with
      | false => rfl
      | true => exact absurd (h3 hb) hk
    rw [this]
    cases t <;> first | rfl | (simp [kids] at hk; done)
end
def raiseT (by_ : Int) : Tm → Int → Tm
  | .at i, s => .at (if s ≤ i then i + by_ else i)
  | .two g a b, s => .two g (raiseT by_ a s) (raiseT by_ b (s + bi (.two g a b) 1))
  | .three g a b c, s => .three g (raiseT by_ a s) (raiseT by_ b s) (raiseT by_ c s)
  | t, s => t
theorem bi0 (t : Tm) : bi t 0 = 0 := by
  cases t <;> first | rfl | skip
  simp [bi]
theorem bi3 (g : Str) (a b c : Tm) (i : Nat) : bi (.three g a b c) i = 0 := rfl
theorem ite_ok {p : Prop} [Decidable p] {d e : Dt} {S : Store} : (if p then Out.ok d S else Out.ok e S) = .ok (if p then d else e) S := by split <;> rfl
def giveT (o : Tm) (n : Int) : Tm → Int → Tm
  | .at i, u => if i = n + u then raiseT u o 0 else .at (if n + u < i then i - 1 else i)
  | .two g a b, u => .two g (giveT o n a u) (giveT o n b (u + bi (.two g a b) 1))
  | .three g a b c, u => .three g (giveT o n a u) (giveT o n b u) (giveT o n c u)
  | t, _ => t
def sh (o : Int) (L : List Int) : List Int := (L.filter fun p => decide (o ≤ p)).map fun p => p - o
def freeT : Tm → List Int
  | .at i => [i]
  | .two g a b => setI (sh 0 (freeT a) ++ sh (bi (.two g a b) 1) (freeT b))
  | .three g a b c => setI (sh 0 (freeT a) ++ sh 0 (freeT b) ++ sh 0 (freeT c))
  | _ => []
theorem sh_len (o : Int) (L : List Int) : (sh o L).length ≤ L.length := by
  unfold sh
  rw [List.length_map]
  exact List.length_filter_le _ _
theorem mem_sh {o x : Int} {L : List Int} : x ∈ sh o L ↔ ∃ p ∈ L, o ≤ p ∧ p - o = x := by
  unfold sh
  rw [List.mem_map]
  constructor
  · rintro ⟨p, h, rfl⟩
    obtain ⟨h1, h2⟩ := List.mem_filter.mp h
    exact ⟨p, h1, by simpa using h2, rfl⟩
  · rintro ⟨p, h1, h2, rfl⟩
    exact ⟨p, List.mem_filter.mpr ⟨h1, by simpa using h2⟩, rfl⟩
theorem setI_len (L : List Int) : (setI L).length ≤ L.length := by
  unfold setI
  rw [(sortI_perm _).length_eq]
  have : ∀ L : List Int, (dedupI L).length ≤ L.length := by
    intro L
    induction L with
    | nil => exact Nat.le_refl _
    | cons x xs ih =>
      unfold dedupI
      split <;> simp <;> omega
  exact this L
theorem freeT_len : ∀ t : Tm, (freeT t).length ≤ sz t
  | .at _ => Nat.le_refl _
  | .two g a b => by
    have h1 := freeT_len a
    have h2 := freeT_len b
    have h3 := setI_len (sh 0 (freeT a) ++ sh (bi (.two g a b) 1) (freeT b))
    have h4 := sh_len 0 (freeT a)
    have h5 := sh_len (bi (.two g a b) 1) (freeT b)
    rw [List.length_append] at h3
    show (setI _).length ≤ sz a + sz b + 1
    omega
  | .three g a b c => by
    have h1 := freeT_len a
    have h2 := freeT_len b
    have h2' := freeT_len c
    have h3 := setI_len (sh 0 (freeT a) ++ sh 0 (freeT b) ++ sh 0 (freeT c))
    have h4 := sh_len 0 (freeT a)
    have h5 := sh_len 0 (freeT b)
    have h6 := sh_len 0 (freeT c)
    rw [List.length_append, List.length_append] at h3
    show (setI _).length ≤ sz a + sz b + sz c + 1
    omega
  | .kind _ | .name _ | .thing _ | .maker _ _ | .eater _ _ => Nat.zero_le _
structure Dk (kvs : List (Key × Dt)) (ks : List Int) : Prop where
  keys : keysI kvs = some ks
  nd : ks.Nodup
  tr : ∀ p ∈ kvs, p.2 = .bl true
theorem Dk.put {kvs : List (Key × Dt)} {ks : List Int} (h : Dk kvs ks) (i : Int) : ∃ ks', Dk (putD kvs (.inl i) (.bl true)) ks' ∧ ks'.length ≤ ks.length + 1 ∧ ∀ x, x ∈ ks' ↔ x ∈ ks ∨ x = i := by
  refine ⟨if i ∈ ks then ks else ks ++ [i], ⟨keysI_put h.keys, ?_, put_all h.tr⟩, ?_, fun x => ?_⟩
  · split
    · exact h.nd
    · rename_i hn
      rw [List.nodup_append]
      exact ⟨h.nd, by simp, fun a ha b hb e => hn (by simp at hb; rw [← hb, ← e]; exact ha)⟩
  · split
    · omega
    · simp
  · split
    · rename_i hi
      exact ⟨.inl, fun h => h.elim id fun e => e ▸ hi⟩
    · simp
section
variable {m : Int}
theorem ht_raise (b : Int) : ∀ (t : Tm) (s : Int), ht (raiseT b t s) = ht t
  | .at _, _ => rfl
  | .two g x y, s => by show max _ _ + 1 = max _ _ + 1; rw [ht_raise b x, ht_raise b y]
  | .three g x y z, s => by show max _ (max _ _) + 1 = max _ (max _ _) + 1; rw [ht_raise b x, ht_raise b y, ht_raise b z]
  | .kind _, _ | .name _, _ | .thing _, _ | .maker _ _, _ | .eater _ _, _ => rfl
theorem sz_raise (b : Int) : ∀ (t : Tm) (s : Int), sz (raiseT b t s) = sz t
  | .at _, _ => rfl
  | .two g x y, s => by show _ + _ + 1 = _ + _ + 1; rw [sz_raise b x, sz_raise b y]
  | .three g x y z, s => by show _ + _ + _ + 1 = _ + _ + _ + 1; rw [sz_raise b x, sz_raise b y, sz_raise b z]
  | .kind _, _ | .name _, _ | .thing _, _ | .maker _ _, _ | .eater _ _, _ => rfl
theorem Ok_raise {b : Int} (hb : 0 ≤ b) : ∀ (t : Tm) (s : Int), Ok m t → Ok (m + b) (raiseT b t s)
  | .at i, s, h => by
    have h1 : 0 ≤ i ∧ i < m := h
    show 0 ≤ (if s ≤ i then i + b else i) ∧ (if s ≤ i then i + b else i) < m + b
    split <;> omega
  | .two g x y, s, h => ⟨h.1, Ok_raise hb x _ h.2.1, Ok_raise hb y _ h.2.2⟩
  | .three g x y z, s, h => ⟨h.1, Ok_raise hb x _ h.2.1, Ok_raise hb y _ h.2.2.1, Ok_raise hb z _ h.2.2.2⟩
  | .kind _, _, h | .name _, _, h | .thing _, _, h | .maker _ _, _, h | .eater _ _, _, h => h
theorem give_raise (o : Tm) : ∀ (t : Tm) (n u s : Int), s = n + u → giveT o n (raiseT 1 t s) u = t
  | .at i, n, u, s, h => by
    by_cases hs : s ≤ i
    · have e : raiseT 1 (.at i) s = .at (i + 1) := by show Tm.at (if s ≤ i then i + 1 else i) = _; rw [if_pos hs]
      rw [e]
      show (if i + 1 = n + u then raiseT u o 0 else .at (if n + u < i + 1 then i + 1 - 1 else i + 1)) = _
      rw [if_neg (by omega), if_pos (by omega)]
      congr 1; omega
    · have e : raiseT 1 (.at i) s = .at i := by show Tm.at (if s ≤ i then i + 1 else i) = _; rw [if_neg hs]
      rw [e]
      show (if i = n + u then raiseT u o 0 else .at (if n + u < i then i - 1 else i)) = _
      rw [if_neg (by omega), if_neg (by omega)]
  | .two g x y, n, u, s, h => by
    show Tm.two g (giveT o n (raiseT 1 x s) u) (giveT o n (raiseT 1 y (s + bi (.two g x y) 1)) (u + bi (.two g x y) 1)) = _
    rw [give_raise o x n u s h, give_raise o y n _ _ (by omega)]
  | .three g x y z, n, u, s, h => by
    show Tm.three g (giveT o n (raiseT 1 x s) u) (giveT o n (raiseT 1 y s) u) (giveT o n (raiseT 1 z s) u) = _
    rw [give_raise o x n u s h, give_raise o y n u s h, give_raise o z n u s h]
  | .kind _, _, _, _, _ | .name _, _, _, _, _ | .thing _, _, _, _, _ | .maker _ _, _, _, _, _ | .eater _ _, _, _, _, _ => rfl
theorem free_raise : ∀ (t : Tm) (s x : Int), x ∈ freeT (raiseT 1 t s) → x ≠ s
  | .at i, s, x, h => by
    have h' : x ∈ [if s ≤ i then i + 1 else i] := h
    simp only [List.mem_cons, List.mem_nil_iff, or_false] at h'
    rw [h']
    split <;> omega
  | .two g a b, s, x, h => by
    have h' : x ∈ setI (sh 0 (freeT (raiseT 1 a s)) ++ sh (bi (.two g a b) 1) (freeT (raiseT 1 b (s + bi (.two g a b) 1)))) := h
    rw [mem_setI, List.mem_append, mem_sh, mem_sh] at h'
    rcases h' with ⟨p, h1, h2, rfl⟩ | ⟨p, h1, h2, rfl⟩
    · have := free_raise a s p h1; omega
    · have := free_raise b _ p h1; omega
  | .three g a b c, s, x, h => by
    have h' : x ∈ setI (sh 0 (freeT (raiseT 1 a s)) ++ sh 0 (freeT (raiseT 1 b s)) ++ sh 0 (freeT (raiseT 1 c s))) := h
    rw [mem_setI, List.mem_append, List.mem_append, mem_sh, mem_sh, mem_sh] at h'
    rcases h' with (⟨p, h1, h2, rfl⟩ | ⟨p, h1, h2, rfl⟩) | ⟨p, h1, h2, rfl⟩
    · have := free_raise a s p h1; omega
    · have := free_raise b s p h1; omega
    · have := free_raise c s p h1; omega
  | .kind _, _, _, h | .name _, _, _, h | .thing _, _, _, h | .maker _ _, _, _, h | .eater _ _, _, _, h => by simp [raiseT, freeT] at h
end
theorem Ok.mono {m m' : Int} (h : m ≤ m') : ∀ {t : Tm}, Ok m t → Ok m' t
  | .at _, a => ⟨a.1, by have := a.2; omega⟩
  | .two g x y, a => ⟨a.1, Ok.mono h a.2.1, Ok.mono h a.2.2⟩
  | .three g x y z, a => ⟨a.1, Ok.mono h a.2.1, Ok.mono h a.2.2.1, Ok.mono h a.2.2.2⟩
  | .kind _, a | .name _, a | .thing _, a | .maker _ _, a | .eater _ _, a => a
section
variable {S : Store}
def appT (a b : Tm) : Tm := .two "app" a b
theorem trimO_x {n : Nat} {c : Str} {fs : List (Str × Dt)} (h1 : closedL n (fs.map (·.2)) = true) (h2 : (S.take n).all (closedM n) = true) : trimO n (.exc c fs S) = .exc c fs (S.take n) := by
  have h : (closedL n (fs.map (·.2)) && (S.take n).all (closedM n)) = true := by rw [h1, h2]; rfl
  exact if_pos h
theorem callL_ok {i : Nat} {Fs : Str → Option (List Dt → Store → Out Dt)} {a : FA} {env : EnvD} {y : Str} {F : List Dt → Store → Out Dt} (h1 : slot env i = some (.fn y)) (h2 : Fs y = some F) : cCallL i Fs a env S = (a env S).bind F := by
  unfold cCallL
  simp only [h1, h2]
end
theorem free_bd {m x : Int} : ∀ {t : Tm}, Ok m t → x ∈ freeT t → 0 ≤ x ∧ x < m
  | .at i, h, hx => by
    have : x = i := by simpa [freeT] using hx
    have h1 : 0 ≤ i ∧ i < m := h
    omega
  | .two g a b, h, hx => by
    have h' : x ∈ setI (sh 0 (freeT a) ++ sh (bi (.two g a b) 1) (freeT b)) := hx
    have hb : 0 ≤ bi (.two g a b) 1 := by rw [bi_of h]; split <;> omega
    rw [mem_setI, List.mem_append, mem_sh, mem_sh] at h'
    rcases h' with ⟨p, h1, h2, rfl⟩ | ⟨p, h1, h2, rfl⟩
    · have := free_bd h.2.1 h1; omega
    · have := free_bd h.2.2 h1; omega
  | .three g a b c, h, hx => by
    have h' : x ∈ setI (sh 0 (freeT a) ++ sh 0 (freeT b) ++ sh 0 (freeT c)) := hx
    rw [mem_setI, List.mem_append, List.mem_append, mem_sh, mem_sh, mem_sh] at h'
    rcases h' with (⟨p, h1, h2, rfl⟩ | ⟨p, h1, h2, rfl⟩) | ⟨p, h1, h2, rfl⟩
    · have := free_bd h.2.1 h1; omega
    · have := free_bd h.2.2.1 h1; omega
    · have := free_bd h.2.2.2 h1; omega
  | .kind _, _, hx | .name _, _, hx | .thing _, _, hx | .maker _ _, _, hx | .eater _ _, _, hx => by simp [freeT] at hx
theorem okL_ints {L : List Int} (h : ∀ x ∈ L, 0 ≤ x ∧ x < 3000) : okL (L.map Dt.int) = true := by
  rw [okL_all, List.all_eq_true]
  intro d hd
  obtain ⟨x, hx, rfl⟩ := List.mem_map.mp hd
  have := h x hx
  exact decide_eq_true (by omega)
theorem noDct_ints (L : List Int) : noDctL (L.map Dt.int) = true := by
  rw [noDctL_all, List.all_eq_true]
  intro d hd
  obtain ⟨x, hx, rfl⟩ := List.mem_map.mp hd
  rfl
theorem dp_ints (L : List Int) : dpL (L.map Dt.int) ≤ 0 := dpL_le _ fun d hd => by
  obtain ⟨x, hx, rfl⟩ := List.mem_map.mp hd
  exact Nat.le_refl _
theorem closed_ints (n : Nat) (L : List Int) : closedL n (L.map Dt.int) = true := by
  induction L with
  | nil => rfl
  | cons x xs ih => exact ih
theorem ne_same {d : Dt} {S : Store} (h1 : okD d = true) (h2 : noDct d = true) (h3 : dpD d ≤ 200) : opNe d d S = .ok (.bl false) S := by
  rw [opNe_ok S h1 h1 h2 h2 h3, eqD_refl h1 h2]; rfl
end DL

set_option Elab.async false
set_option linter.all false
set_option maxRecDepth 1000000
set_option maxHeartbeats 4000000
namespace DL
open PySem PySem.Spec PyProof.Rows L2
/-! ### parts at spots -/
def withK : DL.Tm → List DL.Tm → DL.Tm
  | .two g a b, [x, y] => .two g x y
  | .three g a b c, [x, y, z] => .three g x y z
  | t, _ => t
def atT : DL.Tm → List Nat → Option DL.Tm
  | t, [] => some t
  | t, n :: ns => (kids t)[n]?.bind fun k => atT k ns
def bindT : DL.Tm → List Nat → Int
  | _, [] => 0
  | t, n :: ns => bi t n + (match (kids t)[n]? with | some k => bindT k ns | none => 0)
def putT : DL.Tm → List Nat → DL.Tm → DL.Tm
  | _, [], o => o
  | t, n :: ns, o => match (kids t)[n]? with
    | some k => withK t ((kids t).set n (putT k ns o))
    | none => t
def spotsT : DL.Tm → List (List Nat)
  | .two _ a b => [] :: ((spotsT a).map (0 :: ·) ++ (spotsT b).map (1 :: ·))
  | .three _ a b c => [] :: ((spotsT a).map (0 :: ·) ++ (spotsT b).map (1 :: ·) ++ (spotsT c).map (2 :: ·))
  | _ => [[]]
def sptD (sp : List Nat) : Dt := .tup (sp.map fun n : Nat => Dt.int (n : Int))
theorem spots_at : ∀ {t : DL.Tm} {sp : List Nat}, sp ∈ spotsT t → ∃ q, atT t sp = some q
  | .two g a b, sp, h => by
    have h' : sp ∈ [] :: ((spotsT a).map (0 :: ·) ++ (spotsT b).map (1 :: ·)) := h
    rw [List.mem_cons, List.mem_append, List.mem_map, List.mem_map] at h'
    rcases h' with rfl | ⟨x, hx, rfl⟩ | ⟨x, hx, rfl⟩
    · exact ⟨_, rfl⟩
    · obtain ⟨q, e⟩ := spots_at hx; exact ⟨q, e⟩
    · obtain ⟨q, e⟩ := spots_at hx; exact ⟨q, e⟩
  | .three g a b c, sp, h => by
    have h' : sp ∈ [] :: ((spotsT a).map (0 :: ·) ++ (spotsT b).map (1 :: ·) ++ (spotsT c).map (2 :: ·)) := h
    rw [List.mem_cons, List.mem_append, List.mem_append, List.mem_map, List.mem_map, List.mem_map] at h'
    rcases h' with rfl | (⟨x, hx, rfl⟩ | ⟨x, hx, rfl⟩) | ⟨x, hx, rfl⟩
    · exact ⟨_, rfl⟩
    · obtain ⟨q, e⟩ := spots_at hx; exact ⟨q, e⟩
    · obtain ⟨q, e⟩ := spots_at hx; exact ⟨q, e⟩
    · obtain ⟨q, e⟩ := spots_at hx; exact ⟨q, e⟩
  | .at _, sp, h | .kind _, sp, h | .name _, sp, h | .thing _, sp, h | .maker _ _, sp, h | .eater _ _, sp, h => by
    have h' : sp ∈ [([] : List Nat)] := h
    simp at h'
    subst h'
    exact ⟨_, rfl⟩
theorem spots_len : ∀ t : DL.Tm, (spotsT t).length = sz t
  | .two g a b => by
    show ((spotsT a).map (0 :: ·) ++ (spotsT b).map (1 :: ·)).length + 1 = _
    rw [List.length_append, List.length_map, List.length_map, spots_len a, spots_len b]; rfl
  | .three g a b c => by
    show ((spotsT a).map (0 :: ·) ++ (spotsT b).map (1 :: ·) ++ (spotsT c).map (2 :: ·)).length + 1 = _
    rw [List.length_append, List.length_append, List.length_map, List.length_map, List.length_map, spots_len a, spots_len b, spots_len c]; rfl
  | .at _ | .kind _ | .name _ | .thing _ | .maker _ _ | .eater _ _ => rfl
theorem spots_ht : ∀ {t : DL.Tm} {sp : List Nat}, sp ∈ spotsT t → sp.length ≤ ht t ∧ ∀ n ∈ sp, n ≤ 2
  | .two g a b, sp, h => by
    have h' : sp ∈ [] :: ((spotsT a).map (0 :: ·) ++ (spotsT b).map (1 :: ·)) := h
    have e : ht (.two g a b) = max (ht a) (ht b) + 1 := rfl
    rw [List.mem_cons, List.mem_append, List.mem_map, List.mem_map] at h'
    rcases h' with rfl | ⟨x, hx, rfl⟩ | ⟨x, hx, rfl⟩
    · simp
    · obtain ⟨h1, h2⟩ := spots_ht hx
      refine ⟨by rw [List.length_cons]; omega, fun n hn => ?_⟩
      rcases List.mem_cons.mp hn with rfl | hn
      · omega
      · exact h2 n hn
    · obtain ⟨h1, h2⟩ := spots_ht hx
      refine ⟨by rw [List.length_cons]; omega, fun n hn => ?_⟩
      rcases List.mem_cons.mp hn with rfl | hn
      · omega
      · exact h2 n hn
  | .three g a b c, sp, h => by
    have h' : sp ∈ [] :: ((spotsT a).map (0 :: ·) ++ (spotsT b).map (1 :: ·) ++ (spotsT c).map (2 :: ·)) := h
    have e : ht (.three g a b c) = max (ht a) (max (ht b) (ht c)) + 1 := rfl
    rw [List.mem_cons, List.mem_append, List.mem_append, List.mem_map, List.mem_map, List.mem_map] at h'
    rcases h' with rfl | (⟨x, hx, rfl⟩ | ⟨x, hx, rfl⟩) | ⟨x, hx, rfl⟩
    · simp
    all_goals
      obtain ⟨h1, h2⟩ := spots_ht hx
      refine ⟨by rw [List.length_cons]; omega, fun n hn => ?_⟩
      rcases List.mem_cons.mp hn with rfl | hn
      · omega
      · exact h2 n hn
  | .at _, sp, h | .kind _, sp, h | .name _, sp, h | .thing _, sp, h | .maker _ _, sp, h | .eater _ _, sp, h => by
    have h' : sp ∈ [([] : List Nat)] := h
    simp at h'
    subst h'
    simp
theorem kids_len (t : DL.Tm) : (kids t).length ≤ 3 := by cases t <;> simp [kids]
theorem withK_wd {t : DL.Tm} {l : List DL.Tm} (h : l.length = (kids t).length) : wd (withK t l) = wd t ∧ kids (withK t l) = if (kids t) = [] then [] else l := by
  cases t with
  | two g a b =>
    match l, h with
    | [x, y], _ => exact ⟨rfl, rfl⟩
  | three g a b c =>
    match l, h with
    | [x, y, z], _ => exact ⟨rfl, rfl⟩
  | _ => exact ⟨rfl, rfl⟩
theorem withK_tD {t : DL.Tm} {l : List DL.Tm} (h : l.length = (kids t).length) (hk : kids t ≠ []) : tD (withK t l) = .tup (.str (wd t) :: l.map tD) := by
  cases t with
  | two g a b =>
    match l, h with
    | [x, y], _ => rfl
  | three g a b c =>
    match l, h with
    | [x, y, z], _ => rfl
  | _ => exact absurd rfl hk
theorem withK_Ok {m : Int} {t : DL.Tm} {l : List DL.Tm} (h : Ok m t) (hl : ∀ x ∈ l, Ok m x) : Ok m (withK t l) := by
  cases t with
  | two g a b =>
    match l with
    | [x, y] => exact ⟨h.1, hl x (by simp), hl y (by simp)⟩
    | [] | [_] | _ :: _ :: _ :: _ => exact h
  | three g a b c =>
    match l with
    | [x, y, z] => exact ⟨h.1, hl x (by simp), hl y (by simp), hl z (by simp)⟩
    | [] | [_] | [_, _] | _ :: _ :: _ :: _ :: _ => exact h
  | _ => exact h
theorem kids_Ok {m : Int} {t : DL.Tm} (h : Ok m t) : ∀ x ∈ kids t, Ok m x := by
  cases t with
  | two g a b => intro x hx; simp [kids] at hx; rcases hx with rfl | rfl; exact h.2.1; exact h.2.2
  | three g a b c => intro x hx; simp [kids] at hx; rcases hx with rfl | rfl | rfl; exact h.2.1; exact h.2.2.1; exact h.2.2.2
  | _ => intro x hx; simp [kids] at hx
theorem kids_ht {t : DL.Tm} : ∀ x ∈ kids t, ht x + 1 ≤ ht t := by
  cases t with
  | two g a b => intro x hx; have e : ht (.two g a b) = max (ht a) (ht b) + 1 := rfl; simp [kids] at hx; rcases hx with rfl | rfl <;> omega
  | three g a b c => intro x hx; have e : ht (.three g a b c) = max (ht a) (max (ht b) (ht c)) + 1 := rfl; simp [kids] at hx; rcases hx with rfl | rfl | rfl <;> omega
  | _ => intro x hx; simp [kids] at hx
theorem kids_sz {t : DL.Tm} : sz t = ((kids t).map sz).sum + 1 := by
  cases t with
  | two g a b => show _ + _ + 1 = _; simp [kids]
  | three g a b c => show _ + _ + _ + 1 = _; simp [kids]; omega
  | _ => rfl
theorem kids_szm {t : DL.Tm} : ∀ x ∈ kids t, sz x + 1 ≤ sz t := by
  cases t with
  | two g a b => intro x hx; have e : sz (.two g a b) = sz a + sz b + 1 := rfl; simp [kids] at hx; rcases hx with rfl | rfl <;> omega
  | three g a b c => intro x hx; have e : sz (.three g a b c) = sz a + sz b + sz c + 1 := rfl; simp [kids] at hx; rcases hx with rfl | rfl | rfl <;> omega
  | _ => intro x hx; simp [kids] at hx
theorem at_Ok {m : Int} : ∀ {sp : List Nat} {t q : DL.Tm}, Ok m t → atT t sp = some q → Ok m q ∧ ht q ≤ ht t ∧ sz q ≤ sz t
  | [], t, q, h, e => by cases e; exact ⟨h, Nat.le_refl _, Nat.le_refl _⟩
  | n :: ns, t, q, h, e => by
    obtain ⟨k, h1, h2⟩ := Option.bind_eq_some_iff.mp e
    have hm := List.mem_of_getElem? h1
    obtain ⟨a1, a2, a3⟩ := at_Ok (kids_Ok h k hm) h2
    have := kids_ht k hm
    have := kids_szm k hm
    exact ⟨a1, by omega, by omega⟩
theorem sum_set {xs : List Nat} {n v k : Nat} (h : xs[n]? = some k) : (xs.set n v).sum + k = xs.sum + v := by
  induction xs generalizing n with
  | nil => simp at h
  | cons x xs ih =>
    cases n with
    | zero => simp at h; subst h; simp; omega
    | succ n => simp at h; have := ih h; simp; omega
theorem put_facts {m : Int} {o : DL.Tm} (ho : Ok m o) : ∀ {sp : List Nat} {t q : DL.Tm}, Ok m t → atT t sp = some q → Ok m (putT t sp o) ∧ ht (putT t sp o) ≤ ht t + ht o ∧ sz (putT t sp o) + sz q = sz t + sz o ∧ atT (putT t sp o) sp = some o
  | [], t, q, h, e => by cases e; exact ⟨ho, by show ht o ≤ _; omega, by show sz o + _ = _; omega, rfl⟩
  | n :: ns, t, q, h, e => by
    obtain ⟨k, h1, h2⟩ := Option.bind_eq_some_iff.mp e
    have hm := List.mem_of_getElem? h1
    obtain ⟨a1, a2, a3, a4⟩ := put_facts ho (kids_Ok h k hm) h2
    have hh := kids_ht k hm
    have e1 : putT t (n :: ns) o = withK t ((kids t).set n (putT k ns o)) := by
      show (match (kids t)[n]? with | some k => withK t ((kids t).set n (putT k ns o)) | none => t) = _
      rw [h1]
    have hn : n < (kids t).length := (List.getElem?_eq_some_iff.mp h1).1
    have hne : kids t ≠ [] := by intro z; rw [z] at hn; simp at hn
    have hl : ((kids t).set n (putT k ns o)).length = (kids t).length := by simp
    obtain ⟨w1, w2⟩ := withK_wd hl
    rw [if_neg hne] at w2
    refine ⟨?_, ?_, ?_, ?_⟩
    · rw [e1]
      refine withK_Ok h fun x hx => ?_
      rcases List.mem_or_eq_of_mem_set hx with hx | rfl
      · exact kids_Ok h x hx
      · exact a1
    · have key : ∀ T : DL.Tm, (∀ x ∈ kids T, ht x + 1 ≤ ht t + ht o) → kids T ≠ [] → ht T ≤ ht t + ht o := by
        intro T hT hT2
        cases T with
        | two g a b =>
          have x1 := hT a (by simp [kids])
          have x2 := hT b (by simp [kids])
          show max _ _ + 1 ≤ _; omega
        | three g a b c =>
          have x1 := hT a (by simp [kids])
          have x2 := hT b (by simp [kids])
          have x3 := hT c (by simp [kids])
          show max _ (max _ _) + 1 ≤ _; omega
        | _ => exact absurd rfl hT2
      rw [e1]
      refine key _ (fun x hx => ?_) (by rw [w2]; intro z; have := congrArg List.length z; rw [hl] at this; simp at this; exact hne (List.length_eq_zero_iff.mp (by simpa using this)))
      rw [w2] at hx
      rcases List.mem_or_eq_of_mem_set hx with hx | rfl
      · have := kids_ht x hx; omega
      · omega
    · rw [e1, kids_sz, w2, List.map_set]
      have := kids_sz (t := t)
      have s := sum_set (xs := (kids t).map sz) (n := n) (v := sz (putT k ns o)) (k := sz k) (by rw [List.getElem?_map, h1]; rfl)
      omega
    · rw [e1]
      show ((kids (withK t ((kids t).set n (putT k ns o))))[n]?.bind fun k => atT k ns) = _
      rw [w2, List.getElem?_set_self hn]
      exact a4
theorem set_same {α : Type} {xs : List α} {n : Nat} {x : α} (h : xs[n]? = some x) : xs.set n x = xs := by
  apply List.ext_getElem?
  intro i
  by_cases hi : n = i
  · subst hi
    rw [List.getElem?_set_self (List.getElem?_eq_some_iff.mp h).1, h]
  · rw [List.getElem?_set_ne hi]
theorem withK_kids (t : DL.Tm) : withK t (kids t) = t := by cases t <;> rfl
theorem put_same : ∀ {sp : List Nat} {t q : DL.Tm}, atT t sp = some q → putT t sp q = t
  | [], t, q, e => by cases e; rfl
  | n :: ns, t, q, e => by
    obtain ⟨k, h1, h2⟩ := Option.bind_eq_some_iff.mp e
    show (match (kids t)[n]? with | some k => withK t ((kids t).set n (putT k ns q)) | none => t) = _
    rw [h1]
    simp only []
    rw [put_same h2, set_same h1, withK_kids]
theorem spots_raise (b : Int) : ∀ (t : DL.Tm) (s : Int), spotsT (raiseT b t s) = spotsT t
  | .two g x y, s => by show [] :: (_ ++ _) = [] :: (_ ++ _); rw [spots_raise b x, spots_raise b y]
  | .three g x y z, s => by show [] :: (_ ++ _ ++ _) = [] :: (_ ++ _ ++ _); rw [spots_raise b x, spots_raise b y, spots_raise b z]
  | .at _, _ | .kind _, _ | .name _, _ | .thing _, _ | .maker _ _, _ | .eater _ _, _ => rfl
/-! ### heads -/
def openT : DL.Tm → DL.Tm × List DL.Tm
  | .two g a b => if g = "app" then ((openT a).1, (openT a).2 ++ [b]) else (.two g a b, [])
  | t => (t, [])
def applyT (h : DL.Tm) (l : List DL.Tm) : DL.Tm := l.foldl appT h
theorem applyT_snoc (h : DL.Tm) (l : List DL.Tm) (b : DL.Tm) : applyT h (l ++ [b]) = appT (applyT h l) b := by unfold applyT; rw [List.foldl_append]; rfl
theorem open_apply : ∀ t : DL.Tm, applyT (openT t).1 (openT t).2 = t
  | .two g a b => by
    unfold openT
    by_cases hg : g = "app"
    · rw [if_pos hg]
      show applyT (openT a).1 ((openT a).2 ++ [b]) = _
      rw [applyT_snoc, open_apply a, hg]; rfl
    · rw [if_neg hg]; rfl
  | .at _ | .kind _ | .name _ | .thing _ | .maker _ _ | .eater _ _ | .three _ _ _ _ => rfl
theorem open_head : ∀ t : DL.Tm, (openT (openT t).1) = ((openT t).1, [])
  | .two g a b => by
    by_cases hg : g = "app"
    · have e : openT (.two g a b) = ((openT a).1, (openT a).2 ++ [b]) := by show (if g = "app" then _ else _) = _; rw [if_pos hg]
      rw [e]; exact open_head a
    · have e : openT (.two g a b) = (.two g a b, []) := by show (if g = "app" then _ else _) = _; rw [if_neg hg]
      rw [e]; exact e
  | .at _ | .kind _ | .name _ | .thing _ | .maker _ _ | .eater _ _ | .three _ _ _ _ => rfl
theorem open_app (h : DL.Tm) : ∀ l : List DL.Tm, openT (applyT h l) = ((openT h).1, (openT h).2 ++ l) := by
  have key : ∀ (n : Nat) (l : List DL.Tm), l.length = n → openT (applyT h l) = ((openT h).1, (openT h).2 ++ l) := by
    intro n
    induction n with
    | zero => intro l hl; have := List.length_eq_zero_iff.mp hl; subst this; simp [applyT]
    | succ n ih =>
      intro l hl
      have hne : l ≠ [] := by intro z; rw [z] at hl; simp at hl
      have e := (List.dropLast_concat_getLast hne)
      rw [← e, applyT_snoc]
      have e2 : openT (appT (applyT h l.dropLast) (l.getLast hne)) = ((openT (applyT h l.dropLast)).1, (openT (applyT h l.dropLast)).2 ++ [l.getLast hne]) := by
        show (if ("app" : Str) = "app" then _ else _) = _
        rw [if_pos rfl]
      rw [e2, ih l.dropLast (by simp; omega)]
      simp
  exact fun l => key _ l rfl
end DL

set_option Elab.async false
set_option linter.all false
set_option maxRecDepth 1000000
set_option maxHeartbeats 4000000
namespace DL
open PySem PySem.Spec PyProof.Rows L2
/-! ### laws of raising and giving -/
theorem bi_mono (t : DL.Tm) (n : Nat) : 0 ≤ bi t n ∧ bi t n ≤ 1 := by
  unfold bi
  split
  · split <;> omega
  · omega
theorem raise_0 : ∀ (t : DL.Tm) (s : Int), raiseT 0 t s = t
  | .at i, s => by show Tm.at (if s ≤ i then i + 0 else i) = _; split <;> simp
  | .two g a b, s => by show Tm.two g (raiseT 0 a s) (raiseT 0 b _) = _; rw [raise_0 a, raise_0 b]
  | .three g a b c, s => by show Tm.three g (raiseT 0 a s) (raiseT 0 b s) (raiseT 0 c s) = _; rw [raise_0 a, raise_0 b, raise_0 c]
  | .kind _, _ | .name _, _ | .thing _, _ | .maker _ _, _ | .eater _ _, _ => rfl
theorem raise_raise (x y : Int) (hx : 0 ≤ x) : ∀ (t : DL.Tm) (s : Int), raiseT y (raiseT x t s) s = raiseT (x + y) t s
  | .at i, s => by
    show raiseT y (Tm.at (if s ≤ i then i + x else i)) s = Tm.at (if s ≤ i then i + (x + y) else i)
    by_cases h : s ≤ i
    · rw [if_pos h, if_pos h]; show Tm.at (if s ≤ i + x then i + x + y else i + x) = _; rw [if_pos (by omega)]; congr 1; omega
    · rw [if_neg h, if_neg h]; show Tm.at (if s ≤ i then i + y else i) = _; rw [if_neg h]
  | .two g a b, s => by
    show Tm.two g (raiseT y (raiseT x a s) s) (raiseT y (raiseT x b (s + bi (.two g a b) 1)) (s + bi (.two g a b) 1)) = _
    rw [raise_raise x y hx a, raise_raise x y hx b]; rfl
  | .three g a b c, s => by
    show Tm.three g (raiseT y (raiseT x a s) s) (raiseT y (raiseT x b s) s) (raiseT y (raiseT x c s) s) = _
    rw [raise_raise x y hx a, raise_raise x y hx b, raise_raise x y hx c]; rfl
  | .kind _, _ | .name _, _ | .thing _, _ | .maker _ _, _ | .eater _ _, _ => rfl
/-- raising past a lower raise: s ≤ r -/
theorem raise_comm (x y : Int) : ∀ (t : DL.Tm) (r s : Int), s ≤ r → 0 ≤ y → raiseT x (raiseT y t s) (r + y) = raiseT y (raiseT x t r) s ∨ x < 0
  | .at i, r, s, h, hy => by
    by_cases hx : x < 0
    · exact .inr hx
    refine .inl ?_
    show raiseT x (Tm.at (if s ≤ i then i + y else i)) (r + y) = raiseT y (Tm.at (if r ≤ i then i + x else i)) s
    by_cases h1 : s ≤ i
    · rw [if_pos h1]
      show Tm.at (if r + y ≤ i + y then i + y + x else i + y) = _
      by_cases h2 : r ≤ i
      · rw [if_pos (by omega), if_pos h2]; show _ = Tm.at (if s ≤ i + x then i + x + y else i + x); rw [if_pos (by omega)]; congr 1; omega
      · rw [if_neg (by omega), if_neg h2]; show _ = Tm.at (if s ≤ i then i + y else i); rw [if_pos h1]
    · rw [if_neg h1, if_neg (by omega)]
      show Tm.at (if r + y ≤ i then i + x else i) = Tm.at (if s ≤ i then i + y else i)
      rw [if_neg (by omega), if_neg h1]
  | .two g a b, r, s, h, hy => by
    rcases raise_comm x y a r s h hy with h1 | h1
    · rcases raise_comm x y b (r + bi (.two g a b) 1) (s + bi (.two g a b) 1) (by omega) hy with h2 | h2
      · refine .inl ?_
        show Tm.two g (raiseT x (raiseT y a s) (r + y)) (raiseT x (raiseT y b (s + bi (.two g a b) 1)) (r + y + bi (.two g a b) 1)) = Tm.two g (raiseT y (raiseT x a r) s) (raiseT y (raiseT x b (r + bi (.two g a b) 1)) (s + bi (.two g a b) 1))
        rw [h1, ← h2]
        congr 2; omega
      · exact .inr h2
    · exact .inr h1
  | .three g a b c, r, s, h, hy => by
    rcases raise_comm x y a r s h hy with h1 | h1
    · rcases raise_comm x y b r s h hy with h2 | h2
      · rcases raise_comm x y c r s h hy with h3 | h3
        · refine .inl ?_
          show Tm.three g (raiseT x (raiseT y a s) (r + y)) (raiseT x (raiseT y b s) (r + y)) (raiseT x (raiseT y c s) (r + y)) = Tm.three g (raiseT y (raiseT x a r) s) (raiseT y (raiseT x b r) s) (raiseT y (raiseT x c r) s)
          rw [h1, h2, h3]
        · exact .inr h3
      · exact .inr h2
    · exact .inr h1
  | .kind _, _, _, _, _ | .name _, _, _, _, _ | .thing _, _, _, _, _ | .maker _ _, _, _, _, _ | .eater _ _, _, _, _, _ => .inl rfl
theorem raise_swap {x y : Int} (hx : 0 ≤ x) (hy : 0 ≤ y) (t : DL.Tm) {r s : Int} (h : s ≤ r) : raiseT x (raiseT y t s) (r + y) = raiseT y (raiseT x t r) s := (raise_comm x y t r s h hy).resolve_right (by omega)
/-- raised within what was raised -/
theorem raise_in_raise {x y : Int} (hx : 0 ≤ x) (hy : 0 ≤ y) : ∀ (t : DL.Tm) (s r : Int), s ≤ r → r ≤ s + x → raiseT y (raiseT x t s) r = raiseT (x + y) t s
  | .at i, s, r, h1, h2 => by
    show raiseT y (Tm.at (if s ≤ i then i + x else i)) r = Tm.at (if s ≤ i then i + (x + y) else i)
    by_cases h : s ≤ i
    · rw [if_pos h, if_pos h]; show Tm.at (if r ≤ i + x then i + x + y else i + x) = _; rw [if_pos (by omega)]; congr 1; omega
    · rw [if_neg h, if_neg h]; show Tm.at (if r ≤ i then i + y else i) = _; rw [if_neg (by omega)]
  | .two g a b, s, r, h1, h2 => by
    show Tm.two g (raiseT y (raiseT x a s) r) (raiseT y (raiseT x b (s + bi (.two g a b) 1)) (r + bi (.two g a b) 1)) = _
    rw [raise_in_raise hx hy a s r h1 h2, raise_in_raise hx hy b _ _ (by omega) (by omega)]; rfl
  | .three g a b c, s, r, h1, h2 => by
    show Tm.three g (raiseT y (raiseT x a s) r) (raiseT y (raiseT x b s) r) (raiseT y (raiseT x c s) r) = _
    rw [raise_in_raise hx hy a s r h1 h2, raise_in_raise hx hy b s r h1 h2, raise_in_raise hx hy c s r h1 h2]; rfl
  | .kind _, _, _, _, _ | .name _, _, _, _, _ | .thing _, _, _, _, _ | .maker _ _, _, _, _, _ | .eater _ _, _, _, _, _ => rfl
/-- given under binders: o goes in raised by u; a raise by y at s ≤ u goes past it -/
theorem raise_give {y : Int} (hy : 0 ≤ y) (o : DL.Tm) (n : Int) : ∀ (t : DL.Tm) (u s : Int), 0 ≤ n → 0 ≤ s → s ≤ u → raiseT y (giveT o n t u) s = giveT o n (raiseT y t s) (u + y)
  | .at i, u, s, hn, hs, h => by
    by_cases h1 : i = n + u
    · have e1 : giveT o n (.at i) u = raiseT u o 0 := if_pos h1
      have e2 : raiseT y (.at i) s = .at (i + y) := by show Tm.at (if s ≤ i then i + y else i) = _; rw [if_pos (by omega)]
      rw [e1, e2, raise_in_raise (by omega) hy o 0 s (by omega) (by omega)]
      show _ = (if i + y = n + (u + y) then raiseT (u + y) o 0 else _)
      rw [if_pos (by omega)]
    · have e1 : giveT o n (.at i) u = .at (if n + u < i then i - 1 else i) := if_neg h1
      rw [e1]
      by_cases h2 : n + u < i
      · rw [if_pos h2]
        have e2 : raiseT y (.at i) s = .at (i + y) := by show Tm.at (if s ≤ i then i + y else i) = _; rw [if_pos (by omega)]
        rw [e2]
        show Tm.at (if s ≤ i - 1 then i - 1 + y else i - 1) = (if i + y = n + (u + y) then raiseT (u + y) o 0 else .at (if n + (u + y) < i + y then i + y - 1 else i + y))
        rw [if_pos (by omega), if_neg (by omega), if_pos (by omega)]; congr 1; omega
      · rw [if_neg h2]
        by_cases h3 : s ≤ i
        · have e2 : raiseT y (.at i) s = .at (i + y) := by show Tm.at (if s ≤ i then i + y else i) = _; rw [if_pos h3]
          rw [e2]
          show _ = (if i + y = n + (u + y) then raiseT (u + y) o 0 else .at (if n + (u + y) < i + y then i + y - 1 else i + y))
          rw [if_neg (by omega), if_neg (by omega)]
        · have e2 : raiseT y (.at i) s = .at i := by show Tm.at (if s ≤ i then i + y else i) = _; rw [if_neg h3]
          rw [e2]
          show _ = (if i = n + (u + y) then raiseT (u + y) o 0 else .at (if n + (u + y) < i then i - 1 else i))
          rw [if_neg (by omega), if_neg (by omega)]
  | .two g a b, u, s, hn, hs, h => by
    have hb := bi_mono (.two g a b) 1
    show Tm.two g (raiseT y (giveT o n a u) s) (raiseT y (giveT o n b (u + bi (.two g a b) 1)) (s + bi (.two g a b) 1)) = Tm.two g (giveT o n (raiseT y a s) (u + y)) (giveT o n (raiseT y b (s + bi (.two g a b) 1)) (u + y + bi (.two g a b) 1))
    rw [raise_give hy o n a u s hn hs h, raise_give hy o n b _ _ hn (by omega) (by omega)]
    congr 2; omega
  | .three g a b c, u, s, hn, hs, h => by
    show Tm.three g (raiseT y (giveT o n a u) s) (raiseT y (giveT o n b u) s) (raiseT y (giveT o n c u) s) = Tm.three g (giveT o n (raiseT y a s) (u + y)) (giveT o n (raiseT y b s) (u + y)) (giveT o n (raiseT y c s) (u + y))
    rw [raise_give hy o n a u s hn hs h, raise_give hy o n b u s hn hs h, raise_give hy o n c u s hn hs h]
  | .kind _, _, _, _, _, _ | .name _, _, _, _, _, _ | .thing _, _, _, _, _, _ | .maker _ _, _, _, _, _, _ | .eater _ _, _, _, _, _, _ => rfl
/-- what was raised past a place, given there, is raised one less -/
theorem give_past (o : DL.Tm) (n : Int) : ∀ (t : DL.Tm) (u y s : Int), s ≤ n + u → n + u < s + y → 0 ≤ s → giveT o n (raiseT y t s) u = raiseT (y - 1) t s
  | .at i, u, y, s, h1, h2, h3 => by
    by_cases h : s ≤ i
    · have e2 : raiseT y (.at i) s = .at (i + y) := by show Tm.at (if s ≤ i then i + y else i) = _; rw [if_pos h]
      rw [e2]
      show (if i + y = n + u then raiseT u o 0 else .at (if n + u < i + y then i + y - 1 else i + y)) = Tm.at (if s ≤ i then i + (y - 1) else i)
      rw [if_neg (by omega), if_pos (by omega), if_pos h]; congr 1; omega
    · have e2 : raiseT y (.at i) s = .at i := by show Tm.at (if s ≤ i then i + y else i) = _; rw [if_neg h]
      rw [e2]
      show (if i = n + u then raiseT u o 0 else .at (if n + u < i then i - 1 else i)) = Tm.at (if s ≤ i then i + (y - 1) else i)
      rw [if_neg (by omega), if_neg (by omega), if_neg h]
  | .two g a b, u, y, s, h1, h2, h3 => by
    have hb := bi_mono (.two g a b) 1
    show Tm.two g (giveT o n (raiseT y a s) u) (giveT o n (raiseT y b (s + bi (.two g a b) 1)) (u + bi (.two g a b) 1)) = Tm.two g (raiseT (y - 1) a s) (raiseT (y - 1) b (s + bi (.two g a b) 1))
    rw [give_past o n a u y s h1 h2 h3, give_past o n b _ y _ (by omega) (by omega) (by omega)]
  | .three g a b c, u, y, s, h1, h2, h3 => by
    show Tm.three g (giveT o n (raiseT y a s) u) (giveT o n (raiseT y b s) u) (giveT o n (raiseT y c s) u) = Tm.three g (raiseT (y - 1) a s) (raiseT (y - 1) b s) (raiseT (y - 1) c s)
    rw [give_past o n a u y s h1 h2 h3, give_past o n b u y s h1 h2 h3, give_past o n c u y s h1 h2 h3]
  | .kind _, _, _, _, _, _, _ | .name _, _, _, _, _, _, _ | .thing _, _, _, _, _, _, _ | .maker _ _, _, _, _, _, _, _ | .eater _ _, _, _, _, _, _, _ => rfl
/-- giving at k and then at j ≤ k: the other order, with the inner one given too -/
theorem give_give (x y : DL.Tm) : ∀ (t : DL.Tm) (u low : Int), 0 ≤ u → 0 ≤ low → Ok 1000000000 t →
    giveT y low (giveT x 0 t u) u = giveT (giveT y low x 0) 0 (giveT (raiseT 1 y 0) (low + 1) t u) u
  | .at i, u, low, hu, hl, h => by
    have hi : 0 ≤ i := h.1
    rcases Int.lt_trichotomy i u with h1 | h1 | h1
    · have e1 : giveT x 0 (.at i) u = .at i := by show (if i = 0 + u then _ else Tm.at (if 0 + u < i then i - 1 else i)) = _; rw [if_neg (by omega), if_neg (by omega)]
      have e2 : giveT (raiseT 1 y 0) (low + 1) (.at i) u = .at i := by show (if i = low + 1 + u then _ else Tm.at (if low + 1 + u < i then i - 1 else i)) = _; rw [if_neg (by omega), if_neg (by omega)]
      rw [e1, e2]
      show (if i = low + u then _ else Tm.at (if low + u < i then i - 1 else i)) = (if i = 0 + u then _ else Tm.at (if 0 + u < i then i - 1 else i))
      rw [if_neg (by omega), if_neg (by omega), if_neg (by omega), if_neg (by omega)]
    · have e1 : giveT x 0 (.at i) u = raiseT u x 0 := by show (if i = 0 + u then _ else _) = _; rw [if_pos (by omega)]
      have e2 : giveT (raiseT 1 y 0) (low + 1) (.at i) u = .at i := by show (if i = low + 1 + u then _ else Tm.at (if low + 1 + u < i then i - 1 else i)) = _; rw [if_neg (by omega), if_neg (by omega)]
      rw [e1, e2]
      have e3 : giveT (giveT y low x 0) 0 (.at i) u = raiseT u (giveT y low x 0) 0 := by show (if i = 0 + u then _ else _) = _; rw [if_pos (by omega)]
      rw [e3, raise_give hu y low x 0 0 hl (by omega) (by omega), Int.zero_add]
    · have e1 : giveT x 0 (.at i) u = .at (i - 1) := by show (if i = 0 + u then _ else Tm.at (if 0 + u < i then i - 1 else i)) = _; rw [if_neg (by omega), if_pos (by omega)]
      rw [e1]
      rcases Int.lt_trichotomy i (low + 1 + u) with h2 | h2 | h2
      · have e2 : giveT (raiseT 1 y 0) (low + 1) (.at i) u = .at i := by show (if i = low + 1 + u then _ else Tm.at (if low + 1 + u < i then i - 1 else i)) = _; rw [if_neg (by omega), if_neg (by omega)]
        rw [e2]
        show (if i - 1 = low + u then _ else Tm.at (if low + u < i - 1 then i - 1 - 1 else i - 1)) = (if i = 0 + u then _ else Tm.at (if 0 + u < i then i - 1 else i))
        rw [if_neg (by omega), if_neg (by omega), if_neg (by omega), if_pos (by omega)]
      · have e2 : giveT (raiseT 1 y 0) (low + 1) (.at i) u = raiseT u (raiseT 1 y 0) 0 := by show (if i = low + 1 + u then _ else _) = _; rw [if_pos h2]
        have e3 : giveT y low (.at (i - 1)) u = raiseT u y 0 := by show (if i - 1 = low + u then _ else _) = _; rw [if_pos (by omega)]
        rw [e2, e3, raise_raise 1 u (by omega), give_past _ 0 y u (1 + u) 0 (by omega) (by omega) (by omega)]
        congr 1; omega
      · have e2 : giveT (raiseT 1 y 0) (low + 1) (.at i) u = .at (i - 1) := by show (if i = low + 1 + u then _ else Tm.at (if low + 1 + u < i then i - 1 else i)) = _; rw [if_neg (by omega), if_pos (by omega)]
        rw [e2]
        show (if i - 1 = low + u then _ else Tm.at (if low + u < i - 1 then i - 1 - 1 else i - 1)) = (if i - 1 = 0 + u then _ else Tm.at (if 0 + u < i - 1 then i - 1 - 1 else i - 1))
        rw [if_neg (by omega), if_pos (by omega), if_neg (by omega), if_pos (by omega)]
  | .two g a b, u, low, hu, hl, h => by
    have hb := bi_mono (.two g a b) 1
    show Tm.two g (giveT y low (giveT x 0 a u) u) (giveT y low (giveT x 0 b (u + bi (.two g a b) 1)) (u + bi (.two g a b) 1)) = Tm.two g _ (giveT _ 0 (giveT _ (low + 1) b (u + bi (.two g a b) 1)) (u + bi (.two g a b) 1))
    rw [give_give x y a u low hu hl h.2.1, give_give x y b _ low (by omega) hl h.2.2]
  | .three g a b c, u, low, hu, hl, h => by
    show Tm.three g (giveT y low (giveT x 0 a u) u) (giveT y low (giveT x 0 b u) u) (giveT y low (giveT x 0 c u) u) = Tm.three g _ _ _
    rw [give_give x y a u low hu hl h.2.1, give_give x y b u low hu hl h.2.2.1, give_give x y c u low hu hl h.2.2.2]
  | .kind _, _, _, _, _, _ | .name _, _, _, _, _, _ | .thing _, _, _, _, _, _ | .maker _ _, _, _, _, _, _ | .eater _ _, _, _, _, _, _ => rfl
/-- without the free place u, giving any other one is the same, and raising goes back -/
theorem free_two {g : Str} {a b : DL.Tm} {u : Int} (hu : 0 ≤ u) (h : u ∉ freeT (.two g a b)) : u ∉ freeT a ∧ u + bi (.two g a b) 1 ∉ freeT b := by
  have hb := bi_mono (.two g a b) 1
  have h' : ¬ u ∈ setI (sh 0 (freeT a) ++ sh (bi (.two g a b) 1) (freeT b)) := h
  rw [mem_setI, List.mem_append, mem_sh, mem_sh] at h'
  exact ⟨fun z => h' (.inl ⟨u, z, hu, by omega⟩), fun z => h' (.inr ⟨_, z, by omega, by omega⟩)⟩
theorem free_three {g : Str} {a b c : DL.Tm} {u : Int} (hu : 0 ≤ u) (h : u ∉ freeT (.three g a b c)) : u ∉ freeT a ∧ u ∉ freeT b ∧ u ∉ freeT c := by
  have h' : ¬ u ∈ setI (sh 0 (freeT a) ++ sh 0 (freeT b) ++ sh 0 (freeT c)) := h
  rw [mem_setI, List.mem_append, List.mem_append, mem_sh, mem_sh, mem_sh] at h'
  exact ⟨fun z => h' (.inl (.inl ⟨u, z, hu, by omega⟩)), fun z => h' (.inl (.inr ⟨u, z, hu, by omega⟩)), fun z => h' (.inr ⟨u, z, hu, by omega⟩)⟩
theorem give_none (o o' : DL.Tm) : ∀ (t : DL.Tm) (u : Int), 0 ≤ u → u ∉ freeT t → giveT o 0 t u = giveT o' 0 t u
  | .at i, u, hu, h => by
    have hi : i ≠ u := fun e => h (by simp [freeT, e])
    show (if i = 0 + u then raiseT u o 0 else Tm.at (if 0 + u < i then i - 1 else i)) = (if i = 0 + u then raiseT u o' 0 else Tm.at (if 0 + u < i then i - 1 else i))
    rw [if_neg (show ¬ i = 0 + u by omega), if_neg (show ¬ i = 0 + u by omega)]
  | .two g a b, u, hu, h => by
    obtain ⟨h1, h2⟩ := free_two hu h
    have hb := bi_mono (.two g a b) 1
    show Tm.two g (giveT o 0 a u) (giveT o 0 b (u + bi (.two g a b) 1)) = Tm.two g (giveT o' 0 a u) (giveT o' 0 b (u + bi (.two g a b) 1))
    rw [give_none o o' a u hu h1, give_none o o' b _ (by omega) h2]
  | .three g a b c, u, hu, h => by
    obtain ⟨h1, h2, h3⟩ := free_three hu h
    show Tm.three g (giveT o 0 a u) (giveT o 0 b u) (giveT o 0 c u) = Tm.three g (giveT o' 0 a u) (giveT o' 0 b u) (giveT o' 0 c u)
    rw [give_none o o' a u hu h1, give_none o o' b u hu h2, give_none o o' c u hu h3]
  | .kind _, _, _, _ | .name _, _, _, _ | .thing _, _, _, _ | .maker _ _, _, _, _ | .eater _ _, _, _, _ => rfl
theorem raise_lower (o : DL.Tm) : ∀ (t : DL.Tm) (u : Int), 0 ≤ u → u ∉ freeT t → raiseT 1 (giveT o 0 t u) u = t
  | .at i, u, hu, h => by
    have hi : i ≠ u := fun e => h (by simp [freeT, e])
    have e : giveT o 0 (.at i) u = .at (if u < i then i - 1 else i) := by
      show (if i = 0 + u then raiseT u o 0 else Tm.at (if 0 + u < i then i - 1 else i)) = _
      rw [if_neg (by omega), Int.zero_add]
    rw [e]
    by_cases h2 : u < i
    · rw [if_pos h2]; show Tm.at (if u ≤ i - 1 then i - 1 + 1 else i - 1) = _; rw [if_pos (by omega)]; congr 1; omega
    · rw [if_neg h2]; show Tm.at (if u ≤ i then i + 1 else i) = _; rw [if_neg (by omega)]
  | .two g a b, u, hu, h => by
    obtain ⟨h1, h2⟩ := free_two hu h
    have hb := bi_mono (.two g a b) 1
    show Tm.two g (raiseT 1 (giveT o 0 a u) u) (raiseT 1 (giveT o 0 b (u + bi (.two g a b) 1)) (u + bi (.two g a b) 1)) = _
    rw [raise_lower o a u hu h1, raise_lower o b _ (by omega) h2]
  | .three g a b c, u, hu, h => by
    obtain ⟨h1, h2, h3⟩ := free_three hu h
    show Tm.three g (raiseT 1 (giveT o 0 a u) u) (raiseT 1 (giveT o 0 b u) u) (raiseT 1 (giveT o 0 c u) u) = _
    rw [raise_lower o a u hu h1, raise_lower o b u hu h2, raise_lower o c u hu h3]
  | .kind _, _, _, _ | .name _, _, _, _ | .thing _, _, _, _ | .maker _ _, _, _, _ | .eater _ _, _, _, _ => rfl
/-- bounds of what is given -/
theorem give_ok {m k : Int} {o : DL.Tm} (n : Int) (hn : 0 ≤ n) (hm : m ≤ k) (ho : Ok m o) : ∀ (t : DL.Tm) (u : Int), 0 ≤ u → Ok k t → Ok (k + u + ht t) (giveT o n t u) ∧ ht (giveT o n t u) ≤ ht t + ht o ∧ sz (giveT o n t u) ≤ sz t * sz o
  | .at i, u, hu, h => by
    have hso : 1 ≤ sz o := by cases o <;> simp [sz]
    have h1 : 0 ≤ i ∧ i < k := h
    by_cases hi : i = n + u
    · have e : giveT o n (.at i) u = raiseT u o 0 := if_pos hi
      rw [e]
      refine ⟨(Ok_raise hu o 0 ho).mono (by show m + u ≤ k + u + 0; omega), by rw [ht_raise]; show _ ≤ 0 + ht o; omega, by rw [sz_raise]; show _ ≤ 1 * sz o; omega⟩
    · have e : giveT o n (.at i) u = .at (if n + u < i then i - 1 else i) := if_neg hi
      rw [e]
      refine ⟨?_, by show 0 ≤ _; omega, by show 1 ≤ 1 * sz o; omega⟩
      show 0 ≤ (if n + u < i then i - 1 else i) ∧ (if n + u < i then i - 1 else i) < k + u + 0
      split <;> omega
  | .two g a b, u, hu, h => by
    have hb := bi_mono (.two g a b) 1
    have hso : 1 ≤ sz o := by cases o <;> simp [sz]
    obtain ⟨a1, a2, a3⟩ := give_ok n hn hm ho a u hu h.2.1
    obtain ⟨b1, b2, b3⟩ := give_ok n hn hm ho b (u + bi (.two g a b) 1) (by omega) h.2.2
    have e : ht (.two g a b) = max (ht a) (ht b) + 1 := rfl
    refine ⟨⟨h.1, a1.mono (by rw [e]; omega), b1.mono (by rw [e]; omega)⟩, ?_, ?_⟩
    · show max _ _ + 1 ≤ max _ _ + 1 + _; omega
    · show sz (giveT o n a u) + sz (giveT o n b (u + bi (.two g a b) 1)) + 1 ≤ (sz a + sz b + 1) * sz o
      rw [Nat.add_mul, Nat.add_mul]; omega
  | .three g a b c, u, hu, h => by
    have hso : 1 ≤ sz o := by cases o <;> simp [sz]
    obtain ⟨a1, a2, a3⟩ := give_ok n hn hm ho a u hu h.2.1
    obtain ⟨b1, b2, b3⟩ := give_ok n hn hm ho b u hu h.2.2.1
    obtain ⟨c1, c2, c3⟩ := give_ok n hn hm ho c u hu h.2.2.2
    have e : ht (.three g a b c) = max (ht a) (max (ht b) (ht c)) + 1 := rfl
    refine ⟨⟨h.1, a1.mono (by rw [e]; omega), b1.mono (by rw [e]; omega), c1.mono (by rw [e]; omega)⟩, ?_, ?_⟩
    · show max _ (max _ _) + 1 ≤ max _ (max _ _) + 1 + _; omega
    · show sz (giveT o n a u) + sz (giveT o n b u) + sz (giveT o n c u) + 1 ≤ (sz a + sz b + sz c + 1) * sz o
      rw [Nat.add_mul, Nat.add_mul, Nat.add_mul]; omega
  | .kind i, u, hu, h | .name i, u, hu, h | .thing i, u, hu, h | .maker i _, u, hu, h | .eater i _, u, hu, h => by
    have hso : 1 ≤ sz o := by cases o <;> simp [sz]
    exact ⟨h, by show 0 ≤ _; omega, by show 1 ≤ 1 * sz o; omega⟩
/-- the free places of what was raised -/
theorem free_raised {b : Int} (hb : 0 ≤ b) : ∀ (t : DL.Tm) (s : Int), 0 ≤ s → ∀ x, x ∈ freeT (raiseT b t s) ↔ ∃ p ∈ freeT t, x = if s ≤ p then p + b else p
  | .at i, s, hs, x => by
    show x ∈ [if s ≤ i then i + b else i] ↔ ∃ p ∈ [i], _
    simp
  | .two g a c, s, hs, x => by
    have hbi := bi_mono (.two g a c) 1
    show x ∈ setI (sh 0 (freeT (raiseT b a s)) ++ sh (bi (.two g a c) 1) (freeT (raiseT b c (s + bi (.two g a c) 1)))) ↔ ∃ p ∈ setI (sh 0 (freeT a) ++ sh (bi (.two g a c) 1) (freeT c)), _
    rw [mem_setI, List.mem_append, mem_sh, mem_sh]
    constructor
    · rintro (⟨q, h1, h2, rfl⟩ | ⟨q, h1, h2, rfl⟩)
      · obtain ⟨p, p1, rfl⟩ := (free_raised hb a s hs q).mp h1
        by_cases hp : s ≤ p
        · rw [if_pos hp] at h2 ⊢
          exact ⟨p, mem_setI.mpr (List.mem_append.mpr (.inl (mem_sh.mpr ⟨p, p1, by omega, by omega⟩))), by rw [if_pos hp]; omega⟩
        · rw [if_neg hp] at h2 ⊢
          exact ⟨p, mem_setI.mpr (List.mem_append.mpr (.inl (mem_sh.mpr ⟨p, p1, by omega, by omega⟩))), by rw [if_neg hp]; omega⟩
      · obtain ⟨p, p1, rfl⟩ := (free_raised hb c _ (by omega) q).mp h1
        by_cases hp : s + bi (.two g a c) 1 ≤ p
        · rw [if_pos hp] at h2 ⊢
          exact ⟨p - bi (.two g a c) 1, mem_setI.mpr (List.mem_append.mpr (.inr (mem_sh.mpr ⟨p, p1, by omega, rfl⟩))), by rw [if_pos (by omega)]; omega⟩
        · rw [if_neg hp] at h2 ⊢
          exact ⟨p - bi (.two g a c) 1, mem_setI.mpr (List.mem_append.mpr (.inr (mem_sh.mpr ⟨p, p1, by omega, rfl⟩))), by rw [if_neg (by omega)]⟩
    · rintro ⟨p, h1, rfl⟩
      rw [mem_setI, List.mem_append, mem_sh, mem_sh] at h1
      rcases h1 with ⟨q, q1, q2, rfl⟩ | ⟨q, q1, q2, rfl⟩
      · refine .inl ⟨if s ≤ q then q + b else q, (free_raised hb a s hs _).mpr ⟨q, q1, rfl⟩, ?_, ?_⟩
        · split <;> omega
        · by_cases hq : s ≤ q
          · rw [if_pos hq, if_pos (by omega)]; omega
          · rw [if_neg hq, if_neg (by omega)]
      · refine .inr ⟨if s + bi (.two g a c) 1 ≤ q then q + b else q, (free_raised hb c _ (by omega) _).mpr ⟨q, q1, rfl⟩, ?_, ?_⟩
        · split <;> omega
        · by_cases hq : s + bi (.two g a c) 1 ≤ q
          · rw [if_pos hq, if_pos (by omega)]; omega
          · rw [if_neg hq, if_neg (by omega)]
  | .three g a c d, s, hs, x => by
    show x ∈ setI (sh 0 (freeT (raiseT b a s)) ++ sh 0 (freeT (raiseT b c s)) ++ sh 0 (freeT (raiseT b d s))) ↔ ∃ p ∈ setI (sh 0 (freeT a) ++ sh 0 (freeT c) ++ sh 0 (freeT d)), _
    rw [mem_setI, List.mem_append, List.mem_append, mem_sh, mem_sh, mem_sh]
    have one : ∀ (t : DL.Tm), (∀ y, y ∈ freeT (raiseT b t s) ↔ ∃ p ∈ freeT t, y = if s ≤ p then p + b else p) → ((∃ q ∈ freeT (raiseT b t s), 0 ≤ q ∧ q - 0 = x) ↔ ∃ p, p ∈ sh 0 (freeT t) ∧ x = if s ≤ p then p + b else p) := by
      intro t ih
      constructor
      · rintro ⟨q, h1, h2, rfl⟩
        obtain ⟨p, p1, rfl⟩ := (ih q).mp h1
        refine ⟨p, mem_sh.mpr ⟨p, p1, ?_, by omega⟩, by omega⟩
        by_cases hp : s ≤ p
        · omega
        · rw [if_neg hp] at h2; omega
      · rintro ⟨p, h1, rfl⟩
        obtain ⟨q, q1, q2, rfl⟩ := mem_sh.mp h1
        refine ⟨if s ≤ q then q + b else q, (ih _).mpr ⟨q, q1, rfl⟩, ?_, ?_⟩
        · split <;> omega
        · rw [Int.sub_zero, Int.sub_zero]
    rw [one a (free_raised hb a s hs), one c (free_raised hb c s hs), one d (free_raised hb d s hs)]
    constructor
    · rintro ((⟨p, h1, h2⟩ | ⟨p, h1, h2⟩) | ⟨p, h1, h2⟩)
      · exact ⟨p, mem_setI.mpr (by simp [h1]), h2⟩
      · exact ⟨p, mem_setI.mpr (by simp [h1]), h2⟩
      · exact ⟨p, mem_setI.mpr (by simp [h1]), h2⟩
    · rintro ⟨p, h1, h2⟩
      rw [mem_setI, List.mem_append, List.mem_append] at h1
      rcases h1 with (h1 | h1) | h1
      · exact .inl (.inl ⟨p, h1, h2⟩)
      · exact .inl (.inr ⟨p, h1, h2⟩)
      · exact .inr ⟨p, h1, h2⟩
  | .kind _, _, _, x | .name _, _, _, x | .thing _, _, _, x | .maker _ _, _, _, x | .eater _ _, _, _, x => by simp [raiseT, freeT]
theorem freeT_lt : ∀ t : DL.Tm, (freeT t).Pairwise (· < ·)
  | .at _ => by simp [freeT]
  | .two g a b => setI_lt _
  | .three g a b c => setI_lt _
  | .kind _ | .name _ | .thing _ | .maker _ _ | .eater _ _ => by simp [freeT]
theorem free_raised_eq {b s : Int} (hb : 0 ≤ b) (hs : 0 ≤ s) (t : DL.Tm) : freeT (raiseT b t s) = (freeT t).map fun p => p + b * (if s ≤ p then 1 else 0) := by
  refine lt_unique (freeT_lt _) ?_ fun x => ?_
  · rw [List.pairwise_map]
    refine (freeT_lt t).imp fun {p q} h => ?_
    by_cases h1 : s ≤ p
    · rw [if_pos h1, if_pos (by omega)]; omega
    · rw [if_neg h1]
      split <;> omega
  · rw [free_raised hb t s hs, List.mem_map]
    constructor
    · rintro ⟨p, h1, rfl⟩
      refine ⟨p, h1, ?_⟩
      split <;> omega
    · rintro ⟨p, h1, rfl⟩
      refine ⟨p, h1, ?_⟩
      split <;> omega
end DL

set_option Elab.async false
set_option linter.all false
set_option maxRecDepth 100000
set_option maxHeartbeats 4000000
namespace K04
open PySem PySem.Spec DL
def d_BINDERS : Dt := .tup ((["all", "fun"] : List Str).map Dt.str)
def d_FORMS : Dt := .dct (([("at", "n"), ("kind", "h"), ("all", "tt"), ("fun", "tt"), ("app", "tt"), ("name", "w"), ("thing", "w"), ("maker", "wn"), ("eater", "wh"), ("same", "ttt"), ("self", "tt"), ("put", "ttt")] : List (Str × Str)).map fun p => (Sum.inr p.1, Dt.str p.2))
def d_KEPT : Dt := .tup ((["all", "fun", "same", "self", "put"] : List Str).map Dt.str)
def d_MOST_KIND : Dt := .int 5
def d_MOST_PLACE : Dt := .int 999
def d_SMALL : Dt := .str "abcdefghijklmnopqrstuvwxyz"
def b_is_whole : FS :=
  (sRet (cAnd (cIsi ["int"] (cVar 0)) (cAnd (cUn opNot (cIsi ["bool"] (cVar 0))) (cChain opLe opLe (cVar 1) (cVar 0) (cVar 2)))))
def m_is_whole : List Dt → Store → Out Dt := fnBody 3 0 b_is_whole
def b_is_number : FS :=
  (sRet (cAnd (cIsi ["int"] (cVar 0)) (cAnd (cUn opNot (cIsi ["bool"] (cVar 0))) (cBin opGe (cVar 0) (cC (.int 0))))))
def m_is_number : List Dt → Store → Out Dt := fnBody 1 0 b_is_number
def b_is_name : FS :=
  (sSeq (sIf (tOr' (tNot' (tVal (cIsi ["str"] (cVar 0)))) (tOr' (tNot' (tVal (cChain opLe opLe (cC (.int 1)) (cApp opLen (cCons (cVar 0) cNil)) (cC (.int 8))))) (tVal (cBin opIn (cVar 0) (cC d_KEPT))))) (sRet (cC (.bl false))) sNext) (sRet (cApp opAll (cCons (cVal (cCompA (iVal (cVar 0)) [1] (gN 1) tYesD (cBin opIn (cVar 1) (cC d_SMALL)))) cNil))))
def m_is_name : List Dt → Store → Out Dt := fnBody 1 1 b_is_name
def b_has_form (r_has_form : List Dt → Store → Out Dt) (r_is_term : List Dt → Store → Out Dt) : FS :=
  (sSeq (sIf (tVal (cBin opEq (cVar 0) (cC (.str "n")))) (sRet (cCall m_is_number [] (cCons (cVar 1) cNil))) sNext) (sSeq (sIf (tVal (cBin opEq (cVar 0) (cC (.str "h")))) (sRet (cCall m_is_whole [] (cCons (cVar 1) (cCons (cC (.int 0)) (cCons (cC d_MOST_KIND) cNil))))) sNext) (sSeq (sIf (tVal (cBin opEq (cVar 0) (cC (.str "w")))) (sRet (cCall m_is_name [] (cCons (cVar 1) cNil))) sNext) (sRet (cCall r_is_term [] (cCons (cVar 1) cNil))))))
def b_is_term (r_has_form : List Dt → Store → Out Dt) (r_is_term : List Dt → Store → Out Dt) : FS :=
  (sSeq (sIf (tOr' (tNot' (tVal (cIsi ["tuple"] (cVar 0)))) (tOr' (tVal (cBin opEq (cApp opLen (cCons (cVar 0) cNil)) (cC (.int 0)))) (tOr' (tNot' (tVal (cIsi ["str"] (cBin opIx (cVar 0) (cC (.int 0)))))) (tVal (cBin opNotIn (cBin opIx (cVar 0) (cC (.int 0))) (cC d_FORMS)))))) (sRet (cC (.bl false))) sNext) (sSeq (sSet 1 (cBin opIx (cC d_FORMS) (cBin opIx (cVar 0) (cC (.int 0))))) (sSeq (sIf (tVal (cBin opNe (cApp opLen (cCons (cVar 0) cNil)) (cBin opAdd (cApp opLen (cCons (cVar 1) cNil)) (cC (.int 1))))) (sRet (cC (.bl false))) sNext) (sRet (cApp opAll (cCons (cVal (cCompA (iZipD (cCons (cVar 1) (cCons (cSlice (cVar 0) (cPart (cC (.int 1))) cNoPart) cNil))) [2, 3] (gTupD 2 (gConsD (gN 2) (gConsD (gN 3) gNilD))) tYesD (cCall r_has_form [] (cCons (cVar 2) (cCons (cVar 3) cNil))))) cNil))))))
mutual
def n_has_form : Nat → List Dt → Store → Out Dt
  | 0 => fun _ _ => .bad
  | n + 1 => fnBody 2 0 (b_has_form (n_has_form n) (n_is_term n))
def n_is_term : Nat → List Dt → Store → Out Dt
  | 0 => fun _ _ => .bad
  | n + 1 => fnBody 1 3 (b_is_term (n_has_form n) (n_is_term n))
end
def m_has_form : List Dt → Store → Out Dt := n_has_form 130
def m_is_term : List Dt → Store → Out Dt := n_is_term 130
def b_is_spot : FS :=
  (sRet (cAnd (cIsi ["tuple"] (cVar 0)) (cApp opAll (cCons (cVal (cCompA (iVal (cVar 0)) [1] (gN 1) tYesD (cCall m_is_number [] (cCons (cVar 1) cNil)))) cNil))))
def m_is_spot : List Dt → Store → Out Dt := fnBody 1 1 b_is_spot
def b_need_term : FS :=
  (sIf (tNot' (tVal (cCall m_is_term [] (cCons (cVar 0) cNil)))) (sRaise "NoTerm" ["found"] (cCons (cVar 0) cNil)) sNext)
def m_need_term : List Dt → Store → Out Dt := fnBody 1 0 b_need_term
def b_need_place : FS :=
  (sIf (tNot' (tVal (cCall m_is_whole [] (cCons (cVar 0) (cCons (cC (.int 0)) (cCons (cC d_MOST_PLACE) cNil)))))) (sRaise "NoNumber" ["found"] (cCons (cVar 0) cNil)) sNext)
def m_need_place : List Dt → Store → Out Dt := fnBody 1 0 b_need_place
def b_inner : FS :=
  (sRet (cIf (tVal (cBin opIn (cC (.str "t")) (cBin opIx (cC d_FORMS) (cBin opIx (cVar 0) (cC (.int 0)))))) (cApp opList (cCons (cSlice (cVar 0) (cPart (cC (.int 1))) cNoPart) cNil)) (cLst cNil)))
def m_inner : List Dt → Store → Out Dt := fnBody 1 0 b_inner
def b_inner__o : FS :=
  (sRet (cIf (tVal (cBin opIn (cC (.str "t")) (cBin opIx (cC d_FORMS) (cBin opIx (cVar 0) (cC (.int 0)))))) (cOwn (cListA (cCons (cSlice (cVar 0) (cPart (cC (.int 1))) cNoPart) cNil))) (cOwn (cDispL cNil))))
def m_inner__o : List Dt → Store → Out Dt := trimF (fnBody 1 0 b_inner__o)
def b_with_parts : FS :=
  (sRet (cBin opAdd (cTup (cCons (cBin opIx (cVar 0) (cC (.int 0))) cNil)) (cApp opTuple (cCons (cVar 1) cNil))))
def m_with_parts : List Dt → Store → Out Dt := fnBody 2 0 b_with_parts
def b_binds : FS :=
  (sRet (cApp opInt (cCons (cAnd (cBin opIn (cBin opIx (cVar 0) (cC (.int 0))) (cC d_BINDERS)) (cBin opEq (cVar 1) (cC (.int 1)))) cNil)))
def m_binds : List Dt → Store → Out Dt := fnBody 2 0 b_binds
def L_gone_to_0 : FS :=
  (sSeq (sIf (tVal (cBin opGe (cVar 4) (cApp opLen (cCons (cCall m_inner [] (cCons (cVar 2) cNil)) cNil)))) (sRaise "NoSpot" ["found"] (cCons (cVar 1) cNil)) sNext) (sSeq (sAug 3 opAddI (cCall m_binds [] (cCons (cVar 2) (cCons (cVar 4) cNil)))) (sSet 2 (cBin opIx (cCall m_inner [] (cCons (cVar 2) cNil)) (cVar 4)))))
def b_gone_to : FS :=
  (sSeq (sIf (tNot' (tVal (cCall m_is_spot [] (cCons (cVar 1) cNil)))) (sRaise "NoSpot" ["found"] (cCons (cVar 1) cNil)) sNext) (sSeq (sSet 2 (cVar 0)) (sSeq (sSet 3 (cC (.int 0))) (sSeq (sFor (iVal (cVar 1)) (gN 4) L_gone_to_0) (sRet (cTup (cCons (cVar 2) (cCons (cVar 3) cNil))))))))
def m_gone_to : List Dt → Store → Out Dt := fnBody 2 3 b_gone_to
def b_part_at : FS :=
  (sSeq (sExpr (cCall m_need_term [] (cCons (cVar 0) cNil))) (sRet (cBin opIx (cCall m_gone_to [] (cCons (cVar 0) (cCons (cVar 1) cNil))) (cC (.int 0)))))
def m_part_at : List Dt → Store → Out Dt := fnBody 2 0 b_part_at
def L_spots_in_0 (r_spots_in : List Dt → Store → Out Dt) : FS :=
  (sExpr (cMeth .lst opExtend (cVar 1) (cCons (cVal (cCompA (iVal (cCall r_spots_in [] (cCons (cVar 3) cNil))) [4] (gN 4) tYesD (cBin opAdd (cTup (cCons (cVar 2) cNil)) (cVar 4)))) cNil)))
def b_spots_in (r_spots_in : List Dt → Store → Out Dt) : FS :=
  (sSeq (sSet 1 (cOwn (cDispL (cCons (cTup cNil) cNil)))) (sSeq (sFor (iEnumD (cCons (cCall m_inner [] (cCons (cVar 0) cNil)) cNil)) (gTupD 2 (gConsD (gN 2) (gConsD (gN 3) gNilD))) (L_spots_in_0 r_spots_in)) (sRet (cFrz (cVar 1)))))
def n_spots_in : Nat → List Dt → Store → Out Dt
  | 0 => fun _ _ => .bad
  | n + 1 => trimF (fnBody 1 4 (b_spots_in (n_spots_in n)))
def m_spots_in : List Dt → Store → Out Dt := n_spots_in 66
def b_spots : FS :=
  (sSeq (sExpr (cCall m_need_term [] (cCons (cVar 0) cNil))) (sRet (cCall m_spots_in [] (cCons (cVar 0) cNil))))
def m_spots : List Dt → Store → Out Dt := fnBody 1 0 b_spots
def b_put_at (r_put_at : List Dt → Store → Out Dt) : FS :=
  (sSeq (sIf (tVal (cBin opEq (cVar 1) (cTup cNil))) (sRet (cVar 2)) sNext) (sSeq (sSet 3 (cCall m_inner__o [] (cCons (cVar 0) cNil))) (sSeq (sSetIx (cCall r_put_at [] (cCons (cBin opIx (cVar 3) (cBin opIx (cVar 1) (cC (.int 0)))) (cCons (cSlice (cVar 1) (cPart (cC (.int 1))) cNoPart) (cCons (cVar 2) cNil)))) (cVar 3) (cBin opIx (cVar 1) (cC (.int 0)))) (sRet (cCall m_with_parts [] (cCons (cVar 0) (cCons (cVar 3) cNil)))))))
def n_put_at : Nat → List Dt → Store → Out Dt
  | 0 => fun _ _ => .bad
  | n + 1 => trimF (fnBody 3 1 (b_put_at (n_put_at n)))
def m_put_at : List Dt → Store → Out Dt := n_put_at 66
def b_changed : FS :=
  (sSeq (sExpr (cCall m_need_term [] (cCons (cVar 0) cNil))) (sSeq (sExpr (cCall m_gone_to [] (cCons (cVar 0) (cCons (cVar 1) cNil)))) (sSeq (sExpr (cCall m_need_term [] (cCons (cVar 2) cNil))) (sRet (cCall m_put_at [] (cCons (cVar 0) (cCons (cVar 1) (cCons (cVar 2) cNil))))))))
def m_changed : List Dt → Store → Out Dt := fnBody 3 0 b_changed
def b_size_of (r_size_of : List Dt → Store → Out Dt) : FS :=
  (sRet (cBin opAdd (cC (.int 1)) (cApp opSum (cCons (cVal (cCompA (iVal (cCall m_inner [] (cCons (cVar 0) cNil))) [1] (gN 1) tYesD (cCall r_size_of [] (cCons (cVar 1) cNil)))) cNil))))
def n_size_of : Nat → List Dt → Store → Out Dt
  | 0 => fun _ _ => .bad
  | n + 1 => fnBody 1 1 (b_size_of (n_size_of n))
def m_size_of : List Dt → Store → Out Dt := n_size_of 66
def b_size : FS :=
  (sSeq (sExpr (cCall m_need_term [] (cCons (cVar 0) cNil))) (sRet (cCall m_size_of [] (cCons (cVar 0) cNil))))
def m_size : List Dt → Store → Out Dt := fnBody 1 0 b_size
def L_free_in_0 (r_free_in : List Dt → Store → Out Dt) : FS :=
  (sIf (tVal (cBin opGe (cVar 4) (cCall m_binds [] (cCons (cVar 0) (cCons (cVar 2) cNil))))) (sSetIx (cC (.bl true)) (cVar 1) (cBin opSub (cVar 4) (cCall m_binds [] (cCons (cVar 0) (cCons (cVar 2) cNil))))) sNext)
def L_free_in_1 (r_free_in : List Dt → Store → Out Dt) : FS :=
  (sFor (iVal (cCall r_free_in [] (cCons (cVar 3) cNil))) (gN 4) (L_free_in_0 r_free_in))
def b_free_in (r_free_in : List Dt → Store → Out Dt) : FS :=
  (sSeq (sIf (tVal (cBin opEq (cBin opIx (cVar 0) (cC (.int 0))) (cC (.str "at")))) (sRet (cLst (cCons (cBin opIx (cVar 0) (cC (.int 1))) cNil))) sNext) (sSeq (sSet 1 cDct0O) (sSeq (sFor (iEnumD (cCons (cCall m_inner [] (cCons (cVar 0) cNil)) cNil)) (gTupD 2 (gConsD (gN 2) (gConsD (gN 3) gNilD))) (L_free_in_1 r_free_in)) (sRet (cVal (cSortDictA (cVar 1)))))))
def n_free_in : Nat → List Dt → Store → Out Dt
  | 0 => fun _ _ => .bad
  | n + 1 => trimF (fnBody 1 4 (b_free_in (n_free_in n)))
def m_free_in : List Dt → Store → Out Dt := n_free_in 66
def b_free : FS :=
  (sSeq (sExpr (cCall m_need_term [] (cCons (cVar 0) cNil))) (sRet (cCall m_free_in [] (cCons (cVar 0) cNil))))
def m_free : List Dt → Store → Out Dt := fnBody 1 0 b_free
def b_raise_in (r_raise_in : List Dt → Store → Out Dt) : FS :=
  (sSeq (sIf (tVal (cBin opEq (cBin opIx (cVar 0) (cC (.int 0))) (cC (.str "at")))) (sRet (cIf (tVal (cBin opGe (cBin opIx (cVar 0) (cC (.int 1))) (cVar 2))) (cTup (cCons (cC (.str "at")) (cCons (cBin opAdd (cBin opIx (cVar 0) (cC (.int 1))) (cVar 1)) cNil))) (cVar 0))) sNext) (sSeq (sSet 3 (cCall m_inner [] (cCons (cVar 0) cNil))) (sSeq (sIf (tVal (cBin opEq (cVar 3) (cLst cNil))) (sRet (cVar 0)) sNext) (sRet (cCall m_with_parts [] (cCons (cVar 0) (cCons (cVal (cCompA (iEnumD (cCons (cVar 3) cNil)) [4, 5] (gTupD 2 (gConsD (gN 4) (gConsD (gN 5) gNilD))) tYesD (cCall r_raise_in [] (cCons (cVar 5) (cCons (cVar 1) (cCons (cBin opAdd (cVar 2) (cCall m_binds [] (cCons (cVar 0) (cCons (cVar 4) cNil)))) cNil)))))) cNil)))))))
def n_raise_in : Nat → List Dt → Store → Out Dt
  | 0 => fun _ _ => .bad
  | n + 1 => fnBody 3 3 (b_raise_in (n_raise_in n))
def m_raise_in : List Dt → Store → Out Dt := n_raise_in 66
def b_raised : FS :=
  (sSeq (sExpr (cCall m_need_term [] (cCons (cVar 0) cNil))) (sSeq (sExpr (cCall m_need_place [] (cCons (cVar 1) cNil))) (sSeq (sExpr (cCall m_need_place [] (cCons (cVar 2) cNil))) (sRet (cCall m_raise_in [] (cCons (cVar 0) (cCons (cVar 1) (cCons (cVar 2) cNil))))))))
def m_raised : List Dt → Store → Out Dt := fnBody 3 0 b_raised
def b_give_in (r_give_in : List Dt → Store → Out Dt) : FS :=
  (sSeq (sIf (tVal (cBin opEq (cBin opIx (cVar 0) (cC (.int 0))) (cC (.str "at")))) (sSeq (sIf (tVal (cBin opEq (cBin opIx (cVar 0) (cC (.int 1))) (cBin opAdd (cVar 2) (cVar 3)))) (sRet (cCall m_raise_in [] (cCons (cVar 1) (cCons (cVar 3) (cCons (cC (.int 0)) cNil))))) sNext) (sRet (cIf (tVal (cBin opGt (cBin opIx (cVar 0) (cC (.int 1))) (cBin opAdd (cVar 2) (cVar 3)))) (cTup (cCons (cC (.str "at")) (cCons (cBin opSub (cBin opIx (cVar 0) (cC (.int 1))) (cC (.int 1))) cNil))) (cVar 0)))) sNext) (sSeq (sSet 4 (cCall m_inner [] (cCons (cVar 0) cNil))) (sSeq (sIf (tVal (cBin opEq (cVar 4) (cLst cNil))) (sRet (cVar 0)) sNext) (sRet (cCall m_with_parts [] (cCons (cVar 0) (cCons (cVal (cCompA (iEnumD (cCons (cVar 4) cNil)) [5, 6] (gTupD 2 (gConsD (gN 5) (gConsD (gN 6) gNilD))) tYesD (cCall r_give_in [] (cCons (cVar 6) (cCons (cVar 1) (cCons (cVar 2) (cCons (cBin opAdd (cVar 3) (cCall m_binds [] (cCons (cVar 0) (cCons (cVar 5) cNil)))) cNil))))))) cNil)))))))
def n_give_in : Nat → List Dt → Store → Out Dt
  | 0 => fun _ _ => .bad
  | n + 1 => fnBody 4 3 (b_give_in (n_give_in n))
def m_give_in : List Dt → Store → Out Dt := n_give_in 66
def b_giving : FS :=
  (sSeq (sExpr (cCall m_need_term [] (cCons (cVar 0) cNil))) (sSeq (sExpr (cCall m_need_term [] (cCons (cVar 1) cNil))) (sSeq (sExpr (cCall m_need_place [] (cCons (cVar 2) cNil))) (sRet (cCall m_give_in [.int 0] (cCons (cVar 0) (cCons (cVar 1) (cCons (cVar 2) cNil))))))))
def m_giving : List Dt → Store → Out Dt := fnBody 3 0 b_giving
def b_lower_in : FS :=
  (sSeq (sIf (tVal (cBin opIn (cC (.int 0)) (cCall m_free_in [] (cCons (cVar 0) cNil)))) (sRet (cC .non)) sNext) (sRet (cCall m_give_in [.int 0] (cCons (cVar 0) (cCons (cTup (cCons (cC (.str "at")) (cCons (cC (.int 0)) cNil))) (cCons (cC (.int 0)) cNil))))))
def m_lower_in : List Dt → Store → Out Dt := fnBody 1 0 b_lower_in
def b_lowered : FS :=
  (sSeq (sExpr (cCall m_need_term [] (cCons (cVar 0) cNil))) (sRet (cCall m_lower_in [] (cCons (cVar 0) cNil))))
def m_lowered : List Dt → Store → Out Dt := fnBody 1 0 b_lowered
def L_apply_to_0 : FS :=
  (sSet 2 (cTup (cCons (cC (.str "app")) (cCons (cVar 2) (cCons (cVar 3) cNil)))))
def b_apply_to : FS :=
  (sSeq (sSet 2 (cVar 0)) (sSeq (sFor (iVal (cVar 1)) (gN 3) L_apply_to_0) (sRet (cVar 2))))
def m_apply_to : List Dt → Store → Out Dt := fnBody 2 2 b_apply_to
def L_applied_0 : FS :=
  (sExpr (cCall m_need_term [] (cCons (cVar 2) cNil)))
def b_applied : FS :=
  (sSeq (sExpr (cCall m_need_term [] (cCons (cVar 0) cNil))) (sSeq (sIf (tNot' (tVal (cIsi ["list", "tuple"] (cVar 1)))) (sRaise "NoTerm" ["found"] (cCons (cVar 1) cNil)) sNext) (sSeq (sFor (iVal (cVar 1)) (gN 2) L_applied_0) (sRet (cCall m_apply_to [] (cCons (cVar 0) (cCons (cVar 1) cNil)))))))
def m_applied : List Dt → Store → Out Dt := fnBody 2 1 b_applied
def b_open_up : FS :=
  (sSeq (sSet 1 (cOwn (cDispL cNil))) (sSeq (sSet 2 (cVar 0)) (sSeq (sWhile (fun _ _ => 1000000) (tVal (cBin opEq (cBin opIx (cVar 2) (cC (.int 0))) (cC (.str "app")))) (sSeq (sExpr (cMeth .lst opInsert (cVar 1) (cCons (cC (.int 0)) (cCons (cBin opIx (cVar 2) (cC (.int 2))) cNil)))) (sSet 2 (cBin opIx (cVar 2) (cC (.int 1)))))) (sRet (cTup (cCons (cVar 2) (cCons (cFrz (cVar 1)) cNil)))))))
def m_open_up : List Dt → Store → Out Dt := trimF (fnBody 1 2 b_open_up)
def b_opened : FS :=
  (sSeq (sExpr (cCall m_need_term [] (cCons (cVar 0) cNil))) (sRet (cCall m_open_up [] (cCons (cVar 0) cNil))))
def m_opened : List Dt → Store → Out Dt := fnBody 1 0 b_opened
def b__law_cell : FS :=
  (sSeq (sIf (tVal (cBin opLt (cVar 1) (cApp opLen (cCons (cVar 0) cNil)))) (sRet (cBin opIx (cVar 0) (cVar 1))) sNext) (sRet (cBin opAdd (cBin opMul (cC (.int 6113)) (cVar 1)) (cC (.int 19)))))
def m__law_cell : List Dt → Store → Out Dt := fnBody 2 0 b__law_cell
def b__law_purse__o : FS :=
  (sRet (cOwn (cDispL (cCons (cApp opMax2 (cCons (cC (.int 0)) (cCons (cBin opSub (cVar 0) (cBin opPow (cC (.int 10)) (cC (.int 18)))) cNil))) (cCons (cBin opMod (cVar 0) (cC (.int 2147483629))) (cCons (cC (.int 0)) cNil))))))
def m__law_purse__o : List Dt → Store → Out Dt := trimF (fnBody 1 0 b__law_purse__o)
def b__law_take : FS :=
  (sSeq (sIf (tVal (cBin opGt (cBin opIx (cVar 0) (cC (.int 0))) (cC (.int 0)))) (sSeq (sSet 4 (cBin opMod (cBin opIx (cVar 0) (cC (.int 0))) (cVar 1))) (sSeq (sSetIx (cBin opFdiv (cBin opIx (cVar 0) (cC (.int 0))) (cVar 1)) (cVar 0) (cC (.int 0))) (sRet (cVar 4)))) sNext) (sSeq (sSetIx (cBin opAdd (cBin opIx (cVar 0) (cC (.int 2))) (cC (.int 1))) (cVar 0) (cC (.int 2))) (sSeq (sSet 2 (cBin opMod (cBin opPow (cBin opAdd (cBin opAdd (cBin opIx (cVar 0) (cC (.int 1))) (cBin opMul (cC (.int 6113)) (cBin opIx (cVar 0) (cC (.int 2))))) (cC (.int 31))) (cC (.int 5))) (cC (.int 2147483647)))) (sSeq (sSet 3 (cBin opMod (cBin opPow (cBin opAdd (cBin opMul (cBin opIx (cVar 0) (cC (.int 1))) (cBin opIx (cVar 0) (cC (.int 2)))) (cC (.int 89753))) (cC (.int 3))) (cC (.int 2147483587)))) (sRet (cBin opMod (cBin opFdiv (cBin opAdd (cBin opMul (cVar 2) (cC (.int 2147483587))) (cVar 3)) (cC (.int 8))) (cVar 1)))))))
def m__law_take : List Dt → Store → Out Dt := fnBody 2 3 b__law_take
def b__law_forms : FS :=
  (sSeq (sSet 0 (kOwn (kDisp (cPCons (cC (.str "at")) (cC (.str "n")) (cPCons (cC (.str "kind")) (cC (.str "h")) (cPCons (cC (.str "all")) (cC (.str "tt")) (cPCons (cC (.str "fun")) (cC (.str "tt")) (cPCons (cC (.str "app")) (cC (.str "tt")) (cPCons (cC (.str "name")) (cC (.str "w")) (cPCons (cC (.str "thing")) (cC (.str "w")) (cPCons (cC (.str "maker")) (cC (.str "wn")) cPNil))))))))))) (sSeq (sSet 1 (kOwn (kDisp (cPCons (cC (.str "eater")) (cC (.str "wh")) (cPCons (cC (.str "same")) (cC (.str "ttt")) (cPCons (cC (.str "self")) (cC (.str "tt")) (cPCons (cC (.str "put")) (cC (.str "ttt")) cPNil))))))) (sRet (kVal (kDictOf (cCons (cBin opAdd (cVal (cItemsA (cVar 0))) (cVal (cItemsA (cVar 1)))) cNil))))))
def m__law_forms : List Dt → Store → Out Dt := trimF (fnBody 0 2 b__law_forms)
def b__law_word : FS :=
  (sSeq (sSet 1 (cC (.str "abcdefghijklmnopqrstuvwxyz"))) (sSeq (sSet 2 (cMeth .str opJoin (cC (.str "")) (cCons (cVal (cCompA (iRange1 (cCons (cBin opAdd (cC (.int 1)) (cCall m__law_take [] (cCons (cVar 0) (cCons (cC (.int 8)) cNil)))) cNil)) [3] (gN 3) tYesD (cBin opIx (cVar 1) (cCall m__law_take [] (cCons (cVar 0) (cCons (cC (.int 26)) cNil)))))) cNil))) (sRet (cIf (tVal (cBin opIn (cVar 2) (cTup (cCons (cC (.str "all")) (cCons (cC (.str "fun")) (cCons (cC (.str "same")) (cCons (cC (.str "self")) (cCons (cC (.str "put")) cNil)))))))) (cBin opAdd (cC (.str "q")) (cVar 2)) (cVar 2)))))
def m__law_word : List Dt → Store → Out Dt := fnBody 1 3 b__law_word
def L__law_term_0 (r__law_term : List Dt → Store → Out Dt) : FS :=
  (sSeq (sIf (tVal (cBin opEq (cVar 6) (cC (.str "n")))) (sExpr (cMeth .lst opAppend (cVar 5) (cCons (cCall m__law_take [] (cCons (cVar 0) (cCons (cBin opIx (cLst (cCons (cVar 2) (cCons (cC (.int 5)) cNil))) (cApp opInt (cCons (cBin opEq (cVar 4) (cC (.str "maker"))) cNil))) cNil))) cNil))) sNext) (sSeq (sIf (tVal (cBin opEq (cVar 6) (cC (.str "h")))) (sExpr (cMeth .lst opAppend (cVar 5) (cCons (cCall m__law_take [] (cCons (cVar 0) (cCons (cC (.int 6)) cNil))) cNil))) sNext) (sSeq (sIf (tVal (cBin opEq (cVar 6) (cC (.str "w")))) (sExpr (cMeth .lst opAppend (cVar 5) (cCons (cCall m__law_word [] (cCons (cVar 0) cNil)) cNil))) sNext) (sIf (tVal (cBin opEq (cVar 6) (cC (.str "t")))) (sExpr (cMeth .lst opAppend (cVar 5) (cCons (cCall r__law_term [] (cCons (cVar 0) (cCons (cBin opSub (cVar 1) (cC (.int 1))) (cCons (cVar 2) cNil)))) cNil))) sNext))))
def b__law_term (r__law_term : List Dt → Store → Out Dt) : FS :=
  (sSeq (sSet 3 (cMeth .str opSplit (cC (.str "at at kind name thing maker eater all fun app app same self put")) (cCons (cC (.str " ")) cNil))) (sSeq (sSet 4 (cIf (tVal (cBin opEq (cVar 1) (cC (.int 0)))) (cBin opIx (cVar 3) (cCall m__law_take [] (cCons (cVar 0) (cCons (cC (.int 7)) cNil)))) (cBin opIx (cVar 3) (cCall m__law_take [] (cCons (cVar 0) (cCons (cC (.int 14)) cNil)))))) (sSeq (sSet 5 (cOwn (cDispL (cCons (cVar 4) cNil)))) (sSeq (sFor (iVal (cBin opIx (cCall m__law_forms [] cNil) (cVar 4))) (gN 6) (L__law_term_0 r__law_term)) (sRet (cApp opTuple (cCons (cVar 5) cNil)))))))
def n__law_term : Nat → List Dt → Store → Out Dt
  | 0 => fun _ _ => .bad
  | n + 1 => trimF (fnBody 3 4 (b__law_term (n__law_term n)))
def m__law_term : List Dt → Store → Out Dt := n__law_term 66
def L__law_any_0 : FS :=
  (sSeq (sSet 5 (cOwn (cDispL (cCons (cTup (cCons (cC (.str "app")) (cCons (cTup (cCons (cC (.str "kind")) (cCons (cC (.int 0)) cNil))) (cCons (cVar 3) cNil)))) (cCons (cTup (cCons (cC (.str "fun")) (cCons (cTup (cCons (cC (.str "kind")) (cCons (cC (.int 1)) cNil))) (cCons (cVar 3) cNil)))) (cCons (cTup (cCons (cC (.str "all")) (cCons (cVar 3) (cCons (cTup (cCons (cC (.str "kind")) (cCons (cC (.int 2)) cNil))) cNil)))) cNil)))))) (sSeq (sExpr (cMeth .lst opAppend (cVar 5) (cCons (cTup (cCons (cC (.str "all")) (cCons (cTup (cCons (cC (.str "at")) (cCons (cC (.int 0)) cNil))) (cCons (cVar 3) cNil)))) cNil))) (sSet 3 (cBin opIx (cVar 5) (cCall m__law_take [] (cCons (cVar 0) (cCons (cC (.int 4)) cNil)))))))
def b__law_any : FS :=
  (sSeq (sIf (tVal (cBin opGt (cCall m__law_take [] (cCons (cVar 0) (cCons (cC (.int 4)) cNil))) (cC (.int 0)))) (sRet (cCall m__law_term [] (cCons (cVar 0) (cCons (cCall m__law_take [] (cCons (cVar 0) (cCons (cVar 1) cNil))) (cCons (cVar 2) cNil))))) sNext) (sSeq (sSet 3 (cCall m__law_term [] (cCons (cVar 0) (cCons (cCall m__law_take [] (cCons (cVar 0) (cCons (cC (.int 4)) cNil))) (cCons (cVar 2) cNil))))) (sSeq (sFor (iRange1 (cCons (cCall m__law_take [] (cCons (cVar 0) (cCons (cC (.int 55)) cNil))) cNil)) (gN 4) L__law_any_0) (sRet (cVar 3)))))
def m__law_any : List Dt → Store → Out Dt := trimF (fnBody 3 3 b__law_any)
def b__law_parts : FS :=
  (sRet (cIf (tVal (cBin opIn (cC (.str "t")) (cBin opIx (cCall m__law_forms [] cNil) (cBin opIx (cVar 0) (cC (.int 0)))))) (cApp opList (cCons (cSlice (cVar 0) (cPart (cC (.int 1))) cNoPart) cNil)) (cLst cNil)))
def m__law_parts : List Dt → Store → Out Dt := fnBody 1 0 b__law_parts
def b__law_over : FS :=
  (sRet (cApp opInt (cCons (cAnd (cBin opIn (cBin opIx (cVar 0) (cC (.int 0))) (cTup (cCons (cC (.str "all")) (cCons (cC (.str "fun")) cNil)))) (cBin opEq (cVar 1) (cC (.int 1)))) cNil)))
def m__law_over : List Dt → Store → Out Dt := fnBody 2 0 b__law_over
def b__law_raised (r__law_raised : List Dt → Store → Out Dt) : FS :=
  (sSeq (sIf (tVal (cBin opEq (cBin opIx (cVar 0) (cC (.int 0))) (cC (.str "at")))) (sRet (cTup (cCons (cC (.str "at")) (cCons (cBin opAdd (cBin opIx (cVar 0) (cC (.int 1))) (cBin opMul (cVar 1) (cApp opInt (cCons (cBin opGe (cBin opIx (cVar 0) (cC (.int 1))) (cVar 2)) cNil)))) cNil)))) sNext) (sSeq (sSet 3 (cCall m__law_parts [] (cCons (cVar 0) cNil))) (sSeq (sIf (tVal (cBin opEq (cVar 3) (cLst cNil))) (sRet (cVar 0)) sNext) (sSeq (sSet 4 (cVal (cCompA (iEnumD (cCons (cVar 3) cNil)) [5, 6] (gTupD 2 (gConsD (gN 5) (gConsD (gN 6) gNilD))) tYesD (cCall r__law_raised [] (cCons (cVar 6) (cCons (cVar 1) (cCons (cBin opAdd (cVar 2) (cCall m__law_over [] (cCons (cVar 0) (cCons (cVar 5) cNil)))) cNil))))))) (sRet (cBin opAdd (cTup (cCons (cBin opIx (cVar 0) (cC (.int 0))) cNil)) (cApp opTuple (cCons (cVar 4) cNil))))))))
def n__law_raised : Nat → List Dt → Store → Out Dt
  | 0 => fun _ _ => .bad
  | n + 1 => fnBody 3 4 (b__law_raised (n__law_raised n))
def m__law_raised : List Dt → Store → Out Dt := n__law_raised 66
def b__law_given (r__law_given : List Dt → Store → Out Dt) : FS :=
  (sSeq (sIf (tVal (cBin opEq (cBin opIx (cVar 0) (cC (.int 0))) (cC (.str "at")))) (sSeq (sIf (tVal (cBin opEq (cBin opIx (cVar 0) (cC (.int 1))) (cBin opAdd (cVar 2) (cVar 3)))) (sRet (cCall m__law_raised [] (cCons (cVar 1) (cCons (cVar 3) (cCons (cC (.int 0)) cNil))))) sNext) (sRet (cTup (cCons (cC (.str "at")) (cCons (cBin opSub (cBin opIx (cVar 0) (cC (.int 1))) (cApp opInt (cCons (cBin opGt (cBin opIx (cVar 0) (cC (.int 1))) (cBin opAdd (cVar 2) (cVar 3))) cNil))) cNil))))) sNext) (sSeq (sSet 4 (cCall m__law_parts [] (cCons (cVar 0) cNil))) (sSeq (sIf (tVal (cBin opEq (cVar 4) (cLst cNil))) (sRet (cVar 0)) sNext) (sSeq (sSet 5 (cVal (cCompA (iEnumD (cCons (cVar 4) cNil)) [6, 7] (gTupD 2 (gConsD (gN 6) (gConsD (gN 7) gNilD))) tYesD (cCall r__law_given [] (cCons (cVar 7) (cCons (cVar 1) (cCons (cVar 2) (cCons (cBin opAdd (cVar 3) (cCall m__law_over [] (cCons (cVar 0) (cCons (cVar 6) cNil)))) cNil)))))))) (sRet (cBin opAdd (cTup (cCons (cBin opIx (cVar 0) (cC (.int 0))) cNil)) (cApp opTuple (cCons (cVar 5) cNil))))))))
def n__law_given : Nat → List Dt → Store → Out Dt
  | 0 => fun _ _ => .bad
  | n + 1 => fnBody 4 4 (b__law_given (n__law_given n))
def m__law_given : List Dt → Store → Out Dt := n__law_given 66
def b__law_asked : FS :=
  (sTry (sSeq (sIf (tVal (cBin opEq (cVar 0) (cC (.int 0)))) (sRet (cTup (cCons (cC (.str "told")) (cCons (cCall m_raised [] (cCons (cVar 1) (cCons (cVar 2) (cCons (cVar 3) cNil)))) cNil)))) sNext) (sRet (cTup (cCons (cC (.str "told")) (cCons (cCall m_giving [] (cCons (cVar 1) (cCons (cVar 2) (cCons (cVar 3) cNil)))) cNil))))) (some ⟨[("NoTerm", true), ("NoNumber", false)], some 4, (sRet (cTup (cCons (cC (.str "term")) (cCons (cFld 4 "found" ["NoTerm"]) cNil))))⟩ :: (some ⟨[("NoNumber", true)], some 4, (sRet (cTup (cCons (cC (.str "number")) (cCons (cFld 4 "found" ["NoNumber"]) cNil))))⟩ :: [none])))
def m__law_asked : List Dt → Store → Out Dt := fnBody 4 1 b__law_asked
def L__law_refused_right_0 : FS :=
  (sSeq (sSet 13 (cApp opRepr (cCons (cTup (cCons (cVar 11) (cCons (cVar 12) cNil))) cNil))) (sSeq (sAsg (gTupD 2 (gConsD (gN 14) (gConsD (gN 15) gNilD))) (cCall m__law_asked [] (cCons (cVar 7) (cCons (cVar 8) (cCons (cVar 9) (cCons (cVar 10) cNil)))))) (sSeq (sIf (tVal (cBin opNe (cApp opRepr (cCons (cTup (cCons (cVar 14) (cCons (cVar 15) cNil))) cNil)) (cVar 13))) (sRet (cC (.bl false))) sNext) (sIf (tVal (cIsi ["list"] (cVar 12))) (sSeq (sExpr (cMeth .lst opAppend (cVar 12) (cCons (cBin opAdd (cC (.int 100)) (cVar 6)) cNil))) (sIf (tVal (cBin opNe (cSlice (cVar 15) (cPart (cUn opNeg (cC (.int 1)))) cNoPart) (cLst (cCons (cBin opAdd (cC (.int 100)) (cVar 6)) cNil)))) (sRet (cC (.bl false))) sNext)) sNext))))
def b__law_refused_right : FS :=
  (sSeq (sSet 3 (cLst (cCons (cC .non) (cCons (cC (.int 7)) (cCons (cOwn (cDispL (cCons (cVar 1) cNil))) (cCons (cTup (cCons (cC (.str "at")) cNil)) (cCons (cTup cNil) (cCons (cC (.str "at")) (cCons cDct0 (cCons (cTup (cCons (cC (.str "kind")) (cCons (cC (.int 6)) cNil))) (cCons (cTup (cCons (cC (.str "at")) (cCons (cC (.bl true)) cNil))) (cCons (cTup (cCons (cC (.str "all")) (cCons (cVar 1) cNil))) (cCons (cTup (cCons (cC (.str "app")) (cCons (cTup (cCons (cC (.str "at")) (cCons (cC (.int 0)) cNil))) (cCons (cTup cNil) cNil)))) cNil))))))))))))) (sSeq (sSet 3 (cBin opIx (cBin opAdd (cVar 3) (cLst (cCons (cTup (cCons (cC (.str "fun")) (cCons (cTup (cCons (cC (.str "at")) (cCons (cC (.int 0)) cNil))) (cCons (cTup (cCons (cC (.str "at")) (cCons (cC (.bl true)) cNil))) cNil)))) (cCons (cTup (cCons (cC (.str "app")) (cCons (cTup (cCons (cC (.str "kind")) (cCons (cC (.int 6)) cNil))) (cCons (cTup (cCons (cC (.str "at")) (cCons (cC (.int 0)) cNil))) cNil)))) cNil)))) (cCall m__law_take [] (cCons (cVar 0) (cCons (cC (.int 13)) cNil))))) (sSeq (sSet 4 (cBin opIx (cLst (cCons (cC .non) (cCons (cC (.bl true)) (cCons (cUn opNeg (cC (.int 1))) (cCons (cC (.int 1000)) (cCons (cC (.str "1")) (cCons (cOwn (cDispL (cCons (cC (.int 1)) cNil))) (cCons (cTup (cCons (cC (.int 1)) cNil)) (cCons cDct0 (cCons (cBin opPow (cC (.int 10)) (cC (.int 29))) (cCons (cVar 1) (cCons (cC (.bl false)) cNil)))))))))))) (cCall m__law_take [] (cCons (cVar 0) (cCons (cC (.int 11)) cNil))))) (sSeq (sSet 5 (cOwn (cDispL (cCons (cTup (cCons (cC (.int 0)) (cCons (cVar 3) (cCons (cVar 4) (cCons (cVar 4) (cCons (cC (.str "term")) (cCons (cVar 3) cNil))))))) (cCons (cTup (cCons (cC (.int 0)) (cCons (cVar 1) (cCons (cVar 4) (cCons (cVar 3) (cCons (cC (.str "number")) (cCons (cVar 4) cNil))))))) (cCons (cTup (cCons (cC (.int 0)) (cCons (cVar 1) (cCons (cC (.int 1)) (cCons (cVar 4) (cCons (cC (.str "number")) (cCons (cVar 4) cNil))))))) cNil)))))) (sSeq (sSet 5 (cOwn (cAddA (cVar 5) (cLst (cCons (cTup (cCons (cC (.int 1)) (cCons (cVar 3) (cCons (cVar 3) (cCons (cVar 4) (cCons (cC (.str "term")) (cCons (cVar 3) cNil))))))) (cCons (cTup (cCons (cC (.int 1)) (cCons (cVar 1) (cCons (cVar 3) (cCons (cVar 4) (cCons (cC (.str "term")) (cCons (cVar 3) cNil))))))) cNil)))))) (sSeq (sExpr (cMeth .lst opAppend (cVar 5) (cCons (cTup (cCons (cC (.int 1)) (cCons (cVar 1) (cCons (cVar 2) (cCons (cVar 4) (cCons (cC (.str "number")) (cCons (cVar 4) cNil))))))) cNil))) (sSeq (sSet 5 (cOwn (cAddA (cVar 5) (cLst (cCons (cTup (cCons (cC (.int 1)) (cCons (cVar 3) (cCons (cVar 2) (cCons (cC (.int 0)) (cCons (cC (.str "term")) (cCons (cVar 3) cNil))))))) (cCons (cTup (cCons (cC (.int 1)) (cCons (cVar 3) (cCons (cTup (cCons (cVar 3) cNil)) (cCons (cC (.int 0)) (cCons (cC (.str "term")) (cCons (cVar 3) cNil))))))) cNil)))))) (sSeq (sSet 5 (cOwn (cAddA (cVar 5) (cLst (cCons (cTup (cCons (cC (.int 0)) (cCons (cVar 3) (cCons (cC (.int 1)) (cCons (cC (.int 0)) (cCons (cC (.str "term")) (cCons (cVar 3) cNil))))))) (cCons (cTup (cCons (cC (.int 1)) (cCons (cVar 1) (cCons (cVar 3) (cCons (cC (.int 0)) (cCons (cC (.str "term")) (cCons (cVar 3) cNil))))))) cNil)))))) (sSeq (sFor (iEnumD (cCons (cFrz (cVar 5)) cNil)) (gTupD 2 (gConsD (gN 6) (gConsD (gTupD 6 (gConsD (gN 7) (gConsD (gN 8) (gConsD (gN 9) (gConsD (gN 10) (gConsD (gN 11) (gConsD (gN 12) gNilD))))))) gNilD))) L__law_refused_right_0) (sRet (cC (.bl true))))))))))))
def m__law_refused_right : List Dt → Store → Out Dt := trimF (fnBody 3 13 b__law_refused_right)
def L__law_first_0 : FS :=
  (sIf (tVal (cBin opNe (cCall m_giving [] (cCons (cVar 4) (cCons (cVar 5) (cCons (cVar 12) cNil)))) (cCall m__law_given [] (cCons (cVar 4) (cCons (cVar 5) (cCons (cVar 12) (cCons (cC (.int 0)) cNil))))))) (sRet (cC (.bl false))) sNext)
def L__law_first_1 : FS :=
  (sSeq (sIf (tOr' (tVal (cBin opNe (cCall m_raised [] (cCons (cVar 4) (cCons (cVar 7) (cCons (cVar 8) cNil)))) (cCall m__law_raised [] (cCons (cVar 4) (cCons (cVar 7) (cCons (cVar 8) cNil)))))) (tVal (cBin opNe (cCall m_raised [.int 1, .int 0] (cCons (cVar 4) cNil)) (cCall m__law_raised [] (cCons (cVar 4) (cCons (cC (.int 1)) (cCons (cC (.int 0)) cNil))))))) (sRet (cC (.bl false))) sNext) (sSeq (sPar 10 11 (cCall m_raised [] (cCons (cVar 4) (cCons (cVar 7) (cCons (cVar 8) cNil)))) (cCall m__law_raised [] (cCons (cVar 4) (cCons (cVar 7) (cCons (cVar 8) cNil))))) (sSeq (sIf (tVal (cBin opNe (cCall m_raised [] (cCons (cVar 10) (cCons (cVar 7) (cCons (cVar 8) cNil)))) (cCall m__law_raised [] (cCons (cVar 11) (cCons (cVar 7) (cCons (cVar 8) cNil)))))) (sRet (cC (.bl false))) sNext) (sSeq (sIf (tVal (cBin opNe (cCall m_giving [.int 0] (cCons (cVar 10) (cCons (cVar 5) cNil))) (cCall m__law_given [] (cCons (cVar 11) (cCons (cVar 5) (cCons (cC (.int 0)) (cCons (cC (.int 0)) cNil))))))) (sRet (cC (.bl false))) sNext) (sSeq (sFor (iVal (cLst (cCons (cVar 8) (cCons (cC (.int 0)) (cCons (cC (.int 1)) (cCons (cC (.int 2)) cNil)))))) (gN 12) L__law_first_0) (sIf (tVal (cBin opNe (cCall m_giving [.int 0] (cCons (cVar 4) (cCons (cVar 5) cNil))) (cCall m__law_given [] (cCons (cVar 4) (cCons (cVar 5) (cCons (cC (.int 0)) (cCons (cC (.int 0)) cNil))))))) (sRet (cC (.bl false))) sNext))))))
def L__law_first_2 : FS :=
  (sSeq (sSet 2 (cCall m__law_purse__o [] (cCons (cCall m__law_cell [] (cCons (cVar 0) (cCons (cVar 1) cNil))) cNil))) (sSeq (sSet 3 (cBin opIx (cLst (cCons (cC (.int 3)) (cCons (cC (.int 6)) (cCons (cC (.int 1000)) cNil)))) (cCall m__law_take [] (cCons (cVar 2) (cCons (cC (.int 3)) cNil))))) (sSeq (sPar 4 5 (cCall m__law_any [] (cCons (cVar 2) (cCons (cC (.int 5)) (cCons (cVar 3) cNil)))) (cCall m__law_term [] (cCons (cVar 2) (cCons (cCall m__law_take [] (cCons (cVar 2) (cCons (cC (.int 4)) cNil))) (cCons (cVar 3) cNil))))) (sSeq (sSet 6 (cApp opRepr (cCons (cLst (cCons (cVar 4) (cCons (cVar 5) cNil))) cNil))) (sSeq (sSet 7 (cBin opIx (cLst (cCons (cC (.int 1)) (cCons (cC (.int 0)) (cCons (cC (.int 2)) (cCons (cC (.int 999)) (cCons (cCall m__law_take [] (cCons (cVar 2) (cCons (cC (.int 1000)) cNil))) cNil)))))) (cCall m__law_take [] (cCons (cVar 2) (cCons (cC (.int 5)) cNil))))) (sSeq (sSet 8 (cBin opIx (cLst (cCons (cC (.int 0)) (cCons (cC (.int 1)) (cCons (cC (.int 2)) (cCons (cCall m__law_take [] (cCons (cVar 2) (cCons (cC (.int 1000)) cNil))) cNil))))) (cCall m__law_take [] (cCons (cVar 2) (cCons (cC (.int 4)) cNil))))) (sSeq (sFor (iRange1 (cCons (cC (.int 2)) cNil)) (gN 9) L__law_first_1) (sIf (tOr' (tVal (cBin opNe (cApp opRepr (cCons (cLst (cCons (cVar 4) (cCons (cVar 5) cNil))) cNil)) (cVar 6))) (tNot' (tVal (cCall m__law_refused_right [] (cCons (cVar 2) (cCons (cVar 4) (cCons (cVar 5) cNil))))))) (sRet (cC (.bl false))) sNext))))))))
def b__law_first : FS :=
  (sSeq (sFor (iRange1 (cCons (cApp opMax2 (cCons (cC (.int 2)) (cCons (cApp opMin2 (cCons (cC (.int 10)) (cCons (cApp opLen (cCons (cVar 0) cNil)) cNil))) cNil))) cNil)) (gN 1) L__law_first_2) (sRet (cC (.bl true))))
def m__law_first : List Dt → Store → Out Dt := trimF (fnBody 1 12 b__law_first)
def b__law_raising_right : FS :=
  (sSeq (sSet 3 (cCall m_raised [] (cCons (cVar 0) (cCons (cVar 2) (cCons (cVar 1) cNil))))) (sSeq (sIf (tOr' (tVal (cBin opNe (cCall m_raised [] (cCons (cVar 0) (cCons (cC (.int 0)) (cCons (cVar 1) cNil)))) (cVar 0))) (tVal (cBin opNe (cCall m_raised [] (cCons (cVar 3) (cCons (cC (.int 2)) (cCons (cVar 1) cNil)))) (cCall m_raised [] (cCons (cVar 0) (cCons (cBin opAdd (cVar 2) (cC (.int 2))) (cCons (cVar 1) cNil))))))) (sRet (cC (.bl false))) sNext) (sSeq (sIf (tOr' (tVal (cBin opNe (cCall m_spots [] (cCons (cVar 3) cNil)) (cCall m_spots [] (cCons (cVar 0) cNil)))) (tVal (cBin opNe (cCall m_size [] (cCons (cVar 3) cNil)) (cCall m_size [] (cCons (cVar 0) cNil))))) (sRet (cC (.bl false))) sNext) (sSeq (sIf (tVal (cBin opNe (cCall m_free [] (cCons (cVar 3) cNil)) (cVal (cCompA (iVal (cCall m_free [] (cCons (cVar 0) cNil))) [5] (gN 5) tYesD (cBin opAdd (cVar 5) (cBin opMul (cVar 2) (cApp opInt (cCons (cBin opGe (cVar 5) (cVar 1)) cNil)))))))) (sRet (cC (.bl false))) sNext) (sSeq (sSet 4 (cCall m_raised [] (cCons (cVar 0) (cCons (cC (.int 1)) (cCons (cVar 1) cNil))))) (sRet (cBin opEq (cCall m_raised [] (cCons (cVar 4) (cCons (cVar 2) (cCons (cBin opAdd (cVar 1) (cC (.int 1))) cNil)))) (cCall m_raised [] (cCons (cVar 3) (cCons (cC (.int 1)) (cCons (cVar 1) cNil)))))))))))
def m__law_raising_right : List Dt → Store → Out Dt := fnBody 3 3 b__law_raising_right
def b__law_giving_right : FS :=
  (sSeq (sIf (tVal (cBin opNe (cCall m_giving [] (cCons (cCall m_raised [] (cCons (cVar 0) (cCons (cC (.int 1)) (cCons (cVar 3) cNil)))) (cCons (cVar 1) (cCons (cVar 3) cNil)))) (cVar 0))) (sRet (cC (.bl false))) sNext) (sSeq (sSet 4 (cCall m_giving [] (cCons (cCall m_giving [] (cCons (cVar 0) (cCons (cVar 1) (cCons (cC (.int 0)) cNil)))) (cCons (cVar 2) (cCons (cVar 3) cNil))))) (sSeq (sSet 5 (cCall m_giving [] (cCons (cVar 0) (cCons (cCall m_raised [.int 1, .int 0] (cCons (cVar 2) cNil)) (cCons (cBin opAdd (cVar 3) (cC (.int 1))) cNil))))) (sSeq (sIf (tVal (cBin opNe (cVar 4) (cCall m_giving [] (cCons (cVar 5) (cCons (cCall m_giving [] (cCons (cVar 1) (cCons (cVar 2) (cCons (cVar 3) cNil)))) (cCons (cC (.int 0)) cNil)))))) (sRet (cC (.bl false))) sNext) (sSeq (sSet 6 (cCall m_lowered [] (cCons (cVar 0) cNil))) (sSeq (sIf (tAnd' (tVal (cBin opIsNot (cVar 6) (cC .non))) (tOr' (tVal (cBin opNe (cCall m_raised [.int 1, .int 0] (cCons (cVar 6) cNil)) (cVar 0))) (tVal (cBin opNe (cCall m_giving [.int 0] (cCons (cVar 0) (cCons (cVar 2) cNil))) (cVar 6))))) (sRet (cC (.bl false))) sNext) (sRet (cBin opEq (cBin opIs (cVar 6) (cC .non)) (cBin opIn (cC (.int 0)) (cCall m_free [] (cCons (cVar 0) cNil)))))))))))
def m__law_giving_right : List Dt → Store → Out Dt := fnBody 4 3 b__law_giving_right
def b__law_parts_right : FS :=
  (sSeq (sSet 3 (cCall m_spots [] (cCons (cVar 1) cNil))) (sSeq (sSet 4 (cBin opIx (cVar 3) (cCall m__law_take [] (cCons (cVar 0) (cCons (cApp opLen (cCons (cVar 3) cNil)) cNil))))) (sSeq (sIf (tOr' (tVal (cBin opNe (cCall m_changed [] (cCons (cVar 1) (cCons (cVar 4) (cCons (cCall m_part_at [] (cCons (cVar 1) (cCons (cVar 4) cNil))) cNil)))) (cVar 1))) (tVal (cBin opNe (cCall m_part_at [] (cCons (cCall m_changed [] (cCons (cVar 1) (cCons (cVar 4) (cCons (cVar 2) cNil)))) (cCons (cVar 4) cNil))) (cVar 2)))) (sRet (cC (.bl false))) sNext) (sSeq (sIf (tVal (cBin opNe (cCall m_size [] (cCons (cCall m_changed [] (cCons (cVar 1) (cCons (cVar 4) (cCons (cVar 2) cNil)))) cNil)) (cBin opAdd (cBin opSub (cCall m_size [] (cCons (cVar 1) cNil)) (cCall m_size [] (cCons (cCall m_part_at [] (cCons (cVar 1) (cCons (cVar 4) cNil))) cNil))) (cCall m_size [] (cCons (cVar 2) cNil))))) (sRet (cC (.bl false))) sNext) (sSeq (sAsg (gTupD 2 (gConsD (gN 5) (gConsD (gN 6) gNilD))) (cCall m_opened [] (cCons (cVar 1) cNil))) (sSeq (sSet 7 (cBin opIx (cCall m_opened [] (cCons (cCall m_applied [] (cCons (cVar 2) (cCons (cVar 6) cNil))) cNil)) (cC (.int 1)))) (sRet (cAnd (cBin opEq (cCall m_applied [] (cCons (cVar 5) (cCons (cVar 6) cNil))) (cVar 1)) (cAnd (cBin opNe (cBin opIx (cVar 5) (cC (.int 0))) (cC (.str "app"))) (cBin opEq (cSlice (cVar 7) (cPart (cBin opSub (cApp opLen (cCons (cVar 7) cNil)) (cApp opLen (cCons (cVar 6) cNil)))) cNoPart) (cVar 6)))))))))))
def m__law_parts_right : List Dt → Store → Out Dt := fnBody 3 5 b__law_parts_right
def L__law_second_0 : FS :=
  (sSeq (sSet 2 (cCall m__law_purse__o [] (cCons (cCall m__law_cell [] (cCons (cVar 0) (cCons (cVar 1) cNil))) cNil))) (sSeq (sSet 3 (cCall m__law_any [] (cCons (cVar 2) (cCons (cC (.int 4)) (cCons (cC (.int 4)) cNil))))) (sSeq (sPar 4 5 (cCall m__law_term [] (cCons (cVar 2) (cCons (cCall m__law_take [] (cCons (cVar 2) (cCons (cC (.int 3)) cNil))) (cCons (cC (.int 4)) cNil)))) (cCall m__law_term [] (cCons (cVar 2) (cCons (cCall m__law_take [] (cCons (cVar 2) (cCons (cC (.int 3)) cNil))) (cCons (cC (.int 4)) cNil))))) (sSeq (sPar 6 7 (cCall m__law_take [] (cCons (cVar 2) (cCons (cC (.int 4)) cNil))) (cCall m__law_take [] (cCons (cVar 2) (cCons (cC (.int 6)) cNil)))) (sSeq (sIf (tOr' (tNot' (tVal (cCall m__law_raising_right [] (cCons (cVar 3) (cCons (cVar 6) (cCons (cVar 7) cNil)))))) (tNot' (tVal (cCall m__law_giving_right [] (cCons (cVar 3) (cCons (cVar 4) (cCons (cVar 5) (cCons (cVar 6) cNil)))))))) (sRet (cC (.bl false))) sNext) (sIf (tNot' (tVal (cCall m__law_parts_right [] (cCons (cVar 2) (cCons (cVar 3) (cCons (cVar 4) cNil)))))) (sRet (cC (.bl false))) sNext))))))
def b__law_second : FS :=
  (sSeq (sFor (iRange1 (cCons (cApp opMax2 (cCons (cC (.int 2)) (cCons (cApp opMin2 (cCons (cC (.int 8)) (cCons (cApp opLen (cCons (cVar 0) cNil)) cNil))) cNil))) cNil)) (gN 1) L__law_second_0) (sRet (cC (.bl true))))
def m__law_second : List Dt → Store → Out Dt := trimF (fnBody 1 7 b__law_second)
def b_law : FS :=
  (sRet (cAnd (cCall m__law_first [] (cCons (cVar 0) cNil)) (cCall m__law_second [] (cCons (cVar 0) cNil))))
def m_law : List Dt → Store → Out Dt := fnBody 1 0 b_law
end K04

set_option Elab.async false
set_option linter.all false
set_option maxRecDepth 1000000
set_option maxHeartbeats 4000000
namespace K04
open PySem PySem.Spec PyProof.Rows L2 DL
theorem is_whole_ok {d : Dt} {lo hi : Int} (S : Store) (h : okD d = true) : m_is_whole [d, .int lo, .int hi] S = .ok (.bl (wholeB d lo hi)) S := by
  unfold m_is_whole
  rw [fnB3]
  cases d with
  | ref n => cases h
  | fn x => cases h
  | _ => simp [kSIf_at, kOrT_at, kAndT_at, kCh3_at, kAnd1_at, kOr1_at, kIf_at, b_is_whole, wholeB, subTy]
theorem is_number_ok {d : Dt} (S : Store) (h : okD d = true) : m_is_number [d] S = .ok (.bl (numB d)) S := by
  unfold m_is_number
  rw [fnB1]
  cases d with
  | ref n => cases h
  | fn x => cases h
  | _ => simp [kSIf_at, kOrT_at, kAndT_at, kCh3_at, kAnd1_at, kOr1_at, kIf_at, b_is_number, numB, subTy]
theorem is_name_ok {d : Dt} (S : Store) (h : okD d = true) (hl : ∀ z, d = .str z → z.length ≤ LINE) : m_is_name [d] S = .ok (.bl (nameB d)) S := by
  unfold m_is_name
  rw [fnB1]
  cases d with
  | ref n => cases h
  | fn x => cases h
  | str z =>
    have hz := hl z rfl
    have h1 : opIn (.str z) d_KEPT S = .ok (.bl (decide (z ∈ kept))) S := opIn_tstrs
    have h2 : ∀ S env, kComp (gN 1) tYesD (cBin opIn (cVar 1) (cC d_SMALL)) (some (.vl (.str z)) :: none :: env) (charsD z) S = .ok ((charsD z).map fun d => .bl (lowc d)) S := by
      intro S env
      refine kComp_pure _ (by rw [charsD_len]; exact hz) fun d hd => ?_
      obtain ⟨c, hc, rfl, _⟩ := char_ok h hd
      refine ⟨_, rfl, rfl, ?_⟩
      simp only [ev_bin, ev_var, ev_c, List.set_cons_succ, List.set_cons_zero, slot_s, slot_0, bind_ok]
      rw [show d_SMALL = .str "abcdefghijklmnopqrstuvwxyz" from rfl, opIn_char]
      congr 2
      simp only [small_mem, Bool.decide_and]
      rfl
    simp [kSIf_at, kOrT_at, kAndT_at, kCh3_at, kAnd1_at, kOr1_at, kIf_at, b_is_name, subTy, opLen_str hz, h1, h2, opAll_map, all_lowc, nameB, nameZ]
    rw [Bool.eq_iff_iff]
    simp
    omega
  | _ => simp [kSIf_at, kOrT_at, kAndT_at, kCh3_at, kAnd1_at, kOr1_at, kIf_at, b_is_name, nameB, subTy]
theorem has_form_ok {n c : Nat} {d : Dt} {S : Store} (f : Fine d) (hc : c = 110 ∨ c = 104 ∨ c = 119 ∨ c = 116) (ih : ∀ S, n_is_term n [d] S = .ok (.bl (isT d)) S) : n_has_form (n + 1) [.str ⟨#[c]⟩, d] S = .ok (.bl (isC c d)) S := by
  have e1 : ∀ S, opEq (.str ⟨#[c]⟩) (.str "n") S = .ok (.bl (decide (c = 110))) S := fun S => opEq_chr (by omega) (by decide)
  have e2 : ∀ S, opEq (.str ⟨#[c]⟩) (.str "h") S = .ok (.bl (decide (c = 104))) S := fun S => opEq_chr (by omega) (by decide)
  have e3 : ∀ S, opEq (.str ⟨#[c]⟩) (.str "w") S = .ok (.bl (decide (c = 119))) S := fun S => opEq_chr (by omega) (by decide)
  unfold n_has_form
  rw [fnB2]
  rcases hc with rfl | rfl | rfl | rfl <;>
    simp [kSIf_at, kOrT_at, kAndT_at, kCh3_at, kAnd1_at, kOr1_at, kIf_at, b_has_form, e1, e2, e3, is_number_ok S f.ok, d_MOST_KIND, is_whole_ok S f.ok, is_name_ok S f.ok f.str, ih, isC]
theorem is_term_ok : ∀ (n : Nat) {d : Dt} (S : Store), Fine d → 2 * dpD d + 1 ≤ n → n_is_term n [d] S = .ok (.bl (isT d)) S
  | 0, d, S, f, hn => by omega
  | n + 1, d, S, f, hn => by
    unfold n_is_term
    rw [fnB1]
    cases d with
    | ref n => cases f.ok
    | fn x => cases f.ok
    | tup ds =>
      cases ds with
      | nil => simp [kSIf_at, kOrT_at, kAndT_at, kCh3_at, kAnd1_at, kOr1_at, kIf_at, b_is_term, subTy, isT, isTs]
      | cons e ds =>
        have fe : Fine e := f.mem (by simp)
        have hlen := f.len
        have len0 : ¬ ((ds.length : Int) + 1 = 0) := by omega
        cases e with
        | str w =>
          have q0 : d_FORMS = .dct (forms.map fun p => (Sum.inr p.1, Dt.str p.2)) := rfl
          cases hf : fm w with
          | none => simp [kSIf_at, kOrT_at, kAndT_at, kCh3_at, kAnd1_at, kOr1_at, kIf_at, b_is_term, subTy, isT, isTs, q0, opNotIn_dct, look_forms, hf]
          | some fw =>
            have hx : lookD (forms.map fun p => (Sum.inr p.1, Dt.str p.2)) (.inr w) = some (.str fw) := by rw [look_forms, hf]; rfl
            obtain ⟨l3, lc⟩ := fm_chars hf
            have hL : fw.length ≤ LINE := Nat.le_trans l3 (by decide)
            by_cases hl : ds.length = fw.length
            · have hcomp : ∀ S env, kComp (gTupD 2 (gConsD (gN 2) (gConsD (gN 3) gNilD))) tYesD (cCall (n_has_form n) [] (cCons (cVar 2) (cCons (cVar 3) cNil))) (some (.vl (.tup (.str w :: ds))) :: some (.vl (.str fw)) :: none :: none :: env) (zipD (charsD fw) ds) S = .ok ((zipD (charsD fw) ds).map fun d => .bl (isP2 d)) S := by
                intro S env
                refine kComp_pure _ (by rw [zipD_len, charsD_len]; omega) fun p hp => ?_
                obtain ⟨x, y, hx, hy, rfl⟩ := zip_mem _ _ _ hp
                obtain ⟨c, hc, rfl⟩ := List.mem_map.mp hx
                refine ⟨_, rfl, rfl, ?_⟩
                have hd : dpD y + 1 ≤ dpD (.tup (.str w :: ds)) := Nat.succ_le_succ (dpL_mem (by simp [hy]))
                cases n with
                | zero => omega
                | succ n =>
                  simp [has_form_ok (f.mem (show y ∈ Dt.str w :: ds by simp [hy])) (lc c hc) (fun S => is_term_ok n S (f.mem (by simp [hy])) (by omega))]
                  rfl
              have hz : (zipD (charsD fw) ds).all isP2 = isF fw.cps.toList ds := isF_zip _ _ (by rw [hl]; rfl)
              simp [kSIf_at, kOrT_at, kAndT_at, kCh3_at, kAnd1_at, kOr1_at, kIf_at, b_is_term, subTy, isT, isTs, q0, opNotIn_dct, hx, opIx_dct hx, opLen_str hL, hf, hl, cut_tail, hcomp, opAll_map, hz, len0]
              intro _
              omega
            · have hz : isF fw.cps.toList ds = false := by
                cases h : isF fw.cps.toList ds with
                | false => rfl
                | true => exact absurd (isF_len _ _ h) hl
              simp [kSIf_at, kOrT_at, kAndT_at, kCh3_at, kAnd1_at, kOr1_at, kIf_at, b_is_term, subTy, isT, isTs, q0, opNotIn_dct, hx, opIx_dct hx, opLen_str hL, hf, hl, cut_tail, len0, hz]
              intro h
              exact absurd (by omega) hl
        | ref n => cases fe.ok
        | fn x => cases fe.ok
        | _ => simp [kSIf_at, kOrT_at, kAndT_at, kCh3_at, kAnd1_at, kOr1_at, kIf_at, b_is_term, subTy, isT, isTs]
    | _ => simp [kSIf_at, kOrT_at, kAndT_at, kCh3_at, kAnd1_at, kOr1_at, kIf_at, b_is_term, isT, subTy]
theorem is_spot_ok {d : Dt} (S : Store) (f : Fine d) : m_is_spot [d] S = .ok (.bl (spotB d)) S := by
  unfold m_is_spot
  rw [fnB1]
  cases d with
  | ref n => cases f.ok
  | fn x => cases f.ok
  | tup ds =>
    have h2 : ∀ S env, kComp (gN 1) tYesD (cCall m_is_number [] (cCons (cVar 1) cNil)) (some (.vl (.tup ds)) :: none :: env) ds S = .ok (ds.map fun d => .bl (numB d)) S := by
      intro S env
      refine kComp_pure _ (Nat.le_trans f.len (by decide)) fun d hd => ?_
      refine ⟨_, rfl, rfl, ?_⟩
      simp [is_number_ok S (f.mem hd).ok]
    simp [kSIf_at, kOrT_at, kAndT_at, kCh3_at, kAnd1_at, kOr1_at, kIf_at, b_is_spot, subTy, h2, opAll_map, spotB]
  | _ => simp [kSIf_at, kOrT_at, kAndT_at, kCh3_at, kAnd1_at, kOr1_at, kIf_at, b_is_spot, subTy, spotB]
def fA : List (Key × Dt) := (forms.take 8).map fun p => (Sum.inr p.1, Dt.str p.2)
def fB : List (Key × Dt) := ([("eater", "wh"), ("same", "ttt"), ("self", "tt"), ("put", "ttt")] : List (Str × Str)).map fun p => (Sum.inr p.1, Dt.str p.2)
theorem hA (S : Store) (env : EnvD) : kDisp (cPCons (cC (.str "at")) (cC (.str "n")) (cPCons (cC (.str "kind")) (cC (.str "h")) (cPCons (cC (.str "all")) (cC (.str "tt")) (cPCons (cC (.str "fun")) (cC (.str "tt")) (cPCons (cC (.str "app")) (cC (.str "tt")) (cPCons (cC (.str "name")) (cC (.str "w")) (cPCons (cC (.str "thing")) (cC (.str "w")) (cPCons (cC (.str "maker")) (cC (.str "wn")) cPNil)))))))) env S = .ok fA S := by
  simp [kDisp, cPCons, cPNil, keysD, keyD]
  rw [merge_nil (by decide +kernel)]
  rfl
theorem hB (S : Store) (env : EnvD) : kDisp (cPCons (cC (.str "eater")) (cC (.str "wh")) (cPCons (cC (.str "same")) (cC (.str "ttt")) (cPCons (cC (.str "self")) (cC (.str "tt")) (cPCons (cC (.str "put")) (cC (.str "ttt")) cPNil)))) env S = .ok fB S := by
  simp [kDisp, cPCons, cPNil, keysD, keyD]
  rw [merge_nil (by decide +kernel)]
  rfl
theorem hP : pairsD (itemsD fA ++ itemsD fB) = some (forms.map fun p => (Sum.inr p.1, Dt.str p.2)) := by
  simp [itemsD, fA, fB, forms, keyDt, pairsD, keyD]
theorem hF : mergeD [] (forms.map fun p => ((Sum.inr p.1 : Key), Dt.str p.2)) = forms.map fun p => ((Sum.inr p.1 : Key), Dt.str p.2) := merge_nil (by decide +kernel)
theorem law_forms_ok (S : Store) (hc : Cl S) : m__law_forms [] S = .ok d_FORMS S := by
  refine trim_ok (T := [.dct fA, .dct fB]) ?_ rfl hc
  rw [fnB0]
  unfold b__law_forms
  simp only [ev_seq, ev_set, ev_kOwn, hA, hB, bind_ok, sOut_ok, kSeq_nx, List.replicate, List.set_cons_zero, List.set_cons_succ, ev_ret, ev_kVal, kDictOf, ev_cons, ev_nil, ev_bin, ev_vall, ev_items, ev_var, slot_0, slot_s]
  rw [kItems_ok (kvs := fA) (by simp [List.getElem?_append_right])]
  simp only [bind_ok]
  rw [kItems_ok (kvs := fB) (by simp [List.getElem?_append_right])]
  simp only [bind_ok, opAdd_lst]
  rw [okList_ok (by decide)]
  simp only [bind_ok, asList, Option.bind_some, hP, hF, sOut_ok, kFn_rt, List.append_assoc]
  rfl
theorem take_ok {S : Store} {n : Nat} {k m : Int} (h : PuI S n k) (hm : 0 < m) (hm2 : m < 2 ^ 64) (hk : k < 2 ^ 30) :
    ∃ r S', m__law_take [.ref n, .int m] S = .ok (.int r) S' ∧ 0 ≤ r ∧ r < m ∧ PuI S' n (k + 1) ∧ Fr n S S' := by
  obtain ⟨a, b, c, h1, ha, hb, hb2, hc, hc2⟩ := h.pu
  unfold m__law_take
  rw [fnB2]
  have g0 := opIx_ref0 h1
  by_cases h0 : 0 < a
  · refine ⟨a % m, S.set n (.lst [.int (a / m), .int b, .int c]), ?_, Int.emod_nonneg _ (by omega), Int.emod_lt_of_pos _ hm, ⟨h.cl.set rfl, a / m, b, c, set_get h1, Int.ediv_nonneg ha (by omega), hb, hb2, hc, by omega⟩, Fr.set n S _⟩
    have s0 : ∀ env v, kSetIx (.ref n) (.int 0) v env S = .nx env (S.set n (.lst [v, .int b, .int c])) := fun env v => kSetIx_ref (j := 0) h1 (by simp)
    simp [b__law_take, g0, h0, opMod_ok hm, opFdiv_ok hm hm2, s0]
  · have s2 : ∀ env v, kSetIx (.ref n) (.int 2) v env S = .nx env (S.set n (.lst [.int a, .int b, v])) := fun env v => kSetIx_ref (j := 2) h1 (by simp)
    let S1 := S.set n (.lst [.int a, .int b, .int (c + 1)])
    have h2 : S1[n]? = some (.lst [.int a, .int b, .int (c + 1)]) := set_get h1
    have hbc : 0 ≤ b * (c + 1) := Int.mul_nonneg hb (by omega)
    have hbc2 : b * (c + 1) ≤ 2147483629 * (2 ^ 30 + 1) := Int.mul_le_mul (by omega) (by omega) (by omega) (by omega)
    have p5 : ∀ S, opPow (.int (b + 6113 * (c + 1) + 31)) (.int 5) S = .ok (.int ((b + 6113 * (c + 1) + 31) ^ 5)) S := fun S => opPow_ok (j := 5) (by omega) (by omega)
    have p3 : ∀ S, opPow (.int (b * (c + 1) + 89753)) (.int 3) S = .ok (.int ((b * (c + 1) + 89753) ^ 3)) S := fun S => opPow_ok (j := 3) (by omega) (by omega)
    have m1 : ∀ S, opMul (.int 6113) (.int (c + 1)) S = .ok (.int (6113 * (c + 1))) S := fun S => opMul_ok (by omega) (by omega)
    have m2 : ∀ S, opMul (.int b) (.int (c + 1)) S = .ok (.int (b * (c + 1))) S := fun S => opMul_ok (by omega) (by omega)
    have md : ∀ (i j : Int) S, 0 < j → opMod (.int i) (.int j) S = .ok (.int (i % j)) S := fun i j S h => opMod_ok h
    have q : ∀ (x : Int), 0 ≤ x % 2147483647 ∧ x % 2147483647 < 2147483647 := fun x => ⟨Int.emod_nonneg _ (by omega), Int.emod_lt_of_pos _ (by omega)⟩
    have m3 : ∀ (x y : Int) S, opMul (.int (x % 2147483647)) (.int y) S = .ok (.int (x % 2147483647 * y)) S := fun x y S => opMul_ok (by have := q x; omega) (by have := q x; omega)
    have fd : ∀ (i : Int) S, opFdiv (.int i) (.int 8) S = .ok (.int (i / 8)) S := fun i S => opFdiv_ok (by omega) (by omega)
    have g1 := opIx_ref1 h2
    have g2 := opIx_ref2 h2
    have g2' := opIx_ref2 h1
    let r := (((b + 6113 * (c + 1) + 31) ^ 5 % 2147483647 * 2147483587 + (b * (c + 1) + 89753) ^ 3 % 2147483587) / 8) % m
    refine ⟨r, S1, ?_, Int.emod_nonneg _ (by omega), Int.emod_lt_of_pos _ hm, ⟨h.cl.set rfl, a, b, c + 1, h2, ha, hb, hb2, by omega, by omega⟩, Fr.set n S _⟩
    simp [b__law_take, g0, h0, s2, g2', show S.set n (.lst [.int a, .int b, .int (c + 1)]) = S1 from rfl, g1, g2, p5, p3, m1, m2, m3, md, fd, hm, r]
theorem word_ok {S : Store} {n : Nat} {k : Int} (h : PuI S n k) (hk : k < 2 ^ 29) :
    ∃ z S', m__law_word [.ref n] S = .ok (.str z) S' ∧ nameZ z = true ∧ PyData.strOk z = true ∧ PuI S' n (k + 9) ∧ Fr n S S' := by
  unfold m__law_word
  rw [fnB1]
  obtain ⟨r, S1, t1, r0, r1, p1, f1⟩ := take_ok (m := 8) h (by omega) (by omega) (by omega)
  have hcomp : ∃ ys S', kComp (gN 3) tYesD (cBin opIx (cVar 1) (cCall m__law_take [] (cCons (cVar 0) (cCons (cC (.int 26)) cNil)))) [some (.vl (.ref n)), some (.vl (.str letters)), none, none] (rangeD 0 (1 + r).toNat) S1 = .ok ys S' ∧ ys.length = (1 + r).toNat ∧ (∀ y ∈ ys, ∃ c : Nat, 97 ≤ c ∧ c ≤ 122 ∧ y = .str ⟨#[c]⟩) ∧ PuI S' n (k + 9) ∧ Fr n S1 S' := by
    obtain ⟨ys, S', h1, h2, h3, h4⟩ := comp_eff (g := gN 3) (ft := tYesD) (fe := cBin opIx (cVar 1) (cCall m__law_take [] (cCons (cVar 0) (cCons (cC (.int 26)) cNil)))) (env := [some (.vl (.ref n)), some (.vl (.str letters)), none, none]) 8 (fun i S' => PuI S' n (k + 1 + i) ∧ Fr n S1 S') (fun y => ∃ c : Nat, 97 ≤ c ∧ c ≤ 122 ∧ y = .str ⟨#[c]⟩) (rangeD 0 (1 + r).toNat) [] 0 S1 (by rw [rangeD_len]; omega)
      (fun d hd i S2 hi ⟨q1, q2⟩ => by
        obtain ⟨t, S3, t3, t0, t2, p3, f3⟩ := take_ok (m := 26) q1 (by omega) (by omega) (by omega)
        obtain ⟨c, c1, c2, c3⟩ := letter_at (S := S3) t0 t2
        refine ⟨_, .str ⟨#[c]⟩, S3, rfl, rfl, ?_, ⟨c, c1, c2, rfl⟩, p3.mono (by omega), q2.trans f3⟩
        simp [t3, c3]) ⟨p1.mono (by omega), Fr.refl⟩
    refine ⟨ys, S', ?_, by rw [h2, rangeD_len], h3, h4.1.mono ?_, h4.2⟩
    · unfold kComp
      rw [rangeD_len, if_pos (by omega)]
      simpa using h1
    · rw [rangeD_len]; omega
  obtain ⟨ys, S2, h1, h2, h3, h4, h5⟩ := hcomp
  obtain ⟨cs, rfl, hcs⟩ := chars_of h3
  have hl : cs.length = (1 + r).toNat := by simpa using h2
  have hj := opJoin_chars (cs := cs) (S := S2) (by omega)
  have hlow := low_of hcs
  let z : Str := ⟨cs.toArray⟩
  have hz : z.length = cs.length := by simp [z, Str.length]
  have hin : opIn (.str z) (.tup [.str "all", .str "fun", .str "same", .str "self", .str "put"]) S2 = .ok (.bl (decide (z ∈ kept))) S2 := opIn_tstrs (zs := kept)
  by_cases hkp : z ∈ kept
  · have key : ∀ z ∈ kept, nameZ ("q" ++ z) = true ∧ PyData.strOk ("q" ++ z) = true ∧ ("q" : Str).length + z.length ≤ LINE := by decide +kernel
    obtain ⟨u1, u2, u3⟩ := key z hkp
    refine ⟨"q" ++ z, S2, ?_, u1, u2, h4, f1.trans h5⟩
    have ha : opAdd (.str "q") (.str z) S2 = .ok (.str ("q" ++ z)) S2 := if_pos u3
    simp [b__law_word, show (Str.ofString "abcdefghijklmnopqrstuvwxyz") = letters from rfl, t1, kRange1_ok (show 0 ≤ 1 + r by omega) (by omega), h1, hj, show (({ cps := cs.toArray } : Str)) = z from rfl, hin, hkp, ha]
  · refine ⟨z, S2, ?_, ?_, ok_of_low hlow, h4, f1.trans h5⟩
    · simp [b__law_word, show (Str.ofString "abcdefghijklmnopqrstuvwxyz") = letters from rfl, t1, kRange1_ok (show 0 ≤ 1 + r by omega) (by omega), h1, hj, show (({ cps := cs.toArray } : Str)) = z from rfl, hin, hkp]
    · simp [nameZ, hkp, hlow, z] at *
      omega
def termBody (r : List Dt → Store → Out Dt) : FS := (sSeq (sIf (tVal (cBin opEq (cVar 6) (cC (.str "n")))) (sExpr (cMeth .lst opAppend (cVar 5) (cCons (cCall m__law_take [] (cCons (cVar 0) (cCons (cBin opIx (cLst (cCons (cVar 2) (cCons (cC (.int 5)) cNil))) (cApp opInt (cCons (cBin opEq (cVar 4) (cC (.str "maker"))) cNil))) cNil))) cNil))) sNext) (sSeq (sIf (tVal (cBin opEq (cVar 6) (cC (.str "h")))) (sExpr (cMeth .lst opAppend (cVar 5) (cCons (cCall m__law_take [] (cCons (cVar 0) (cCons (cC (.int 6)) cNil))) cNil))) sNext) (sSeq (sIf (tVal (cBin opEq (cVar 6) (cC (.str "w")))) (sExpr (cMeth .lst opAppend (cVar 5) (cCons (cCall m__law_word [] (cCons (cVar 0) cNil)) cNil))) sNext) (sIf (tVal (cBin opEq (cVar 6) (cC (.str "t")))) (sExpr (cMeth .lst opAppend (cVar 5) (cCons (cCall r [] (cCons (cVar 0) (cCons (cBin opSub (cVar 1) (cC (.int 1))) (cCons (cVar 2) cNil)))) cNil))) sNext))))
theorem term_body_eq (r : List Dt → Store → Out Dt) : b__law_term r = (sSeq (sSet 3 (cMeth .str opSplit (cC (.str "at at kind name thing maker eater all fun app app same self put")) (cCons (cC (.str " ")) cNil))) (sSeq (sSet 4 (cIf (tVal (cBin opEq (cVar 1) (cC (.int 0)))) (cBin opIx (cVar 3) (cCall m__law_take [] (cCons (cVar 0) (cCons (cC (.int 7)) cNil)))) (cBin opIx (cVar 3) (cCall m__law_take [] (cCons (cVar 0) (cCons (cC (.int 14)) cNil)))))) (sSeq (sSet 5 (cOwn (cDispL (cCons (cVar 4) cNil)))) (sSeq (sFor (iVal (cBin opIx (cCall m__law_forms [] cNil) (cVar 4))) (gN 6) (termBody r)) (sRet (cApp opTuple (cCons (cVar 5) cNil))))))) := rfl
/-- one letter -/
theorem letter_ok {r : List Dt → Store → Out Dt} {S0 : Store} {n dn c : Nat} {k m lim : Int} {W : Dt} {word : Str} {ds : List Dt} (h : PuI S0 n k) (hk : k < 2 ^ 28) (hc : c = 110 ∨ c = 104 ∨ c = 119 ∨ c = 116) (hw : PyData.strOk word = true)
    (hlim : lim = if word = "maker" then 5 else m) (hm : 0 < m) (hm2 : m ≤ 1000) (hd : ds.length < LINE) (hcl : closedL (S0.length + 1) ds = true) (K : Int) (hK : 9 ≤ K)
    (hr : c = 116 → ∀ S k', PuI S n k' → k' ≤ k → ∃ t S', r [.ref n, .int ((dn : Int) - 1), .int m] S = .ok (tD t) S' ∧ Ok m t ∧ ht t + 1 ≤ dn ∧ 4 * sz t ≤ 4 ^ dn ∧ PuI S' n (k' + K) ∧ Fr n S S') :
    ∃ y S1, termBody r [some (.vl (.ref n)), some (.vl (.int dn)), some (.vl (.int m)), some (.vl W), some (.vl (.str word)), some (.vl (.ref S0.length)), some (.vl (.str ⟨#[c]⟩))] (S0 ++ [.lst ds])
      = .nx [some (.vl (.ref n)), some (.vl (.int dn)), some (.vl (.int m)), some (.vl W), some (.vl (.str word)), some (.vl (.ref S0.length)), some (.vl (.str ⟨#[c]⟩))] (S1 ++ [.lst (ds ++ [y])]) ∧ PT m lim dn c y ∧ PuI S1 n (k + K) ∧ Fr n S0 S1 := by
  have e1 : ∀ S, opEq (.str ⟨#[c]⟩) (.str "n") S = .ok (.bl (decide (c = 110))) S := fun S => opEq_chr (by omega) (by decide)
  have e2 : ∀ S, opEq (.str ⟨#[c]⟩) (.str "h") S = .ok (.bl (decide (c = 104))) S := fun S => opEq_chr (by omega) (by decide)
  have e3 : ∀ S, opEq (.str ⟨#[c]⟩) (.str "w") S = .ok (.bl (decide (c = 119))) S := fun S => opEq_chr (by omega) (by decide)
  have e4 : ∀ S, opEq (.str ⟨#[c]⟩) (.str "t") S = .ok (.bl (decide (c = 116))) S := fun S => opEq_chr (by omega) (by decide)
  have hp := h.push (mo := .lst ds) hcl
  generalize hE : ([some (.vl (.ref n)), some (.vl (.int dn)), some (.vl (.int m)), some (.vl W), some (.vl (.str word)), some (.vl (.ref S0.length)), some (.vl (.str ⟨#[c]⟩))] : EnvD) = env
  have v0 : slot env 0 = some (.ref n) := by rw [← hE]; rfl
  have v1 : slot env 1 = some (.int dn) := by rw [← hE]; rfl
  have v2 : slot env 2 = some (.int m) := by rw [← hE]; rfl
  have v4 : slot env 4 = some (.str word) := by rw [← hE]; rfl
  have v5 : slot env 5 = some (.ref S0.length) := by rw [← hE]; rfl
  have v6 : slot env 6 = some (.str ⟨#[c]⟩) := by rw [← hE]; rfl
  unfold termBody
  rcases hc with rfl | rfl | rfl | rfl
  · have hmk : ∀ S, opEq (.str word) (.str "maker") S = .ok (.bl (decide (word = "maker"))) S := fun S => opEq_str hw (by decide +kernel)
    obtain ⟨x, S', t1, x0, x1, p1, f1⟩ := take_ok (m := lim) hp (by rw [hlim]; split <;> omega) (by rw [hlim]; split <;> omega) (by omega)
    obtain ⟨S1, rfl, q1, q2⟩ := p1.split f1 h.lt h.cl
    refine ⟨.int x, S1, ?_, .inl ⟨rfl, x, rfl, x0, x1⟩, q1.mono (by omega), q2⟩
    have hix : opIx (.lst [.int m, .int 5]) (.int (if word = "maker" then 1 else 0)) (S0 ++ [.lst ds]) = .ok (.int lim) (S0 ++ [.lst ds]) := by
      rw [hlim]
      split
      · exact opIx_lst (j := 1) rfl
      · exact opIx_lst (j := 0) rfl
    have he := app_ok (S0 := S0) (S1 := S1) (ds := ds) (y := .int x) (env := env) (i := 5) (fe := (cCall m__law_take [] (cCons (cVar 0) (cCons (cBin opIx (cLst (cCons (cVar 2) (cCons (cC (.int 5)) cNil))) (cApp opInt (cCons (cBin opEq (cVar 4) (cC (.str "maker"))) cNil))) cNil)))) (by simp [v0, v2, v4, hmk, hix, t1]) q2.1 v5 hd
    simp only [ev_seq, if_test v6 (e1 ·), if_test v6 (e2 ·), if_test v6 (e3 ·), if_test v6 (e4 ·), Nat.reduceEqDiff, decide_true, decide_false, reduceIte, Bool.false_eq_true, he, kSeq_nx]
  · obtain ⟨x, S', t1, x0, x1, p1, f1⟩ := take_ok (m := 6) hp (by omega) (by omega) (by omega)
    obtain ⟨S1, rfl, q1, q2⟩ := p1.split f1 h.lt h.cl
    refine ⟨.int x, S1, ?_, .inr (.inl ⟨rfl, x, rfl, x0, by omega⟩), q1.mono (by omega), q2⟩
    have he := app_ok (S0 := S0) (S1 := S1) (ds := ds) (y := .int x) (env := env) (i := 5) (fe := (cCall m__law_take [] (cCons (cVar 0) (cCons (cC (.int 6)) cNil)))) (by simp [v0, t1]) q2.1 v5 hd
    simp only [ev_seq, if_test v6 (e1 ·), if_test v6 (e2 ·), if_test v6 (e3 ·), if_test v6 (e4 ·), Nat.reduceEqDiff, decide_true, decide_false, reduceIte, Bool.false_eq_true, he, kSeq_nx]
  · obtain ⟨z, S', t1, z1, z2, p1, f1⟩ := word_ok hp (by omega)
    obtain ⟨S1, rfl, q1, q2⟩ := p1.split f1 h.lt h.cl
    refine ⟨.str z, S1, ?_, .inr (.inr (.inl ⟨rfl, z, rfl, z1⟩)), q1.mono (by omega), q2⟩
    have he := app_ok (S0 := S0) (S1 := S1) (ds := ds) (y := .str z) (env := env) (i := 5) (fe := (cCall m__law_word [] (cCons (cVar 0) cNil))) (by simp [v0, t1]) q2.1 v5 hd
    simp only [ev_seq, if_test v6 (e1 ·), if_test v6 (e2 ·), if_test v6 (e3 ·), if_test v6 (e4 ·), Nat.reduceEqDiff, decide_true, decide_false, reduceIte, Bool.false_eq_true, he, kSeq_nx]
  · obtain ⟨t, S', t1, o1, o2, o3, p1, f1⟩ := hr rfl _ k hp (by omega)
    obtain ⟨S1, rfl, q1, q2⟩ := p1.split f1 h.lt h.cl
    refine ⟨tD t, S1, ?_, .inr (.inr (.inr ⟨rfl, t, rfl, o1, o2, o3⟩)), q1, q2⟩
    have he := app_ok (S0 := S0) (S1 := S1) (ds := ds) (y := tD t) (env := env) (i := 5) (fe := (cCall r [] (cCons (cVar 0) (cCons (cBin opSub (cVar 1) (cC (.int 1))) (cCons (cVar 2) cNil))))) (by simp [v0, v1, v2, t1]) q2.1 v5 hd
    simp only [ev_seq, if_test v6 (e1 ·), if_test v6 (e2 ·), if_test v6 (e3 ·), if_test v6 (e4 ·), Nat.reduceEqDiff, decide_true, decide_false, reduceIte, Bool.false_eq_true, he, kSeq_nx]
theorem letters_ok {r : List Dt → Store → Out Dt} {n dn : Nat} {m lim : Int} {W : Dt} {word : Str} {q : Nat} (hw : PyData.strOk word = true)
    (hlim : lim = if word = "maker" then 5 else m) (hm : 0 < m) (hm2 : m ≤ 1000) (K : Int) (hK : 9 ≤ K) :
    ∀ (cs : List Nat) (S0 : Store) (ds : List Dt) (k : Int) (x : Option DX), (∀ c ∈ cs, c = 110 ∨ c = 104 ∨ c = 119 ∨ c = 116) → S0.length = q → PuI S0 n k → k + K * cs.length < 2 ^ 28 → ds.length + cs.length < 100 → closedL (q + 1) ds = true →
    (116 ∈ cs → ∀ S k', PuI S n k' → k' + K ≤ k + K * cs.length → ∃ t S', r [.ref n, .int ((dn : Int) - 1), .int m] S = .ok (tD t) S' ∧ Ok m t ∧ ht t + 1 ≤ dn ∧ 4 * sz t ≤ 4 ^ dn ∧ PuI S' n (k' + K) ∧ Fr n S S') →
    ∃ ys S1 x', forL (gN 6) (termBody r) (cs.map fun c => .str ⟨#[c]⟩) [some (.vl (.ref n)), some (.vl (.int dn)), some (.vl (.int m)), some (.vl W), some (.vl (.str word)), some (.vl (.ref q)), x] (S0 ++ [.lst ds])
      = .nx [some (.vl (.ref n)), some (.vl (.int dn)), some (.vl (.int m)), some (.vl W), some (.vl (.str word)), some (.vl (.ref q)), x'] (S1 ++ [.lst (ds ++ ys)]) ∧ PTs m lim dn cs ys ∧ PuI S1 n (k + K * cs.length) ∧ Fr n S0 S1
  | [], S0, ds, k, x, _, _, h, _, _, _, _ => ⟨[], S0, x, by simp, trivial, h.mono (by simp), Fr.refl⟩
  | c :: cs, S0, ds, k, x, hc, rfl, h, hk, hl, hcl, hr => by
    have kk : k + K * ((c :: cs).length : Int) = k + K + K * (cs.length : Int) := by
      rw [List.length_cons]; push_cast; rw [Int.mul_add]; omega
    have kp : 0 ≤ K * (cs.length : Int) := Int.mul_nonneg (by omega) (by omega)
    rw [kk] at hk
    obtain ⟨y, S1, t1, o1, p1, f1⟩ := letter_ok (r := r) (c := c) (W := W) (word := word) (ds := ds) (dn := dn) h (by omega) (hc c (by simp)) hw hlim hm hm2 (by simp at hl; show ds.length < 16777216; omega) hcl K hK (fun e S k' a b => hr (by simp [e]) S k' a (by rw [kk]; omega))
    obtain ⟨ys, S2, x', t2, o2, p2, f2⟩ := letters_ok (r := r) (dn := dn) (W := W) (q := S0.length) hw hlim hm hm2 K hK cs S1 (ds ++ [y]) (k + K) (some (.vl (.str ⟨#[c]⟩))) (fun c h => hc c (by simp [h])) f1.1 p1 (by omega) (by simp at hl ⊢; omega)
      (by rw [closedL_app, hcl]; show (true && (closedD _ y && true)) = true; rw [o1.closed]; rfl) (fun e S k' a b => hr (by simp [e]) S k' a (by rw [kk]; omega))
    refine ⟨y :: ys, S2, x', ?_, ⟨o1, o2⟩, p2.mono (by rw [kk]; omega), f1.trans f2⟩
    rw [List.map_cons, forL_cons ev_gN]
    show kLoop (termBody r [some (.vl (.ref n)), some (.vl (.int dn)), some (.vl (.int m)), some (.vl W), some (.vl (.str word)), some (.vl (.ref S0.length)), some (.vl (.str ⟨#[c]⟩))] (S0 ++ [.lst ds])) _ = _
    rw [t1, kLoop_nx, t2]
    simp
theorem term_ok {n : Nat} {m : Int} (hm : 0 < m) (hm2 : m ≤ 1000) : ∀ (fu dn : Nat) (S : Store) (k : Int), dn + 1 ≤ fu → PuI S n k → k + cost dn < 2 ^ 28 →
    ∃ t S', n__law_term fu [.ref n, .int dn, .int m] S = .ok (tD t) S' ∧ Ok m t ∧ ht t ≤ dn ∧ sz t ≤ 4 ^ dn ∧ PuI S' n (k + cost dn) ∧ Fr n S S'
  | 0, dn, S, k, h, _, _ => by omega
  | fu + 1, dn, S, k, hfu, hp, hk => by
    have hc := cost_pos dn
    have h1 : ∃ w f S1, w ∈ tw ∧ fm w = some f ∧ PyData.strOk w = true ∧ (dn = 0 → 116 ∉ f.cps.toList) ∧ PuI S1 n (k + 1) ∧ Fr n S S1 ∧
       cIf (tVal (cBin opEq (cVar 1) (cC (.int 0)))) (cBin opIx (cVar 3) (cCall m__law_take [] (cCons (cVar 0) (cCons (cC (.int 7)) cNil)))) (cBin opIx (cVar 3) (cCall m__law_take [] (cCons (cVar 0) (cCons (cC (.int 14)) cNil)))) [some (.vl (.ref n)), some (.vl (.int dn)), some (.vl (.int m)), some (.vl (.lst (tw.map Dt.str))), none, none, none] S = .ok (.str w) S1 := by
      by_cases h0 : dn = 0
      · obtain ⟨r, S1, t1, r0, r1, p1, f1⟩ := take_ok (m := 7) hp (by omega) (by omega) (by omega)
        obtain ⟨w, f, w1, w2, w3, w4, w5⟩ := tw_at (S := S1) r0 (by omega)
        refine ⟨w, f, S1, w1, w3, w4, fun _ => w5 r1, p1, f1, ?_⟩
        simp [h0, t1, w2]
      · obtain ⟨r, S1, t1, r0, r1, p1, f1⟩ := take_ok (m := 14) hp (by omega) (by omega) (by omega)
        obtain ⟨w, f, w1, w2, w3, w4, w5⟩ := tw_at (S := S1) r0 (by omega)
        refine ⟨w, f, S1, w1, w3, w4, fun e => absurd e h0, p1, f1, ?_⟩
        simp [h0, t1, w2]
    obtain ⟨w, f, S1, w1, w2, w3, w4, p1, f1, e1⟩ := h1
    obtain ⟨l3, lc⟩ := fm_chars w2
    have hx : lookD (forms.map fun p => (Sum.inr p.1, Dt.str p.2)) (.inr w) = some (.str f) := by rw [look_forms, w2]; rfl
    have hd : dn = 0 ∨ ∃ d', dn = d' + 1 := by cases dn with
      | zero => exact .inl rfl
      | succ d' => exact .inr ⟨d', rfl⟩
    have hK : ∃ K : Int, 9 ≤ K ∧ 1 + K * f.cps.toList.length ≤ cost dn ∧ (116 ∈ f.cps.toList → ∀ S k', PuI S n k' → k' + K < 2 ^ 28 → ∃ t S', n__law_term fu [.ref n, .int ((dn : Int) - 1), .int m] S = .ok (tD t) S' ∧ Ok m t ∧ ht t + 1 ≤ dn ∧ 4 * sz t ≤ 4 ^ dn ∧ PuI S' n (k' + K) ∧ Fr n S S') := by
      have hl : (f.cps.toList.length : Int) ≤ 3 := by have : f.cps.toList.length = f.length := rfl; omega
      rcases hd with rfl | ⟨d', rfl⟩
      · have l2 : (f.cps.toList.length : Int) ≤ 2 := by
          have key : ∀ w ∈ tw, ∀ f, fm w = some f → 116 ∉ f.cps.toList → f.cps.toList.length ≤ 2 := by
            intro w hw f hf hn
            have := fm_cases hf
            have key : ∀ f ∈ (["n", "h", "tt", "w", "wn", "wh", "ttt"] : List Str), 116 ∉ f.cps.toList → f.cps.toList.length ≤ 2 := by decide +kernel
            exact key f this hn
          have := key w w1 f w2 (w4 rfl)
          omega
        refine ⟨9, by omega, by show _ ≤ (20 : Int); omega, fun h => absurd h (w4 rfl)⟩
      · have := cost_pos d'
        refine ⟨cost d', by omega, ?_, fun _ S k' a b => ?_⟩
        · have : cost d' * (f.cps.toList.length : Int) ≤ cost d' * 3 := Int.mul_le_mul_of_nonneg_left hl (by omega)
          show _ ≤ 3 * cost d' + 1
          omega
        · obtain ⟨t, S', z1, z2, z3, z4, z5, z6⟩ := term_ok hm hm2 fu d' S k' (by omega) a b
          refine ⟨t, S', ?_, z2, by omega, by rw [Nat.pow_succ]; omega, z5, z6⟩
          have e : ((d' + 1 : Nat) : Int) - 1 = d' := by omega
          rw [e]; exact z1
    obtain ⟨K, hK1, hK2, hK3⟩ := hK
    have kp : 0 ≤ K * (f.cps.toList.length : Int) := Int.mul_nonneg (by omega) (by omega)
    obtain ⟨ys, S2, x', e2, o2, p2, f2⟩ := letters_ok (r := n__law_term fu) (n := n) (dn := dn) (m := m) (lim := if w = "maker" then 5 else m) (W := .lst (tw.map Dt.str)) (word := w) (q := S1.length) w3 rfl hm hm2 K hK1 f.cps.toList S1 [.str w] (k + 1) none lc rfl p1 (by omega) (by show 1 + f.length < 100; omega) rfl
      (fun a S k' b c => hK3 a S k' b (by omega))
    obtain ⟨t, u1, u2, u3, u4⟩ := term_of w1 w2 rfl o2
    refine ⟨t, S2, ?_, u2, u3, u4, p2.mono (by omega), f1.trans f2⟩
    show trimF (fnBody 3 4 (b__law_term (n__law_term fu))) _ S = _
    have hfin : ∀ S0 : Store, S0.length = S1.length → ∀ d, opTuple [.ref S1.length] (S0 ++ [MO.lst d]) = .ok (.tup d) (S0 ++ [MO.lst d]) := by
      intro S0 h0 d
      have g : (S0 ++ [MO.lst d])[S1.length]? = some (.lst d) := by rw [← h0]; simp
      unfold opTuple asSeq asList
      simp only [g]
    have hbody : fnBody 3 4 (b__law_term (n__law_term fu)) [.ref n, .int dn, .int m] S = .ok (tD t) (S2 ++ [.lst (.str w :: ys)]) := by
      rw [fnB3, term_body_eq]
      have s0 : ∀ S, opSplit (.str "at at kind name thing maker eater all fun app app same self put") [.str " "] S = .ok (.lst (tw.map Dt.str)) S := fun S => by
        rw [opSplit_ok (by decide +kernel) (by decide +kernel), tw_split]
      have q0 : d_FORMS = .dct (forms.map fun p => (Sum.inr p.1, Dt.str p.2)) := rfl
      have hc1 : DL.Cl (S1 ++ [MO.lst [.str w]]) := (p1.push (mo := .lst [.str w]) rfl).cl
      have hq : charsD f = f.cps.toList.map fun c => .str ⟨#[c]⟩ := rfl
      simp only [ev_seq, ev_set, ev_meth, ev_c, bind_ok, recv_str, if_true, ev_cons, ev_nil, s0, sOut_ok, kSeq_nx, List.replicate, List.set_cons_succ, List.set_cons_zero]
      rw [e1]
      simp only [sOut_ok, kSeq_nx, List.set_cons_succ, List.set_cons_zero, ev_seq, ev_set, ev_own, ev_dispL, ev_cons, ev_nil, ev_var, slot_s, slot_0, bind_ok, kDispL_ok (show [Dt.str w].length ≤ 16777216 by simp), ev_for, ev_iVal, ev_bin, ev_call, List.append_nil, law_forms_ok _ hc1, q0, opIx_dct hx, kIt_str, hq, e2, List.singleton_append, ev_ret, ev_app]
      rw [hfin S2 f2.1, u1]
      rfl
    exact trim_ok2 (T := [.lst (.str w :: ys)]) hbody (by rw [f2.1, f1.1]) (tD_closed _ t) p2.cl
def anyBody : FS := (sSeq (sSet 5 (cOwn (cDispL (cCons (cTup (cCons (cC (.str "app")) (cCons (cTup (cCons (cC (.str "kind")) (cCons (cC (.int 0)) cNil))) (cCons (cVar 3) cNil)))) (cCons (cTup (cCons (cC (.str "fun")) (cCons (cTup (cCons (cC (.str "kind")) (cCons (cC (.int 1)) cNil))) (cCons (cVar 3) cNil)))) (cCons (cTup (cCons (cC (.str "all")) (cCons (cVar 3) (cCons (cTup (cCons (cC (.str "kind")) (cCons (cC (.int 2)) cNil))) cNil)))) cNil)))))) (sSeq (sExpr (cMeth .lst opAppend (cVar 5) (cCons (cTup (cCons (cC (.str "all")) (cCons (cTup (cCons (cC (.str "at")) (cCons (cC (.int 0)) cNil))) (cCons (cVar 3) cNil)))) cNil))) (sSet 3 (cBin opIx (cVar 5) (cCall m__law_take [] (cCons (cVar 0) (cCons (cC (.int 4)) cNil)))))))
theorem any_body {S0 T : Store} {n : Nat} {k m : Int} {t : DL.Tm} {A B : Dt} {x y : Option DX} (hp : PuI S0 n k) (hc : DL.Cl (S0 ++ T)) (hk : k < 2 ^ 28) (hm : 0 < m) (ho : Ok m t) :
    ∃ t' y' S1 T1, anyBody [some (.vl (.ref n)), some (.vl A), some (.vl B), some (.vl (tD t)), x, y] (S0 ++ T) = .nx [some (.vl (.ref n)), some (.vl A), some (.vl B), some (.vl (tD t')), x, y'] (S1 ++ T1) ∧ PuI S1 n (k + 1) ∧ Fr n S0 S1 ∧ DL.Cl (S1 ++ T1) ∧ Ok m t' ∧ ht t' ≤ ht t + 1 ∧ sz t' ≤ sz t + 2 := by
  have hP := hp.ofApp hc
  let f1 : DL.Tm := .two "app" (.kind 0) t
  let f2 : DL.Tm := .two "fun" (.kind 1) t
  let f3 : DL.Tm := .two "all" t (.kind 2)
  let f4 : DL.Tm := .two "all" (.at 0) t
  have cl4 : closedL (S0 ++ T).length [tD f1, tD f2, tD f3, tD f4] = true := by
    show (closedD _ _ && (closedD _ _ && (closedD _ _ && (closedD _ _ && true)))) = true
    simp only [tD_closed]; rfl
  have hP4 : PuI ((S0 ++ T) ++ [.lst [tD f1, tD f2, tD f3, tD f4]]) n k := hP.push (closedL_mono (Nat.le_succ _) _ cl4)
  obtain ⟨r, S', t1, r0, r1, p1, fr⟩ := take_ok (m := 4) hP4 (by omega) (by omega) (by omega)
  have hP0 : PuI (S0 ++ (T ++ [.lst [tD f1, tD f2, tD f3, tD f4]])) n k := by rw [← List.append_assoc]; exact hP4
  rw [List.append_assoc] at fr
  obtain ⟨S1, rfl, p2, fr2⟩ := p1.splitL fr hp.lt hp.cl
  obtain ⟨d, hd, hix⟩ := ix_memR (S0 := S1 ++ T) (ds := [tD f1, tD f2, tD f3, tD f4]) (n := (S0 ++ T).length) (r := r) (by simp [fr2.1]) r0 (by simpa using r1)
  have : ∃ t', d = tD t' ∧ Ok m t' ∧ ht t' ≤ ht t + 1 ∧ sz t' ≤ sz t + 2 := by
    have g1 : ("app" : Str) ∈ twoG := by decide +kernel
    have g2 : ("fun" : Str) ∈ twoG := by decide +kernel
    have g3 : ("all" : Str) ∈ twoG := by decide +kernel
    simp only [List.mem_cons, List.mem_nil_iff, or_false] at hd
    rcases hd with rfl | rfl | rfl | rfl
    · exact ⟨f1, rfl, ⟨g1, ⟨by omega, by omega⟩, ho⟩, by show max 0 _ + 1 ≤ _; omega, by show 1 + _ + 1 ≤ _; omega⟩
    · exact ⟨f2, rfl, ⟨g2, ⟨by omega, by omega⟩, ho⟩, by show max 0 _ + 1 ≤ _; omega, by show 1 + _ + 1 ≤ _; omega⟩
    · exact ⟨f3, rfl, ⟨g3, ho, ⟨by omega, by omega⟩⟩, by show max _ 0 + 1 ≤ _; omega, by show _ + 1 + 1 ≤ _; omega⟩
    · exact ⟨f4, rfl, ⟨g3, ⟨by omega, by omega⟩, ho⟩, by show max 0 _ + 1 ≤ _; omega, by show 1 + _ + 1 ≤ _; omega⟩
  obtain ⟨t', rfl, a1, a2, a3⟩ := this
  refine ⟨t', some (.vl (.ref (S0 ++ T).length)), S1, T ++ [.lst [tD f1, tD f2, tD f3, tD f4]], ?_, p2, fr2, p1.cl, a1, a2, a3⟩
  unfold anyBody
  have ha := app_ok (S0 := S0 ++ T) (S1 := S0 ++ T) (ds := [tD f1, tD f2, tD f3]) (y := tD f4) (env := [some (.vl (.ref n)), some (.vl A), some (.vl B), some (.vl (tD t)), x, some (.vl (.ref (S0 ++ T).length))]) (i := 5) (fe := cTup (cCons (cC (.str "all")) (cCons (cTup (cCons (cC (.str "at")) (cCons (cC (.int 0)) cNil))) (cCons (cVar 3) cNil)))) (by simp; rfl) rfl (by simp) (by show 3 < 16777216; decide)
  have e0 : sSet 5 (cOwn (cDispL (cCons (cTup (cCons (cC (.str "app")) (cCons (cTup (cCons (cC (.str "kind")) (cCons (cC (.int 0)) cNil))) (cCons (cVar 3) cNil)))) (cCons (cTup (cCons (cC (.str "fun")) (cCons (cTup (cCons (cC (.str "kind")) (cCons (cC (.int 1)) cNil))) (cCons (cVar 3) cNil)))) (cCons (cTup (cCons (cC (.str "all")) (cCons (cVar 3) (cCons (cTup (cCons (cC (.str "kind")) (cCons (cC (.int 2)) cNil))) cNil)))) cNil))))) [some (.vl (.ref n)), some (.vl A), some (.vl B), some (.vl (tD t)), x, y] (S0 ++ T) = .nx [some (.vl (.ref n)), some (.vl A), some (.vl B), some (.vl (tD t)), x, some (.vl (.ref (S0 ++ T).length))] ((S0 ++ T) ++ [.lst [tD f1, tD f2, tD f3]]) := by
    simp [f1, f2, f3, tD]
  rw [ev_seq, e0, kSeq_nx, ev_seq, ha, kSeq_nx]
  have hix2 : opIx (.ref (S0 ++ T).length) (.int r) (S1 ++ (T ++ [.lst [tD f1, tD f2, tD f3, tD f4]])) = .ok (tD t') (S1 ++ (T ++ [.lst [tD f1, tD f2, tD f3, tD f4]])) := by
    rw [← List.append_assoc]; exact hix
  rw [show ([tD f1, tD f2, tD f3] ++ [tD f4]) = [tD f1, tD f2, tD f3, tD f4] from rfl]
  simp only [nv_set, nv_bin, ev_var, slot_s, slot_0, bind_ok, kBin1_at, nv_call, nv_cons, kCons1_at, kCons2_at, ev_c, ev_nil, kCall_at, List.append_nil, t1, kBin2_at, hix2, sOut_ok, kSet_at, List.set_cons_succ, List.set_cons_zero]
theorem any_loop {n : Nat} {k m : Int} {A B : Dt} (hm : 0 < m) : ∀ (ds : List Dt) (S0 T : Store) (k : Int) (t : DL.Tm) (x y : Option DX), PuI S0 n k → DL.Cl (S0 ++ T) → k + ds.length < 2 ^ 28 → Ok m t →
    ∃ t' x' y' S1 T1, forL (gN 4) anyBody ds [some (.vl (.ref n)), some (.vl A), some (.vl B), some (.vl (tD t)), x, y] (S0 ++ T) = .nx [some (.vl (.ref n)), some (.vl A), some (.vl B), some (.vl (tD t')), x', y'] (S1 ++ T1) ∧ PuI S1 n (k + ds.length) ∧ Fr n S0 S1 ∧ DL.Cl (S1 ++ T1) ∧ Ok m t' ∧ ht t' ≤ ht t + ds.length ∧ sz t' ≤ sz t + 2 * ds.length
  | [], S0, T, k, t, x, y, hp, hc, hk, ho => ⟨t, x, y, S0, T, rfl, hp.mono (by simp), Fr.refl, hc, ho, by simp, by simp⟩
  | d :: ds, S0, T, k, t, x, y, hp, hc, hk, ho => by
    have hl : ((d :: ds).length : Int) = ds.length + 1 := by simp
    have hl' : (d :: ds).length = ds.length + 1 := by simp
    rw [hl] at hk
    obtain ⟨t1, y1, S1, T1, e1, p1, f1, c1, o1, h1, s1⟩ := any_body (A := A) (B := B) (x := some (.vl d)) (y := y) hp hc (by omega) hm ho
    obtain ⟨t2, x2, y2, S2, T2, e2, p2, f2, c2, o2, h2, s2⟩ := any_loop hm (k := k) (A := A) (B := B) ds S1 T1 (k + 1) t1 (some (.vl d)) y1 p1 c1 (by omega) o1
    refine ⟨t2, x2, y2, S2, T2, ?_, p2.mono (by omega), f1.trans f2, c2, o2, by omega, by omega⟩
    rw [forL_cons ev_gN]
    show kLoop (anyBody [some (.vl (.ref n)), some (.vl A), some (.vl B), some (.vl (tD t)), some (.vl d), y] (S0 ++ T)) _ = _
    rw [e1, kLoop_nx, e2]
theorem any_eq : b__law_any = (sSeq (sIf (tVal (cBin opGt (cCall m__law_take [] (cCons (cVar 0) (cCons (cC (.int 4)) cNil))) (cC (.int 0)))) (sRet (cCall m__law_term [] (cCons (cVar 0) (cCons (cCall m__law_take [] (cCons (cVar 0) (cCons (cVar 1) cNil))) (cCons (cVar 2) cNil))))) sNext) (sSeq (sSet 3 (cCall m__law_term [] (cCons (cVar 0) (cCons (cCall m__law_take [] (cCons (cVar 0) (cCons (cC (.int 4)) cNil))) (cCons (cVar 2) cNil))))) (sSeq (sFor (iRange1 (cCons (cCall m__law_take [] (cCons (cVar 0) (cCons (cC (.int 55)) cNil))) cNil)) (gN 4) anyBody) (sRet (cVar 3))))) := rfl
theorem any_ok {S : Store} {n : Nat} {k m : Int} {dp : Nat} (hp : PuI S n k) (hk : k < 2 ^ 27) (hm : 0 < m) (hm2 : m ≤ 1000) (d1 : 1 ≤ dp) (d2 : dp ≤ 6) :
    ∃ t S', m__law_any [.ref n, .int (dp : Int), .int m] S = .ok (tD t) S' ∧ Ok m t ∧ ht t ≤ 57 ∧ sz t ≤ max 172 (4 ^ (dp - 1)) ∧ PuI S' n (k + 5000) ∧ Fr n S S' := by
  have ck : ∀ j, j ≤ 5 → cost j ≤ 4981 := by decide
  obtain ⟨r, S1, t1, r0, r1, p1, f1⟩ := take_ok (m := 4) hp (by omega) (by omega) (by omega)
  by_cases h0 : 0 < r
  · obtain ⟨q, S2, t2, q0, q1, p2, f2⟩ := take_ok (m := dp) p1 (by omega) (by omega) (by omega)
    obtain ⟨j, rfl⟩ := Int.eq_ofNat_of_zero_le q0
    have hj : j ≤ dp - 1 := by omega
    have hcj := ck j (by omega)
    obtain ⟨t, S3, e3, o3, h3, s3, p3, f3⟩ := term_ok (n := n) hm hm2 66 j S2 (k + 2) (by omega) (p2.mono (by omega)) (by omega)
    refine ⟨t, S3, ?_, o3, by omega, ?_, p3.mono (by omega), (f1.trans f2).trans f3⟩
    · refine trim_ok2 (T := []) ?_ (by rw [f3.1, f2.1, f1.1]) (tD_closed _ t) p3.cl
      have e3' : m__law_term [.ref n, .int j, .int m] S2 = .ok (tD t) S3 := e3
      rw [fnB3]
      simp [b__law_any, t1, h0, t2, e3']
    · have : 4 ^ j ≤ 4 ^ (dp - 1) := Nat.pow_le_pow_right (by omega) hj
      omega
  · obtain ⟨q, S2, t2, q0, q1, p2, f2⟩ := take_ok (m := 4) p1 (by omega) (by omega) (by omega)
    obtain ⟨j, rfl⟩ := Int.eq_ofNat_of_zero_le q0
    have hj : j ≤ 3 := by omega
    have hcj := ck j (by omega)
    have hcj' : cost j ≤ 600 := by
      have key : ∀ j, j ≤ 3 → cost j ≤ 600 := by decide
      exact key j hj
    obtain ⟨t, S3, e3, o3, h3, s3, p3, f3⟩ := term_ok (n := n) hm hm2 66 j S2 (k + 2) (by omega) (p2.mono (by omega)) (by omega)
    have e3' : m__law_term [.ref n, .int j, .int m] S2 = .ok (tD t) S3 := e3
    obtain ⟨i, S4, t4, i0, i1, p4, f4⟩ := take_ok (m := 55) p3 (by omega) (by omega) (by omega)
    have hl : ((rangeD 0 i.toNat).length : Int) = i := by rw [rangeD_len]; omega
    have hl' : (rangeD 0 i.toNat).length ≤ 54 := by rw [rangeD_len]; omega
    obtain ⟨t5, x5, y5, S5, T5, e5, p5, f5, c5, o5, h5, s5⟩ := any_loop hm (k := k) (A := .int (dp : Int)) (B := .int m) (rangeD 0 i.toNat) S4 [] (k + 2 + cost j + 1) t none none p4 (by simpa using p4.cl) (by omega) o3
    have hs : sz t ≤ 64 := by
      have : 4 ^ j ≤ 4 ^ 3 := Nat.pow_le_pow_right (by omega) hj
      omega
    refine ⟨t5, S5, ?_, o5, by omega, by omega, p5.mono (by omega), (((f1.trans f2).trans f3).trans f4).trans f5⟩
    refine trim_ok2 (T := T5) ?_ (by rw [f5.1, f4.1, f3.1, f2.1, f1.1]) (tD_closed _ t5) p5.cl
    rw [fnB3]
    rw [List.append_nil] at e5
    rw [any_eq]
    simp [t1, h0, t2, e3', t4, kRange1_ok i0 (show i < 2 ^ 62 by omega), e5]

theorem cell_ok {ns : List Int} {j : Int} {S : Store} (h0 : 0 ≤ j) : ∃ c, m__law_cell [.lst (ns.map Dt.int), .int j] S = .ok (.int c) S := by
  obtain ⟨j, rfl⟩ := Int.eq_ofNat_of_zero_le h0
  unfold m__law_cell
  rw [fnB2]
  by_cases h : (j : Int) < (ns.length : Int)
  · have hx : (ns.map Dt.int)[j]? = some (.int (ns[j]'(by omega))) := by
      rw [List.getElem?_map, List.getElem?_eq_getElem (by omega)]; rfl
    have e := opIx_lst (S := S) hx
    exact ⟨ns[j]'(by omega), by simp [b__law_cell, h, e]⟩
  · refine ⟨6113 * j + 19, ?_⟩
    simp [b__law_cell, h, opMul_ok (S := S) (i := 6113) (j := j) (by omega) (by omega)]
theorem purse_ok {S : Store} {c : Int} (hc : DL.Cl S) : ∃ S1, m__law_purse__o [.int c] S = .ok (.ref S.length) S1 ∧ PuI S1 S.length 0 := by
  let a : Int := if c - 10 ^ 18 > 0 then c - 10 ^ 18 else 0
  have ha : 0 ≤ a := by
    show 0 ≤ (if c - 10 ^ 18 > 0 then c - 10 ^ 18 else 0)
    split <;> omega
  refine ⟨S ++ [.lst [.int a, .int (c % 2147483629), .int 0]], ?_, ⟨hc.push rfl, a, c % 2147483629, 0, by simp, ha, Int.emod_nonneg _ (by omega), Int.emod_lt_of_pos _ (by omega), by omega, by omega⟩⟩
  have e : fnBody 1 0 b__law_purse__o [.int c] S = .ok (.ref S.length) (S ++ [.lst [.int a, .int (c % 2147483629), .int 0]]) := by
    rw [fnB1]
    have pw : opPow (.int 10) (.int 18) S = .ok (.int (10 ^ 18)) S := opPow_ok (j := 18) (by omega) (by decide)
    have md : opMod (.int c) (.int 2147483629) S = .ok (.int (c % 2147483629)) S := opMod_ok (by omega)
    simp [b__law_purse__o, pw, md, a]
  exact trim_ref e rfl (Nat.le_refl _) (by simp) rfl hc
section
variable {S : Store} {m : Int} {t : DL.Tm}
theorem inner_ok (h : Ok m t) : m_inner [tD t] S = .ok (.lst ((kids t).map tD)) S := by
  unfold m_inner
  rw [fnB1]
  obtain ⟨f, h1, h2, _, _⟩ := wd_facts t h
  have q0 : d_FORMS = .dct (forms.map fun p => (Sum.inr p.1, Dt.str p.2)) := rfl
  have hx : lookD (forms.map fun p => (Sum.inr p.1, Dt.str p.2)) (.inr (wd t)) = some (.str f) := by rw [look_forms, h1]; rfl
  have ht : opIn (.str "t") (.str f) S = .ok (.bl (!(kids t).isEmpty)) S := by rw [← h2]; rfl
  cases hk : (kids t).isEmpty with
  | true =>
    have : kids t = [] := List.isEmpty_iff.mp hk
    simp [b_inner, ix0, q0, opIx_dct hx, ht, hk, this]
  | false =>
    have := ar_kids t h hk
    simp [b_inner, ix0, q0, opIx_dct hx, ht, hk]
    rw [tD_eq, this]
    simp [cut_tail]
theorem binds_ok (h : Ok m t) (i : Nat) : m_binds [tD t, .int (i : Int)] S = .ok (.int (bi t i)) S := by
  unfold m_binds
  rw [fnB2]
  have h1 : opIn (.str (wd t)) d_BINDERS S = .ok (.bl (isB (wd t))) S := opIn_tstrs
  rw [bi_of h]
  cases hb : isB (wd t) <;> simp [b_binds, ix0, h1, hb]
theorem with_ok {ds : List Dt} (hl : ds.length ≤ 100) : m_with_parts [tD t, .lst ds] S = .ok (.tup (.str (wd t) :: ds)) S := by
  unfold m_with_parts
  rw [fnB2]
  simp [b_with_parts, ix0]
  rw [okTup_ok (by simp; omega)]
  rfl
end
section
variable {S : Store} {m : Int} {t : DL.Tm}
theorem parts_ok (hc : DL.Cl S) (h : Ok m t) : m__law_parts [tD t] S = .ok (.lst ((kids t).map tD)) S := by
  unfold m__law_parts
  rw [fnB1]
  obtain ⟨f, h1, h2, _, _⟩ := wd_facts t h
  have q0 : d_FORMS = .dct (forms.map fun p => (Sum.inr p.1, Dt.str p.2)) := rfl
  have hf := law_forms_ok S hc
  have hx : lookD (forms.map fun p => (Sum.inr p.1, Dt.str p.2)) (.inr (wd t)) = some (.str f) := by rw [look_forms, h1]; rfl
  have ht : opIn (.str "t") (.str f) S = .ok (.bl (!(kids t).isEmpty)) S := by rw [← h2]; rfl
  cases hk : (kids t).isEmpty with
  | true =>
    have : kids t = [] := List.isEmpty_iff.mp hk
    simp [b__law_parts, ix0, hf, q0, opIx_dct hx, ht, hk, this]
  | false =>
    have := ar_kids t h hk
    simp [b__law_parts, ix0, hf, q0, opIx_dct hx, ht, hk]
    rw [tD_eq, this]
    simp [cut_tail]
theorem over_ok (h : Ok m t) (i : Nat) : m__law_over [tD t, .int (i : Int)] S = .ok (.int (bi t i)) S := by
  unfold m__law_over
  rw [fnB2]
  have h1 : opIn (.str (wd t)) (.tup [.str "all", .str "fun"]) S = .ok (.bl (isB (wd t))) S := opIn_tstrs (zs := ["all", "fun"])
  rw [bi_of h]
  cases hb : isB (wd t) <;> simp [b__law_over, ix0, h1, hb]
end
section
variable {m : Int}
theorem size_of_ok : ∀ (fu : Nat) {t : DL.Tm} (S : Store), Ok m t → ht t + 1 ≤ fu → n_size_of fu [tD t] S = .ok (.int (sz t)) S
  | 0, _, _, _, h => by omega
  | fu + 1, t, S, h, hf => by
    unfold n_size_of
    rw [fnB1]
    have hs1 := fun (i : Int) => opSum_ints (S := S) [i]
    have hs2 := fun (i j : Int) => opSum_ints (S := S) [i, j]
    have hs3 := fun (i j k : Int) => opSum_ints (S := S) [i, j, k]
    have hs0 := opSum_ints (S := S) []
    simp only [List.map_cons, List.map_nil] at hs0 hs1 hs2 hs3
    cases t with
    | two g a b =>
      have hf' : max (ht a) (ht b) + 1 + 1 ≤ fu + 1 := hf
      have i1 := size_of_ok fu S h.2.1 (by omega)
      have i2 := size_of_ok fu S h.2.2 (by omega)
      simp [b_size_of, inner_ok h, kids, kComp_at, i1, i2, hs2, sz]
      omega
    | three g a b c =>
      have hf' : max (ht a) (max (ht b) (ht c)) + 1 + 1 ≤ fu + 1 := hf
      have i1 := size_of_ok fu S h.2.1 (by omega)
      have i2 := size_of_ok fu S h.2.2.1 (by omega)
      have i3 := size_of_ok fu S h.2.2.2 (by omega)
      simp [b_size_of, inner_ok h, kids, kComp_at, i1, i2, i3, hs3, sz]
      omega
    | _ => simp [b_size_of, inner_ok h, kids, kComp_at, hs0, sz]
end
section
variable {m : Int}
theorem raise_in_ok {by_ : Int} : ∀ (fu : Nat) {t : DL.Tm} (s : Int) (S : Store), Ok m t → ht t + 1 ≤ fu → n_raise_in fu [tD t, .int by_, .int s] S = .ok (tD (raiseT by_ t s)) S
  | 0, _, _, _, _, h => by omega
  | fu + 1, t, s, S, h, hf => by
    unfold n_raise_in
    rw [fnB3]
    have b0 : m_binds [tD t, .int 0] S = .ok (.int 0) S := by have := binds_ok (S := S) h 0; rwa [bi0] at this
    have b1 : m_binds [tD t, .int 1] S = .ok (.int (bi t 1)) S := binds_ok h 1
    have b2 : m_binds [tD t, .int 2] S = .ok (.int (bi t 2)) S := binds_ok h 2
    cases t with
    | «at» i =>
      have e1 : opIx (tD (.at i)) (.int 1) S = .ok (.int i) S := opIx_tup1
      by_cases hi : s ≤ i <;> simp [b_raise_in, ix0, is_at h, isAt, e1, raiseT, hi]
      rfl
    | two g a b =>
      have hf' : max (ht a) (ht b) + 1 + 1 ≤ fu + 1 := hf
      have i1 := raise_in_ok (by_ := by_) fu s S h.2.1 (by omega)
      have i2 := raise_in_ok (by_ := by_) fu (s + bi (.two g a b) 1) S h.2.2 (by omega)
      simp [b_raise_in, ix0, is_at h, isAt, inner_ok h, kids, opEq_nilL, enumD, kComp_at, b0, b1, i1, i2, with_ok]
      rfl
    | three g a b c =>
      have hf' : max (ht a) (max (ht b) (ht c)) + 1 + 1 ≤ fu + 1 := hf
      have i1 := raise_in_ok (by_ := by_) fu s S h.2.1 (by omega)
      have i2 := raise_in_ok (by_ := by_) fu s S h.2.2.1 (by omega)
      have i3 := raise_in_ok (by_ := by_) fu s S h.2.2.2 (by omega)
      simp [b_raise_in, ix0, is_at h, isAt, inner_ok h, kids, opEq_nilL, enumD, kComp_at, b0, b1, b2, bi3, i1, i2, i3, with_ok]
      rfl
    | _ => simp [b_raise_in, ix0, is_at h, isAt, inner_ok h, kids, opEq_nilL, raiseT]
end
section
variable {m : Int}
theorem law_raised_ok {by_ : Int} (hb : -(2 ^ 64) < by_) (hb2 : by_ < 2 ^ 64) : ∀ (fu : Nat) {t : DL.Tm} (s : Int) (S : Store), DL.Cl S → Ok m t → ht t + 1 ≤ fu → n__law_raised fu [tD t, .int by_, .int s] S = .ok (tD (raiseT by_ t s)) S
  | 0, _, _, _, _, _, h => by omega
  | fu + 1, t, s, S, hc, h, hf => by
    unfold n__law_raised
    rw [fnB3]
    have b0 : m__law_over [tD t, .int 0] S = .ok (.int 0) S := by have := over_ok (S := S) h 0; rwa [bi0] at this
    have b1 : m__law_over [tD t, .int 1] S = .ok (.int (bi t 1)) S := over_ok h 1
    have b2 : m__law_over [tD t, .int 2] S = .ok (.int (bi t 2)) S := over_ok h 2
    cases t with
    | «at» i =>
      have e1 : opIx (tD (.at i)) (.int 1) S = .ok (.int i) S := opIx_tup1
      by_cases hi : s ≤ i <;> simp [b__law_raised, ix0, is_at h, isAt, e1, raiseT, hi, opMul_ok hb hb2] <;> rfl
    | two g a b =>
      have hf' : max (ht a) (ht b) + 1 + 1 ≤ fu + 1 := hf
      have i1 := law_raised_ok hb hb2 fu s S hc h.2.1 (by omega)
      have i2 := law_raised_ok hb hb2 fu (s + bi (.two g a b) 1) S hc h.2.2 (by omega)
      simp [b__law_raised, ix0, is_at h, isAt, parts_ok hc h, kids, opEq_nilL, enumD, kComp_at, b0, b1, i1, i2]
      rfl
    | three g a b c =>
      have hf' : max (ht a) (max (ht b) (ht c)) + 1 + 1 ≤ fu + 1 := hf
      have i1 := law_raised_ok hb hb2 fu s S hc h.2.1 (by omega)
      have i2 := law_raised_ok hb hb2 fu s S hc h.2.2.1 (by omega)
      have i3 := law_raised_ok hb hb2 fu s S hc h.2.2.2 (by omega)
      simp [b__law_raised, ix0, is_at h, isAt, parts_ok hc h, kids, opEq_nilL, enumD, kComp_at, b0, b1, b2, bi3, i1, i2, i3]
      rfl
    | _ => simp [b__law_raised, ix0, is_at h, isAt, parts_ok hc h, kids, opEq_nilL, raiseT]
end
section
variable {m : Int}
theorem give_in_ok {o : DL.Tm} {n mo : Int} (ho : Ok mo o) (hh : ht o + 1 ≤ 66) : ∀ (fu : Nat) {t : DL.Tm} (u : Int) (S : Store), Ok m t → ht t + 1 ≤ fu → n_give_in fu [tD t, tD o, .int n, .int u] S = .ok (tD (giveT o n t u)) S
  | 0, _, _, _, _, h => by omega
  | fu + 1, t, u, S, h, hf => by
    unfold n_give_in
    rw [fnB4]
    have b0 : m_binds [tD t, .int 0] S = .ok (.int 0) S := by have := binds_ok (S := S) h 0; rwa [bi0] at this
    have b1 : m_binds [tD t, .int 1] S = .ok (.int (bi t 1)) S := binds_ok h 1
    have b2 : m_binds [tD t, .int 2] S = .ok (.int (bi t 2)) S := binds_ok h 2
    have hr : m_raise_in [tD o, .int u, .int 0] S = .ok (tD (raiseT u o 0)) S := raise_in_ok 66 0 S ho hh
    cases t with
    | «at» i =>
      have e1 : opIx (tD (.at i)) (.int 1) S = .ok (.int i) S := opIx_tup1
      by_cases hi : i = n + u
      · subst hi
        simp [b_give_in, ix0, is_at h, isAt, e1, giveT, hr]
      · by_cases hj : n + u < i <;> simp [b_give_in, ix0, is_at h, isAt, e1, giveT, hi, hj] <;> rfl
    | two g a b =>
      have hf' : max (ht a) (ht b) + 1 + 1 ≤ fu + 1 := hf
      have i1 := give_in_ok (n := n) ho hh fu u S h.2.1 (by omega)
      have i2 := give_in_ok (n := n) ho hh fu (u + bi (.two g a b) 1) S h.2.2 (by omega)
      simp [b_give_in, ix0, is_at h, isAt, inner_ok h, kids, opEq_nilL, enumD, kComp_at, b0, b1, i1, i2, with_ok]
      rfl
    | three g a b c =>
      have hf' : max (ht a) (max (ht b) (ht c)) + 1 + 1 ≤ fu + 1 := hf
      have i1 := give_in_ok (n := n) ho hh fu u S h.2.1 (by omega)
      have i2 := give_in_ok (n := n) ho hh fu u S h.2.2.1 (by omega)
      have i3 := give_in_ok (n := n) ho hh fu u S h.2.2.2 (by omega)
      simp [b_give_in, ix0, is_at h, isAt, inner_ok h, kids, opEq_nilL, enumD, kComp_at, b0, b1, b2, bi3, i1, i2, i3, with_ok]
      rfl
    | _ => simp [b_give_in, ix0, is_at h, isAt, inner_ok h, kids, opEq_nilL, giveT]
end
section
variable {m : Int}
theorem law_given_ok {o : DL.Tm} {n mo : Int} (ho : Ok mo o) (hh : ht o + 1 ≤ 66) : ∀ (fu : Nat) {t : DL.Tm} (u : Int) (S : Store), DL.Cl S → 0 ≤ u → u + fu < 2 ^ 63 → Ok m t → ht t + 1 ≤ fu → n__law_given fu [tD t, tD o, .int n, .int u] S = .ok (tD (giveT o n t u)) S
  | 0, _, _, _, _, _, _, _, h => by omega
  | fu + 1, t, u, S, hc, hu, hu2, h, hf => by
    unfold n__law_given
    rw [fnB4]
    have b0 : m__law_over [tD t, .int 0] S = .ok (.int 0) S := by have := over_ok (S := S) h 0; rwa [bi0] at this
    have b1 : m__law_over [tD t, .int 1] S = .ok (.int (bi t 1)) S := over_ok h 1
    have b2 : m__law_over [tD t, .int 2] S = .ok (.int (bi t 2)) S := over_ok h 2
    have hr : m__law_raised [tD o, .int u, .int 0] S = .ok (tD (raiseT u o 0)) S := law_raised_ok (by omega) (by omega) 66 0 S hc ho hh
    have hb : 0 ≤ bi t 1 ∧ bi t 1 ≤ 1 := by
      rw [bi_of h]; split <;> omega
    cases t with
    | «at» i =>
      have e1 : opIx (tD (.at i)) (.int 1) S = .ok (.int i) S := opIx_tup1
      by_cases hi : i = n + u
      · subst hi
        simp [b__law_given, ix0, is_at h, isAt, e1, giveT, hr]
      · by_cases hj : n + u < i <;> simp [b__law_given, ix0, is_at h, isAt, e1, giveT, hi, hj] <;> rfl
    | two g a b =>
      have hf' : max (ht a) (ht b) + 1 + 1 ≤ fu + 1 := hf
      have i1 := law_given_ok (n := n) ho hh fu u S hc hu (by omega) h.2.1 (by omega)
      have i2 := law_given_ok (n := n) ho hh fu (u + bi (.two g a b) 1) S hc (by omega) (by omega) h.2.2 (by omega)
      simp [b__law_given, ix0, is_at h, isAt, parts_ok hc h, kids, opEq_nilL, enumD, kComp_at, b0, b1, i1, i2]
      rfl
    | three g a b c =>
      have hf' : max (ht a) (max (ht b) (ht c)) + 1 + 1 ≤ fu + 1 := hf
      have i1 := law_given_ok (n := n) ho hh fu u S hc hu (by omega) h.2.1 (by omega)
      have i2 := law_given_ok (n := n) ho hh fu u S hc hu (by omega) h.2.2.1 (by omega)
      have i3 := law_given_ok (n := n) ho hh fu u S hc hu (by omega) h.2.2.2 (by omega)
      simp [b__law_given, ix0, is_at h, isAt, parts_ok hc h, kids, opEq_nilL, enumD, kComp_at, b0, b1, b2, bi3, i1, i2, i3]
      rfl
    | _ => simp [b__law_given, ix0, is_at h, isAt, parts_ok hc h, kids, opEq_nilL, giveT]
end
def insB (r : List Dt → Store → Out Dt) : FS := L_free_in_0 r
def freeB (r : List Dt → Store → Out Dt) : FS := L_free_in_1 r
theorem ins_loop {m : Int} {T : DL.Tm} {i : Nat} {S G : Store} {D : Dt} {r : List Dt → Store → Out Dt} (h : Ok m T) : ∀ (L : List Int) (kvs : List (Key × Dt)) (ks : List Int) (x4 : Option DX), Dk kvs ks → ks.length + L.length ≤ 10000 →
    ∃ kvs' ks' x4', forL (gN 4) (insB r) (L.map Dt.int) [some (.vl (tD T)), some (.vl (.ref S.length)), some (.vl (.int (i : Int))), some (.vl D), x4] (S ++ .dct kvs :: G) = .nx [some (.vl (tD T)), some (.vl (.ref S.length)), some (.vl (.int (i : Int))), some (.vl D), x4'] (S ++ .dct kvs' :: G) ∧
      Dk kvs' ks' ∧ ks'.length ≤ ks.length + L.length ∧ ∀ x, x ∈ ks' ↔ x ∈ ks ∨ x ∈ sh (bi T i) L
  | [], kvs, ks, x4, hd, _ => ⟨kvs, ks, x4, rfl, hd, by simp, fun x => by simp [sh]⟩
  | p :: L, kvs, ks, x4, hd, hl => by
    have hb := fun S => binds_ok (S := S) h i
    have kl := keysI_len hd.keys
    rw [List.length_cons] at hl
    by_cases hp : bi T i ≤ p
    · obtain ⟨ks1, d1, l1, m1⟩ := hd.put (p - bi T i)
      obtain ⟨kvs', ks', x4', e2, d2, l2, m2⟩ := ins_loop (i := i) (S := S) (G := G) (D := D) (r := r) h L _ ks1 (some (.vl (.int p))) d1 (by omega)
      refine ⟨kvs', ks', x4', ?_, d2, by rw [List.length_cons]; omega, fun x => ?_⟩
      · have hs : ∀ env, kSetIx (.ref S.length) (.int (p - bi T i)) (.bl true) env (S ++ .dct kvs :: G) = _ := fun env => kSetIx_dct rfl (by omega)
        rw [List.map_cons, forL_N]
        simp only [insB, L_free_in_0, List.set_cons_succ, List.set_cons_zero, nv_sif, ev_val, nv_bin, ev_var, slot_s, slot_0, bind_ok, kBin1_at, nv_call, nv_cons, kCons1_at, kCons2_at, ev_nil, kCall_at, List.append_nil, hb, kBin2_at, opGe_int, decide_eq_true hp, kBl_bl, sOut_ok, kSIf_t, nv_setIx, ev_c, kSI1_at, kSI2_at, opSub_int, kSI3_at, hs, kLoop_nx]
        exact e2
      · rw [m2, m1]
        have : sh (bi T i) (p :: L) = (p - bi T i) :: sh (bi T i) L := by simp [sh, hp]
        rw [this, List.mem_cons, or_assoc]
    · obtain ⟨kvs', ks', x4', e2, d2, l2, m2⟩ := ins_loop (i := i) (S := S) (G := G) (D := D) (r := r) h L kvs ks (some (.vl (.int p))) hd (by omega)
      refine ⟨kvs', ks', x4', ?_, d2, by rw [List.length_cons]; omega, fun x => ?_⟩
      · rw [List.map_cons, forL_N]
        simp only [insB, L_free_in_0, List.set_cons_succ, List.set_cons_zero, nv_sif, ev_val, nv_bin, ev_var, slot_s, slot_0, bind_ok, kBin1_at, nv_call, nv_cons, kCons1_at, kCons2_at, ev_nil, kCall_at, List.append_nil, hb, kBin2_at, opGe_int, decide_eq_false hp, kBl_bl, sOut_ok, kSIf_f, ev_next, kLoop_nx]
        exact e2
      · rw [m2]
        have : sh (bi T i) (p :: L) = sh (bi T i) L := by simp [sh, hp]
        rw [this]

theorem freeB_ok {m : Int} {r : List Dt → Store → Out Dt} {T p : DL.Tm} {i : Nat} {S : Store} {L ks : List Int} {kvs : List (Key × Dt)} {x4 : Option DX} (h : Ok m T) (hr : r [tD p] (S ++ [.dct kvs]) = .ok (.lst (L.map Dt.int)) (S ++ [.dct kvs])) (hd : Dk kvs ks) (hl : ks.length + L.length ≤ 10000) :
    ∃ kvs' ks' x4', freeB r [some (.vl (tD T)), some (.vl (.ref S.length)), some (.vl (.int (i : Int))), some (.vl (tD p)), x4] (S ++ [.dct kvs]) = .nx [some (.vl (tD T)), some (.vl (.ref S.length)), some (.vl (.int (i : Int))), some (.vl (tD p)), x4'] (S ++ [.dct kvs']) ∧
      Dk kvs' ks' ∧ ks'.length ≤ ks.length + L.length ∧ ∀ x, x ∈ ks' ↔ x ∈ ks ∨ x ∈ sh (bi T i) L := by
  obtain ⟨kvs', ks', x4', e, d, l, mm⟩ := ins_loop (i := i) (S := S) (G := []) (D := tD p) (r := r) h L kvs ks x4 hd hl
  refine ⟨kvs', ks', x4', ?_, d, l, mm⟩
  unfold freeB L_free_in_1
  unfold insB at e
  simp [hr, e]
theorem free_in_ok {m : Int} : ∀ (fu : Nat) {t : DL.Tm} (S : Store), DL.Cl S → Ok m t → ht t + 1 ≤ fu → sz t ≤ 4000 → n_free_in fu [tD t] S = .ok (.lst ((freeT t).map Dt.int)) S
  | 0, _, _, _, _, h, _ => by omega
  | fu + 1, t, S, hc, h, hf, hz => by
    unfold n_free_in
    have fin : ∀ (kvs : List (Key × Dt)) (ks L : List Int), Dk kvs ks → (∀ x, x ∈ ks ↔ x ∈ L) → freeT t = setI L → kSortDict (.ref S.length) (S ++ [.dct kvs]) = .ok ((freeT t).map Dt.int) (S ++ [.dct kvs]) := by
      intro kvs ks L hd hm hL
      rw [kSortDict_ok (ks := ks) (by simp) hd.keys, sort_set hd.nd hm, hL]
    have clo : ∀ L : List Int, closedD S.length (.lst (L.map Dt.int)) = true := fun L => closed_ints _ L
    have nil : Dk [] [] := ⟨rfl, by simp, by simp⟩
    have inn : ∀ S, m_inner [tD t] S = .ok (.lst ((kids t).map tD)) S := fun S => inner_ok h
    have cd : ∀ kvs : List (Key × Dt), (∀ p ∈ kvs, p.2 = .bl true) → DL.Cl (S ++ [MO.dct kvs]) := fun kvs h => hc.dct (j := 0) h
    cases t with
    | «at» i =>
      refine trim_ok (T := []) ?_ (clo (freeT (.at i))) hc
      have e1 : opIx (tD (.at i)) (.int 1) S = .ok (.int i) S := opIx_tup1
      rw [fnB1]
      simp [b_free_in, ix0, is_at h, isAt, e1, freeT]
    | two g a b =>
      have hf' : max (ht a) (ht b) + 1 + 1 ≤ fu + 1 := hf
      have hz' : sz a + sz b + 1 ≤ 4000 := hz
      have l1 := freeT_len a
      have l2 := freeT_len b
      obtain ⟨kvs1, ks1, y1, e1, d1, n1, m1⟩ := freeB_ok (r := n_free_in fu) (p := a) (i := 0) (S := S) (kvs := []) (x4 := none) h (free_in_ok fu _ (cd [] (by simp)) h.2.1 (by omega) (by omega)) nil (by show 0 + (freeT a).length ≤ 10000; omega)
      obtain ⟨kvs2, ks2, y2, e2, d2, n2, m2⟩ := freeB_ok (r := n_free_in fu) (p := b) (i := 1) (S := S) (x4 := y1) h (free_in_ok fu _ (cd _ d1.tr) h.2.2 (by omega) (by omega)) d1 (by simp at n1; omega)
      have e3 := fin kvs2 ks2 (sh 0 (freeT a) ++ sh (bi (.two g a b) 1) (freeT b)) d2 (fun x => by rw [m2, m1, bi0, List.mem_append]; simp) rfl
      refine trim_ok (T := [.dct kvs2]) ?_ (clo (freeT (.two g a b))) hc
      rw [fnB1]
      have e1' : L_free_in_1 (n_free_in fu) [some (.vl (tD (.two g a b))), some (.vl (.ref S.length)), some (.vl (.int 0)), some (.vl (tD a)), none] (S ++ [.dct []]) = _ := e1
      have e2' : L_free_in_1 (n_free_in fu) [some (.vl (tD (.two g a b))), some (.vl (.ref S.length)), some (.vl (.int 1)), some (.vl (tD b)), y1] (S ++ [.dct kvs1]) = _ := e2
      simp only [b_free_in, ev_seq, nv_sif, ev_val, nv_bin, ev_var, slot_0, bind_ok, kBin1_at, ev_c, kBin2_at, ix0, is_at h, isAt, kBl_bl, sOut_ok, kSIf_f, ev_next, kSeq_nx, nv_set, ev_dct0O, kSet_at, List.replicate, List.set_cons_succ, List.set_cons_zero, nv_for, ev_enum, nv_cons, nv_call, kCons1_at, kCons2_at, ev_nil, kCall_at, List.append_nil, inn, kids, List.map_cons, List.map_nil, kEnum_at, enumD, kFor_at, forL_2, Int.natCast_zero, slot_s, e1', kLoop_nx, Nat.zero_add, Int.natCast_one, e2', forL_nil, nv_ret, nv_vall, ev_sortDict, e3, kVall_at, kRet_at, kFn_rt]
    | three g a b c =>
      have hf' : max (ht a) (max (ht b) (ht c)) + 1 + 1 ≤ fu + 1 := hf
      have hz' : sz a + sz b + sz c + 1 ≤ 4000 := hz
      have l1 := freeT_len a
      have l2 := freeT_len b
      have l2' := freeT_len c
      obtain ⟨kvs1, ks1, y1, e1, d1, n1, m1⟩ := freeB_ok (r := n_free_in fu) (p := a) (i := 0) (S := S) (kvs := []) (x4 := none) h (free_in_ok fu _ (cd [] (by simp)) h.2.1 (by omega) (by omega)) nil (by show 0 + (freeT a).length ≤ 10000; omega)
      obtain ⟨kvs2, ks2, y2, e2, d2, n2, m2⟩ := freeB_ok (r := n_free_in fu) (p := b) (i := 1) (S := S) (x4 := y1) h (free_in_ok fu _ (cd _ d1.tr) h.2.2.1 (by omega) (by omega)) d1 (by simp at n1; omega)
      obtain ⟨kvs3, ks3, y3, e3, d3, n3, m3⟩ := freeB_ok (r := n_free_in fu) (p := c) (i := 2) (S := S) (x4 := y2) h (free_in_ok fu _ (cd _ d2.tr) h.2.2.2 (by omega) (by omega)) d2 (by simp at n1; omega)
      have e4 := fin kvs3 ks3 (sh 0 (freeT a) ++ sh 0 (freeT b) ++ sh 0 (freeT c)) d3 (fun x => by rw [m3, m2, m1, bi3, bi3, bi3, List.mem_append, List.mem_append]; simp) rfl
      refine trim_ok (T := [.dct kvs3]) ?_ (clo (freeT (.three g a b c))) hc
      rw [fnB1]
      have e1' : L_free_in_1 (n_free_in fu) [some (.vl (tD (.three g a b c))), some (.vl (.ref S.length)), some (.vl (.int 0)), some (.vl (tD a)), none] (S ++ [.dct []]) = _ := e1
      have e2' : L_free_in_1 (n_free_in fu) [some (.vl (tD (.three g a b c))), some (.vl (.ref S.length)), some (.vl (.int 1)), some (.vl (tD b)), y1] (S ++ [.dct kvs1]) = _ := e2
      have e3' : L_free_in_1 (n_free_in fu) [some (.vl (tD (.three g a b c))), some (.vl (.ref S.length)), some (.vl (.int 2)), some (.vl (tD c)), y2] (S ++ [.dct kvs2]) = _ := e3
      simp only [b_free_in, ev_seq, nv_sif, ev_val, nv_bin, ev_var, slot_0, bind_ok, kBin1_at, ev_c, kBin2_at, ix0, is_at h, isAt, kBl_bl, sOut_ok, kSIf_f, ev_next, kSeq_nx, nv_set, ev_dct0O, kSet_at, List.replicate, List.set_cons_succ, List.set_cons_zero, nv_for, ev_enum, nv_cons, nv_call, kCons1_at, kCons2_at, ev_nil, kCall_at, List.append_nil, inn, kids, List.map_cons, List.map_nil, kEnum_at, enumD, kFor_at, forL_2, Int.natCast_zero, slot_s, e1', kLoop_nx, Nat.zero_add, Int.natCast_one, e2', show (((0 + 1 + 1 : Nat)) : Int) = 2 from rfl, show (((1 + 1 : Nat)) : Int) = 2 from rfl, e3', forL_nil, nv_ret, nv_vall, ev_sortDict, e4, kVall_at, kRet_at, kFn_rt]
    | _ =>
      refine trim_ok (T := [.dct []]) ?_ rfl hc
      have e3 := fin [] [] [] nil (by simp) rfl
      rw [fnB1]
      simp [b_free_in, ix0, is_at h, isAt, inn, kids, enumD, e3]

end K04

set_option Elab.async false
set_option linter.all false
set_option maxRecDepth 1000000
set_option maxHeartbeats 4000000
namespace K04
open PySem PySem.Spec PyProof.Rows L2 DL
theorem app_no {m : Int} {t : DL.Tm} (h : Ok m t) (hn : ∀ g a b, t ≠ .two g a b) : decide (wd t = "app") = false := by
  cases t with
  | two g a b => exact absurd rfl (hn g a b)
  | three g a b c =>
    have key : ∀ g ∈ threeG, decide (g = "app") = false := by decide +kernel
    exact key g h.1
  | «at» i => show decide (("at" : Str) = "app") = false; decide +kernel
  | kind i => show decide (("kind" : Str) = "app") = false; decide +kernel
  | name i => show decide (("name" : Str) = "app") = false; decide +kernel
  | thing i => show decide (("thing" : Str) = "app") = false; decide +kernel
  | maker i j => show decide (("maker" : Str) = "app") = false; decide +kernel
  | eater i j => show decide (("eater" : Str) = "app") = false; decide +kernel
theorem open_len : ∀ t : DL.Tm, (openT t).2.length ≤ ht t
  | .two g a b => by
    have e : ht (.two g a b) = max (ht a) (ht b) + 1 := rfl
    have := open_len a
    unfold openT
    split
    · simp; omega
    · simp
  | .at _ | .kind _ | .name _ | .thing _ | .maker _ _ | .eater _ _ | .three _ _ _ _ => Nat.zero_le _
theorem closed_tms (n : Nat) (l : List DL.Tm) : closedL n (l.map tD) = true := by
  induction l with
  | nil => rfl
  | cons x xs ih => show (closedD n _ && closedL n _) = true; rw [tD_closed, ih]; rfl
structure Bd (t : DL.Tm) : Prop where
  ok : Ok 1000000 t
  ht : ht t ≤ 63
  sz : sz t ≤ 60000
section
variable {S : Store} {t : DL.Tm}
theorem Bd.fine (b : Bd t) : Fine (tD t) := ⟨tD_okD (by omega) t b.ok, by have := tD_wt t b.ok; have := b.sz; omega⟩
theorem Bd.isT (b : Bd t) : m_is_term [tD t] S = .ok (.bl true) S := by
  have := is_term_ok 130 (d := tD t) S b.fine (by rw [tD_dp]; have := b.ht; omega)
  rw [tD_isT t b.ok] at this
  exact this
theorem Bd.ne {u : DL.Tm} (b : Bd t) (b' : Bd u) : opNe (tD t) (tD u) S = .ok (.bl (!eqD (tD t) (tD u))) S := opNe_ok S b.fine.ok b'.fine.ok (tD_noDct t) (tD_noDct u) (by rw [tD_dp]; have := b.ht; omega)
theorem Bd.eq {u : DL.Tm} (b : Bd t) (b' : Bd u) : opEq (tD t) (tD u) S = .ok (.bl (eqD (tD t) (tD u))) S := opEq_ok S b.fine.ok b'.fine.ok (tD_noDct t) (tD_noDct u) (by rw [tD_dp]; have := b.ht; omega)
theorem Bd.same (b : Bd t) : opNe (tD t) (tD t) S = .ok (.bl false) S := ne_same b.fine.ok (tD_noDct t) (by rw [tD_dp]; have := b.ht; omega)
theorem Bd.sameE (b : Bd t) : opEq (tD t) (tD t) S = .ok (.bl true) S := by rw [b.eq b, eqD_refl b.fine.ok (tD_noDct t)]
theorem need_ok (b : Bd t) : m_need_term [tD t] S = .ok .non S := by
  unfold m_need_term
  rw [fnB1]
  simp [b_need_term, b.isT]
theorem need_no {d : Dt} (h : m_is_term [d] S = .ok (.bl false) S) : m_need_term [d] S = .exc "NoTerm" [("found", d)] S := by
  unfold m_need_term
  rw [fnB1]
  simp [b_need_term, h]
theorem place_ok {i : Int} (h0 : 0 ≤ i) (h : i ≤ 999) : m_need_place [.int i] S = .ok .non S := by
  have hw := is_whole_ok (d := .int i) (lo := 0) (hi := 999) S (decide_eq_true (by omega))
  have e : wholeB (.int i) 0 999 = true := by simp [wholeB, h0, h]
  unfold m_need_place
  rw [fnB1]
  simp [b_need_place, d_MOST_PLACE, hw, e]
theorem place_no {d : Dt} (h : m_is_whole [d, .int 0, .int 999] S = .ok (.bl false) S) : m_need_place [d] S = .exc "NoNumber" [("found", d)] S := by
  unfold m_need_place
  rw [fnB1]
  simp [b_need_place, d_MOST_PLACE, h]
theorem size_ok (b : Bd t) : m_size [tD t] S = .ok (.int (sz t)) S := by
  have : m_size_of [tD t] S = .ok (.int (sz t)) S := size_of_ok 66 S b.ok (by have := b.ht; omega)
  unfold m_size
  rw [fnB1]
  simp [b_size, need_ok b, this]
theorem raised_ok (b : Bd t) {y s : Int} (y0 : 0 ≤ y) (y1 : y ≤ 999) (s0 : 0 ≤ s) (s1 : s ≤ 999) : m_raised [tD t, .int y, .int s] S = .ok (tD (raiseT y t s)) S := by
  have e : m_raise_in [tD t, .int y, .int s] S = .ok (tD (raiseT y t s)) S := raise_in_ok 66 s S b.ok (by have := b.ht; omega)
  unfold m_raised
  rw [fnB3]
  simp [b_raised, need_ok b, place_ok (S := S) y0 y1, place_ok (S := S) s0 s1, e]
theorem giving_ok {o : DL.Tm} (b : Bd t) (bo : Bd o) {n : Int} (n0 : 0 ≤ n) (n1 : n ≤ 999) : m_giving [tD t, tD o, .int n] S = .ok (tD (giveT o n t 0)) S := by
  have e : m_give_in [tD t, tD o, .int n, .int 0] S = .ok (tD (giveT o n t 0)) S := give_in_ok bo.ok (by have := bo.ht; omega) 66 0 S b.ok (by have := b.ht; omega)
  unfold m_giving
  rw [fnB3]
  simp [b_giving, need_ok b, need_ok bo, place_ok (S := S) n0 n1, e]
theorem free_ok (hc : DL.Cl S) (b : Bd t) (hs : sz t ≤ 4000) : m_free [tD t] S = .ok (.lst ((freeT t).map Dt.int)) S := by
  have e : m_free_in [tD t] S = .ok (.lst ((freeT t).map Dt.int)) S := free_in_ok 66 S hc b.ok (by have := b.ht; omega) hs
  unfold m_free
  rw [fnB1]
  simp [b_free, need_ok b, e]
theorem lowered_ok (hc : DL.Cl S) (b : Bd t) (hs : sz t ≤ 4000) : m_lowered [tD t] S = .ok (if 0 ∈ freeT t then .non else tD (giveT (.at 0) 0 t 0)) S := by
  have e : m_free_in [tD t] S = .ok (.lst ((freeT t).map Dt.int)) S := free_in_ok 66 S hc b.ok (by have := b.ht; omega) hs
  have g : m_give_in [tD t, .tup [.str "at", .int 0], .int 0, .int 0] S = .ok (tD (giveT (.at 0) 0 t 0)) S := give_in_ok (mo := 1) (o := .at 0) ⟨by omega, by omega⟩ (by decide) 66 0 S b.ok (by have := b.ht; omega)
  have l : m_lower_in [tD t] S = .ok (if 0 ∈ freeT t then .non else tD (giveT (.at 0) 0 t 0)) S := by
    unfold m_lower_in
    rw [fnB1]
    by_cases h0 : 0 ∈ freeT t
    · simp [b_lower_in, e, opIn_lints, h0]
    · simp [b_lower_in, e, opIn_lints, h0, g]
  unfold m_lowered
  rw [fnB1]
  simp [b_lowered, need_ok b, l]
theorem applied_loop {a c : Dt} : ∀ (l : List DL.Tm) (x : Option DX), (∀ u ∈ l, Bd u) → ∃ y, forL (gN 2) L_applied_0 (l.map tD) [some (.vl a), some (.vl c), x] S = .nx [some (.vl a), some (.vl c), y] S
  | [], x, _ => ⟨x, rfl⟩
  | u :: l, x, h => by
    obtain ⟨y, e⟩ := applied_loop (a := a) (c := c) l (some (.vl (tD u))) fun v hv => h v (by simp [hv])
    refine ⟨y, ?_⟩
    rw [List.map_cons, forL_N]
    simp [L_applied_0, need_ok (h u (by simp))]
    exact e
theorem apply_loop {a c : Dt} : ∀ (l : List DL.Tm) (h : DL.Tm) (x : Option DX), ∃ y, forL (gN 3) L_apply_to_0 (l.map tD) [some (.vl a), some (.vl c), some (.vl (tD h)), x] S = .nx [some (.vl a), some (.vl c), some (.vl (tD (applyT h l))), y] S
  | [], h, x => ⟨x, rfl⟩
  | u :: l, h, x => by
    obtain ⟨y, e⟩ := apply_loop (a := a) (c := c) l (appT h u) (some (.vl (tD u)))
    refine ⟨y, ?_⟩
    rw [List.map_cons, forL_N]
    simp [L_apply_to_0]
    exact e
theorem applied_ok {l : List DL.Tm} (b : Bd t) (h : ∀ u ∈ l, Bd u) : m_applied [tD t, .lst (l.map tD)] S = .ok (tD (applyT t l)) S := by
  have e : m_apply_to [tD t, .lst (l.map tD)] S = .ok (tD (applyT t l)) S := by
    obtain ⟨y, e⟩ := apply_loop (S := S) (a := tD t) (c := .lst (l.map tD)) l t none
    unfold m_apply_to
    rw [fnB2]
    simp [b_apply_to, e]
  obtain ⟨y, e2⟩ := applied_loop (S := S) (a := tD t) (c := .lst (l.map tD)) l none h
  unfold m_applied
  rw [fnB2]
  simp [b_applied, need_ok b, subTy, e2, e]
theorem open_while {a : Dt} : ∀ (cur : DL.Tm) (acc : List Dt) (fu : Nat), Ok 1000000 cur → ht cur + 1 ≤ fu → acc.length + ht cur ≤ 1000 →
    whileL (tVal (cBin opEq (cBin opIx (cVar 2) (cC (.int 0))) (cC (.str "app")))) (sSeq (sExpr (cMeth .lst opInsert (cVar 1) (cCons (cC (.int 0)) (cCons (cBin opIx (cVar 2) (cC (.int 2))) cNil)))) (sSet 2 (cBin opIx (cVar 2) (cC (.int 1))))) fu [some (.vl a), some (.vl (.ref S.length)), some (.vl (tD cur))] (S ++ [.lst acc])
      = .nx [some (.vl a), some (.vl (.ref S.length)), some (.vl (tD (openT cur).1))] (S ++ [.lst ((openT cur).2.map tD ++ acc)]) := by
  intro cur
  induction cur with
  | two g x y ihx ihy =>
    intro acc fu ho hf hl
    have e : ht (.two g x y) = max (ht x) (ht y) + 1 := rfl
    cases fu with
    | zero => omega
    | succ fu =>
      rw [whileL_succ]
      by_cases hg : g = "app"
      · have i2 : ∀ S, opIx (tD (.two g x y)) (.int 2) S = .ok (tD y) S := fun S => opIx_tup (j := 2) rfl
        have i1 : ∀ S, opIx (tD (.two g x y)) (.int 1) S = .ok (tD x) S := fun S => opIx_tup1
        have ho' : openT (.two g x y) = ((openT x).1, (openT x).2 ++ [y]) := by show (if g = "app" then _ else _) = _; rw [if_pos hg]
        have ih := ihx (tD y :: acc) fu ho.2.1 (by omega) (by simp; omega)
        rw [ho']
        have hg' : wd (.two g x y) = "app" := hg
        simp [ix0, hg', opEq_strs, kMeth1_at (recv_end (T := [])), i2, insert0_end (T := []) (show acc.length < 16777216 by omega), i1, ih]
      · have ho' : openT (.two g x y) = (.two g x y, []) := by show (if g = "app" then _ else _) = _; rw [if_neg hg]
        have hg' : decide (wd (.two g x y) = "app") = false := decide_eq_false hg
        rw [ho']
        simp [ix0, opEq_strs]
        rw [hg']
        simp
  | _ =>
    intro acc fu ho hf hl
    cases fu with
    | zero => omega
    | succ fu =>
      rw [whileL_succ]
      have hn := app_no ho (by intros; simp)
      simp [ix0, opEq_strs]
      rw [hn]
      simp [openT]
theorem opened_ok (hc : DL.Cl S) (b : Bd t) : m_opened [tD t] S = .ok (.tup [tD (openT t).1, .lst ((openT t).2.map tD)]) S := by
  have hw := open_while (S := S) (a := tD t) t [] 1000000 b.ok (by have := b.ht; omega) (by have := b.ht; simp; omega)
  rw [List.append_nil] at hw
  have hl : (openT t).2.length ≤ 63 := Nat.le_trans (open_len t) b.ht
  have e : m_open_up [tD t] S = .ok (.tup [tD (openT t).1, .lst ((openT t).2.map tD)]) S := by
    refine trim_ok (T := [.gone]) ?_ ?_ hc
    · rw [fnB1]
      have hf := freeze_end (S := S) (ds := (openT t).2.map tD) (T := [])
      simp [b_open_up, hw, hf]
    · show (closedD _ _ && (closedL _ _ && true)) = true
      rw [tD_closed, closed_tms]; rfl
  unfold m_opened
  rw [fnB1]
  simp [b_opened, need_ok b, e]
theorem gone_loop {m : Int} {a c : Dt} : ∀ (sp : List Nat) (p q : DL.Tm) (b : Int) (x : Option DX), Ok m p → atT p sp = some q → ∃ y, forL (gN 4) L_gone_to_0 (sp.map fun n : Nat => Dt.int (n : Int)) [some (.vl a), some (.vl c), some (.vl (tD p)), some (.vl (.int b)), x] S = .nx [some (.vl a), some (.vl c), some (.vl (tD q)), some (.vl (.int (b + bindT p sp))), y] S
  | [], p, q, b, x, ho, e => by
    cases e
    exact ⟨x, by simp [bindT]⟩
  | n :: sp, p, q, b, x, ho, e => by
    obtain ⟨k, h1, h2⟩ := Option.bind_eq_some_iff.mp e
    have hn : n < (kids p).length := (List.getElem?_eq_some_iff.mp h1).1
    obtain ⟨y, e2⟩ := gone_loop (a := a) (c := c) sp k q (b + bi p n) (some (.vl (.int (n : Int)))) (kids_Ok ho k (List.mem_of_getElem? h1)) h2
    have hb : bindT p (n :: sp) = bi p n + bindT k sp := by show _ + (match (kids p)[n]? with | some k => bindT k sp | none => 0) = _; rw [h1]
    refine ⟨y, ?_⟩
    have hix : opIx (.lst ((kids p).map tD)) (.int (n : Int)) S = .ok (tD k) S := opIx_lst (by rw [List.getElem?_map, h1]; rfl)
    have hcmp : decide ((kids p).length ≤ n) = false := decide_eq_false (by omega)
    rw [List.map_cons, forL_N]
    simp [L_gone_to_0, inner_ok ho]
    rw [hcmp]
    simp [ev_aug, binds_ok ho, inner_ok ho, hix]
    rw [hb, ← Int.add_assoc]
    exact e2
theorem spt_fine {t : DL.Tm} {sp : List Nat} (h : sp ∈ spotsT t) (hh : ht t ≤ 63) : Fine (sptD sp) ∧ spotB (sptD sp) = true ∧ dpD (sptD sp) ≤ 1 ∧ wtD (sptD sp) ≤ 121 * 63 := by
  obtain ⟨h1, h2⟩ := spots_ht h
  have o : okL (sp.map fun n : Nat => Dt.int (n : Int)) = true := by
    rw [okL_all, List.all_eq_true]
    intro d hd
    obtain ⟨n, hn, rfl⟩ := List.mem_map.mp hd
    have := h2 n hn
    exact decide_eq_true (by omega)
  have w : wtL (sp.map fun n : Nat => Dt.int (n : Int)) ≤ 121 * sp.length := by
    have := wtL_sum 120 (sp.map fun n : Nat => Dt.int (n : Int)) (fun d hd => by obtain ⟨n, hn, rfl⟩ := List.mem_map.mp hd; exact Nat.le_refl _)
    simpa using this
  refine ⟨⟨o, ?_⟩, ?_, ?_, ?_⟩
  · show wtL _ ≤ 10000000; omega
  · show (sp.map fun n : Nat => Dt.int (n : Int)).all numB = true
    rw [List.all_eq_true]
    intro d hd
    obtain ⟨n, hn, rfl⟩ := List.mem_map.mp hd
    show decide (0 ≤ (n : Int)) = true
    simp
  · show dpL _ + 1 ≤ 1
    have := dpL_le (n := 0) (sp.map fun n : Nat => Dt.int (n : Int)) (fun d hd => by obtain ⟨n, hn, rfl⟩ := List.mem_map.mp hd; exact Nat.le_refl _)
    omega
  · show wtL _ ≤ 121 * 63; omega
theorem gone_ok {t' q : DL.Tm} {sp : List Nat} (b : Bd t) (hs : sp ∈ spotsT t') (hh : ht t' ≤ 63) (e : atT t sp = some q) : m_gone_to [tD t, sptD sp] S = .ok (.tup [tD q, .int (bindT t sp)]) S := by
  obtain ⟨f1, f2, _, _⟩ := spt_fine hs hh
  have hsp := is_spot_ok S f1
  obtain ⟨y, hl⟩ := gone_loop (S := S) (a := tD t) (c := sptD sp) sp t q 0 none b.ok e
  rw [Int.zero_add] at hl
  unfold m_gone_to
  rw [fnB2]
  have hk : kIt (sptD sp) S = .ok (sp.map fun n : Nat => Dt.int (n : Int)) S := rfl
  simp [b_gone_to, hsp, f2, hk, hl]
theorem part_ok {t' q : DL.Tm} {sp : List Nat} (b : Bd t) (hs : sp ∈ spotsT t') (hh : ht t' ≤ 63) (e : atT t sp = some q) : m_part_at [tD t, sptD sp] S = .ok (tD q) S := by
  unfold m_part_at
  rw [fnB2]
  simp [b_part_at, need_ok b, gone_ok b hs hh e]
theorem with_ref {T : Store} {ds : List Dt} (hl : ds.length ≤ 100) : m_with_parts [tD t, .ref S.length] (S ++ .lst ds :: T) = .ok (.tup (.str (wd t) :: ds)) (S ++ .lst ds :: T) := by
  have h : opTuple [.ref S.length] (S ++ MO.lst ds :: T) = .ok (.tup ds) (S ++ MO.lst ds :: T) := by
    have e := asList_ref (at_end (S := S) (ds := ds) (T := T))
    simp only [opTuple, asSeq, e]
  unfold m_with_parts
  rw [fnB2]
  simp [b_with_parts, ix0, h]
  rw [okTup_ok (by simp; omega)]
  rfl
theorem inner_o (hc : DL.Cl S) {m : Int} (ho : Ok m t) : m_inner__o [tD t] S = .ok (.ref S.length) (S ++ [.lst ((kids t).map tD)]) := by
  have h : fnBody 1 0 b_inner__o [tD t] S = .ok (.ref S.length) (S ++ [.lst ((kids t).map tD)]) := by
    rw [fnB1]
    obtain ⟨f, h1, h2, _, _⟩ := wd_facts t ho
    have q0 : d_FORMS = .dct (forms.map fun p => (Sum.inr p.1, Dt.str p.2)) := rfl
    have hx : lookD (forms.map fun p => (Sum.inr p.1, Dt.str p.2)) (.inr (wd t)) = some (.str f) := by rw [look_forms, h1]; rfl
    have hin : opIn (.str "t") (.str f) S = .ok (.bl (!(kids t).isEmpty)) S := by rw [← h2]; rfl
    cases hk : (kids t).isEmpty with
    | true =>
      have : kids t = [] := List.isEmpty_iff.mp hk
      simp [b_inner__o, ix0, q0, opIx_dct hx, hin, hk, this]
    | false =>
      have := ar_kids t ho hk
      simp [b_inner__o, ix0, q0, opIx_dct hx, hin, hk]
      rw [tD_eq, this]
      simp [cut_tail]
  exact trim_ref h rfl (Nat.le_refl _) (by simp) (closed_tms _ _) hc
theorem put_ok {o : DL.Tm} : ∀ (sp : List Nat) (fu : Nat) (t q : DL.Tm) (S : Store), DL.Cl S → Ok 1000000 t → Ok 1000000 o → atT t sp = some q → sp.length + 1 ≤ fu → n_put_at fu [tD t, sptD sp, tD o] S = .ok (tD (putT t sp o)) S
  | _, 0, _, _, _, _, _, _, _, h => by omega
  | [], fu + 1, t, q, S, hc, ho, hoo, e, hf => by
    unfold n_put_at
    refine trim_ok (T := []) ?_ (tD_closed _ _) hc
    rw [fnB3]
    have hq : opEq (sptD []) (.tup []) S = .ok (.bl true) S := rfl
    simp [b_put_at, hq, putT]
  | n :: sp, fu + 1, t, q, S, hc, ho, hoo, e, hf => by
    obtain ⟨k, h1, h2⟩ := Option.bind_eq_some_iff.mp e
    have hn : n < (kids t).length := (List.getElem?_eq_some_iff.mp h1).1
    have hkl := kids_len t
    have hne : kids t ≠ [] := by intro z; rw [z] at hn; simp at hn
    have c1 : DL.Cl (S ++ [.lst ((kids t).map tD)]) := hc.push (closed_tms _ _)
    have ih := put_ok (o := o) sp fu k q (S ++ [.lst ((kids t).map tD)]) c1 (kids_Ok ho k (List.mem_of_getElem? h1)) hoo h2 (by simp at hf; omega)
    have e1 : putT t (n :: sp) o = withK t ((kids t).set n (putT k sp o)) := by
      show (match (kids t)[n]? with | some k => withK t ((kids t).set n (putT k sp o)) | none => t) = _
      rw [h1]
    unfold n_put_at
    refine trim_ok (T := [.lst (((kids t).map tD).set n (tD (putT k sp o)))]) ?_ (tD_closed _ _) hc
    rw [fnB3]
    have hq : opEq (sptD (n :: sp)) (.tup []) S = .ok (.bl false) S := rfl
    have i0 : ∀ S, opIx (sptD (n :: sp)) (.int 0) S = .ok (.int (n : Int)) S := fun S => opIx_tup0
    have ik : opIx (.ref S.length) (.int (n : Int)) (S ++ [.lst ((kids t).map tD)]) = .ok (tD k) (S ++ [.lst ((kids t).map tD)]) := ix_end (T := []) (by rw [List.getElem?_map, h1]; rfl)
    have sl : ∀ S, kSl (sptD (n :: sp)) (some 1) none S = .ok (sptD sp) S := fun S => by
      show kSl (.tup (Dt.int (n : Int) :: sp.map fun n : Nat => Dt.int (n : Int))) (some 1) none S = _
      rw [kSl_tup, cut_tail]; rfl
    have st : ∀ env, kSetIx (.ref S.length) (.int (n : Int)) (tD (putT k sp o)) env (S ++ [.lst ((kids t).map tD)]) = .nx env (S ++ [.lst (((kids t).map tD).set n (tD (putT k sp o)))]) := fun env => setix_end (T := []) (by simpa using hn)
    have wr := with_ref (t := t) (S := S) (T := []) (ds := ((kids t).map tD).set n (tD (putT k sp o))) (by simp; omega)
    simp [b_put_at, hq, inner_o hc ho, i0, ik, sl, ih, st, wr]
    rw [e1, withK_tD (by simp) hne, List.map_set]
theorem changed_ok {t' q o : DL.Tm} {sp : List Nat} (hc : DL.Cl S) (b : Bd t) (bo : Bd o) (hs : sp ∈ spotsT t') (hh : ht t' ≤ 63) (e : atT t sp = some q) : m_changed [tD t, sptD sp, tD o] S = .ok (tD (putT t sp o)) S := by
  have hp : m_put_at [tD t, sptD sp, tD o] S = .ok (tD (putT t sp o)) S := put_ok sp 66 t q S hc b.ok bo.ok e (by have := (spots_ht hs).1; omega)
  unfold m_changed
  first | rw [fnB3] | skip
  simp [b_changed, need_ok b, gone_ok b hs hh e, need_ok bo, hp]
theorem spots_step {r : List Dt → Store → Out Dt} {T p : DL.Tm} {i : Nat} {acc : List Dt} {x4 : Option DX} (hr : r [tD p] (S ++ [.lst acc]) = .ok (.lst ((spotsT p).map sptD)) (S ++ [.lst acc])) (hp : ht p ≤ 100) (hl : acc.length + (spotsT p).length ≤ 100000) :
    L_spots_in_0 r [some (.vl (tD T)), some (.vl (.ref S.length)), some (.vl (.int (i : Int))), some (.vl (tD p)), x4] (S ++ [.lst acc]) = .nx [some (.vl (tD T)), some (.vl (.ref S.length)), some (.vl (.int (i : Int))), some (.vl (tD p)), x4] (S ++ [.lst (acc ++ (spotsT p).map fun sp => sptD (i :: sp))]) := by
  have hk : ∀ x0 x1 x3, kComp (gN 4) tYesD (cBin opAdd (cTup (cCons (cVar 2) cNil)) (cVar 4)) [x0, x1, some (.vl (.int (i : Int))), x3, none] ((spotsT p).map sptD) (S ++ [.lst acc]) = .ok ((spotsT p).map fun sp => sptD (i :: sp)) (S ++ [.lst acc]) := by
    intro x0 x1 x3
    refine kComp_map _ _ _ (by omega) fun sp hsp => ⟨_, rfl, rfl, ?_⟩
    have hlen : (sp.map fun n : Nat => Dt.int (n : Int)).length ≤ 100 := by
      have := (spots_ht hsp).1
      simp; omega
    have ha : ∀ S, opAdd (.tup [.int (i : Int)]) (sptD sp) S = .ok (sptD (i :: sp)) S := fun S => by
      show okTup ([Dt.int (i : Int)] ++ sp.map fun n : Nat => Dt.int (n : Int)) S = _
      rw [okTup_ok (by simp at hlen ⊢; omega)]; rfl
    simp [ha]
  have he := extend_end (S := S) (ds := acc) (T := []) (ys := (spotsT p).map fun sp => sptD (i :: sp)) (by simp; omega)
  unfold L_spots_in_0
  simp [kMeth1_at (recv_end (T := [])), hr, hk, he]
theorem spots_in_ok {m : Int} : ∀ (fu : Nat) {t : DL.Tm} (S : Store), DL.Cl S → Ok m t → ht t + 1 ≤ fu → ht t ≤ 100 → sz t ≤ 90000 → n_spots_in fu [tD t] S = .ok (.lst ((spotsT t).map sptD)) S
  | 0, _, _, _, _, h, _, _ => by omega
  | fu + 1, t, S, hc, h, hf, hh, hz => by
    unfold n_spots_in
    have clo : ∀ (n : Nat) (L : List (List Nat)), closedL n (L.map sptD) = true := by
      intro n L
      induction L with
      | nil => rfl
      | cons x xs ih =>
        show (closedL n _ && closedL n _) = true
        have : ∀ ys : List Nat, closedL n (ys.map fun n : Nat => Dt.int (n : Int)) = true := by
          intro ys
          induction ys with
          | nil => rfl
          | cons y ys ih => exact ih
        rw [this, ih]; rfl
    have cc : ∀ L : List (List Nat), DL.Cl (S ++ [.lst (L.map sptD)]) := fun L => hc.push (clo _ _)
    have inn : ∀ S, m_inner [tD t] S = .ok (.lst ((kids t).map tD)) S := fun S => inner_ok h
    have l1 : ∀ t, (spotsT t).length = sz t := spots_len
    cases t with
    | two g a b =>
      have e : ht (.two g a b) = max (ht a) (ht b) + 1 := rfl
      have e' : sz (.two g a b) = sz a + sz b + 1 := rfl
      have s1 := fun x4 => spots_step (S := S) (r := n_spots_in fu) (T := .two g a b) (p := a) (i := 0) (acc := [sptD []]) (x4 := x4) (spots_in_ok fu _ (cc [[]]) h.2.1 (by omega) (by omega) (by omega)) (by omega) (by rw [l1]; simp; omega)
      have c2 : DL.Cl (S ++ [.lst ([sptD []] ++ (spotsT a).map fun sp => sptD (0 :: sp))]) := by
        have := cc ([] :: (spotsT a).map (0 :: ·))
        rw [List.map_cons, List.map_map] at this
        exact this
      have s2 := fun x4 => spots_step (S := S) (r := n_spots_in fu) (T := .two g a b) (p := b) (i := 1) (x4 := x4) (spots_in_ok fu _ c2 h.2.2 (by omega) (by omega) (by omega)) (by omega) (by rw [l1]; simp [l1]; omega)
      refine trim_ok (T := [.gone]) ?_ (clo _ (spotsT (.two g a b))) hc
      rw [fnB1]
      have s1' : ∀ x4, L_spots_in_0 (n_spots_in fu) [some (.vl (tD (.two g a b))), some (.vl (.ref S.length)), some (.vl (.int 0)), some (.vl (tD a)), x4] (S ++ [.lst [.tup []]]) = _ := s1
      have s2' : ∀ x4, L_spots_in_0 (n_spots_in fu) [some (.vl (tD (.two g a b))), some (.vl (.ref S.length)), some (.vl (.int 1)), some (.vl (tD b)), x4] (S ++ [.lst ([sptD []] ++ (spotsT a).map fun sp => sptD (0 :: sp))]) = _ := s2
      have hfz := freeze_end (S := S) (ds := [sptD []] ++ ((spotsT a).map fun sp => sptD (0 :: sp)) ++ ((spotsT b).map fun sp => sptD (1 :: sp))) (T := [])
      have hfin : (spotsT (.two g a b)).map sptD = [sptD []] ++ ((spotsT a).map fun sp => sptD (0 :: sp)) ++ ((spotsT b).map fun sp => sptD (1 :: sp)) := by
        show sptD [] :: ((spotsT a).map (0 :: ·) ++ (spotsT b).map (1 :: ·)).map sptD = _
        rw [List.map_append, List.map_map, List.map_map]; rfl
      rw [hfin]
      simp only [b_spots_in, ev_seq, nv_set, nv_own, ev_dispL, nv_cons, ev_tup, ev_nil, bind_ok, okTup_ok (show ([] : List Dt).length ≤ 16777216 by decide), kCons1_at, kCons2_at, kDispL_ok (show [Dt.tup []].length ≤ 16777216 by decide), kOwnL_at, sOut_ok, kSet_at, List.replicate, List.set_cons_succ, List.set_cons_zero, kSeq_nx, nv_for, ev_enum, nv_call, ev_var, slot_0, kCall_at, List.append_nil, inn, kids, List.map_cons, List.map_nil, kEnum_at, enumD, kFor_at, forL_2, Int.natCast_zero, s1', kLoop_nx]
      rw [show ((0 + 1 : Nat) : Int) = 1 from rfl, s2']
      simp only [kLoop_nx, forL_nil, kSeq_nx, nv_ret, ev_frz, ev_var, slot_s, slot_0, bind_ok, hfz, sOut_ok, kRet_at, kFn_rt]
    | three g a b c =>
      have e : ht (.three g a b c) = max (ht a) (max (ht b) (ht c)) + 1 := rfl
      have e' : sz (.three g a b c) = sz a + sz b + sz c + 1 := rfl
      have s1 := fun x4 => spots_step (S := S) (r := n_spots_in fu) (T := .three g a b c) (p := a) (i := 0) (acc := [sptD []]) (x4 := x4) (spots_in_ok fu _ (cc [[]]) h.2.1 (by omega) (by omega) (by omega)) (by omega) (by rw [l1]; simp; omega)
      have c2 : DL.Cl (S ++ [.lst ([sptD []] ++ (spotsT a).map fun sp => sptD (0 :: sp))]) := by
        have := cc ([] :: (spotsT a).map (0 :: ·))
        rw [List.map_cons, List.map_map] at this
        exact this
      have s2 := fun x4 => spots_step (S := S) (r := n_spots_in fu) (T := .three g a b c) (p := b) (i := 1) (x4 := x4) (spots_in_ok fu _ c2 h.2.2.1 (by omega) (by omega) (by omega)) (by omega) (by rw [l1]; simp [l1]; omega)
      have c3 : DL.Cl (S ++ [.lst ([sptD []] ++ ((spotsT a).map fun sp => sptD (0 :: sp)) ++ ((spotsT b).map fun sp => sptD (1 :: sp)))]) := by
        have := cc ([] :: ((spotsT a).map (0 :: ·) ++ (spotsT b).map (1 :: ·)))
        rw [List.map_cons, List.map_append, List.map_map, List.map_map] at this
        exact this
      have s3 := fun x4 => spots_step (S := S) (r := n_spots_in fu) (T := .three g a b c) (p := c) (i := 2) (x4 := x4) (spots_in_ok fu _ c3 h.2.2.2 (by omega) (by omega) (by omega)) (by omega) (by rw [l1]; simp [l1]; omega)
      refine trim_ok (T := [.gone]) ?_ (clo _ (spotsT (.three g a b c))) hc
      rw [fnB1]
      have s1' : ∀ x4, L_spots_in_0 (n_spots_in fu) [some (.vl (tD (.three g a b c))), some (.vl (.ref S.length)), some (.vl (.int 0)), some (.vl (tD a)), x4] (S ++ [.lst [.tup []]]) = _ := s1
      have s2' : ∀ x4, L_spots_in_0 (n_spots_in fu) [some (.vl (tD (.three g a b c))), some (.vl (.ref S.length)), some (.vl (.int 1)), some (.vl (tD b)), x4] (S ++ [.lst ([sptD []] ++ (spotsT a).map fun sp => sptD (0 :: sp))]) = _ := s2
      have s3' : ∀ x4, L_spots_in_0 (n_spots_in fu) [some (.vl (tD (.three g a b c))), some (.vl (.ref S.length)), some (.vl (.int 2)), some (.vl (tD c)), x4] (S ++ [.lst ([sptD []] ++ ((spotsT a).map fun sp => sptD (0 :: sp)) ++ ((spotsT b).map fun sp => sptD (1 :: sp)))]) = _ := s3
      have hfz := freeze_end (S := S) (ds := [sptD []] ++ ((spotsT a).map fun sp => sptD (0 :: sp)) ++ ((spotsT b).map fun sp => sptD (1 :: sp)) ++ ((spotsT c).map fun sp => sptD (2 :: sp))) (T := [])
      have hfin : (spotsT (.three g a b c)).map sptD = [sptD []] ++ ((spotsT a).map fun sp => sptD (0 :: sp)) ++ ((spotsT b).map fun sp => sptD (1 :: sp)) ++ ((spotsT c).map fun sp => sptD (2 :: sp)) := by
        show sptD [] :: ((spotsT a).map (0 :: ·) ++ (spotsT b).map (1 :: ·) ++ (spotsT c).map (2 :: ·)).map sptD = _
        rw [List.map_append, List.map_append, List.map_map, List.map_map, List.map_map]; rfl
      rw [hfin]
      simp only [b_spots_in, ev_seq, nv_set, nv_own, ev_dispL, nv_cons, ev_tup, ev_nil, bind_ok, okTup_ok (show ([] : List Dt).length ≤ 16777216 by decide), kCons1_at, kCons2_at, kDispL_ok (show [Dt.tup []].length ≤ 16777216 by decide), kOwnL_at, sOut_ok, kSet_at, List.replicate, List.set_cons_succ, List.set_cons_zero, kSeq_nx, nv_for, ev_enum, nv_call, ev_var, slot_0, kCall_at, List.append_nil, inn, kids, List.map_cons, List.map_nil, kEnum_at, enumD, kFor_at, forL_2, Int.natCast_zero, s1', kLoop_nx]
      rw [show ((0 + 1 : Nat) : Int) = 1 from rfl, s2', kLoop_nx, forL_2]
      simp only [List.set_cons_succ, List.set_cons_zero]
      rw [show ((0 + 1 + 1 : Nat) : Int) = 2 from rfl, s3']
      simp only [kLoop_nx, forL_nil, kSeq_nx, nv_ret, ev_frz, ev_var, slot_s, slot_0, bind_ok, hfz, sOut_ok, kRet_at, kFn_rt]
    | _ =>
      have hfz := freeze_end (S := S) (ds := [Dt.tup []]) (T := [])
      refine trim_ok (T := [.gone]) ?_ (clo _ [[]]) hc
      rw [fnB1]
      simp [b_spots_in, inn, kids, enumD, hfz]
      rfl
theorem spots_ok (hc : DL.Cl S) (b : Bd t) : m_spots [tD t] S = .ok (.lst ((spotsT t).map sptD)) S := by
  have e : m_spots_in [tD t] S = .ok (.lst ((spotsT t).map sptD)) S := spots_in_ok 66 S hc b.ok (by have := b.ht; omega) (by have := b.ht; omega) (by have := b.sz; omega)
  unfold m_spots
  rw [fnB1]
  simp [b_spots, need_ok b, e]
end
end K04

set_option Elab.async false
set_option linter.all false
set_option maxRecDepth 1000000
set_option maxHeartbeats 4000000
namespace K04
open PySem PySem.Spec PyProof.Rows L2 DL
/-- a drawn term -/
structure Dr (m : Int) (h s : Nat) (t : DL.Tm) : Prop where
  ok : Ok m t
  ht : ht t ≤ h
  sz : sz t ≤ s
theorem Dr.bd {m : Int} {h s : Nat} {t : DL.Tm} (d : Dr m h s t) (hm : m ≤ 1000000) (hh : h ≤ 63) (hs : s ≤ 60000) : Bd t := ⟨d.ok.mono hm, by have := d.ht; omega, by have := d.sz; omega⟩
theorem raise_bd {m : Int} {t : DL.Tm} {y : Int} (s : Int) (ho : Ok m t) (y0 : 0 ≤ y) (hm : m + y ≤ 1000000) (hh : ht t ≤ 63) (hs : sz t ≤ 60000) : Bd (raiseT y t s) := ⟨(Ok_raise y0 t s ho).mono hm, by rw [ht_raise]; exact hh, by rw [sz_raise]; exact hs⟩
section
variable {S : Store}
theorem okL_ints' {L : List Int} (h : ∀ x ∈ L, 0 ≤ x ∧ x < 1000000) : okL (L.map Dt.int) = true := by
  rw [okL_all, List.all_eq_true]
  intro d hd
  obtain ⟨x, hx, rfl⟩ := List.mem_map.mp hd
  have := h x hx
  exact decide_eq_true (by omega)
theorem ne_spots {t : DL.Tm} (hh : ht t ≤ 63) : opNe (.lst ((spotsT t).map sptD)) (.lst ((spotsT t).map sptD)) S = .ok (.bl false) S := by
  have a : ∀ d ∈ (spotsT t).map sptD, okD d = true ∧ noDct d = true ∧ dpD d ≤ 1 := by
    intro d hd
    obtain ⟨sp, hsp, rfl⟩ := List.mem_map.mp hd
    obtain ⟨f1, f2, f3, f4⟩ := spt_fine hsp hh
    refine ⟨f1.ok, ?_, f3⟩
    show noDctL _ = true
    rw [noDctL_all, List.all_eq_true]
    intro d hd
    obtain ⟨n, hn, rfl⟩ := List.mem_map.mp hd
    rfl
  refine ne_same ?_ ?_ ?_
  · show okL _ = true
    rw [okL_all, List.all_eq_true]; exact fun d hd => (a d hd).1
  · show noDctL _ = true
    rw [noDctL_all, List.all_eq_true]; exact fun d hd => (a d hd).2.1
  · have := dpL_le (n := 1) _ fun d hd => (a d hd).2.2
    show dpL _ + 1 ≤ 200; omega
theorem raising_ok {t : DL.Tm} {low more : Int} (hc : DL.Cl S) (d : Dr 1000 57 256 t) (l0 : 0 ≤ low) (l1 : low ≤ 900) (m0 : 0 ≤ more) (m1 : more ≤ 900) : m__law_raising_right [tD t, .int low, .int more] S = .ok (.bl true) S := by
  have hh := d.ht
  have hs := d.sz
  have b : Bd t := d.bd (by omega) (by omega) (by omega)
  have bh : Bd (raiseT more t low) := raise_bd low d.ok m0 (by omega) (by omega) (by omega)
  have b0 := raised_ok (S := S) b (y := 0) (s := low) (by omega) (by omega) l0 (by omega)
  rw [raise_0] at b0
  have b1 := raised_ok (S := S) b m0 (by omega) l0 (by omega)
  have b2 := raised_ok (S := S) bh (y := 2) (s := low) (by omega) (by omega) l0 (by omega)
  rw [raise_raise more 2 m0] at b2
  have b3 := raised_ok (S := S) b (y := more + 2) (s := low) (by omega) (by omega) l0 (by omega)
  have bb : Bd (raiseT (more + 2) t low) := raise_bd low d.ok (by omega) (by omega) (by omega) (by omega)
  have bn : Bd (raiseT 1 t low) := raise_bd low d.ok (by omega) (by omega) (by omega) (by omega)
  have b4 := raised_ok (S := S) b (y := 1) (s := low) (by omega) (by omega) l0 (by omega)
  have b5 := raised_ok (S := S) bn (y := more) (s := low + 1) m0 (by omega) (by omega) (by omega)
  have b6 := raised_ok (S := S) bh (y := 1) (s := low) (by omega) (by omega) l0 (by omega)
  rw [raise_swap m0 (by omega) t (Int.le_refl low)] at b5
  have bl : Bd (raiseT 1 (raiseT more t low) low) := raise_bd low (Ok_raise m0 t low d.ok) (by omega) (by omega) (by rw [ht_raise]; omega) (by rw [sz_raise]; omega)
  have s1 := spots_ok hc bh
  rw [spots_raise] at s1
  have s2 := spots_ok hc b
  have z1 := size_ok (S := S) bh
  rw [sz_raise] at z1
  have z2 := size_ok (S := S) b
  have f1 := free_ok hc bh (by rw [sz_raise]; omega)
  rw [free_raised_eq m0 l0] at f1
  obtain ⟨L, hL⟩ : ∃ L, L = (freeT t).map fun p => p + more * (if low ≤ p then 1 else 0) := ⟨_, rfl⟩
  rw [← hL] at f1
  have f2 := free_ok hc b (by omega)
  have fl := freeT_len t
  have fk : ∀ x0 x3 x4, kComp (gN 5) tYesD (cBin opAdd (cVar 5) (cBin opMul (cVar 2) (cApp opInt (cCons (cBin opGe (cVar 5) (cVar 1)) cNil)))) [x0, some (.vl (.int low)), some (.vl (.int more)), x3, x4, none] ((freeT t).map Dt.int) S = .ok (L.map Dt.int) S := by
    intro x0 x3 x4
    rw [hL, List.map_map]
    refine kComp_map Dt.int _ _ (by omega) fun p hp => ⟨_, rfl, rfl, ?_⟩
    by_cases h : low ≤ p <;> simp [opMul_ok (S := S) (i := more) (by omega) (by omega), h]
  have fn : opNe (.lst (L.map Dt.int)) (.lst (L.map Dt.int)) S = .ok (.bl false) S := by
    refine ne_same (okL_ints' ?_) (noDct_ints _) (by have := dp_ints L; show dpL _ + 1 ≤ 200; omega)
    intro x hx
    rw [hL] at hx
    obtain ⟨p, hp, rfl⟩ := List.mem_map.mp hx
    have := free_bd d.ok hp
    split <;> omega
  unfold m__law_raising_right
  rw [fnB3]
  simp [b__law_raising_right, b1, b0, b.same, b2, b3, bb.same, s1, s2, ne_spots b.ht, z1, z2, f1, f2, fk, fn, b4, b5, b6, bl.sameE]
theorem giving_right_ok {one two three : DL.Tm} {low : Int} (hc : DL.Cl S) (d : Dr 4 57 172 one) (d2 : Dr 4 2 16 two) (d3 : Dr 4 2 16 three) (l0 : 0 ≤ low) (l1 : low ≤ 900) : m__law_giving_right [tD one, tD two, tD three, .int low] S = .ok (.bl true) S := by
  have hh := d.ht
  have hs := d.sz
  have b : Bd one := d.bd (by omega) (by omega) (by omega)
  have b2 : Bd two := d2.bd (by omega) (by omega) (by omega)
  have b3 : Bd three := d3.bd (by omega) (by omega) (by omega)
  have br : Bd (raiseT 1 one low) := raise_bd low d.ok (by omega) (by omega) (by omega) (by omega)
  have e1 := raised_ok (S := S) b (y := 1) (s := low) (by omega) (by omega) l0 (by omega)
  have e2 := giving_ok (S := S) br b2 l0 (by omega)
  rw [give_raise two one low 0 low (by omega)] at e2
  have gb : ∀ {a o : DL.Tm} {m : Int} {h1 h2 z1 z2 : Nat} (n : Int), 0 ≤ n → Dr m h1 z1 a → Dr m h2 z2 o → Dr (m + h1) (h1 + h2) (z1 * z2) (giveT o n a 0) := by
    intro a o m h1 h2 z1 z2 n n0 da dO
    obtain ⟨x1, x2, x3⟩ := give_ok n n0 (Int.le_refl m) dO.ok a 0 (by omega) da.ok
    have y1 := da.ht
    have y2 := dO.ht
    exact ⟨x1.mono (by omega), by omega, Nat.le_trans x3 (Nat.mul_le_mul da.sz dO.sz)⟩
  have g1 := gb 0 (by omega) d d2
  have g1' : Dr 61 59 2752 (giveT two 0 one 0) := ⟨g1.ok.mono (by omega), by have := g1.ht; omega, by have := g1.sz; omega⟩
  have d3' : Dr 61 2 16 three := ⟨d3.ok.mono (by omega), d3.ht, d3.sz⟩
  have g2 := gb low l0 g1' d3'
  have bg1 : Bd (giveT two 0 one 0) := g1.bd (by omega) (by omega) (by omega)
  have bg2 : Bd (giveT three low (giveT two 0 one 0) 0) := ⟨g2.ok.mono (by omega), by have := g2.ht; omega, by have := g2.sz; omega⟩
  have e3 := giving_ok (S := S) b b2 (n := 0) (by omega) (by omega)
  have e4 := giving_ok (S := S) bg1 b3 l0 (by omega)
  have b3r : Bd (raiseT 1 three 0) := raise_bd 0 d3.ok (by omega) (by omega) (by have := d3.ht; omega) (by have := d3.sz; omega)
  have e5 := raised_ok (S := S) b3 (y := 1) (s := 0) (by omega) (by omega) (by omega) (by omega)
  have e6 := giving_ok (S := S) b b3r (n := low + 1) (by omega) (by omega)
  have d5 : Dr 5 57 172 one := ⟨d.ok.mono (by omega), d.ht, d.sz⟩
  have d3r : Dr 5 2 16 (raiseT 1 three 0) := ⟨Ok_raise (b := 1) (by omega) three 0 d3.ok, by rw [ht_raise]; exact d3.ht, by rw [sz_raise]; exact d3.sz⟩
  have g3 := gb (low + 1) (by omega) d5 d3r
  have bg3 : Bd (giveT (raiseT 1 three 0) (low + 1) one 0) := g3.bd (by omega) (by omega) (by omega)
  have g4 := gb low l0 d2 d3
  have bg4 : Bd (giveT three low two 0) := g4.bd (by omega) (by omega) (by omega)
  have e7 := giving_ok (S := S) b2 b3 l0 (by omega)
  have e8 := giving_ok (S := S) bg3 bg4 (n := 0) (by omega) (by omega)
  rw [← give_give two three one 0 low (by omega) l0 (d.ok.mono (by omega))] at e8
  have lo := lowered_ok hc b (by omega)
  have fr := free_ok hc b (by omega)
  unfold m__law_giving_right
  rw [fnB4]
  by_cases h0 : 0 ∈ freeT one
  · rw [if_pos h0] at lo
    have n1 : opIsNot .non .non S = .ok (.bl false) S := rfl
    have n2 : opIs .non .non S = .ok (.bl true) S := rfl
    have n3 : opEq (.bl true) (.bl true) S = .ok (.bl true) S := by rw [opEq_ok S rfl rfl rfl rfl (by decide)]; rfl
    simp [b__law_giving_right, e1, e2, b.same, e3, e4, e5, e6, e7, e8, bg2.same, lo, n1, n2, fr, opIn_lints, h0, n3]
  · rw [if_neg h0] at lo
    have hz : Ok 1 (DL.Tm.at 0) := ⟨by omega, by omega⟩
    obtain ⟨x1, x2, x3⟩ := give_ok (k := 4) (o := .at 0) 0 (by omega) (show (1 : Int) ≤ 4 by omega) hz one 0 (by omega) d.ok
    have x4 : ht (DL.Tm.at 0) = 0 := rfl
    have x5 : sz (DL.Tm.at 0) = 1 := rfl
    rw [x5, Nat.mul_one] at x3
    have bl : Bd (giveT (.at 0) 0 one 0) := ⟨x1.mono (by omega), by omega, by omega⟩
    have r1 := raised_ok (S := S) bl (y := 1) (s := 0) (by omega) (by omega) (by omega) (by omega)
    rw [raise_lower (.at 0) one 0 (by omega) h0] at r1
    have r2 := giving_ok (S := S) b b3 (n := 0) (by omega) (by omega)
    rw [give_none three (.at 0) one 0 (by omega) h0] at r2
    have isn : ∀ t : DL.Tm, isP (tD t) .non = some false := fun t => by cases t <;> rfl
    have n1 : opIsNot (tD (giveT (.at 0) 0 one 0)) .non S = .ok (.bl true) S := by unfold opIsNot; rw [isn]; rfl
    have n2 : opIs (tD (giveT (.at 0) 0 one 0)) .non S = .ok (.bl false) S := by unfold opIs; rw [isn]
    have n3 : opEq (.bl false) (.bl false) S = .ok (.bl true) S := by rw [opEq_ok S rfl rfl rfl rfl (by decide)]; rfl
    simp [b__law_giving_right, e1, e2, b.same, e3, e4, e5, e6, e7, e8, bg2.same, lo, n1, n2, r1, r2, bl.same, fr, opIn_lints, h0, n3]
theorem mem_sum {x : Nat} : ∀ {l : List Nat}, x ∈ l → x ≤ l.sum
  | y :: l, h => by
    rw [List.sum_cons]
    rcases List.mem_cons.mp h with rfl | h
    · omega
    · have := mem_sum h; omega
theorem ht_apply (h' h : DL.Tm) : ∀ l : List DL.Tm, ht (applyT h' l) ≤ ht h' + ht (applyT h l) := by
  have key : ∀ (n : Nat) (l : List DL.Tm), l.length = n → ht (applyT h' l) ≤ ht h' + ht (applyT h l) := by
    intro n
    induction n with
    | zero => intro l hl; have := List.length_eq_zero_iff.mp hl; subst this; show ht h' ≤ ht h' + ht h; omega
    | succ n ih =>
      intro l hl
      have hne : l ≠ [] := by intro z; rw [z] at hl; simp at hl
      have e := (List.dropLast_concat_getLast hne)
      rw [← e, applyT_snoc, applyT_snoc]
      have := ih l.dropLast (by simp; omega)
      show max _ _ + 1 ≤ ht h' + (max _ _ + 1)
      omega
  exact fun l => key _ l rfl
theorem sz_apply (h : DL.Tm) : ∀ l : List DL.Tm, sz (applyT h l) = sz h + (l.map fun u => sz u + 1).sum := by
  intro l
  induction l generalizing h with
  | nil => simp [applyT]
  | cons x l ih =>
    show sz (applyT (appT h x) l) = _
    rw [ih]
    show (sz h + sz x + 1) + _ = _
    simp; omega
theorem args_Ok {m : Int} : ∀ {t : DL.Tm}, Ok m t → Ok m (openT t).1 ∧ ∀ u ∈ (openT t).2, Ok m u
  | .two g a b, h => by
    unfold openT
    by_cases hg : g = "app"
    · rw [if_pos hg]
      obtain ⟨h1, h2⟩ := args_Ok h.2.1
      refine ⟨h1, fun u hu => ?_⟩
      rcases List.mem_append.mp hu with hu | hu
      · exact h2 u hu
      · simp at hu; subst hu; exact h.2.2
    · rw [if_neg hg]; exact ⟨h, by simp⟩
  | .at _, h | .kind _, h | .name _, h | .thing _, h | .maker _ _, h | .eater _ _, h | .three _ _ _ _, h => ⟨h, by simp [openT]⟩
theorem args_ht : ∀ {t : DL.Tm}, ht (openT t).1 ≤ ht t ∧ ∀ u ∈ (openT t).2, ht u ≤ ht t
  | .two g a b => by
    have e : ht (.two g a b) = max (ht a) (ht b) + 1 := rfl
    unfold openT
    by_cases hg : g = "app"
    · rw [if_pos hg]
      obtain ⟨h1, h2⟩ := args_ht (t := a)
      refine ⟨by show ht (openT a).1 ≤ _; omega, fun u hu => ?_⟩
      rcases List.mem_append.mp hu with hu | hu
      · have := h2 u hu; omega
      · simp at hu; subst hu; omega
    · rw [if_neg hg]; exact ⟨Nat.le_refl _, by simp⟩
  | .at _ | .kind _ | .name _ | .thing _ | .maker _ _ | .eater _ _ | .three _ _ _ _ => ⟨Nat.le_refl _, by simp [openT]⟩
theorem parts_right_ok {one two : DL.Tm} {n : Nat} {k : Int} (hp : PuI S n k) (hk : k < 2 ^ 28) (d : Dr 4 57 172 one) (d2 : Dr 4 2 16 two) :
    ∃ S', m__law_parts_right [.ref n, tD one, tD two] S = .ok (.bl true) S' ∧ PuI S' n (k + 1) ∧ Fr n S S' := by
  have hh := d.ht
  have hs := d.sz
  have b : Bd one := d.bd (by omega) (by omega) (by omega)
  have b2 : Bd two := d2.bd (by omega) (by omega) (by omega)
  have sl := spots_len one
  have sp : 0 < sz one := by cases one <;> simp [sz]
  obtain ⟨r, S1, t1, r0, r1, p1, f1⟩ := take_ok (m := ((spotsT one).length : Int)) hp (by omega) (by omega) (by omega)
  obtain ⟨j, rfl⟩ := Int.eq_ofNat_of_zero_le r0
  have hj : j < (spotsT one).length := by omega
  let spt := (spotsT one)[j]
  have hm : spt ∈ spotsT one := List.getElem_mem hj
  have hix : ∀ S, opIx (.lst ((spotsT one).map sptD)) (.int (j : Int)) S = .ok (sptD spt) S := fun S => opIx_lst (by rw [List.getElem?_map, List.getElem?_eq_getElem hj]; rfl)
  obtain ⟨q, hq⟩ := spots_at hm
  have hc := p1.cl
  obtain ⟨q1, q2, q3⟩ := at_Ok d.ok hq
  have bq : Bd q := ⟨q1.mono (by omega), by omega, by omega⟩
  obtain ⟨u1, u2, u3, u4⟩ := put_facts (o := two) d2.ok d.ok hq
  have z2 := d2.sz
  have y2 := d2.ht
  have bu : Bd (putT one spt two) := ⟨u1.mono (by omega), by omega, by omega⟩
  have e1 := part_ok (S := S1) b hm (by omega) hq
  have e2 := changed_ok hc b bq hm (by omega) hq
  rw [put_same hq] at e2
  have e3 := changed_ok hc b b2 hm (by omega) hq
  have e4 := part_ok (S := S1) bu hm (by omega) u4
  have w1 := size_ok (S := S1) bu
  have w2 := size_ok (S := S1) b
  have w3 := size_ok (S := S1) bq
  have w4 := size_ok (S := S1) b2
  have wi : ((sz (putT one spt two) : Nat) : Int) = (sz one : Int) - (sz q : Int) + (sz two : Int) := by omega
  have o1 := opened_ok hc b
  obtain ⟨a1, a2⟩ := args_Ok d.ok
  obtain ⟨a3, a4⟩ := args_ht (t := one)
  have oa := open_apply one
  have sa := sz_apply (openT one).1 (openT one).2
  rw [oa] at sa
  have asz : ∀ u ∈ (openT one).2, sz u ≤ 172 := by
    intro u hu
    have : sz u + 1 ≤ ((openT one).2.map fun u => sz u + 1).sum := by
      have hmm : sz u + 1 ∈ (openT one).2.map fun u => sz u + 1 := List.mem_map_of_mem hu
      exact mem_sum hmm
    omega
  have bh : Bd (openT one).1 := ⟨a1.mono (by omega), by omega, by omega⟩
  have bargs : ∀ u ∈ (openT one).2, Bd u := fun u hu => ⟨(a2 u hu).mono (by omega), by have := a4 u hu; omega, by have := asz u hu; omega⟩
  have e5 := applied_ok (S := S1) bh bargs
  rw [oa] at e5
  have e6 := applied_ok (S := S1) b2 bargs
  have hta := ht_apply two (openT one).1 (openT one).2
  rw [oa] at hta
  have sta := sz_apply two (openT one).2
  have okApp : ∀ (l : List DL.Tm) (h : DL.Tm), Ok 4 h → (∀ u ∈ l, Ok 4 u) → Ok 4 (applyT h l) := by
    intro l
    induction l with
    | nil => intro h h1 _; exact h1
    | cons x l ih => intro h h1 h2; exact ih (appT h x) ⟨by decide +kernel, h1, h2 x (by simp)⟩ fun u hu => h2 u (by simp [hu])
  have ba : Bd (applyT two (openT one).2) := ⟨(okApp _ _ d2.ok a2).mono (by omega), by omega, by omega⟩
  have o2 := opened_ok hc ba
  rw [open_app] at o2
  have oh := open_head one
  have hw : opNe (.str (wd (openT one).1)) (.str "app") S1 = .ok (.bl true) S1 := by
    rw [opNe_strs]
    have : decide (wd (openT one).1 = "app") = false := by
      cases ho : (openT one).1 with
      | two g a c =>
        refine decide_eq_false fun hg => ?_
        rw [ho] at oh
        have hg' : g = "app" := hg
        have : openT (.two g a c) = ((openT a).1, (openT a).2 ++ [c]) := by show (if g = "app" then _ else _) = _; rw [if_pos hg']
        rw [this] at oh
        have := congrArg (fun p => p.2.length) oh
        simp at this
      | _ => rw [← ho]; exact app_no a1 (by intros; rw [ho]; simp)
    rw [this]; rfl
  have hl2 : (openT two).2.length ≤ 2 := Nat.le_trans (open_len two) y2
  have hl1 : (openT one).2.length ≤ 57 := Nat.le_trans (open_len one) hh
  have cut : cutD (((openT two).2 ++ (openT one).2).map tD) (some (((openT two).2 ++ (openT one).2).length - (openT one).2.length : Int)) none = (openT one).2.map tD := by
    have e : ((((openT two).2 ++ (openT one).2).length : Nat) : Int) - ((openT one).2.length : Int) = ((openT two).2.length : Int) := by rw [List.length_append]; omega
    rw [e, cut_from, List.map_append, List.drop_left' (by simp)]
  have eqa : opEq (.lst ((openT one).2.map tD)) (.lst ((openT one).2.map tD)) S1 = .ok (.bl true) S1 := by
    have h1 : okD (.lst ((openT one).2.map tD)) = true := by
      show okL _ = true
      rw [okL_all, List.all_eq_true]
      intro d hd
      obtain ⟨u, hu, rfl⟩ := List.mem_map.mp hd
      exact (bargs u hu).fine.ok
    have h2 : noDct (.lst ((openT one).2.map tD)) = true := by
      show noDctL _ = true
      rw [noDctL_all, List.all_eq_true]
      intro d hd
      obtain ⟨u, hu, rfl⟩ := List.mem_map.mp hd
      exact tD_noDct u
    have h3 : dpD (.lst ((openT one).2.map tD)) ≤ 200 := by
      have := dpL_le (n := 64) ((openT one).2.map tD) fun d hd => by
        obtain ⟨u, hu, rfl⟩ := List.mem_map.mp hd
        rw [tD_dp]; have := (bargs u hu).ht; omega
      show dpL _ + 1 ≤ 200; omega
    rw [opEq_ok S1 h1 h1 h2 h2 h3, eqD_refl h1 h2]
  refine ⟨S1, ?_, p1, f1⟩
  unfold m__law_parts_right
  rw [fnB3]
  have s2 := spots_ok hp.cl b
  have i1 : ∀ S (x y : Dt), opIx (.tup [x, y]) (.int 1) S = .ok y S := fun S x y => opIx_tup1
  have len1 : (((openT two).2.map tD ++ (openT one).2.map tD).length : Int) - (((openT one).2.map tD).length : Int) = ((openT two).2.length : Int) := by simp
  have cut2 : ∀ S, kSl (.lst ((openT two).2.map tD ++ (openT one).2.map tD)) (some ((openT two).2.length : Int)) none S = .ok (.lst ((openT one).2.map tD)) S := fun S => by
    rw [kSl_lst, cut_from, List.drop_left' (by simp)]
  have neI : opNe (.int (sz (putT one spt two))) (.int ((sz one : Int) - sz q + sz two)) S1 = .ok (.bl false) S1 := by
    rw [opNe_int, wi]; simp
  simp [b__law_parts_right, s2, t1, hix, e1, e2, b.same, e3, e4, b2.same, w1, w2, w3, w4, neI, o1, e6, o2, i1, e5, b.sameE, ix0, hw, cut2, eqa]
end
end K04

set_option Elab.async false
set_option linter.all false
set_option maxRecDepth 1000000
set_option maxHeartbeats 4000000
namespace DL
open PySem PySem.Spec PyProof.Rows L2
section
variable {S : Store} {r : Nat} {ds : List Dt}
theorem toPy_ref (h : S[r]? = some (.lst ds)) (h1 : okL ds = true) : ∃ p, toPy S (.ref r) = some p ∧ p.showable = true ∧ p.leavesShort 121 = true ∧ p.depth ≤ dpL ds + 1 ∧ p.weight ≤ wtL ds := by
  obtain ⟨ps, g1, g2, g3, g4, g5, g6, _⟩ := okL_py S ds h1
  refine ⟨.list ps, ?_, g3, g4, Nat.succ_le_succ g5, g6⟩
  show refPy S r = _
  unfold refPy
  simp only [h, g1, Option.map_some]
theorem repr_py {d : Dt} {p : PyData} (h : toPy S d = some p) (h1 : p.showable = true) (h2 : p.leavesShort 121 = true) (h3 : p.depth ≤ 200) (h4 : p.weight ≤ 100000) : opRepr [d] S = .ok (.str p.shown) S := by
  have hl : p.shown.length ≤ LINE := Nat.le_trans (PyData.shown_le 121 (by decide) p h2) (by show _ ≤ 16777216; omega)
  unfold opRepr reprP
  simp only [h, h1, decide_eq_true h3, decide_eq_true hl, Bool.and_self, if_true]
theorem repr_pair_ref {w : Str} (h : S[r]? = some (.lst ds)) (h1 : okL ds = true) (hw : PyData.strOk w = true) (hd : dpL ds ≤ 62) (hwt : wtL ds + w.length ≤ 90000) : ∃ z, opRepr [.tup [.str w, .ref r]] S = .ok (.str z) S := by
  obtain ⟨p, e, a1, a2, a3, a4⟩ := toPy_ref h h1
  have e2 : toPy S (.tup [.str w, .ref r]) = some (.tuple [.str w, p]) := by
    show (toPys S [.str w, .ref r]).map _ = _
    unfold toPys
    rw [show toPy S (.str w) = some (.str w) from rfl]
    unfold toPys
    rw [e]
    rfl
  refine ⟨_, repr_py e2 ?_ ?_ ?_ ?_⟩
  · show (true && (p.showable && true)) = true
    rw [a1]; rfl
  · show ((PyData.str w).leavesShort 121 && (p.leavesShort 121 && true)) = true
    rw [a2, str_leaf hw]; rfl
  · show max 0 (max p.depth 0) + 1 ≤ 200; omega
  · show w.length + 1 + (p.weight + 1 + 0) ≤ 100000; omega
theorem cut_neg1 (l : List Dt) (x : Dt) : cutD (l ++ [x]) (some (-1)) none = [x] := by
  unfold cutD
  rw [HT.sIx_none]
  have e : HT.sIx (l ++ [x]).length 0 (some (-1)) = l.length := by
    show (if (-1 : Int) < 0 then ((-1 : Int) + ((l ++ [x]).length : Int)).toNat else min (-1 : Int).toNat (l ++ [x]).length) = _
    rw [if_pos (by omega)]; simp; omega
  rw [e]
  simp
theorem sl_ref {l u : Option Int} (h : S[r]? = some (.lst ds)) : kSl (.ref r) l u S = .ok (.lst (cutD ds l u)) S := by
  have e : sliceP S (.ref r) l u = some (.lst (cutD ds l u)) := by
    show (asList S (.ref r)).map _ = _
    rw [asList_ref h]; rfl
  unfold kSl
  rw [e]
/-- what is handed in: the owned list r, or a value that is no list -/
def Val (r : Nat) (d : Dt) : Prop := d = .ref r ∨ (okD d = true ∧ wtD d ≤ 60000 ∧ dpD d ≤ 62 ∧ ∀ S, kIsi ["list"] d S = .ok (.bl false) S)
theorem forL_26 {b : FS} {k : Int} {x1 x2 x3 x4 x5 x6 : Dt} {dd : List Dt} {env : EnvD} : forL (gTupD 2 (gConsD (gN 6) (gConsD (gTupD 6 (gConsD (gN 7) (gConsD (gN 8) (gConsD (gN 9) (gConsD (gN 10) (gConsD (gN 11) (gConsD (gN 12) gNilD))))))) gNilD))) b (.tup [.int k, .tup [x1, x2, x3, x4, x5, x6]] :: dd) env S
    = kLoop (b (((((((env.set 6 (some (.vl (.int k)))).set 7 (some (.vl x1))).set 8 (some (.vl x2))).set 9 (some (.vl x3))).set 10 (some (.vl x4))).set 11 (some (.vl x5))).set 12 (some (.vl x6))) S) (forL (gTupD 2 (gConsD (gN 6) (gConsD (gTupD 6 (gConsD (gN 7) (gConsD (gN 8) (gConsD (gN 9) (gConsD (gN 10) (gConsD (gN 11) (gConsD (gN 12) gNilD))))))) gNilD))) b dd) := forL_cons rfl
end
end DL
namespace K04
open PySem PySem.Spec PyProof.Rows L2 DL
section
variable {S : Store}
theorem is_term_ref {r : Nat} {ds : List Dt} (h : S[r]? = some (.lst ds)) : m_is_term [.ref r] S = .ok (.bl false) S := by
  have e := isi_ref (cs := ["tuple"]) h
  unfold m_is_term n_is_term
  rw [fnB1]
  simp [b_is_term, e, subTy]
theorem is_whole_ref {r : Nat} {ds : List Dt} {lo hi : Int} (h : S[r]? = some (.lst ds)) : m_is_whole [.ref r, .int lo, .int hi] S = .ok (.bl false) S := by
  have e := isi_ref (cs := ["int"]) h
  unfold m_is_whole
  rw [fnB3]
  simp [b_is_whole, e, subTy]
/-! what is asked, and how it is refused -/
theorem asked_term {a b c d x : Dt} (h : (sSeq (sIf (tVal (cBin opEq (cVar 0) (cC (.int 0)))) (sRet (cTup (cCons (cC (.str "told")) (cCons (cCall m_raised [] (cCons (cVar 1) (cCons (cVar 2) (cCons (cVar 3) cNil)))) cNil)))) sNext) (sRet (cTup (cCons (cC (.str "told")) (cCons (cCall m_giving [] (cCons (cVar 1) (cCons (cVar 2) (cCons (cVar 3) cNil)))) cNil))))) [some (.vl a), some (.vl b), some (.vl c), some (.vl d), none] S = .exc "NoTerm" [("found", x)] [some (.vl a), some (.vl b), some (.vl c), some (.vl d), none] S) :
    m__law_asked [a, b, c, d] S = .ok (.tup [.str "term", x]) S := by
  unfold m__law_asked
  rw [fnB4]
  show kFn (tOut _ ((sSeq (sIf (tVal (cBin opEq (cVar 0) (cC (.int 0)))) (sRet (cTup (cCons (cC (.str "told")) (cCons (cCall m_raised [] (cCons (cVar 1) (cCons (cVar 2) (cCons (cVar 3) cNil)))) cNil)))) sNext) (sRet (cTup (cCons (cC (.str "told")) (cCons (cCall m_giving [] (cCons (cVar 1) (cCons (cVar 2) (cCons (cVar 3) cNil)))) cNil))))) [some (.vl a), some (.vl b), some (.vl c), some (.vl d), none] S)) = _
  rw [h]
  rfl
theorem asked_number {a b c d x : Dt} (h : (sSeq (sIf (tVal (cBin opEq (cVar 0) (cC (.int 0)))) (sRet (cTup (cCons (cC (.str "told")) (cCons (cCall m_raised [] (cCons (cVar 1) (cCons (cVar 2) (cCons (cVar 3) cNil)))) cNil)))) sNext) (sRet (cTup (cCons (cC (.str "told")) (cCons (cCall m_giving [] (cCons (cVar 1) (cCons (cVar 2) (cCons (cVar 3) cNil)))) cNil))))) [some (.vl a), some (.vl b), some (.vl c), some (.vl d), none] S = .exc "NoNumber" [("found", x)] [some (.vl a), some (.vl b), some (.vl c), some (.vl d), none] S) :
    m__law_asked [a, b, c, d] S = .ok (.tup [.str "number", x]) S := by
  unfold m__law_asked
  rw [fnB4]
  show kFn (tOut _ ((sSeq (sIf (tVal (cBin opEq (cVar 0) (cC (.int 0)))) (sRet (cTup (cCons (cC (.str "told")) (cCons (cCall m_raised [] (cCons (cVar 1) (cCons (cVar 2) (cCons (cVar 3) cNil)))) cNil)))) sNext) (sRet (cTup (cCons (cC (.str "told")) (cCons (cCall m_giving [] (cCons (cVar 1) (cCons (cVar 2) (cCons (cVar 3) cNil)))) cNil))))) [some (.vl a), some (.vl b), some (.vl c), some (.vl d), none] S)) = _
  rw [h]
  rfl
theorem raised_x1 {d x y : Dt} (h : m_is_term [d] S = .ok (.bl false) S) : m_raised [d, x, y] S = .exc "NoTerm" [("found", d)] S := by
  unfold m_raised
  rw [fnB3]
  simp [b_raised, need_no h]
theorem raised_x2 {t : DL.Tm} {x y : Dt} (b : Bd t) (h : m_is_whole [x, .int 0, .int 999] S = .ok (.bl false) S) : m_raised [tD t, x, y] S = .exc "NoNumber" [("found", x)] S := by
  unfold m_raised
  rw [fnB3]
  simp [b_raised, need_ok b, place_no h]
theorem raised_x3 {t : DL.Tm} {y : Dt} {i : Int} (b : Bd t) (h0 : 0 ≤ i) (h1 : i ≤ 999) (h : m_is_whole [y, .int 0, .int 999] S = .ok (.bl false) S) : m_raised [tD t, .int i, y] S = .exc "NoNumber" [("found", y)] S := by
  unfold m_raised
  rw [fnB3]
  simp [b_raised, need_ok b, place_ok (S := S) h0 h1, place_no h]
theorem giving_x1 {d x y : Dt} (h : m_is_term [d] S = .ok (.bl false) S) : m_giving [d, x, y] S = .exc "NoTerm" [("found", d)] S := by
  unfold m_giving
  rw [fnB3]
  simp [b_giving, need_no h]
theorem giving_x2 {t : DL.Tm} {d y : Dt} (b : Bd t) (h : m_is_term [d] S = .ok (.bl false) S) : m_giving [tD t, d, y] S = .exc "NoTerm" [("found", d)] S := by
  unfold m_giving
  rw [fnB3]
  simp [b_giving, need_ok b, need_no h]
theorem giving_x3 {t o : DL.Tm} {y : Dt} (b : Bd t) (bo : Bd o) (h : m_is_whole [y, .int 0, .int 999] S = .ok (.bl false) S) : m_giving [tD t, tD o, y] S = .exc "NoNumber" [("found", y)] S := by
  unfold m_giving
  rw [fnB3]
  simp [b_giving, need_ok b, need_ok bo, place_no h]
theorem ask_r {w : Str} {b c d x : Dt} (hw : w = "NoTerm" ∨ w = "NoNumber") (h : m_raised [b, c, d] S = .exc w [("found", x)] S) : m__law_asked [.int 0, b, c, d] S = .ok (.tup [.str (if w = "NoTerm" then "term" else "number"), x]) S := by
  rcases hw with rfl | rfl
  · exact asked_term (by simp [h])
  · exact asked_number (by simp [h])
theorem ask_g {w : Str} {b c d x : Dt} (hw : w = "NoTerm" ∨ w = "NoNumber") (h : m_giving [b, c, d] S = .exc w [("found", x)] S) : m__law_asked [.int 1, b, c, d] S = .ok (.tup [.str (if w = "NoTerm" then "term" else "number"), x]) S := by
  rcases hw with rfl | rfl
  · exact asked_term (by simp [h])
  · exact asked_number (by simp [h])
end
/-! the ten rows -/
section
variable {Q G : Store}
def St (Q G : Store) (l1 l2 : List Dt) : Store := Q ++ .lst l1 :: .lst l2 :: G
theorem St1 {l1 l2 : List Dt} : (St Q G l1 l2)[Q.length]? = some (.lst l1) := by unfold St; simp
theorem St2 {l1 l2 : List Dt} : (St Q G l1 l2)[Q.length + 1]? = some (.lst l2) := by
  unfold St
  rw [List.getElem?_append_right (by omega)]
  simp
theorem St1_set {l1 l2 l : List Dt} : (St Q G l1 l2).set Q.length (.lst l) = St Q G l l2 := by unfold St; exact set_end
theorem St2_set {l1 l2 l : List Dt} : (St Q G l1 l2).set (Q.length + 1) (.lst l) = St Q G l1 l := by
  unfold St
  rw [List.set_append_right _ _ (by omega)]
  simp
structure Good (Q G : Store) (dN dO : Dt) (way : Int) (a b c : Dt) (w : Str) (due : Dt) : Prop where
  ask : ∀ l1 l2, m__law_asked [.int way, a, b, c] (St Q G l1 l2) = .ok (.tup [.str w, due]) (St Q G l1 l2)
  due : (due = dN ∧ Val Q.length dN) ∨ (due = dO ∧ Val (Q.length + 1) dO)
  w : w = "term" ∨ w = "number"
structure LL (l : List Dt) (n : Nat) : Prop where
  ok : okL l = true
  wt : wtL l ≤ 40000 + 121 * n
  dp : dpL l ≤ 62
theorem LL.snoc {l : List Dt} {n : Nat} {i : Int} (h : LL l n) (hi : i.natAbs ≤ 10 ^ 31) : LL (l ++ [.int i]) (n + 1) := by
  refine ⟨?_, ?_, ?_⟩
  · rw [okL_app, h.ok]
    show (true && (okD (.int i) && true)) = true
    rw [show okD (.int i) = true from decide_eq_true hi]; rfl
  · rw [wtL_app, show wtL [Dt.int i] = 121 from rfl]; have := h.wt; omega
  · rw [dpL_app, show dpL [Dt.int i] = 0 from rfl]; have := h.dp; omega
theorem LL.mono {l : List Dt} {n m : Nat} (h : LL l n) (hm : n ≤ m) : LL l m := ⟨h.ok, by have := h.wt; omega, h.dp⟩
theorem row_ok {dN dO a b c due : Dt} {way : Int} {w : Str} {k n : Nat} {l1 l2 : List Dt} {x0 x1 x2 x3 x4 x5 x13 x14 x15 : Option DX} (g : Good Q G dN dO way a b c w due) (hk : k ≤ 100) (hn : n ≤ 20) (h1 : LL l1 n) (h2 : LL l2 n) :
    ∃ y13 y14 y15 m1 m2, L__law_refused_right_0 [x0, x1, x2, x3, x4, x5, some (.vl (.int (k : Int))), some (.vl (.int way)), some (.vl a), some (.vl b), some (.vl c), some (.vl (.str w)), some (.vl due), x13, x14, x15] (St Q G l1 l2)
      = .nx [x0, x1, x2, x3, x4, x5, some (.vl (.int (k : Int))), some (.vl (.int way)), some (.vl a), some (.vl b), some (.vl c), some (.vl (.str w)), some (.vl due), y13, y14, y15] (St Q G m1 m2) ∧ LL m1 (n + 1) ∧ LL m2 (n + 1) := by
  have hw : PyData.strOk w = true ∧ w.length ≤ 6 := by
    rcases g.w with rfl | rfl <;> exact ⟨by decide +kernel, by decide +kernel⟩
  have ask := g.ask l1 l2
  have fro : ∀ {d : Dt}, d = due → okD d = true → wtD d ≤ 60000 → dpD d ≤ 62 → (∀ S, kIsi ["list"] d S = .ok (.bl false) S) → ∃ y13 y14 y15 m1 m2, L__law_refused_right_0 [x0, x1, x2, x3, x4, x5, some (.vl (.int (k : Int))), some (.vl (.int way)), some (.vl a), some (.vl b), some (.vl c), some (.vl (.str w)), some (.vl due), x13, x14, x15] (St Q G l1 l2)
      = .nx [x0, x1, x2, x3, x4, x5, some (.vl (.int (k : Int))), some (.vl (.int way)), some (.vl a), some (.vl b), some (.vl c), some (.vl (.str w)), some (.vl due), y13, y14, y15] (St Q G m1 m2) ∧ LL m1 (n + 1) ∧ LL m2 (n + 1) := by
    rintro d rfl o1 o2 o3 o4
    have hr : ∃ z, ∀ S, opRepr [.tup [.str w, d]] S = .ok (.str z) S := ⟨_, fun S => opRepr_ok S (by show (PyData.strOk w && (okD d && true)) = true; rw [hw.1, o1]; rfl) (by show max 0 (max (dpD d) 0) + 1 ≤ 200; omega) (by show w.length + 1 + (wtD d + 1 + 0) ≤ 100000; omega)⟩
    obtain ⟨z, hr⟩ := hr
    refine ⟨some (.vl (.str z)), some (.vl (.str w)), some (.vl d), l1, l2, ?_, h1.mono (by omega), h2.mono (by omega)⟩
    unfold L__law_refused_right_0
    simp [hr, ask, opNe_strs, o4]
  have low : ∀ {r : Nat} {l : List Dt} {m1 m2 : List Dt}, due = .ref r → (St Q G l1 l2)[r]? = some (.lst l) → LL l n → (St Q G l1 l2).set r (.lst (l ++ [.int (100 + (k : Int))])) = St Q G m1 m2 → (St Q G m1 m2)[r]? = some (.lst (l ++ [.int (100 + (k : Int))])) → ∃ y13 y14 y15, L__law_refused_right_0 [x0, x1, x2, x3, x4, x5, some (.vl (.int (k : Int))), some (.vl (.int way)), some (.vl a), some (.vl b), some (.vl c), some (.vl (.str w)), some (.vl due), x13, x14, x15] (St Q G l1 l2)
      = .nx [x0, x1, x2, x3, x4, x5, some (.vl (.int (k : Int))), some (.vl (.int way)), some (.vl a), some (.vl b), some (.vl c), some (.vl (.str w)), some (.vl due), y13, y14, y15] (St Q G m1 m2) := by
    intro r l m1 m2 hd g1 hl hs g2
    subst hd
    have hlw := hl.wt
    have hlen := wtL_len l
    obtain ⟨z, hr⟩ := repr_pair_ref g1 hl.ok hw.1 hl.dp (by omega)
    have hi := isi_ref (cs := ["list"]) g1
    have ap : opAppend (.ref r) [.int (100 + (k : Int))] (St Q G l1 l2) = .ok .non (St Q G m1 m2) := by
      have hlen' : l.length < LINE := by show _ < 16777216; omega
      unfold opAppend
      simp only [g1, hlen', if_true, hs]
    have rc : recvOk .lst (St Q G l1 l2) (.ref r) = true := by
      show (asList _ _).isSome = true
      rw [asList_ref g1]; rfl
    have sl : kSl (.ref r) (some (-1)) none (St Q G m1 m2) = .ok (.lst [.int (100 + (k : Int))]) (St Q G m1 m2) := by rw [sl_ref g2, cut_neg1]
    have ne : opNe (.lst [.int (100 + (k : Int))]) (.lst [.int (100 + (k : Int))]) (St Q G m1 m2) = .ok (.bl false) (St Q G m1 m2) := ne_same (by show (okD (.int _) && true) = true; rw [show okD (.int (100 + (k : Int))) = true from decide_eq_true (by omega)]; rfl) rfl (by show 1 ≤ 200; decide)
    refine ⟨some (.vl (.str z)), some (.vl (.str w)), some (.vl (.ref r)), ?_⟩
    unfold L__law_refused_right_0
    simp [hr, ask, opNe_strs, hi, subTy, kMeth1_at rc, ap, sl, ne]
  rcases g.due with ⟨rfl, hv⟩ | ⟨rfl, hv⟩
  · rcases hv with hv | ⟨o1, o2, o3, o4⟩
    · obtain ⟨y13, y14, y15, e⟩ := low (m1 := l1 ++ [.int (100 + (k : Int))]) (m2 := l2) hv St1 h1 St1_set St1
      exact ⟨y13, y14, y15, _, _, e, h1.snoc (by omega), h2.mono (by omega)⟩
    · exact fro rfl o1 o2 o3 o4
  · rcases hv with hv | ⟨o1, o2, o3, o4⟩
    · obtain ⟨y13, y14, y15, e⟩ := low (m1 := l1) (m2 := l2 ++ [.int (100 + (k : Int))]) hv St2 h2 St2_set St2
      exact ⟨y13, y14, y15, _, _, e, h1.mono (by omega), h2.snoc (by omega)⟩
    · exact fro rfl o1 o2 o3 o4
structure Row where
  way : Int
  a : Dt
  b : Dt
  c : Dt
  w : Str
  due : Dt
def rowD (r : Row) : Dt := .tup [.int r.way, r.a, r.b, r.c, .str r.w, r.due]
theorem rows_ok {dN dO : Dt} {x0 x1 x2 x3 x4 x5 : Option DX} : ∀ (rs : List Row) (k n : Nat) (l1 l2 : List Dt) (x6 x7 x8 x9 x10 x11 x12 x13 x14 x15 : Option DX), (∀ r ∈ rs, Good Q G dN dO r.way r.a r.b r.c r.w r.due) → k + rs.length ≤ 100 → n + rs.length ≤ 20 → LL l1 n → LL l2 n →
    ∃ env m1 m2, forL (gTupD 2 (gConsD (gN 6) (gConsD (gTupD 6 (gConsD (gN 7) (gConsD (gN 8) (gConsD (gN 9) (gConsD (gN 10) (gConsD (gN 11) (gConsD (gN 12) gNilD))))))) gNilD))) L__law_refused_right_0 (enumD k (rs.map rowD)) [x0, x1, x2, x3, x4, x5, x6, x7, x8, x9, x10, x11, x12, x13, x14, x15] (St Q G l1 l2) = .nx env (St Q G m1 m2)
  | [], k, n, l1, l2, x6, x7, x8, x9, x10, x11, x12, x13, x14, x15, _, _, _, _, _ => ⟨_, l1, l2, rfl⟩
  | r :: rs, k, n, l1, l2, x6, x7, x8, x9, x10, x11, x12, x13, x14, x15, hg, hk, hn, h1, h2 => by
    rw [List.length_cons] at hk hn
    obtain ⟨y13, y14, y15, m1, m2, e1, q1, q2⟩ := row_ok (k := k) (x0 := x0) (x1 := x1) (x2 := x2) (x3 := x3) (x4 := x4) (x5 := x5) (x13 := x13) (x14 := x14) (x15 := x15) (hg r (by simp)) (by omega) (by omega) h1 h2
    obtain ⟨env, z1, z2, e2⟩ := rows_ok (dN := dN) (dO := dO) (x0 := x0) (x1 := x1) (x2 := x2) (x3 := x3) (x4 := x4) (x5 := x5) rs (k + 1) (n + 1) m1 m2 (some (.vl (.int (k : Int)))) (some (.vl (.int r.way))) (some (.vl r.a)) (some (.vl r.b)) (some (.vl r.c)) (some (.vl (.str r.w))) (some (.vl r.due)) y13 y14 y15 (fun q hq => hg q (by simp [hq])) (by omega) (by omega) q1 q2
    refine ⟨env, z1, z2, ?_⟩
    have ee : enumD k ((r :: rs).map rowD) = .tup [.int (k : Int), .tup [.int r.way, r.a, r.b, r.c, .str r.w, r.due]] :: enumD (k + 1) (rs.map rowD) := rfl
    rw [ee, forL_26]
    simp only [List.set_cons_succ, List.set_cons_zero]
    rw [e1, kLoop_nx, e2]
end
end K04

set_option Elab.async false
set_option linter.all false
set_option maxRecDepth 1000000
set_option maxHeartbeats 4000000
namespace K04
open PySem PySem.Spec PyProof.Rows L2 DL
def nons (t : Dt) (p : Nat) : List Dt := [.non, .int 7, .ref p, .tup [.str "at"], .tup [], .str "at", .dct [], .tup [.str "kind", .int 6], .tup [.str "at", .bl true], .tup [.str "all", t], .tup [.str "app", .tup [.str "at", .int 0], .tup []],
  .tup [.str "fun", .tup [.str "at", .int 0], .tup [.str "at", .bl true]], .tup [.str "app", .tup [.str "kind", .int 6], .tup [.str "at", .int 0]]]
def odds (t : Dt) (p : Nat) : List Dt := [.non, .bl true, .int (-1), .int 1000, .str "1", .ref p, .tup [.int 1], .dct [], .int (10 ^ 29), t, .bl false]
def sixteen (d : Dt) : Prop := okD d = true ∧ wtD d ≤ 60000 ∧ dpD d ≤ 62 ∧ isT d = false ∧ ∀ S, kIsi ["list"] d S = .ok (.bl false) S
theorem nons_ok {t : DL.Tm} {p : Nat} (dt : Dr 1000 57 256 t) : ∀ d ∈ nons (tD t) p, d = .ref p ∨ sixteen d := by
  have okt := tD_okD (by omega) t dt.ok
  have wtt := tD_wt t dt.ok
  have dpt := tD_dp t
  have hht := dt.ht
  have hsz := dt.sz
  have fall : fm "all" = some "tt" := by decide +kernel
  have cc : ∀ d : Dt, okD d = true ∧ wtD d ≤ 60000 ∧ dpD d ≤ 62 ∧ isT d = false → (∀ S, kIsi ["list"] d S = .ok (.bl false) S) → sixteen d := fun d h k => ⟨h.1, h.2.1, h.2.2.1, h.2.2.2, k⟩
  intro d hd
  simp only [nons, List.mem_cons, List.mem_nil_iff, or_false] at hd
  rcases hd with rfl | rfl | rfl | rfl | rfl | rfl | rfl | rfl | rfl | rfl | rfl | rfl | rfl
  · exact .inr (cc _ (by decide +kernel) (fun S => rfl))
  · exact .inr (cc _ (by decide +kernel) (fun S => rfl))
  · exact .inl rfl
  · exact .inr (cc _ (by decide +kernel) (fun S => rfl))
  · exact .inr (cc _ (by decide +kernel) (fun S => rfl))
  · exact .inr (cc _ (by decide +kernel) (fun S => rfl))
  · exact .inr (cc _ (by decide +kernel) (fun S => rfl))
  · exact .inr (cc _ (by decide +kernel) (fun S => rfl))
  · exact .inr (cc _ (by decide +kernel) (fun S => rfl))
  · refine .inr ⟨?_, ?_, ?_, ?_, fun S => rfl⟩
    · show (PyData.strOk "all" && (okD (tD t) && true)) = true
      rw [okt, lit_ok "all"]; rfl
    · show 3 + 1 + (wtD (tD t) + 1 + 0) ≤ 60000; omega
    · show max 0 (max (dpD (tD t)) 0) + 1 ≤ 62; omega
    · show (match fm "all" with | some f => isF f.cps.toList [tD t] | none => false) = false
      rw [fall]
      show (isT (tD t) && false) = false
      simp
  · exact .inr (cc _ (by decide +kernel) (fun S => rfl))
  · exact .inr (cc _ (by decide +kernel) (fun S => rfl))
  · exact .inr (cc _ (by decide +kernel) (fun S => rfl))
theorem odds_ok {t : DL.Tm} {p : Nat} (dt : Dr 1000 57 256 t) : ∀ d ∈ odds (tD t) p, d = .ref p ∨ (okD d = true ∧ wtD d ≤ 60000 ∧ dpD d ≤ 62 ∧ wholeB d 0 999 = false ∧ ∀ S, kIsi ["list"] d S = .ok (.bl false) S) := by
  have okt := tD_okD (by omega) t dt.ok
  have wtt := tD_wt t dt.ok
  have dpt := tD_dp t
  have hht := dt.ht
  have hsz := dt.sz
  have cc : ∀ d : Dt, okD d = true ∧ wtD d ≤ 60000 ∧ dpD d ≤ 62 ∧ wholeB d 0 999 = false → (∀ S, kIsi ["list"] d S = .ok (.bl false) S) → (okD d = true ∧ wtD d ≤ 60000 ∧ dpD d ≤ 62 ∧ wholeB d 0 999 = false ∧ ∀ S, kIsi ["list"] d S = .ok (.bl false) S) := fun d h k => ⟨h.1, h.2.1, h.2.2.1, h.2.2.2, k⟩
  intro d hd
  simp only [odds, List.mem_cons, List.mem_nil_iff, or_false] at hd
  rcases hd with rfl | rfl | rfl | rfl | rfl | rfl | rfl | rfl | rfl | rfl | rfl
  · exact .inr (cc _ (by decide +kernel) (fun S => rfl))
  · exact .inr (cc _ (by decide +kernel) (fun S => rfl))
  · exact .inr (cc _ (by decide +kernel) (fun S => rfl))
  · exact .inr (cc _ (by decide +kernel) (fun S => rfl))
  · exact .inr (cc _ (by decide +kernel) (fun S => rfl))
  · exact .inl rfl
  · exact .inr (cc _ (by decide +kernel) (fun S => rfl))
  · exact .inr (cc _ (by decide +kernel) (fun S => rfl))
  · exact .inr (cc _ (by decide +kernel) (fun S => rfl))
  · refine .inr (cc _ ⟨okt, by omega, by omega, ?_⟩ fun S => ?_)
    · rw [tD_eq]; rfl
    · rw [tD_eq]; rfl
  · exact .inr (cc _ (by decide +kernel) (fun S => rfl))
theorem refused_ok {S : Store} {n : Nat} {k : Int} {t o : DL.Tm} (hp : PuI S n k) (hk : k < 2 ^ 28) (dt : Dr 1000 57 256 t) (dq : Dr 1000 3 64 o) :
    ∃ S', m__law_refused_right [.ref n, tD t, tD o] S = .ok (.bl true) S' ∧ PuI S' n (k + 2) ∧ Fr n S S' := by
  have bt : Bd t := dt.bd (by omega) (by omega) (by omega)
  have bo : Bd o := dq.bd (by omega) (by omega) (by omega)
  have c1 : closedM (S.length + 1) (.lst [tD t]) = true := by show (closedD _ _ && true) = true; rw [tD_closed]; rfl
  have p1 := hp.push c1
  obtain ⟨r, S1', t1, r0, r1, p2, f2⟩ := take_ok (m := 13) p1 (by omega) (by omega) (by omega)
  obtain ⟨S1, rfl, p3, f3⟩ := p2.splitL f2 hp.lt hp.cl
  obtain ⟨dN, hN, ixN⟩ := ix_mem (ds := nons (tD t) S.length) r0 (by simpa [nons] using r1)
  have p4 := p2.push (mo := .lst [.int 1]) rfl
  obtain ⟨s, S2', t2, s0, s1, p5, f5⟩ := take_ok (m := 11) p4 (by omega) (by omega) (by omega)
  have p4' : PuI (S1 ++ ([MO.lst [tD t]] ++ [MO.lst [.int 1]])) n (k + 1) := by rw [← List.append_assoc]; exact p4
  rw [List.append_assoc] at f5
  obtain ⟨Q, rfl, p6, f6⟩ := p5.splitL f5 p3.lt p3.cl
  obtain ⟨dO, hO, ixO⟩ := ix_mem (ds := odds (tD t) (S1 ++ [MO.lst [tD t]]).length) s0 (by simpa [odds] using s1)
  have lQ : Q.length = S.length := by rw [f6.1, f3.1]
  have lQ1 : (S1 ++ [MO.lst [tD t]]).length = Q.length + 1 := by simp [f6.1]
  have vN := nons_ok (p := S.length) dt dN hN
  have vO := odds_ok (p := (S1 ++ [MO.lst [tD t]]).length) dt dO hO
  rw [lQ1] at vO
  rw [← lQ] at vN
  have valN : Val Q.length dN := by
    rcases vN with h | ⟨a, b, c, _, e⟩
    · exact .inl h
    · exact .inr ⟨a, b, c, e⟩
  have valO : Val (Q.length + 1) dO := by
    rcases vO with h | ⟨a, b, c, _, e⟩
    · exact .inl h
    · exact .inr ⟨a, b, c, e⟩
  -- the rows
  let R3 : List Row := [⟨0, dN, dO, dO, "term", dN⟩, ⟨0, tD t, dO, dN, "number", dO⟩, ⟨0, tD t, .int 1, dO, "number", dO⟩]
  let R5 : List Row := R3 ++ [⟨1, dN, dN, dO, "term", dN⟩, ⟨1, tD t, dN, dO, "term", dN⟩]
  let R6 : List Row := R5 ++ [⟨1, tD t, tD o, dO, "number", dO⟩]
  let R8 : List Row := R6 ++ [⟨1, dN, tD o, .int 0, "term", dN⟩, ⟨1, dN, .tup [dN], .int 0, "term", dN⟩]
  let R10 : List Row := R8 ++ [⟨0, dN, .int 1, .int 0, "term", dN⟩, ⟨1, tD t, dN, .int 0, "term", dN⟩]
  let G : Store := [.lst (R3.map rowD), .lst (R6.map rowD), .lst (R8.map rowD), .gone]
  have tn : ∀ l1 l2, m_is_term [dN] (St Q G l1 l2) = .ok (.bl false) (St Q G l1 l2) := by
    intro l1 l2
    rcases vN with h | ⟨a, b, c, e, _⟩
    · rw [h]; exact is_term_ref St1
    · have := is_term_ok 130 (d := dN) (St Q G l1 l2) ⟨a, by omega⟩ (by omega)
      rw [e] at this; exact this
  have wn : ∀ l1 l2, m_is_whole [dO, .int 0, .int 999] (St Q G l1 l2) = .ok (.bl false) (St Q G l1 l2) := by
    intro l1 l2
    rcases vO with h | ⟨a, b, c, e, _⟩
    · rw [h]; exact is_whole_ref St2
    · have := is_whole_ok (d := dO) (lo := 0) (hi := 999) (St Q G l1 l2) a
      rw [e] at this; exact this
  have gN : ∀ {way a b c}, (∀ l1 l2, m__law_asked [.int way, a, b, c] (St Q G l1 l2) = .ok (.tup [.str "term", dN]) (St Q G l1 l2)) → Good Q G dN dO way a b c "term" dN := fun h => ⟨h, .inl ⟨rfl, valN⟩, .inl rfl⟩
  have gO : ∀ {way a b c}, (∀ l1 l2, m__law_asked [.int way, a, b, c] (St Q G l1 l2) = .ok (.tup [.str "number", dO]) (St Q G l1 l2)) → Good Q G dN dO way a b c "number" dO := fun h => ⟨h, .inr ⟨rfl, valO⟩, .inr rfl⟩
  have nt : ("NoNumber" : Str) ≠ "NoTerm" := by decide +kernel
  have aT : ∀ {b c d : Dt} {S : Store}, m_raised [b, c, d] S = .exc "NoTerm" [("found", dN)] S → m__law_asked [.int 0, b, c, d] S = .ok (.tup [.str "term", dN]) S := fun h => by have := ask_r (.inl rfl) h; rwa [if_pos rfl] at this
  have aN : ∀ {b c d : Dt} {S : Store}, m_raised [b, c, d] S = .exc "NoNumber" [("found", dO)] S → m__law_asked [.int 0, b, c, d] S = .ok (.tup [.str "number", dO]) S := fun h => by have := ask_r (.inr rfl) h; rwa [if_neg nt] at this
  have bT : ∀ {b c d : Dt} {S : Store}, m_giving [b, c, d] S = .exc "NoTerm" [("found", dN)] S → m__law_asked [.int 1, b, c, d] S = .ok (.tup [.str "term", dN]) S := fun h => by have := ask_g (.inl rfl) h; rwa [if_pos rfl] at this
  have bN : ∀ {b c d : Dt} {S : Store}, m_giving [b, c, d] S = .exc "NoNumber" [("found", dO)] S → m__law_asked [.int 1, b, c, d] S = .ok (.tup [.str "number", dO]) S := fun h => by have := ask_g (.inr rfl) h; rwa [if_neg nt] at this
  have good : ∀ r ∈ R10, Good Q G dN dO r.way r.a r.b r.c r.w r.due := by
    intro r hr
    simp only [R10, R8, R6, R5, R3, List.cons_append, List.nil_append, List.mem_cons, List.mem_nil_iff, or_false] at hr
    rcases hr with rfl | rfl | rfl | rfl | rfl | rfl | rfl | rfl | rfl | rfl
    · exact gN fun l1 l2 => aT (raised_x1 (tn l1 l2))
    · exact gO fun l1 l2 => aN (raised_x2 bt (wn l1 l2))
    · exact gO fun l1 l2 => aN (raised_x3 bt (by omega) (by omega) (wn l1 l2))
    · exact gN fun l1 l2 => bT (giving_x1 (tn l1 l2))
    · exact gN fun l1 l2 => bT (giving_x2 bt (tn l1 l2))
    · exact gO fun l1 l2 => bN (giving_x3 bt bo (wn l1 l2))
    · exact gN fun l1 l2 => bT (giving_x1 (tn l1 l2))
    · exact gN fun l1 l2 => bT (giving_x1 (tn l1 l2))
    · exact gN fun l1 l2 => aT (raised_x1 (tn l1 l2))
    · exact gN fun l1 l2 => bT (giving_x2 bt (tn l1 l2))
  have hs1 : LL [tD t] 0 := by
    have okt := tD_okD (by omega) t dt.ok
    have wtt := tD_wt t dt.ok
    have dpt := tD_dp t
    have hht := dt.ht
    have hsz := dt.sz
    exact ⟨by show (okD (tD t) && true) = true; rw [okt]; rfl, by show wtD (tD t) + 1 + 0 ≤ 40000 + 121 * 0; omega, by show max (dpD (tD t)) 0 ≤ 62; omega⟩
  have hs2 : LL [.int 1] 0 := ⟨by decide +kernel, by decide, by decide⟩
  let V5 : Option DX := some (.vl (.ref (Q.length + 5)))
  obtain ⟨env, m1, m2, e⟩ := rows_ok (Q := Q) (G := G) (dN := dN) (dO := dO) (x0 := some (.vl (.ref n))) (x1 := some (.vl (tD t))) (x2 := some (.vl (tD o))) (x3 := some (.vl dN)) (x4 := some (.vl dO)) (x5 := V5) R10 0 0 [tD t] [.int 1] none none none none none none none none none none good (by simp [R10, R8, R6, R5, R3]) (by simp [R10, R8, R6, R5, R3]) hs1 hs2
  refine ⟨Q, ?_, p6.mono (by omega), f3.trans f6⟩
  refine trim_ok2 (T := .lst m1 :: .lst m2 :: G) ?_ lQ rfl p6.cl
  rw [fnB3]
  have hixN : ∀ S', opIx (.lst [.non, .int 7, .ref S.length, .tup [.str "at"], .tup [], .str "at", .dct [], .tup [.str "kind", .int 6], .tup [.str "at", .bl true], .tup [.str "all", tD t], .tup [.str "app", .tup [.str "at", .int 0], .tup []],
      .tup [.str "fun", .tup [.str "at", .int 0], .tup [.str "at", .bl true]], .tup [.str "app", .tup [.str "kind", .int 6], .tup [.str "at", .int 0]]]) (.int r) S' = .ok dN S' := ixN
  have hixO : ∀ S', opIx (.lst [.non, .bl true, .int (-1), .int 1000, .str "1", .ref (S1 ++ [MO.lst [tD t]]).length, .tup [.int 1], .dct [], .int (10 ^ 29), tD t, .bl false]) (.int s) S' = .ok dO S' := ixO
  have pw : ∀ S, opPow (.int 10) (.int 29) S = .ok (.int (10 ^ 29)) S := fun S => opPow_ok (j := 29) (by omega) (by decide)
  have t2' : m__law_take [.ref n, .int 11] (S1 ++ [.lst [tD t]] ++ [.lst [.int 1]]) = .ok (.int s) (Q ++ [.lst [tD t], .lst [.int 1]]) := t2
  unfold b__law_refused_right
  simp only [ev_seq, nv_set, ev_lst, nv_cons, ev_c, bind_ok, kCons1_at, kCons2_at, ev_nil, nv_own, ev_dispL, ev_var, slot_s, slot_0, kDispL_ok (show [tD t].length ≤ 16777216 by simp), kOwnL_at, ev_tup,
    okTup_ok (show [Dt.str "at"].length ≤ 16777216 by simp), okTup_ok (show ([] : List Dt).length ≤ 16777216 by simp), ev_dct0, okTup_ok (show [Dt.str "kind", .int 6].length ≤ 16777216 by simp), okTup_ok (show [Dt.str "at", .bl true].length ≤ 16777216 by simp), okTup_ok (show [Dt.str "all", tD t].length ≤ 16777216 by simp), okTup_ok (show [Dt.str "at", .int 0].length ≤ 16777216 by simp), okTup_ok (show [Dt.str "app", .tup [.str "at", .int 0], .tup []].length ≤ 16777216 by simp)]
  rw [okList_ok (by simp)]
  simp only [sOut_ok, kSet_at, List.replicate, List.set_cons_succ, List.set_cons_zero, kSeq_nx, ev_seq, nv_set, nv_bin, ev_var, slot_s, slot_0, bind_ok, kBin1_at, ev_lst, nv_cons, ev_tup, ev_c, kCons1_at, kCons2_at, ev_nil, okTup_ok (show [Dt.str "at", .int 0].length ≤ 16777216 by simp), okTup_ok (show [Dt.str "at", .bl true].length ≤ 16777216 by simp), okTup_ok (show [Dt.str "fun", .tup [.str "at", .int 0], .tup [.str "at", .bl true]].length ≤ 16777216 by simp), okTup_ok (show [Dt.str "kind", .int 6].length ≤ 16777216 by simp), okTup_ok (show [Dt.str "app", .tup [.str "kind", .int 6], .tup [.str "at", .int 0]].length ≤ 16777216 by simp),
    okList_ok (show [Dt.tup [.str "fun", .tup [.str "at", .int 0], .tup [.str "at", .bl true]], .tup [.str "app", .tup [.str "kind", .int 6], .tup [.str "at", .int 0]]].length ≤ 16777216 by simp), kBin2_at, opAdd_lst, List.cons_append, List.nil_append]
  rw [okList_ok (by simp)]
  simp only [bind_ok, kBin1_at, nv_call, nv_cons, ev_var, slot_s, slot_0, kCons1_at, ev_c, kCons2_at, ev_nil, kCall_at, List.append_nil, t1, kBin2_at, hixN, sOut_ok, kSet_at, List.set_cons_succ, List.set_cons_zero, kSeq_nx, ev_seq, nv_set, nv_bin, ev_lst, ev_un, opNeg_int, nv_own, ev_dispL, kDispL_ok (show [Dt.int 1].length ≤ 16777216 by simp), kOwnL_at, ev_tup, okTup_ok (show [Dt.int 1].length ≤ 16777216 by simp), ev_dct0, pw]
  rw [okList_ok (by simp)]
  simp only [bind_ok, kBin1_at, nv_call, nv_cons, ev_var, slot_s, slot_0, kCons1_at, ev_c, kCons2_at, ev_nil, kCall_at, List.append_nil, t2', kBin2_at, hixO, sOut_ok, kSet_at, List.set_cons_succ, List.set_cons_zero, kSeq_nx]
  have g2 : ∀ r3 : List Dt, (Q ++ [MO.lst [tD t], .lst [.int 1], .lst r3])[Q.length + 2]? = some (.lst r3) := fun r3 => by rw [List.getElem?_append_right (by omega)]; simp
  have g3 : ∀ r3 r5 : List Dt, (Q ++ [MO.lst [tD t], .lst [.int 1], .lst r3, .lst r5])[Q.length + 3]? = some (.lst r5) := fun r3 r5 => by rw [List.getElem?_append_right (by omega)]; simp
  have g4 : ∀ r3 r5 r8 : List Dt, (Q ++ [MO.lst [tD t], .lst [.int 1], .lst r3, .lst r5, .lst r8])[Q.length + 4]? = some (.lst r8) := fun r3 r5 r8 => by rw [List.getElem?_append_right (by omega)]; simp
  have g5 : ∀ r3 r5 r8 r10 : List Dt, (Q ++ [MO.lst [tD t], .lst [.int 1], .lst r3, .lst r5, .lst r8, .lst r10])[Q.length + 5]? = some (.lst r10) := fun r3 r5 r8 r10 => by rw [List.getElem?_append_right (by omega)]; simp
  have a2 : ∀ r3 ys : List Dt, r3.length + ys.length ≤ 16777216 → kAddA2 (.ref (Q.length + 2)) (.lst ys) (Q ++ [.lst [tD t], .lst [.int 1], .lst r3]) = .ok (r3 ++ ys) (Q ++ [.lst [tD t], .lst [.int 1], .lst r3]) := fun r3 ys h => kAddA2_ok (asList_ref (g2 r3)) rfl h
  have a3 : ∀ r3 r5 ys : List Dt, r5.length + ys.length ≤ 16777216 → kAddA2 (.ref (Q.length + 3)) (.lst ys) (Q ++ [.lst [tD t], .lst [.int 1], .lst r3, .lst r5]) = .ok (r5 ++ ys) (Q ++ [.lst [tD t], .lst [.int 1], .lst r3, .lst r5]) := fun r3 r5 ys h => kAddA2_ok (asList_ref (g3 r3 r5)) rfl h
  have a4 : ∀ r3 r5 r8 ys : List Dt, r8.length + ys.length ≤ 16777216 → kAddA2 (.ref (Q.length + 4)) (.lst ys) (Q ++ [.lst [tD t], .lst [.int 1], .lst r3, .lst r5, .lst r8]) = .ok (r8 ++ ys) (Q ++ [.lst [tD t], .lst [.int 1], .lst r3, .lst r5, .lst r8]) := fun r3 r5 r8 ys h => kAddA2_ok (asList_ref (g4 r3 r5 r8)) rfl h
  have ap : ∀ r3 r5 : List Dt, ∀ y, r5.length < 16777216 → opAppend (.ref (Q.length + 3)) [y] (Q ++ [.lst [tD t], .lst [.int 1], .lst r3, .lst r5]) = .ok .non (Q ++ [.lst [tD t], .lst [.int 1], .lst r3, .lst (r5 ++ [y])]) := by
    intro r3 r5 y h
    have h' : r5.length < LINE := h
    unfold opAppend
    simp only [g3, h', if_true]
    rw [List.set_append_right _ _ (by omega)]
    simp
  have rc : ∀ r3 r5 : List Dt, recvOk .lst (Q ++ [.lst [tD t], .lst [.int 1], .lst r3, .lst r5]) (.ref (Q.length + 3)) = true := by
    intro r3 r5
    show (asList _ _).isSome = true
    rw [asList_ref (g3 r3 r5)]; rfl
  have fz : ∀ r3 r5 r8 r10 : List Dt, freezeP (.ref (Q.length + 5)) (Q ++ [.lst [tD t], .lst [.int 1], .lst r3, .lst r5, .lst r8, .lst r10]) = .ok (.lst r10) (Q ++ [.lst [tD t], .lst [.int 1], .lst r3, .lst r5, .lst r8, .gone]) := by
    intro r3 r5 r8 r10
    rw [freeze_ref (g5 r3 r5 r8 r10), List.set_append_right _ _ (by omega)]
    simp
  have mm : ∀ {k op} {fa : FA} {env : EnvD} {d : Dt} {S : Store}, recvOk k S d = true → kMeth1 k op fa env d S = (fa env S).bind (kMeth2 op d) := fun h => kMeth1_at h
  simp [a2, mm (rc _ _), ap, a3, a4, fz]
  exact (congrArg (fun o => kFn (kSeq o (sRet (cC (.bl true))))) e).trans rfl
/-! ### the law -/
section
variable {S : Store}
theorem tm_ok {n : Nat} {k m : Int} {c : Nat} {r : Int} (hp : PuI S n k) (hk : k < 2 ^ 27) (hm : 0 < m) (hm2 : m ≤ 1000) (h0 : 0 ≤ r) (h1 : r < c) (hc : c ≤ 5) : ∃ t S', m__law_term [.ref n, .int r, .int m] S = .ok (tD t) S' ∧ Dr m (c - 1) (4 ^ (c - 1)) t ∧ PuI S' n (k + 2000) ∧ Fr n S S' := by
  obtain ⟨j, rfl⟩ := Int.eq_ofNat_of_zero_le h0
  have ck : ∀ j, j ≤ 4 → cost j ≤ 1660 := by decide
  have := ck j (by omega)
  obtain ⟨t, S3, e3, o3, h3, s3, p3, f3⟩ := term_ok (n := n) hm hm2 66 j S k (by omega) hp (by omega)
  have : 4 ^ j ≤ 4 ^ (c - 1) := Nat.pow_le_pow_right (by omega) (by omega)
  exact ⟨t, S3, e3, ⟨o3, by omega, by omega⟩, p3.mono (by omega), f3⟩
theorem take_of {n : Nat} {k m : Int} (hp : PuI S n k) (hk : k < 2 ^ 28) (hm : 0 < m) (hm2 : m ≤ 1000) : ∃ r S', m__law_take [.ref n, .int m] S = .ok (.int r) S' ∧ 0 ≤ r ∧ r < m ∧ PuI S' n (k + 1) ∧ Fr n S S' := take_ok hp hm (by omega) (by omega)
theorem second_body {ns : List Int} {j : Int} {x2 x3 x4 x5 x6 x7 : Option DX} (hc : DL.Cl S) (h0 : 0 ≤ j) :
    ∃ y2 y3 y4 y5 y6 y7 S', L__law_second_0 [some (.vl (.lst (ns.map Dt.int))), some (.vl (.int j)), x2, x3, x4, x5, x6, x7] S = .nx [some (.vl (.lst (ns.map Dt.int))), some (.vl (.int j)), y2, y3, y4, y5, y6, y7] S' ∧ DL.Cl S' := by
  obtain ⟨c, e1⟩ := cell_ok (ns := ns) (S := S) h0
  obtain ⟨S1, e2, p1⟩ := purse_ok (c := c) hc
  obtain ⟨t, S2, e3, o3, h3, s3, p2, f2⟩ := any_ok (m := 4) (dp := 4) p1 (by omega) (by omega) (by omega) (by omega) (by omega)
  have dt : Dr 4 57 172 t := ⟨o3, h3, by rw [show max 172 (4 ^ (4 - 1)) = 172 from by decide] at s3; exact s3⟩
  obtain ⟨r1, S3, e4, a1, b1, p3, f3⟩ := take_of (m := 3) p2 (by omega) (by omega) (by omega)
  obtain ⟨t2, S4, e5, d2, p4, f4⟩ := tm_ok (m := 4) (c := 3) p3 (by omega) (by omega) (by omega) a1 b1 (by omega)
  obtain ⟨r2, S5, e6, a2, b2, p5, f5⟩ := take_of (m := 3) p4 (by omega) (by omega) (by omega)
  obtain ⟨t3, S6, e7, d3, p6, f6⟩ := tm_ok (m := 4) (c := 3) p5 (by omega) (by omega) (by omega) a2 b2 (by omega)
  obtain ⟨lo, S7, e8, a3, b3, p7, f7⟩ := take_of (m := 4) p6 (by omega) (by omega) (by omega)
  obtain ⟨mo, S8, e9, a4, b4, p8, f8⟩ := take_of (m := 6) p7 (by omega) (by omega) (by omega)
  have e10 := raising_ok (S := S8) p8.cl (⟨dt.ok.mono (by omega), dt.ht, by have := dt.sz; omega⟩ : Dr 1000 57 256 t) a3 (by omega) a4 (show mo ≤ 900 by omega)
  have e11 := giving_right_ok (S := S8) p8.cl dt d2 d3 a3 (show lo ≤ 900 by omega)
  obtain ⟨S9, e12, p9, f9⟩ := parts_right_ok p8 (by omega) dt d2
  have e3' : m__law_any [.ref S.length, .int 4, .int 4] S1 = .ok (tD t) S2 := e3
  refine ⟨some (.vl (.ref S.length)), some (.vl (tD t)), some (.vl (tD t2)), some (.vl (tD t3)), some (.vl (.int lo)), some (.vl (.int mo)), S9, ?_, p9.cl⟩
  unfold L__law_second_0
  simp [e1, e2, e3', e4, e5, e6, e7, e8, e9, e10, e11, e12]
theorem seconds_ok {ns : List Int} : ∀ (ds : List Dt) (S : Store) (x1 x2 x3 x4 x5 x6 x7 : Option DX), DL.Cl S → (∀ d ∈ ds, ∃ j : Int, 0 ≤ j ∧ d = .int j) →
    ∃ env S', forL (gN 1) L__law_second_0 ds [some (.vl (.lst (ns.map Dt.int))), x1, x2, x3, x4, x5, x6, x7] S = .nx env S' ∧ DL.Cl S'
  | [], S, x1, x2, x3, x4, x5, x6, x7, hc, _ => ⟨_, S, rfl, hc⟩
  | d :: ds, S, x1, x2, x3, x4, x5, x6, x7, hc, h => by
    obtain ⟨j, h0, rfl⟩ := h d (by simp)
    obtain ⟨y2, y3, y4, y5, y6, y7, S1, e1, c1⟩ := second_body (ns := ns) (x2 := x2) (x3 := x3) (x4 := x4) (x5 := x5) (x6 := x6) (x7 := x7) hc h0
    obtain ⟨env, S2, e2, c2⟩ := seconds_ok (ns := ns) ds S1 (some (.vl (.int j))) y2 y3 y4 y5 y6 y7 c1 (fun d hd => h d (by simp [hd]))
    refine ⟨env, S2, ?_, c2⟩
    rw [forL_N]
    simp only [List.set_cons_succ, List.set_cons_zero]
    rw [e1, kLoop_nx, e2]
theorem second_ok {ns : List Int} (hl : ns.length ≤ 63) : m__law_second [.lst (ns.map Dt.int)] [] = .ok (.bl true) [] := by
  have hc : DL.Cl [] := rfl
  obtain ⟨m, hm1, hm2, hm3⟩ : ∃ m : Int, (if (if (ns.length : Int) < 8 then (ns.length : Int) else 8) > 2 then (if (ns.length : Int) < 8 then (ns.length : Int) else 8) else 2) = m ∧ 0 ≤ m ∧ m < 100 := ⟨_, rfl, by split <;> (try split) <;> omega, by split <;> (try split) <;> omega⟩
  obtain ⟨env, S', e, c⟩ := seconds_ok (ns := ns) (rangeD 0 m.toNat) [] none none none none none none none hc (range_ints _)
  have hb : fnBody 1 7 b__law_second [.lst (ns.map Dt.int)] [] = .ok (.bl true) ([] ++ S') := by
    rw [fnB1]
    have hk : ∀ S, kRange1 [.int m] S = .ok (rangeD 0 m.toNat) S := fun S => kRange1_ok hm2 (by omega)
    unfold b__law_second
    simp only [ev_seq, nv_for, ev_range1, nv_cons, ev_app, ev_c, bind_ok, kCons1_at, ev_var, slot_0, opLen_lst, ev_nil, kCons2_at, opMin2_int, List.length_map]
    rw [opMax2_int, hm1]
    simp only [bind_ok, kCons1_at, ev_nil, kCons2_at, hk, sOut_ok, kFor_at, List.replicate, e, kSeq_nx, nv_ret, ev_c, kRet_at, kFn_rt, List.nil_append]
  exact trim_ok hb rfl hc
/-! first -/
theorem first_turn {t o : DL.Tm} {mo lo : Int} {x0 x1 x2 x3 x6 x9 x10 x11 x12 : Option DX} (hc : DL.Cl S) (dt : Dr 1000 57 256 t) (dq : Dr 1000 3 64 o) (m0 : 0 ≤ mo) (m1 : mo ≤ 999) (l0 : 0 ≤ lo) (l1 : lo ≤ 999) :
    ∃ y10 y11 y12, L__law_first_1 [x0, x1, x2, x3, some (.vl (tD t)), some (.vl (tD o)), x6, some (.vl (.int mo)), some (.vl (.int lo)), x9, x10, x11, x12] S = .nx [x0, x1, x2, x3, some (.vl (tD t)), some (.vl (tD o)), x6, some (.vl (.int mo)), some (.vl (.int lo)), x9, y10, y11, y12] S := by
  have hh := dt.ht
  have hs := dt.sz
  have oh := dq.ht
  have os := dq.sz
  have bt : Bd t := dt.bd (by omega) (by omega) (by omega)
  have bo : Bd o := dq.bd (by omega) (by omega) (by omega)
  have lr : ∀ {u : DL.Tm} {y s : Int}, Ok 1000000 u → ht u ≤ 63 → 0 ≤ y → y ≤ 999 → m__law_raised [tD u, .int y, .int s] S = .ok (tD (raiseT y u s)) S := fun ho hh h0 h1 => law_raised_ok (by omega) (by omega) 66 _ S hc ho (by omega)
  have lg : ∀ {u : DL.Tm} {n : Int}, Ok 1000000 u → ht u ≤ 63 → m__law_given [tD u, tD o, .int n, .int 0] S = .ok (tD (giveT o n u 0)) S := fun ho hh => law_given_ok bo.ok (by omega) 66 0 S hc (by omega) (by omega) ho (by omega)
  have bh : Bd (raiseT mo t lo) := raise_bd lo dt.ok m0 (by omega) (by omega) (by omega)
  have b1 : Bd (raiseT 1 t 0) := raise_bd 0 dt.ok (by omega) (by omega) (by omega) (by omega)
  have okh : Ok 1999 (raiseT mo t lo) := (Ok_raise m0 t lo dt.ok).mono (by omega)
  have bhh : Bd (raiseT mo (raiseT mo t lo) lo) := raise_bd lo okh m0 (by omega) (by rw [ht_raise]; omega) (by rw [sz_raise]; omega)
  have e1 := raised_ok (S := S) bt m0 m1 l0 l1
  have e2 := lr (s := lo) bt.ok bt.ht m0 m1
  have e3 := raised_ok (S := S) bt (y := 1) (s := 0) (by omega) (by omega) (by omega) (by omega)
  have e4 := lr (y := 1) (s := 0) bt.ok bt.ht (by omega) (by omega)
  have e5 := raised_ok (S := S) bh m0 m1 l0 l1
  have e6 := lr (s := lo) bh.ok bh.ht m0 m1
  have gb : ∀ {u : DL.Tm} {n : Int}, Ok 1999 u → ht u ≤ 57 → sz u ≤ 256 → 0 ≤ n → Bd (giveT o n u 0) := by
    intro u n h1 h2 h3 n0
    obtain ⟨x1, x2, x3⟩ := give_ok n n0 (show (1000 : Int) ≤ 1999 by omega) dq.ok u 0 (by omega) h1
    have := Nat.mul_le_mul h3 os
    exact ⟨x1.mono (by omega), by omega, by omega⟩
  have e7 := giving_ok (S := S) bh bo (n := 0) (by omega) (by omega)
  have e8 := lg (n := 0) bh.ok bh.ht
  have g8 := gb (n := 0) okh (by rw [ht_raise]; omega) (by rw [sz_raise]; omega) (by omega)
  have gt : ∀ n : Int, 0 ≤ n → Bd (giveT o n t 0) := fun n h => gb (dt.ok.mono (by omega)) hh hs h
  have num : ∀ (n : Int) (z9 z10 z11 z12 : Option DX), 0 ≤ n → n ≤ 999 → L__law_first_0 [x0, x1, x2, x3, some (.vl (tD t)), some (.vl (tD o)), x6, some (.vl (.int mo)), some (.vl (.int lo)), z9, z10, z11, some (.vl (.int n))] S = .nx [x0, x1, x2, x3, some (.vl (tD t)), some (.vl (tD o)), x6, some (.vl (.int mo)), some (.vl (.int lo)), z9, z10, z11, some (.vl (.int n))] S := by
    intro n z9 z10 z11 z12 n0 n1
    unfold L__law_first_0
    simp [giving_ok (S := S) bt bo n0 n1, lg (n := n) bt.ok bt.ht, (gt n n0).same]
  have q0 := giving_ok (S := S) bt bo (n := 0) (by omega) (by omega)
  have q1 := lg (n := 0) bt.ok bt.ht
  refine ⟨some (.vl (tD (raiseT mo t lo))), some (.vl (tD (raiseT mo t lo))), some (.vl (.int 2)), ?_⟩
  unfold L__law_first_1
  simp [e1, e2, bh.same, e3, e4, b1.same, e5, e6, bhh.same, e7, e8, g8.same, forL_N, num lo _ _ _ none l0 l1, num 0 _ _ _ none (by omega) (by omega), num 1 _ _ _ none (by omega) (by omega), num 2 _ _ _ none (by omega) (by omega), q0, q1, (gt 0 (by omega)).same]
theorem pick {ds : List Dt} {P : Int → Prop} (h : ∀ d ∈ ds, ∃ i, d = .int i ∧ P i) {r : Int} (h0 : 0 ≤ r) (h1 : r < ds.length) : ∃ i, P i ∧ ∀ S, opIx (.lst ds) (.int r) S = .ok (.int i) S := by
  obtain ⟨d, hd, hix⟩ := ix_mem h0 h1
  obtain ⟨i, rfl, hP⟩ := h d hd
  exact ⟨i, hP, hix⟩
theorem first_body {ns : List Int} {j : Int} {x2 x3 x4 x5 x6 x7 x8 x9 x10 x11 x12 : Option DX} (hc : DL.Cl S) (h0 : 0 ≤ j) :
    ∃ y2 y3 y4 y5 y6 y7 y8 y9 y10 y11 y12 S', L__law_first_2 [some (.vl (.lst (ns.map Dt.int))), some (.vl (.int j)), x2, x3, x4, x5, x6, x7, x8, x9, x10, x11, x12] S = .nx [some (.vl (.lst (ns.map Dt.int))), some (.vl (.int j)), y2, y3, y4, y5, y6, y7, y8, y9, y10, y11, y12] S' ∧ DL.Cl S' := by
  obtain ⟨c, e1⟩ := cell_ok (ns := ns) (S := S) h0
  obtain ⟨S1, e2, p1⟩ := purse_ok (c := c) hc
  obtain ⟨r1, S2, e3, a1, b1, p2, f2⟩ := take_of (m := 3) p1 (by omega) (by omega) (by omega)
  obtain ⟨m, ⟨m0, m1⟩, i1⟩ := pick (ds := [.int 3, .int 6, .int 1000]) (P := fun m => 0 < m ∧ m ≤ 1000) (by
    intro d hd; simp only [List.mem_cons, List.mem_nil_iff, or_false] at hd
    rcases hd with rfl | rfl | rfl <;> exact ⟨_, rfl, by omega, by omega⟩) a1 (by simpa using b1)
  obtain ⟨t, S3, e4, o3, h3, s3, p3, f3⟩ := any_ok (m := m) (dp := 5) p2 (by omega) m0 m1 (by omega) (by omega)
  have dt : Dr 1000 57 256 t := ⟨o3.mono m1, h3, by rw [show max 172 (4 ^ (5 - 1)) = 256 from by decide] at s3; exact s3⟩
  have e4' : m__law_any [.ref S.length, .int 5, .int m] S2 = .ok (tD t) S3 := e4
  obtain ⟨r2, S4, e5, a2, b2, p4, f4⟩ := take_of (m := 4) p3 (by omega) (by omega) (by omega)
  obtain ⟨o, S5, e6, d2, p5, f5⟩ := tm_ok (m := m) (c := 4) p4 (by omega) m0 m1 a2 b2 (by omega)
  have dq : Dr 1000 3 64 o := ⟨d2.ok.mono m1, d2.ht, d2.sz⟩
  have bt : Bd t := dt.bd (by omega) (by omega) (by omega)
  have bo : Bd o := dq.bd (by omega) (by omega) (by omega)
  obtain ⟨z, hz⟩ : ∃ z, ∀ S, opRepr [.lst [tD t, tD o]] S = .ok (.str z) S := ⟨_, fun S => opRepr_ok S (by show (okD (tD t) && (okD (tD o) && true)) = true; rw [bt.fine.ok, bo.fine.ok]; rfl)
    (by show max (dpD (tD t)) (max (dpD (tD o)) 0) + 1 ≤ 200; rw [tD_dp, tD_dp]; have := dt.ht; have := dq.ht; omega)
    (by show wtD (tD t) + 1 + (wtD (tD o) + 1 + 0) ≤ 100000; have := tD_wt t dt.ok; have := tD_wt o dq.ok; have := dt.sz; have := dq.sz; omega)⟩
  obtain ⟨v1, S6, e7, a3, b3, p6, f6⟩ := take_of (m := 1000) p5 (by omega) (by omega) (by omega)
  obtain ⟨r3, S7, e8, a4, b4, p7, f7⟩ := take_of (m := 5) p6 (by omega) (by omega) (by omega)
  obtain ⟨mo, ⟨g0, g1⟩, i2⟩ := pick (ds := [.int 1, .int 0, .int 2, .int 999, .int v1]) (P := fun m => 0 ≤ m ∧ m ≤ 999) (by
    intro d hd; simp only [List.mem_cons, List.mem_nil_iff, or_false] at hd
    rcases hd with rfl | rfl | rfl | rfl | rfl <;> exact ⟨_, rfl, by omega, by omega⟩) a4 (by simpa using b4)
  obtain ⟨v2, S8, e9, a5, b5, p8, f8⟩ := take_of (m := 1000) p7 (by omega) (by omega) (by omega)
  obtain ⟨r4, S9, e10, a6, b6, p9, f9⟩ := take_of (m := 4) p8 (by omega) (by omega) (by omega)
  obtain ⟨lo, ⟨l0, l1⟩, i3⟩ := pick (ds := [.int 0, .int 1, .int 2, .int v2]) (P := fun m => 0 ≤ m ∧ m ≤ 999) (by
    intro d hd; simp only [List.mem_cons, List.mem_nil_iff, or_false] at hd
    rcases hd with rfl | rfl | rfl | rfl <;> exact ⟨_, rfl, by omega, by omega⟩) a6 (by simpa using b6)
  obtain ⟨u10, u11, u12, e11⟩ := first_turn (x0 := some (.vl (.lst (ns.map Dt.int)))) (x1 := some (.vl (.int j))) (x2 := some (.vl (.ref S.length))) (x3 := some (.vl (.int m))) (x6 := some (.vl (.str z))) (x9 := some (.vl (.int 0))) (x10 := x10) (x11 := x11) (x12 := x12) p9.cl dt dq g0 g1 l0 l1
  obtain ⟨w10, w11, w12, e12⟩ := first_turn (x0 := some (.vl (.lst (ns.map Dt.int)))) (x1 := some (.vl (.int j))) (x2 := some (.vl (.ref S.length))) (x3 := some (.vl (.int m))) (x6 := some (.vl (.str z))) (x9 := some (.vl (.int 1))) (x10 := u10) (x11 := u11) (x12 := u12) p9.cl dt dq g0 g1 l0 l1
  obtain ⟨S10, e13, p10, f10⟩ := refused_ok p9 (by omega) dt dq
  refine ⟨some (.vl (.ref S.length)), some (.vl (.int m)), some (.vl (tD t)), some (.vl (tD o)), some (.vl (.str z)), some (.vl (.int mo)), some (.vl (.int lo)), some (.vl (.int 1)), w10, w11, w12, S10, ?_, p10.cl⟩
  have hr : rangeD 0 2 = [.int 0, .int 1] := rfl
  have hk : ∀ S, kRange1 [.int 2] S = .ok [.int 0, .int 1] S := fun S => kRange1_ok (by omega) (by omega)
  unfold L__law_first_2
  simp [e1, e2, e3, i1, e4', e5, e6, hz, e7, e8, i2, e9, e10, i3, hk, forL_N, e11, e12, opNe_strs, e13]
theorem firsts_ok {ns : List Int} : ∀ (ds : List Dt) (S : Store) (x1 x2 x3 x4 x5 x6 x7 x8 x9 x10 x11 x12 : Option DX), DL.Cl S → (∀ d ∈ ds, ∃ j : Int, 0 ≤ j ∧ d = .int j) →
    ∃ env S', forL (gN 1) L__law_first_2 ds [some (.vl (.lst (ns.map Dt.int))), x1, x2, x3, x4, x5, x6, x7, x8, x9, x10, x11, x12] S = .nx env S' ∧ DL.Cl S'
  | [], S, x1, x2, x3, x4, x5, x6, x7, x8, x9, x10, x11, x12, hc, _ => ⟨_, S, rfl, hc⟩
  | d :: ds, S, x1, x2, x3, x4, x5, x6, x7, x8, x9, x10, x11, x12, hc, h => by
    obtain ⟨j, h0, rfl⟩ := h d (by simp)
    obtain ⟨y2, y3, y4, y5, y6, y7, y8, y9, y10, y11, y12, S1, e1, c1⟩ := first_body (ns := ns) (x2 := x2) (x3 := x3) (x4 := x4) (x5 := x5) (x6 := x6) (x7 := x7) (x8 := x8) (x9 := x9) (x10 := x10) (x11 := x11) (x12 := x12) hc h0
    obtain ⟨env, S2, e2, c2⟩ := firsts_ok (ns := ns) ds S1 (some (.vl (.int j))) y2 y3 y4 y5 y6 y7 y8 y9 y10 y11 y12 c1 (fun d hd => h d (by simp [hd]))
    refine ⟨env, S2, ?_, c2⟩
    rw [forL_N]
    simp only [List.set_cons_succ, List.set_cons_zero]
    rw [e1, kLoop_nx, e2]
theorem first_ok {ns : List Int} (hl : ns.length ≤ 63) : m__law_first [.lst (ns.map Dt.int)] [] = .ok (.bl true) [] := by
  have hc : DL.Cl [] := rfl
  obtain ⟨m, hm1, hm2, hm3⟩ : ∃ m : Int, (if (if (ns.length : Int) < 10 then (ns.length : Int) else 10) > 2 then (if (ns.length : Int) < 10 then (ns.length : Int) else 10) else 2) = m ∧ 0 ≤ m ∧ m < 100 := ⟨_, rfl, by split <;> (try split) <;> omega, by split <;> (try split) <;> omega⟩
  obtain ⟨env, S', e, c⟩ := firsts_ok (ns := ns) (rangeD 0 m.toNat) [] none none none none none none none none none none none none hc (range_ints _)
  have hb : fnBody 1 12 b__law_first [.lst (ns.map Dt.int)] [] = .ok (.bl true) ([] ++ S') := by
    rw [fnB1]
    have hk : ∀ S, kRange1 [.int m] S = .ok (rangeD 0 m.toNat) S := fun S => kRange1_ok hm2 (by omega)
    unfold b__law_first
    simp only [ev_seq, nv_for, ev_range1, nv_cons, ev_app, ev_c, bind_ok, kCons1_at, ev_var, slot_0, opLen_lst, ev_nil, kCons2_at, opMin2_int, List.length_map]
    rw [opMax2_int, hm1]
    simp only [bind_ok, kCons1_at, ev_nil, kCons2_at, hk, sOut_ok, kFor_at, List.replicate, e, kSeq_nx, nv_ret, ev_c, kRet_at, kFn_rt, List.nil_append]
  exact trim_ok hb rfl hc
theorem law_holds : ∀ ns : List Int, ns.length ≤ 63 → ∃ S, m_law [.lst (ns.map Dt.int)] [] = .ok (.bl true) S := by
  intro ns hl
  refine ⟨[], ?_⟩
  unfold m_law
  rw [fnB1]
  simp [b_law, first_ok hl, second_ok hl]
end
end K04

set_option Elab.async false
set_option linter.all false
set_option maxRecDepth 100000
set_option maxHeartbeats 4000000
namespace K04
open PySem PySem.Spec PyProof.Rows L2 DL
def topS (i : Nat) : Stmt := PySem.Challenge.pw_paperwide_k04_whole_raised_and_given.main.body.getD i (.Pass ⟨0, 0, 0, 0⟩)
abbrev s_is_whole : Stmt := topS 14
theorem sc_is_whole : FnScope ["thing", "low", "high"] ["thing", "low", "high"] (defScope s_is_whole) := ⟨rfl, rfl, rfl, by decide +kernel, rfl, by decide +kernel, by decide +kernel⟩
abbrev s_is_number : Stmt := topS 15
theorem sc_is_number : FnScope ["thing"] ["thing"] (defScope s_is_number) := ⟨rfl, rfl, rfl, by decide +kernel, rfl, by decide +kernel, by decide +kernel⟩
abbrev s_is_name : Stmt := topS 16
theorem sc_is_name : FnScope ["thing", "sign"] ["thing"] (defScope s_is_name) := ⟨rfl, rfl, rfl, by decide +kernel, rfl, by decide +kernel, by decide +kernel⟩
abbrev s_has_form : Stmt := topS 17
theorem sc_has_form : FnScope ["letter", "thing"] ["letter", "thing"] (defScope s_has_form) := ⟨rfl, rfl, rfl, by decide +kernel, rfl, by decide +kernel, by decide +kernel⟩
abbrev s_is_term : Stmt := topS 18
theorem sc_is_term : FnScope ["thing", "form", "letter", "part"] ["thing"] (defScope s_is_term) := ⟨rfl, rfl, rfl, by decide +kernel, rfl, by decide +kernel, by decide +kernel⟩
abbrev s_is_spot : Stmt := topS 19
theorem sc_is_spot : FnScope ["thing", "number"] ["thing"] (defScope s_is_spot) := ⟨rfl, rfl, rfl, by decide +kernel, rfl, by decide +kernel, by decide +kernel⟩
abbrev s_need_term : Stmt := topS 20
theorem sc_need_term : FnScope ["thing"] ["thing"] (defScope s_need_term) := ⟨rfl, rfl, rfl, by decide +kernel, rfl, by decide +kernel, by decide +kernel⟩
abbrev s_need_place : Stmt := topS 21
theorem sc_need_place : FnScope ["thing"] ["thing"] (defScope s_need_place) := ⟨rfl, rfl, rfl, by decide +kernel, rfl, by decide +kernel, by decide +kernel⟩
abbrev s_inner : Stmt := topS 22
theorem sc_inner : FnScope ["term"] ["term"] (defScope s_inner) := ⟨rfl, rfl, rfl, by decide +kernel, rfl, by decide +kernel, by decide +kernel⟩
abbrev s_with_parts : Stmt := topS 23
theorem sc_with_parts : FnScope ["term", "some"] ["term", "some"] (defScope s_with_parts) := ⟨rfl, rfl, rfl, by decide +kernel, rfl, by decide +kernel, by decide +kernel⟩
abbrev s_binds : Stmt := topS 24
theorem sc_binds : FnScope ["term", "number"] ["term", "number"] (defScope s_binds) := ⟨rfl, rfl, rfl, by decide +kernel, rfl, by decide +kernel, by decide +kernel⟩
abbrev s_gone_to : Stmt := topS 25
theorem sc_gone_to : FnScope ["term", "spot", "part", "binders", "number"] ["term", "spot"] (defScope s_gone_to) := ⟨rfl, rfl, rfl, by decide +kernel, rfl, by decide +kernel, by decide +kernel⟩
abbrev s_part_at : Stmt := topS 26
theorem sc_part_at : FnScope ["term", "spot"] ["term", "spot"] (defScope s_part_at) := ⟨rfl, rfl, rfl, by decide +kernel, rfl, by decide +kernel, by decide +kernel⟩
abbrev s_spots_in : Stmt := topS 27
theorem sc_spots_in : FnScope ["term", "found", "number", "part", "spot"] ["term"] (defScope s_spots_in) := ⟨rfl, rfl, rfl, by decide +kernel, rfl, by decide +kernel, by decide +kernel⟩
abbrev s_spots : Stmt := topS 28
theorem sc_spots : FnScope ["term"] ["term"] (defScope s_spots) := ⟨rfl, rfl, rfl, by decide +kernel, rfl, by decide +kernel, by decide +kernel⟩
abbrev s_put_at : Stmt := topS 29
theorem sc_put_at : FnScope ["term", "spot", "other", "some"] ["term", "spot", "other"] (defScope s_put_at) := ⟨rfl, rfl, rfl, by decide +kernel, rfl, by decide +kernel, by decide +kernel⟩
abbrev s_changed : Stmt := topS 30
theorem sc_changed : FnScope ["term", "spot", "other"] ["term", "spot", "other"] (defScope s_changed) := ⟨rfl, rfl, rfl, by decide +kernel, rfl, by decide +kernel, by decide +kernel⟩
abbrev s_size_of : Stmt := topS 31
theorem sc_size_of : FnScope ["term", "part"] ["term"] (defScope s_size_of) := ⟨rfl, rfl, rfl, by decide +kernel, rfl, by decide +kernel, by decide +kernel⟩
abbrev s_size : Stmt := topS 32
theorem sc_size : FnScope ["term"] ["term"] (defScope s_size) := ⟨rfl, rfl, rfl, by decide +kernel, rfl, by decide +kernel, by decide +kernel⟩
abbrev s_free_in : Stmt := topS 33
theorem sc_free_in : FnScope ["term", "found", "number", "part", "place"] ["term"] (defScope s_free_in) := ⟨rfl, rfl, rfl, by decide +kernel, rfl, by decide +kernel, by decide +kernel⟩
abbrev s_free : Stmt := topS 34
theorem sc_free : FnScope ["term"] ["term"] (defScope s_free) := ⟨rfl, rfl, rfl, by decide +kernel, rfl, by decide +kernel, by decide +kernel⟩
abbrev s_raise_in : Stmt := topS 35
theorem sc_raise_in : FnScope ["term", "by", "start", "some", "number", "part"] ["term", "by", "start"] (defScope s_raise_in) := ⟨rfl, rfl, rfl, by decide +kernel, rfl, by decide +kernel, by decide +kernel⟩
abbrev s_raised : Stmt := topS 36
theorem sc_raised : FnScope ["term", "by", "start"] ["term", "by", "start"] (defScope s_raised) := ⟨rfl, rfl, rfl, by decide +kernel, rfl, by decide +kernel, by decide +kernel⟩
abbrev s_give_in : Stmt := topS 37
theorem sc_give_in : FnScope ["term", "other", "number", "binders", "some", "k", "part"] ["term", "other", "number", "binders"] (defScope s_give_in) := ⟨rfl, rfl, rfl, by decide +kernel, rfl, by decide +kernel, by decide +kernel⟩
abbrev s_giving : Stmt := topS 38
theorem sc_giving : FnScope ["term", "other", "number"] ["term", "other", "number"] (defScope s_giving) := ⟨rfl, rfl, rfl, by decide +kernel, rfl, by decide +kernel, by decide +kernel⟩
abbrev s_lower_in : Stmt := topS 39
theorem sc_lower_in : FnScope ["term"] ["term"] (defScope s_lower_in) := ⟨rfl, rfl, rfl, by decide +kernel, rfl, by decide +kernel, by decide +kernel⟩
abbrev s_lowered : Stmt := topS 40
theorem sc_lowered : FnScope ["term"] ["term"] (defScope s_lowered) := ⟨rfl, rfl, rfl, by decide +kernel, rfl, by decide +kernel, by decide +kernel⟩
abbrev s_apply_to : Stmt := topS 41
theorem sc_apply_to : FnScope ["head", "some", "found", "part"] ["head", "some"] (defScope s_apply_to) := ⟨rfl, rfl, rfl, by decide +kernel, rfl, by decide +kernel, by decide +kernel⟩
abbrev s_applied : Stmt := topS 42
theorem sc_applied : FnScope ["head", "some", "part"] ["head", "some"] (defScope s_applied) := ⟨rfl, rfl, rfl, by decide +kernel, rfl, by decide +kernel, by decide +kernel⟩
abbrev s_open_up : Stmt := topS 43
theorem sc_open_up : FnScope ["term", "some", "head"] ["term"] (defScope s_open_up) := ⟨rfl, rfl, rfl, by decide +kernel, rfl, by decide +kernel, by decide +kernel⟩
abbrev s_opened : Stmt := topS 44
theorem sc_opened : FnScope ["term"] ["term"] (defScope s_opened) := ⟨rfl, rfl, rfl, by decide +kernel, rfl, by decide +kernel, by decide +kernel⟩
abbrev s__law_cell : Stmt := topS 46
theorem sc__law_cell : FnScope ["script", "k"] ["script", "k"] (defScope s__law_cell) := ⟨rfl, rfl, rfl, by decide +kernel, rfl, by decide +kernel, by decide +kernel⟩
abbrev s__law_purse : Stmt := topS 47
theorem sc__law_purse : FnScope ["cell"] ["cell"] (defScope s__law_purse) := ⟨rfl, rfl, rfl, by decide +kernel, rfl, by decide +kernel, by decide +kernel⟩
abbrev s__law_take : Stmt := topS 48
theorem sc__law_take : FnScope ["purse", "many", "one", "other", "digit"] ["purse", "many"] (defScope s__law_take) := ⟨rfl, rfl, rfl, by decide +kernel, rfl, by decide +kernel, by decide +kernel⟩
abbrev s__law_forms : Stmt := topS 49
theorem sc__law_forms : FnScope ["forms", "more"] [] (defScope s__law_forms) := ⟨rfl, rfl, rfl, by decide +kernel, rfl, by decide +kernel, by decide +kernel⟩
abbrev s__law_word : Stmt := topS 50
theorem sc__law_word : FnScope ["purse", "letters", "word", "k"] ["purse"] (defScope s__law_word) := ⟨rfl, rfl, rfl, by decide +kernel, rfl, by decide +kernel, by decide +kernel⟩
abbrev s__law_term : Stmt := topS 51
theorem sc__law_term : FnScope ["purse", "depth", "below", "words", "word", "found", "letter"] ["purse", "depth", "below"] (defScope s__law_term) := ⟨rfl, rfl, rfl, by decide +kernel, rfl, by decide +kernel, by decide +kernel⟩
abbrev s__law_any : Stmt := topS 52
theorem sc__law_any : FnScope ["purse", "deep", "below", "found", "turn", "few"] ["purse", "deep", "below"] (defScope s__law_any) := ⟨rfl, rfl, rfl, by decide +kernel, rfl, by decide +kernel, by decide +kernel⟩
abbrev s__law_parts : Stmt := topS 53
theorem sc__law_parts : FnScope ["term"] ["term"] (defScope s__law_parts) := ⟨rfl, rfl, rfl, by decide +kernel, rfl, by decide +kernel, by decide +kernel⟩
abbrev s__law_over : Stmt := topS 54
theorem sc__law_over : FnScope ["term", "number"] ["term", "number"] (defScope s__law_over) := ⟨rfl, rfl, rfl, by decide +kernel, rfl, by decide +kernel, by decide +kernel⟩
abbrev s__law_raised : Stmt := topS 55
theorem sc__law_raised : FnScope ["term", "by", "start", "some", "found", "k", "part"] ["term", "by", "start"] (defScope s__law_raised) := ⟨rfl, rfl, rfl, by decide +kernel, rfl, by decide +kernel, by decide +kernel⟩
abbrev s__law_given : Stmt := topS 56
theorem sc__law_given : FnScope ["term", "other", "number", "under", "some", "found", "k", "part"] ["term", "other", "number", "under"] (defScope s__law_given) := ⟨rfl, rfl, rfl, by decide +kernel, rfl, by decide +kernel, by decide +kernel⟩
abbrev s__law_asked : Stmt := topS 58
theorem sc__law_asked : FnScope ["way", "first", "second", "third", "e"] ["way", "first", "second", "third"] (defScope s__law_asked) := ⟨rfl, rfl, rfl, by decide +kernel, rfl, by decide +kernel, by decide +kernel⟩
abbrev s__law_refused_right : Stmt := topS 59
theorem sc__law_refused_right : FnScope ["purse", "term", "other", "none", "odd", "rows", "k", "way", "first", "second", "third", "word", "due", "shown", "told", "found"] ["purse", "term", "other"] (defScope s__law_refused_right) := ⟨rfl, rfl, rfl, by decide +kernel, rfl, by decide +kernel, by decide +kernel⟩
abbrev s__law_first : Stmt := topS 60
theorem sc__law_first : FnScope ["script", "k", "purse", "below", "term", "other", "shown", "more", "low", "turn", "high", "due", "number"] ["script"] (defScope s__law_first) := ⟨rfl, rfl, rfl, by decide +kernel, rfl, by decide +kernel, by decide +kernel⟩
abbrev s__law_raising_right : Stmt := topS 61
theorem sc__law_raising_right : FnScope ["term", "low", "more", "high", "near", "place"] ["term", "low", "more"] (defScope s__law_raising_right) := ⟨rfl, rfl, rfl, by decide +kernel, rfl, by decide +kernel, by decide +kernel⟩
abbrev s__law_giving_right : Stmt := topS 62
theorem sc__law_giving_right : FnScope ["one", "two", "three", "low", "first", "second", "less"] ["one", "two", "three", "low"] (defScope s__law_giving_right) := ⟨rfl, rfl, rfl, by decide +kernel, rfl, by decide +kernel, by decide +kernel⟩
abbrev s__law_parts_right : Stmt := topS 63
theorem sc__law_parts_right : FnScope ["purse", "one", "two", "some", "spot", "head", "held", "more"] ["purse", "one", "two"] (defScope s__law_parts_right) := ⟨rfl, rfl, rfl, by decide +kernel, rfl, by decide +kernel, by decide +kernel⟩
abbrev s__law_second : Stmt := topS 64
theorem sc__law_second : FnScope ["script", "k", "purse", "one", "two", "three", "low", "more"] ["script"] (defScope s__law_second) := ⟨rfl, rfl, rfl, by decide +kernel, rfl, by decide +kernel, by decide +kernel⟩
abbrev s_law : Stmt := topS 65
theorem sc_law : FnScope ["script"] ["script"] (defScope s_law) := ⟨rfl, rfl, rfl, by decide +kernel, rfl, by decide +kernel, by decide +kernel⟩
abbrev si_NoNumber : Stmt := initS (topS 6) 0
abbrev si_NoSpot : Stmt := initS (topS 5) 0
abbrev si_NoTerm : Stmt := initS (topS 4) 0
structure Tab (K : PySem.W.Frag) (w : World) : Prop where
  f_is_whole : HasFn0 K "is_whole" "is_whole" s_is_whole
  f_is_number : HasFn0 K "is_number" "is_number" s_is_number
  f_is_name : HasFn0 K "is_name" "is_name" s_is_name
  f_has_form : HasFn0 K "has_form" "has_form" s_has_form
  f_is_term : HasFn0 K "is_term" "is_term" s_is_term
  f_is_spot : HasFn0 K "is_spot" "is_spot" s_is_spot
  f_need_term : HasFn0 K "need_term" "need_term" s_need_term
  f_need_place : HasFn0 K "need_place" "need_place" s_need_place
  f_inner : HasFn0 K "inner" "inner" s_inner
  f_with_parts : HasFn0 K "with_parts" "with_parts" s_with_parts
  f_binds : HasFn0 K "binds" "binds" s_binds
  f_gone_to : HasFn0 K "gone_to" "gone_to" s_gone_to
  f_part_at : HasFn0 K "part_at" "part_at" s_part_at
  f_spots_in : HasFn0 K "spots_in" "spots_in" s_spots_in
  f_spots : HasFn0 K "spots" "spots" s_spots
  f_put_at : HasFn0 K "put_at" "put_at" s_put_at
  f_changed : HasFn0 K "changed" "changed" s_changed
  f_size_of : HasFn0 K "size_of" "size_of" s_size_of
  f_size : HasFn0 K "size" "size" s_size
  f_free_in : HasFn0 K "free_in" "free_in" s_free_in
  f_free : HasFn0 K "free" "free" s_free
  f_raise_in : HasFn0 K "raise_in" "raise_in" s_raise_in
  f_raised : HasFnD K "raised" "raised" s_raised [.int 1, .int 0]
  f_give_in : HasFnD K "give_in" "give_in" s_give_in [.int 0]
  f_giving : HasFnD K "giving" "giving" s_giving [.int 0]
  f_lower_in : HasFn0 K "lower_in" "lower_in" s_lower_in
  f_lowered : HasFn0 K "lowered" "lowered" s_lowered
  f_apply_to : HasFn0 K "apply_to" "apply_to" s_apply_to
  f_applied : HasFn0 K "applied" "applied" s_applied
  f_open_up : HasFn0 K "open_up" "open_up" s_open_up
  f_opened : HasFn0 K "opened" "opened" s_opened
  f__law_cell : HasFn0 K "_law_cell" "_law_cell" s__law_cell
  f__law_purse : HasFn0 K "_law_purse" "_law_purse" s__law_purse
  f__law_take : HasFn0 K "_law_take" "_law_take" s__law_take
  f__law_forms : HasFn0 K "_law_forms" "_law_forms" s__law_forms
  f__law_word : HasFn0 K "_law_word" "_law_word" s__law_word
  f__law_term : HasFn0 K "_law_term" "_law_term" s__law_term
  f__law_any : HasFn0 K "_law_any" "_law_any" s__law_any
  f__law_parts : HasFn0 K "_law_parts" "_law_parts" s__law_parts
  f__law_over : HasFn0 K "_law_over" "_law_over" s__law_over
  f__law_raised : HasFn0 K "_law_raised" "_law_raised" s__law_raised
  f__law_given : HasFn0 K "_law_given" "_law_given" s__law_given
  f__law_asked : HasFn0 K "_law_asked" "_law_asked" s__law_asked
  f__law_refused_right : HasFn0 K "_law_refused_right" "_law_refused_right" s__law_refused_right
  f__law_first : HasFn0 K "_law_first" "_law_first" s__law_first
  f__law_raising_right : HasFn0 K "_law_raising_right" "_law_raising_right" s__law_raising_right
  f__law_giving_right : HasFn0 K "_law_giving_right" "_law_giving_right" s__law_giving_right
  f__law_parts_right : HasFn0 K "_law_parts_right" "_law_parts_right" s__law_parts_right
  f__law_second : HasFn0 K "_law_second" "_law_second" s__law_second
  f_law : HasFn0 K "law" "law" s_law
  b_all : PySem.W.nsIn K mainGlobals "all" = some none
  b_bool : PySem.W.nsIn K mainGlobals "bool" = some none
  b_dict : PySem.W.nsIn K mainGlobals "dict" = some none
  b_enumerate : PySem.W.nsIn K mainGlobals "enumerate" = some none
  b_int : PySem.W.nsIn K mainGlobals "int" = some none
  b_isinstance : PySem.W.nsIn K mainGlobals "isinstance" = some none
  b_len : PySem.W.nsIn K mainGlobals "len" = some none
  b_list : PySem.W.nsIn K mainGlobals "list" = some none
  b_max : PySem.W.nsIn K mainGlobals "max" = some none
  b_min : PySem.W.nsIn K mainGlobals "min" = some none
  b_range : PySem.W.nsIn K mainGlobals "range" = some none
  b_repr : PySem.W.nsIn K mainGlobals "repr" = some none
  b_sorted : PySem.W.nsIn K mainGlobals "sorted" = some none
  b_str : PySem.W.nsIn K mainGlobals "str" = some none
  b_sum : PySem.W.nsIn K mainGlobals "sum" = some none
  b_tuple : PySem.W.nsIn K mainGlobals "tuple" = some none
  b_zip : PySem.W.nsIn K mainGlobals "zip" = some none
  g_BINDERS : GlTup K "BINDERS" ["all", "fun"]
  g_FORMS : GlDct K w "FORMS" [("at", "n"), ("kind", "h"), ("all", "tt"), ("fun", "tt"), ("app", "tt"), ("name", "w"), ("thing", "w"), ("maker", "wn"), ("eater", "wh"), ("same", "ttt"), ("self", "tt"), ("put", "ttt")]
  g_KEPT : GlTup K "KEPT" ["all", "fun", "same", "self", "put"]
  g_MOST_KIND : GlInt K "MOST_KIND" 5
  g_MOST_PLACE : GlInt K "MOST_PLACE" 999
  g_SMALL : GlStr K "SMALL" "abcdefghijklmnopqrstuvwxyz"
  x_NoNumber : ExcK K "NoNumber" "NoNumber.__init__" ["found"] si_NoNumber
  x_NoSpot : ExcK K "NoSpot" "NoSpot.__init__" ["found"] si_NoSpot
  x_NoTerm : ExcK K "NoTerm" "NoTerm.__init__" ["found"] si_NoTerm
  t_NoNumber_NoNumber : ExmsK K "NoNumber" [("NoNumber", true)]
  t_NoTerm_NoTerm_NoNumber : ExmsK K "NoTerm" [("NoTerm", true), ("NoNumber", false)]
section
variable {Y : Cx} {h : Heap}
theorem gl_BINDERS (X : Y.K.In h) (G : h.Ns mainGlobals Y.mg) (T : Tab Y.K Y.w) : GlD Y "BINDERS" d_BINDERS := glTup X G T.g_BINDERS
theorem gl_FORMS (X : Y.K.In h) (G : h.Ns mainGlobals Y.mg) (T : Tab Y.K Y.w) : GlD Y "FORMS" d_FORMS := glDct X G T.g_FORMS
theorem gl_KEPT (X : Y.K.In h) (G : h.Ns mainGlobals Y.mg) (T : Tab Y.K Y.w) : GlD Y "KEPT" d_KEPT := glTup X G T.g_KEPT
theorem gl_MOST_KIND (X : Y.K.In h) (G : h.Ns mainGlobals Y.mg) (T : Tab Y.K Y.w) : GlD Y "MOST_KIND" d_MOST_KIND := glInt X G T.g_MOST_KIND
theorem gl_MOST_PLACE (X : Y.K.In h) (G : h.Ns mainGlobals Y.mg) (T : Tab Y.K Y.w) : GlD Y "MOST_PLACE" d_MOST_PLACE := glInt X G T.g_MOST_PLACE
theorem gl_SMALL (X : Y.K.In h) (G : h.Ns mainGlobals Y.mg) (T : Tab Y.K Y.w) : GlD Y "SMALL" d_SMALL := glStr X G T.g_SMALL
theorem scI_NoNumber : FnScope [Str.ofString "self", "found"] [Str.ofString "self", "found"] (defScope si_NoNumber) := ⟨rfl, rfl, rfl, by decide +kernel, rfl, by decide +kernel, by decide +kernel⟩
theorem ex_NoNumber {k : Nat} (X : Y.K.In h) (G : h.Ns mainGlobals Y.mg) (T : Tab Y.K Y.w) (hr : Room k Y.A) (hk : 2 ≤ k) : ExcD Y "NoNumber" ["found"] :=
  excD_of X G T.x_NoNumber hr hk scI_NoNumber (.cons InitTxt.nil) (by decide) (Or.inl rfl) ⟨⟨rfl, rfl, rfl⟩, trivial⟩ (fun _ _ _ _ _ _ us hl => match us, hl with | [_, _], _ => rfl)
theorem scI_NoSpot : FnScope [Str.ofString "self", "found"] [Str.ofString "self", "found"] (defScope si_NoSpot) := ⟨rfl, rfl, rfl, by decide +kernel, rfl, by decide +kernel, by decide +kernel⟩
theorem ex_NoSpot {k : Nat} (X : Y.K.In h) (G : h.Ns mainGlobals Y.mg) (T : Tab Y.K Y.w) (hr : Room k Y.A) (hk : 2 ≤ k) : ExcD Y "NoSpot" ["found"] :=
  excD_of X G T.x_NoSpot hr hk scI_NoSpot (.cons InitTxt.nil) (by decide) (Or.inl rfl) ⟨⟨rfl, rfl, rfl⟩, trivial⟩ (fun _ _ _ _ _ _ us hl => match us, hl with | [_, _], _ => rfl)
theorem scI_NoTerm : FnScope [Str.ofString "self", "found"] [Str.ofString "self", "found"] (defScope si_NoTerm) := ⟨rfl, rfl, rfl, by decide +kernel, rfl, by decide +kernel, by decide +kernel⟩
theorem ex_NoTerm {k : Nat} (X : Y.K.In h) (G : h.Ns mainGlobals Y.mg) (T : Tab Y.K Y.w) (hr : Room k Y.A) (hk : 2 ≤ k) : ExcD Y "NoTerm" ["found"] :=
  excD_of X G T.x_NoTerm hr hk scI_NoTerm (.cons InitTxt.nil) (by decide) (Or.inl rfl) ⟨⟨rfl, rfl, rfl⟩, trivial⟩ (fun _ _ _ _ _ _ us hl => match us, hl with | [_, _], _ => rfl)
theorem fl_NoNumber_found (X : Y.K.In h) (G : h.Ns mainGlobals Y.mg) (T : Tab Y.K Y.w) : FldD Y "NoNumber" "found" := fldD_of X G T.x_NoNumber
theorem fl_NoTerm_found (X : Y.K.In h) (G : h.Ns mainGlobals Y.mg) (T : Tab Y.K Y.w) : FldD Y "NoTerm" "found" := fldD_of X G T.x_NoTerm
theorem te_NoNumber_NoNumber (X : Y.K.In h) (G : h.Ns mainGlobals Y.mg) (T : Tab Y.K Y.w) (hg : Gl Y "NoNumber") : TestD Y "NoNumber" [("NoNumber", true)] := testD_of X G T.t_NoNumber_NoNumber (by simp) hg
theorem te_NoTerm_NoTerm_NoNumber (X : Y.K.In h) (G : h.Ns mainGlobals Y.mg) (T : Tab Y.K Y.w) (hg : Gl Y "NoTerm") : TestD Y "NoTerm" [("NoTerm", true), ("NoNumber", false)] := testD_of X G T.t_NoTerm_NoTerm_NoNumber (by simp) hg
end
section
variable {P : Program} {w : World} {K : PySem.W.Frag} {mg : Str → Option Value} {base h : Heap}
theorem ok_is_whole (X : K.In h) (G : h.Ns mainGlobals mg) (T : Tab K w) : Does P w K mg base 4 "is_whole" [[]] m_is_whole :=
  (does_ok (k := 3) (nl := 0) X G T.f_is_whole sc_is_whole rfl (fun _ _ _ _ _ _ us hl => match us, hl with | [_, _, _], _ => rfl) (fun f cdv A outer s H E hgu hr tk po => by
      have u1 := Room.u1 hr
      have u200 := Room.u200 hr
      have u210 := Room.u210 hr (by omega)
      have b_all : mg "all" = none := PySem.W.mg_none_of X G T.b_all
      have b_bool : mg "bool" = none := PySem.W.mg_none_of X G T.b_bool
      have b_dict : mg "dict" = none := PySem.W.mg_none_of X G T.b_dict
      have b_enumerate : mg "enumerate" = none := PySem.W.mg_none_of X G T.b_enumerate
      have b_int : mg "int" = none := PySem.W.mg_none_of X G T.b_int
      have b_isinstance : mg "isinstance" = none := PySem.W.mg_none_of X G T.b_isinstance
      have b_len : mg "len" = none := PySem.W.mg_none_of X G T.b_len
      have b_list : mg "list" = none := PySem.W.mg_none_of X G T.b_list
      have b_max : mg "max" = none := PySem.W.mg_none_of X G T.b_max
      have b_min : mg "min" = none := PySem.W.mg_none_of X G T.b_min
      have b_range : mg "range" = none := PySem.W.mg_none_of X G T.b_range
      have b_repr : mg "repr" = none := PySem.W.mg_none_of X G T.b_repr
      have b_sorted : mg "sorted" = none := PySem.W.mg_none_of X G T.b_sorted
      have b_str : mg "str" = none := PySem.W.mg_none_of X G T.b_str
      have b_sum : mg "sum" = none := PySem.W.mg_none_of X G T.b_sum
      have b_tuple : mg "tuple" = none := PySem.W.mg_none_of X G T.b_tuple
      have b_zip : mg "zip" = none := PySem.W.mg_none_of X G T.b_zip
      exact (dss_one (ds_ret (de_and (de_isi rfl b_isinstance (de_var 0) rfl b_int rfl (by decide)) (de_and (de_not (de_isi rfl b_isinstance (de_var 0) rfl b_bool rfl (by decide))) (de_one (de_chain od_le od_le (de_var 1) (de_var 0) (de_var 2)))))))) : Does P w K mg base 4 "is_whole" [[]] (fnBody 3 0 b_is_whole))
theorem ok_is_number (X : K.In h) (G : h.Ns mainGlobals mg) (T : Tab K w) : Does P w K mg base 4 "is_number" [[]] m_is_number :=
  (does_ok (k := 3) (nl := 0) X G T.f_is_number sc_is_number rfl (fun _ _ _ _ _ _ us hl => match us, hl with | [_], _ => rfl) (fun f cdv A outer s H E hgu hr tk po => by
      have u1 := Room.u1 hr
      have u200 := Room.u200 hr
      have u210 := Room.u210 hr (by omega)
      have b_all : mg "all" = none := PySem.W.mg_none_of X G T.b_all
      have b_bool : mg "bool" = none := PySem.W.mg_none_of X G T.b_bool
      have b_dict : mg "dict" = none := PySem.W.mg_none_of X G T.b_dict
      have b_enumerate : mg "enumerate" = none := PySem.W.mg_none_of X G T.b_enumerate
      have b_int : mg "int" = none := PySem.W.mg_none_of X G T.b_int
      have b_isinstance : mg "isinstance" = none := PySem.W.mg_none_of X G T.b_isinstance
      have b_len : mg "len" = none := PySem.W.mg_none_of X G T.b_len
      have b_list : mg "list" = none := PySem.W.mg_none_of X G T.b_list
      have b_max : mg "max" = none := PySem.W.mg_none_of X G T.b_max
      have b_min : mg "min" = none := PySem.W.mg_none_of X G T.b_min
      have b_range : mg "range" = none := PySem.W.mg_none_of X G T.b_range
      have b_repr : mg "repr" = none := PySem.W.mg_none_of X G T.b_repr
      have b_sorted : mg "sorted" = none := PySem.W.mg_none_of X G T.b_sorted
      have b_str : mg "str" = none := PySem.W.mg_none_of X G T.b_str
      have b_sum : mg "sum" = none := PySem.W.mg_none_of X G T.b_sum
      have b_tuple : mg "tuple" = none := PySem.W.mg_none_of X G T.b_tuple
      have b_zip : mg "zip" = none := PySem.W.mg_none_of X G T.b_zip
      exact (dss_one (ds_ret (de_and (de_isi rfl b_isinstance (de_var 0) rfl b_int rfl (by decide)) (de_and (de_not (de_isi rfl b_isinstance (de_var 0) rfl b_bool rfl (by decide))) (de_one (de_cmp od_ge (de_var 0) de_int))))))) : Does P w K mg base 4 "is_number" [[]] (fnBody 1 0 b_is_number))
theorem ok_is_name (X : K.In h) (G : h.Ns mainGlobals mg) (T : Tab K w) : Does P w K mg base 4 "is_name" [[]] m_is_name :=
  (does_ok (k := 3) (nl := 1) X G T.f_is_name sc_is_name rfl (fun _ _ _ _ _ _ us hl => match us, hl with | [_], _ => rfl) (fun f cdv A outer s H E hgu hr tk po => by
      have u1 := Room.u1 hr
      have u200 := Room.u200 hr
      have u210 := Room.u210 hr (by omega)
      have b_all : mg "all" = none := PySem.W.mg_none_of X G T.b_all
      have b_bool : mg "bool" = none := PySem.W.mg_none_of X G T.b_bool
      have b_dict : mg "dict" = none := PySem.W.mg_none_of X G T.b_dict
      have b_enumerate : mg "enumerate" = none := PySem.W.mg_none_of X G T.b_enumerate
      have b_int : mg "int" = none := PySem.W.mg_none_of X G T.b_int
      have b_isinstance : mg "isinstance" = none := PySem.W.mg_none_of X G T.b_isinstance
      have b_len : mg "len" = none := PySem.W.mg_none_of X G T.b_len
      have b_list : mg "list" = none := PySem.W.mg_none_of X G T.b_list
      have b_max : mg "max" = none := PySem.W.mg_none_of X G T.b_max
      have b_min : mg "min" = none := PySem.W.mg_none_of X G T.b_min
      have b_range : mg "range" = none := PySem.W.mg_none_of X G T.b_range
      have b_repr : mg "repr" = none := PySem.W.mg_none_of X G T.b_repr
      have b_sorted : mg "sorted" = none := PySem.W.mg_none_of X G T.b_sorted
      have b_str : mg "str" = none := PySem.W.mg_none_of X G T.b_str
      have b_sum : mg "sum" = none := PySem.W.mg_none_of X G T.b_sum
      have b_tuple : mg "tuple" = none := PySem.W.mg_none_of X G T.b_tuple
      have b_zip : mg "zip" = none := PySem.W.mg_none_of X G T.b_zip
      exact (dss_cons (ds_if (dt_w (dw_or (dt_not (dt_val (de_isi rfl b_isinstance (de_var 0) rfl b_str rfl (by decide)))) (dw_or (dt_not (dt_chain od_le od_le de_int (de_callB cd_len rfl b_len rfl (da_cons (de_var 0) da_nil)) de_int)) (dw_or1 (dt_cmp (od_in u1) (de_var 0) (de_glob (gl_KEPT X G T) rfl)))))) (dss_one (ds_ret de_bl)) dss_nil) (dss_one (ds_ret (de_callB (cd_all rfl) rfl b_all rfl (da_cons (DF.val (df_comp (own := [("sign", 1)]) rfl sc_is_name.nd (di_val (de_var 0)) (blkOk_by (N := [Str.ofString "thing", Str.ofString "sign"]) (sc := defScope s_is_name) (by decide +kernel)) (by decide) (fun _ _ _ _ _ => (dg_name 1 sc_is_name.nd)) (fun _ _ _ _ _ => dts_nil) (fun _ _ _ _ _ => (de_cmp (od_in u1) (de_var 1) (de_glob (gl_SMALL X G T) rfl))))) da_nil)))))) : Does P w K mg base 4 "is_name" [[]] (fnBody 1 1 b_is_name))
theorem ok_grp_has_form (X : K.In h) (G : h.Ns mainGlobals mg) (T : Tab K w) : ∀ n : Nat, Does P w K mg base (4 + n) "has_form" [[]] (n_has_form n) ∧ Does P w K mg base (4 + n) "is_term" [[]] (n_is_term n)
  | 0 => ⟨does_bad X G T.f_has_form (ps := ["letter", "thing"]) (fun _ _ _ _ _ _ us hl => match us, hl with | [_, _], _ => rfl), does_bad X G T.f_is_term (ps := ["thing"]) (fun _ _ _ _ _ _ us hl => match us, hl with | [_], _ => rfl)⟩
  | n + 1 => by
    obtain ⟨h_has_form, h_is_term⟩ := ok_grp_has_form X G T n
    refine ⟨?_, ?_⟩
    · exact (does_ok (k := 4 + n) (nl := 0) X G T.f_has_form sc_has_form rfl (fun _ _ _ _ _ _ us hl => match us, hl with | [_, _], _ => rfl) (fun f cdv A outer s H E hgu hr tk po => by
      have u1 := Room.u1 hr
      have u200 := Room.u200 hr
      have u210 := Room.u210 hr (by omega)
      have b_all : mg "all" = none := PySem.W.mg_none_of X G T.b_all
      have b_bool : mg "bool" = none := PySem.W.mg_none_of X G T.b_bool
      have b_dict : mg "dict" = none := PySem.W.mg_none_of X G T.b_dict
      have b_enumerate : mg "enumerate" = none := PySem.W.mg_none_of X G T.b_enumerate
      have b_int : mg "int" = none := PySem.W.mg_none_of X G T.b_int
      have b_isinstance : mg "isinstance" = none := PySem.W.mg_none_of X G T.b_isinstance
      have b_len : mg "len" = none := PySem.W.mg_none_of X G T.b_len
      have b_list : mg "list" = none := PySem.W.mg_none_of X G T.b_list
      have b_max : mg "max" = none := PySem.W.mg_none_of X G T.b_max
      have b_min : mg "min" = none := PySem.W.mg_none_of X G T.b_min
      have b_range : mg "range" = none := PySem.W.mg_none_of X G T.b_range
      have b_repr : mg "repr" = none := PySem.W.mg_none_of X G T.b_repr
      have b_sorted : mg "sorted" = none := PySem.W.mg_none_of X G T.b_sorted
      have b_str : mg "str" = none := PySem.W.mg_none_of X G T.b_str
      have b_sum : mg "sum" = none := PySem.W.mg_none_of X G T.b_sum
      have b_tuple : mg "tuple" = none := PySem.W.mg_none_of X G T.b_tuple
      have b_zip : mg "zip" = none := PySem.W.mg_none_of X G T.b_zip
      exact (dss_cons (ds_if (dt_cmp (od_eq u200) (de_var 0) de_str) (dss_one (ds_ret (de_call ((ok_is_number X G T : Does P w K mg base 4 "is_number" _ m_is_number).dfn hr (by omega) []) hgu tk rfl (da_cons (de_var 1) da_nil)))) dss_nil) (dss_cons (ds_if (dt_cmp (od_eq u200) (de_var 0) de_str) (dss_one (ds_ret (de_call ((ok_is_whole X G T : Does P w K mg base 4 "is_whole" _ m_is_whole).dfn hr (by omega) []) hgu tk rfl (da_cons (de_var 1) (da_cons de_int (da_cons (de_glob (gl_MOST_KIND X G T) rfl) da_nil)))))) dss_nil) (dss_cons (ds_if (dt_cmp (od_eq u200) (de_var 0) de_str) (dss_one (ds_ret (de_call ((ok_is_name X G T : Does P w K mg base 4 "is_name" _ m_is_name).dfn hr (by omega) []) hgu tk rfl (da_cons (de_var 1) da_nil)))) dss_nil) (dss_one (ds_ret (de_call ((h_is_term : Does P w K mg base (4 + n) "is_term" _ (n_is_term n)).dfn hr (Nat.le_refl _) []) hgu tk rfl (da_cons (de_var 1) da_nil)))))))) : Does P w K mg base (4 + n + 1) "has_form" [[]] (fnBody 2 0 (b_has_form (n_has_form n) (n_is_term n))))
    · exact (does_ok (k := 4 + n) (nl := 3) X G T.f_is_term sc_is_term rfl (fun _ _ _ _ _ _ us hl => match us, hl with | [_], _ => rfl) (fun f cdv A outer s H E hgu hr tk po => by
      have u1 := Room.u1 hr
      have u200 := Room.u200 hr
      have u210 := Room.u210 hr (by omega)
      have b_all : mg "all" = none := PySem.W.mg_none_of X G T.b_all
      have b_bool : mg "bool" = none := PySem.W.mg_none_of X G T.b_bool
      have b_dict : mg "dict" = none := PySem.W.mg_none_of X G T.b_dict
      have b_enumerate : mg "enumerate" = none := PySem.W.mg_none_of X G T.b_enumerate
      have b_int : mg "int" = none := PySem.W.mg_none_of X G T.b_int
      have b_isinstance : mg "isinstance" = none := PySem.W.mg_none_of X G T.b_isinstance
      have b_len : mg "len" = none := PySem.W.mg_none_of X G T.b_len
      have b_list : mg "list" = none := PySem.W.mg_none_of X G T.b_list
      have b_max : mg "max" = none := PySem.W.mg_none_of X G T.b_max
      have b_min : mg "min" = none := PySem.W.mg_none_of X G T.b_min
      have b_range : mg "range" = none := PySem.W.mg_none_of X G T.b_range
      have b_repr : mg "repr" = none := PySem.W.mg_none_of X G T.b_repr
      have b_sorted : mg "sorted" = none := PySem.W.mg_none_of X G T.b_sorted
      have b_str : mg "str" = none := PySem.W.mg_none_of X G T.b_str
      have b_sum : mg "sum" = none := PySem.W.mg_none_of X G T.b_sum
      have b_tuple : mg "tuple" = none := PySem.W.mg_none_of X G T.b_tuple
      have b_zip : mg "zip" = none := PySem.W.mg_none_of X G T.b_zip
      exact (dss_cons (ds_if (dt_w (dw_or (dt_not (dt_val (de_isi rfl b_isinstance (de_var 0) rfl b_tuple rfl (by decide)))) (dw_or (dt_cmp (od_eq u200) (de_callB cd_len rfl b_len rfl (da_cons (de_var 0) da_nil)) de_int) (dw_or (dt_not (dt_val (de_isi rfl b_isinstance (de_ix (xd_ix u1) (de_var 0) de_int) rfl b_str rfl (by decide)))) (dw_or1 (dt_cmp (od_notIn u1) (de_ix (xd_ix u1) (de_var 0) de_int) (de_glob (gl_FORMS X G T) rfl))))))) (dss_one (ds_ret de_bl)) dss_nil) (dss_cons (ds_set 1 sc_is_term.nd (de_ix (xd_ix u1) (de_glob (gl_FORMS X G T) rfl) (de_ix (xd_ix u1) (de_var 0) de_int))) (dss_cons (ds_if (dt_cmp (od_ne u200) (de_callB cd_len rfl b_len rfl (da_cons (de_var 0) da_nil)) (de_bin od_add (de_callB cd_len rfl b_len rfl (da_cons (de_var 1) da_nil)) de_int)) (dss_one (ds_ret de_bl)) dss_nil) (dss_one (ds_ret (de_callB (cd_all rfl) rfl b_all rfl (da_cons (DF.val (df_comp (own := [("letter", 2), ("part", 3)]) rfl sc_is_term.nd (di_zip rfl b_zip (da_cons (de_var 1) (da_cons (de_slice (de_var 0) (do_some de_int) do_none) da_nil))) (blkOk_by (N := [Str.ofString "thing", Str.ofString "form", Str.ofString "letter", Str.ofString "part"]) (sc := defScope s_is_term) (by decide +kernel)) (by decide) (fun _ _ _ _ _ => (dg_tup rfl (dgs_cons (dg_name 2 sc_is_term.nd) (dgs_cons (dg_name 3 sc_is_term.nd) dgs_nil)))) (fun _ _ _ _ _ => dts_nil) (fun _ _ _ _ _ => (de_call ((h_has_form : Does P w K mg base (4 + n) "has_form" _ (n_has_form n)).dfn hr (Nat.le_refl _) []) hgu TkD.none rfl (da_cons (de_var 2) (da_cons (de_var 3) da_nil)))))) da_nil)))))))) : Does P w K mg base (4 + n + 1) "is_term" [[]] (fnBody 1 3 (b_is_term (n_has_form n) (n_is_term n))))
theorem ok_has_form (X : K.In h) (G : h.Ns mainGlobals mg) (T : Tab K w) : Does P w K mg base 134 "has_form" [[]] m_has_form := (ok_grp_has_form X G T 130).1
theorem ok_is_term (X : K.In h) (G : h.Ns mainGlobals mg) (T : Tab K w) : Does P w K mg base 134 "is_term" [[]] m_is_term := (ok_grp_has_form X G T 130).2
theorem ok_is_spot (X : K.In h) (G : h.Ns mainGlobals mg) (T : Tab K w) : Does P w K mg base 5 "is_spot" [[]] m_is_spot :=
  (does_ok (k := 4) (nl := 1) X G T.f_is_spot sc_is_spot rfl (fun _ _ _ _ _ _ us hl => match us, hl with | [_], _ => rfl) (fun f cdv A outer s H E hgu hr tk po => by
      have u1 := Room.u1 hr
      have u200 := Room.u200 hr
      have u210 := Room.u210 hr (by omega)
      have b_all : mg "all" = none := PySem.W.mg_none_of X G T.b_all
      have b_bool : mg "bool" = none := PySem.W.mg_none_of X G T.b_bool
      have b_dict : mg "dict" = none := PySem.W.mg_none_of X G T.b_dict
      have b_enumerate : mg "enumerate" = none := PySem.W.mg_none_of X G T.b_enumerate
      have b_int : mg "int" = none := PySem.W.mg_none_of X G T.b_int
      have b_isinstance : mg "isinstance" = none := PySem.W.mg_none_of X G T.b_isinstance
      have b_len : mg "len" = none := PySem.W.mg_none_of X G T.b_len
      have b_list : mg "list" = none := PySem.W.mg_none_of X G T.b_list
      have b_max : mg "max" = none := PySem.W.mg_none_of X G T.b_max
      have b_min : mg "min" = none := PySem.W.mg_none_of X G T.b_min
      have b_range : mg "range" = none := PySem.W.mg_none_of X G T.b_range
      have b_repr : mg "repr" = none := PySem.W.mg_none_of X G T.b_repr
      have b_sorted : mg "sorted" = none := PySem.W.mg_none_of X G T.b_sorted
      have b_str : mg "str" = none := PySem.W.mg_none_of X G T.b_str
      have b_sum : mg "sum" = none := PySem.W.mg_none_of X G T.b_sum
      have b_tuple : mg "tuple" = none := PySem.W.mg_none_of X G T.b_tuple
      have b_zip : mg "zip" = none := PySem.W.mg_none_of X G T.b_zip
      exact (dss_one (ds_ret (de_and (de_isi rfl b_isinstance (de_var 0) rfl b_tuple rfl (by decide)) (de_one (de_callB (cd_all rfl) rfl b_all rfl (da_cons (DF.val (df_comp (own := [("number", 1)]) rfl sc_is_spot.nd (di_val (de_var 0)) (blkOk_by (N := [Str.ofString "thing", Str.ofString "number"]) (sc := defScope s_is_spot) (by decide +kernel)) (by decide) (fun _ _ _ _ _ => (dg_name 1 sc_is_spot.nd)) (fun _ _ _ _ _ => dts_nil) (fun _ _ _ _ _ => (de_call ((ok_is_number X G T : Does P w K mg base 4 "is_number" _ m_is_number).dfn hr (by decide) []) hgu TkD.none rfl (da_cons (de_var 1) da_nil))))) da_nil))))))) : Does P w K mg base 5 "is_spot" [[]] (fnBody 1 1 b_is_spot))
theorem ok_need_term (X : K.In h) (G : h.Ns mainGlobals mg) (T : Tab K w) : Does P w K mg base 135 "need_term" [[]] m_need_term :=
  (does_ok (k := 134) (nl := 0) X G T.f_need_term sc_need_term rfl (fun _ _ _ _ _ _ us hl => match us, hl with | [_], _ => rfl) (fun f cdv A outer s H E hgu hr tk po => by
      have u1 := Room.u1 hr
      have u200 := Room.u200 hr
      have u210 := Room.u210 hr (by omega)
      have b_all : mg "all" = none := PySem.W.mg_none_of X G T.b_all
      have b_bool : mg "bool" = none := PySem.W.mg_none_of X G T.b_bool
      have b_dict : mg "dict" = none := PySem.W.mg_none_of X G T.b_dict
      have b_enumerate : mg "enumerate" = none := PySem.W.mg_none_of X G T.b_enumerate
      have b_int : mg "int" = none := PySem.W.mg_none_of X G T.b_int
      have b_isinstance : mg "isinstance" = none := PySem.W.mg_none_of X G T.b_isinstance
      have b_len : mg "len" = none := PySem.W.mg_none_of X G T.b_len
      have b_list : mg "list" = none := PySem.W.mg_none_of X G T.b_list
      have b_max : mg "max" = none := PySem.W.mg_none_of X G T.b_max
      have b_min : mg "min" = none := PySem.W.mg_none_of X G T.b_min
      have b_range : mg "range" = none := PySem.W.mg_none_of X G T.b_range
      have b_repr : mg "repr" = none := PySem.W.mg_none_of X G T.b_repr
      have b_sorted : mg "sorted" = none := PySem.W.mg_none_of X G T.b_sorted
      have b_str : mg "str" = none := PySem.W.mg_none_of X G T.b_str
      have b_sum : mg "sum" = none := PySem.W.mg_none_of X G T.b_sum
      have b_tuple : mg "tuple" = none := PySem.W.mg_none_of X G T.b_tuple
      have b_zip : mg "zip" = none := PySem.W.mg_none_of X G T.b_zip
      exact (dss_one (ds_if (dt_not (dt_val (de_call ((ok_is_term X G T : Does P w K mg base 134 "is_term" _ m_is_term).dfn hr (by decide) []) hgu tk rfl (da_cons (de_var 0) da_nil)))) (dss_one (ds_raise rfl tk (ex_NoTerm X G T hr (by omega)) rfl (da_cons (de_var 0) da_nil))) dss_nil))) : Does P w K mg base 135 "need_term" [[]] (fnBody 1 0 b_need_term))
theorem ok_need_place (X : K.In h) (G : h.Ns mainGlobals mg) (T : Tab K w) : Does P w K mg base 5 "need_place" [[]] m_need_place :=
  (does_ok (k := 4) (nl := 0) X G T.f_need_place sc_need_place rfl (fun _ _ _ _ _ _ us hl => match us, hl with | [_], _ => rfl) (fun f cdv A outer s H E hgu hr tk po => by
      have u1 := Room.u1 hr
      have u200 := Room.u200 hr
      have u210 := Room.u210 hr (by omega)
      have b_all : mg "all" = none := PySem.W.mg_none_of X G T.b_all
      have b_bool : mg "bool" = none := PySem.W.mg_none_of X G T.b_bool
      have b_dict : mg "dict" = none := PySem.W.mg_none_of X G T.b_dict
      have b_enumerate : mg "enumerate" = none := PySem.W.mg_none_of X G T.b_enumerate
      have b_int : mg "int" = none := PySem.W.mg_none_of X G T.b_int
      have b_isinstance : mg "isinstance" = none := PySem.W.mg_none_of X G T.b_isinstance
      have b_len : mg "len" = none := PySem.W.mg_none_of X G T.b_len
      have b_list : mg "list" = none := PySem.W.mg_none_of X G T.b_list
      have b_max : mg "max" = none := PySem.W.mg_none_of X G T.b_max
      have b_min : mg "min" = none := PySem.W.mg_none_of X G T.b_min
      have b_range : mg "range" = none := PySem.W.mg_none_of X G T.b_range
      have b_repr : mg "repr" = none := PySem.W.mg_none_of X G T.b_repr
      have b_sorted : mg "sorted" = none := PySem.W.mg_none_of X G T.b_sorted
      have b_str : mg "str" = none := PySem.W.mg_none_of X G T.b_str
      have b_sum : mg "sum" = none := PySem.W.mg_none_of X G T.b_sum
      have b_tuple : mg "tuple" = none := PySem.W.mg_none_of X G T.b_tuple
      have b_zip : mg "zip" = none := PySem.W.mg_none_of X G T.b_zip
      exact (dss_one (ds_if (dt_not (dt_val (de_call ((ok_is_whole X G T : Does P w K mg base 4 "is_whole" _ m_is_whole).dfn hr (by decide) []) hgu tk rfl (da_cons (de_var 0) (da_cons de_int (da_cons (de_glob (gl_MOST_PLACE X G T) rfl) da_nil)))))) (dss_one (ds_raise rfl tk (ex_NoNumber X G T hr (by omega)) rfl (da_cons (de_var 0) da_nil))) dss_nil))) : Does P w K mg base 5 "need_place" [[]] (fnBody 1 0 b_need_place))
theorem ok_inner (X : K.In h) (G : h.Ns mainGlobals mg) (T : Tab K w) : Does P w K mg base 4 "inner" [[]] m_inner :=
  (does_ok (k := 3) (nl := 0) X G T.f_inner sc_inner rfl (fun _ _ _ _ _ _ us hl => match us, hl with | [_], _ => rfl) (fun f cdv A outer s H E hgu hr tk po => by
      have u1 := Room.u1 hr
      have u200 := Room.u200 hr
      have u210 := Room.u210 hr (by omega)
      have b_all : mg "all" = none := PySem.W.mg_none_of X G T.b_all
      have b_bool : mg "bool" = none := PySem.W.mg_none_of X G T.b_bool
      have b_dict : mg "dict" = none := PySem.W.mg_none_of X G T.b_dict
      have b_enumerate : mg "enumerate" = none := PySem.W.mg_none_of X G T.b_enumerate
      have b_int : mg "int" = none := PySem.W.mg_none_of X G T.b_int
      have b_isinstance : mg "isinstance" = none := PySem.W.mg_none_of X G T.b_isinstance
      have b_len : mg "len" = none := PySem.W.mg_none_of X G T.b_len
      have b_list : mg "list" = none := PySem.W.mg_none_of X G T.b_list
      have b_max : mg "max" = none := PySem.W.mg_none_of X G T.b_max
      have b_min : mg "min" = none := PySem.W.mg_none_of X G T.b_min
      have b_range : mg "range" = none := PySem.W.mg_none_of X G T.b_range
      have b_repr : mg "repr" = none := PySem.W.mg_none_of X G T.b_repr
      have b_sorted : mg "sorted" = none := PySem.W.mg_none_of X G T.b_sorted
      have b_str : mg "str" = none := PySem.W.mg_none_of X G T.b_str
      have b_sum : mg "sum" = none := PySem.W.mg_none_of X G T.b_sum
      have b_tuple : mg "tuple" = none := PySem.W.mg_none_of X G T.b_tuple
      have b_zip : mg "zip" = none := PySem.W.mg_none_of X G T.b_zip
      exact (dss_one (ds_ret (de_if (dt_cmp (od_in u1) de_str (de_ix (xd_ix u1) (de_glob (gl_FORMS X G T) rfl) (de_ix (xd_ix u1) (de_var 0) de_int))) (de_callTy cd_list rfl b_list rfl (da_cons (de_slice (de_var 0) (do_some de_int) do_none) da_nil)) (de_lst da_nil))))) : Does P w K mg base 4 "inner" [[]] (fnBody 1 0 b_inner))
theorem ok_inner__o (X : K.In h) (G : h.Ns mainGlobals mg) (T : Tab K w) : Does P w K mg base 4 "inner" [[]] m_inner__o :=
  (does_ok (k := 3) (nl := 0) X G T.f_inner sc_inner rfl (fun _ _ _ _ _ _ us hl => match us, hl with | [_], _ => rfl) (fun f cdv A outer s H E hgu hr tk po => by
      have u1 := Room.u1 hr
      have u200 := Room.u200 hr
      have u210 := Room.u210 hr (by omega)
      have b_all : mg "all" = none := PySem.W.mg_none_of X G T.b_all
      have b_bool : mg "bool" = none := PySem.W.mg_none_of X G T.b_bool
      have b_dict : mg "dict" = none := PySem.W.mg_none_of X G T.b_dict
      have b_enumerate : mg "enumerate" = none := PySem.W.mg_none_of X G T.b_enumerate
      have b_int : mg "int" = none := PySem.W.mg_none_of X G T.b_int
      have b_isinstance : mg "isinstance" = none := PySem.W.mg_none_of X G T.b_isinstance
      have b_len : mg "len" = none := PySem.W.mg_none_of X G T.b_len
      have b_list : mg "list" = none := PySem.W.mg_none_of X G T.b_list
      have b_max : mg "max" = none := PySem.W.mg_none_of X G T.b_max
      have b_min : mg "min" = none := PySem.W.mg_none_of X G T.b_min
      have b_range : mg "range" = none := PySem.W.mg_none_of X G T.b_range
      have b_repr : mg "repr" = none := PySem.W.mg_none_of X G T.b_repr
      have b_sorted : mg "sorted" = none := PySem.W.mg_none_of X G T.b_sorted
      have b_str : mg "str" = none := PySem.W.mg_none_of X G T.b_str
      have b_sum : mg "sum" = none := PySem.W.mg_none_of X G T.b_sum
      have b_tuple : mg "tuple" = none := PySem.W.mg_none_of X G T.b_tuple
      have b_zip : mg "zip" = none := PySem.W.mg_none_of X G T.b_zip
      exact (dss_one (ds_ret (de_if (dt_cmp (od_in u1) de_str (de_ix (xd_ix u1) (de_glob (gl_FORMS X G T) rfl) (de_ix (xd_ix u1) (de_var 0) de_int))) (DF.own (df_list rfl b_list (da_cons (de_slice (de_var 0) (do_some de_int) do_none) da_nil))) (DF.own (df_lst da_nil)))))) : Does P w K mg base 4 "inner" [[]] (fnBody 1 0 b_inner__o)).trim
theorem ok_with_parts (X : K.In h) (G : h.Ns mainGlobals mg) (T : Tab K w) : Does P w K mg base 4 "with_parts" [[]] m_with_parts :=
  (does_ok (k := 3) (nl := 0) X G T.f_with_parts sc_with_parts rfl (fun _ _ _ _ _ _ us hl => match us, hl with | [_, _], _ => rfl) (fun f cdv A outer s H E hgu hr tk po => by
      have u1 := Room.u1 hr
      have u200 := Room.u200 hr
      have u210 := Room.u210 hr (by omega)
      have b_all : mg "all" = none := PySem.W.mg_none_of X G T.b_all
      have b_bool : mg "bool" = none := PySem.W.mg_none_of X G T.b_bool
      have b_dict : mg "dict" = none := PySem.W.mg_none_of X G T.b_dict
      have b_enumerate : mg "enumerate" = none := PySem.W.mg_none_of X G T.b_enumerate
      have b_int : mg "int" = none := PySem.W.mg_none_of X G T.b_int
      have b_isinstance : mg "isinstance" = none := PySem.W.mg_none_of X G T.b_isinstance
      have b_len : mg "len" = none := PySem.W.mg_none_of X G T.b_len
      have b_list : mg "list" = none := PySem.W.mg_none_of X G T.b_list
      have b_max : mg "max" = none := PySem.W.mg_none_of X G T.b_max
      have b_min : mg "min" = none := PySem.W.mg_none_of X G T.b_min
      have b_range : mg "range" = none := PySem.W.mg_none_of X G T.b_range
      have b_repr : mg "repr" = none := PySem.W.mg_none_of X G T.b_repr
      have b_sorted : mg "sorted" = none := PySem.W.mg_none_of X G T.b_sorted
      have b_str : mg "str" = none := PySem.W.mg_none_of X G T.b_str
      have b_sum : mg "sum" = none := PySem.W.mg_none_of X G T.b_sum
      have b_tuple : mg "tuple" = none := PySem.W.mg_none_of X G T.b_tuple
      have b_zip : mg "zip" = none := PySem.W.mg_none_of X G T.b_zip
      exact (dss_one (ds_ret (de_bin od_add (de_tup (da_cons (de_ix (xd_ix u1) (de_var 0) de_int) da_nil)) (de_callTy cd_tuple rfl b_tuple rfl (da_cons (de_var 1) da_nil)))))) : Does P w K mg base 4 "with_parts" [[]] (fnBody 2 0 b_with_parts))
theorem ok_binds (X : K.In h) (G : h.Ns mainGlobals mg) (T : Tab K w) : Does P w K mg base 4 "binds" [[]] m_binds :=
  (does_ok (k := 3) (nl := 0) X G T.f_binds sc_binds rfl (fun _ _ _ _ _ _ us hl => match us, hl with | [_, _], _ => rfl) (fun f cdv A outer s H E hgu hr tk po => by
      have u1 := Room.u1 hr
      have u200 := Room.u200 hr
      have u210 := Room.u210 hr (by omega)
      have b_all : mg "all" = none := PySem.W.mg_none_of X G T.b_all
      have b_bool : mg "bool" = none := PySem.W.mg_none_of X G T.b_bool
      have b_dict : mg "dict" = none := PySem.W.mg_none_of X G T.b_dict
      have b_enumerate : mg "enumerate" = none := PySem.W.mg_none_of X G T.b_enumerate
      have b_int : mg "int" = none := PySem.W.mg_none_of X G T.b_int
      have b_isinstance : mg "isinstance" = none := PySem.W.mg_none_of X G T.b_isinstance
      have b_len : mg "len" = none := PySem.W.mg_none_of X G T.b_len
      have b_list : mg "list" = none := PySem.W.mg_none_of X G T.b_list
      have b_max : mg "max" = none := PySem.W.mg_none_of X G T.b_max
      have b_min : mg "min" = none := PySem.W.mg_none_of X G T.b_min
      have b_range : mg "range" = none := PySem.W.mg_none_of X G T.b_range
      have b_repr : mg "repr" = none := PySem.W.mg_none_of X G T.b_repr
      have b_sorted : mg "sorted" = none := PySem.W.mg_none_of X G T.b_sorted
      have b_str : mg "str" = none := PySem.W.mg_none_of X G T.b_str
      have b_sum : mg "sum" = none := PySem.W.mg_none_of X G T.b_sum
      have b_tuple : mg "tuple" = none := PySem.W.mg_none_of X G T.b_tuple
      have b_zip : mg "zip" = none := PySem.W.mg_none_of X G T.b_zip
      exact (dss_one (ds_ret (de_callTy cd_int rfl b_int rfl (da_cons (de_and (de_cmp (od_in u1) (de_ix (xd_ix u1) (de_var 0) de_int) (de_glob (gl_BINDERS X G T) rfl)) (de_one (de_cmp (od_eq u200) (de_var 1) de_int))) da_nil))))) : Does P w K mg base 4 "binds" [[]] (fnBody 2 0 b_binds))
theorem ok_gone_to (X : K.In h) (G : h.Ns mainGlobals mg) (T : Tab K w) : Does P w K mg base 6 "gone_to" [[]] m_gone_to :=
  (does_ok (k := 5) (nl := 3) X G T.f_gone_to sc_gone_to rfl (fun _ _ _ _ _ _ us hl => match us, hl with | [_, _], _ => rfl) (fun f cdv A outer s H E hgu hr tk po => by
      have u1 := Room.u1 hr
      have u200 := Room.u200 hr
      have u210 := Room.u210 hr (by omega)
      have b_all : mg "all" = none := PySem.W.mg_none_of X G T.b_all
      have b_bool : mg "bool" = none := PySem.W.mg_none_of X G T.b_bool
      have b_dict : mg "dict" = none := PySem.W.mg_none_of X G T.b_dict
      have b_enumerate : mg "enumerate" = none := PySem.W.mg_none_of X G T.b_enumerate
      have b_int : mg "int" = none := PySem.W.mg_none_of X G T.b_int
      have b_isinstance : mg "isinstance" = none := PySem.W.mg_none_of X G T.b_isinstance
      have b_len : mg "len" = none := PySem.W.mg_none_of X G T.b_len
      have b_list : mg "list" = none := PySem.W.mg_none_of X G T.b_list
      have b_max : mg "max" = none := PySem.W.mg_none_of X G T.b_max
      have b_min : mg "min" = none := PySem.W.mg_none_of X G T.b_min
      have b_range : mg "range" = none := PySem.W.mg_none_of X G T.b_range
      have b_repr : mg "repr" = none := PySem.W.mg_none_of X G T.b_repr
      have b_sorted : mg "sorted" = none := PySem.W.mg_none_of X G T.b_sorted
      have b_str : mg "str" = none := PySem.W.mg_none_of X G T.b_str
      have b_sum : mg "sum" = none := PySem.W.mg_none_of X G T.b_sum
      have b_tuple : mg "tuple" = none := PySem.W.mg_none_of X G T.b_tuple
      have b_zip : mg "zip" = none := PySem.W.mg_none_of X G T.b_zip
      exact (dss_cons (ds_if (dt_not (dt_val (de_call ((ok_is_spot X G T : Does P w K mg base 5 "is_spot" _ m_is_spot).dfn hr (by decide) []) hgu tk rfl (da_cons (de_var 1) da_nil)))) (dss_one (ds_raise rfl tk (ex_NoSpot X G T hr (by omega)) rfl (da_cons (de_var 1) da_nil))) dss_nil) (dss_cons (ds_set 2 sc_gone_to.nd (de_var 0)) (dss_cons (ds_set 3 sc_gone_to.nd de_int) (dss_cons (ds_for po rfl (di_val (de_var 1)) (dg_name 4 sc_gone_to.nd) (dss_cons (ds_if (dt_cmp od_ge (de_var 4) (de_callB cd_len rfl b_len rfl (da_cons (de_call ((ok_inner X G T : Does P w K mg base 4 "inner" _ m_inner).dfn hr (by decide) []) hgu tk rfl (da_cons (de_var 2) da_nil)) da_nil))) (dss_one (ds_raise rfl tk (ex_NoSpot X G T hr (by omega)) rfl (da_cons (de_var 1) da_nil))) dss_nil) (dss_cons (ds_aug 3 sc_gone_to.nd ipd_add (de_call ((ok_binds X G T : Does P w K mg base 4 "binds" _ m_binds).dfn hr (by decide) []) hgu tk rfl (da_cons (de_var 2) (da_cons (de_var 4) da_nil)))) (dss_one (ds_set 2 sc_gone_to.nd (de_ix (xd_ix u1) (de_call ((ok_inner X G T : Does P w K mg base 4 "inner" _ m_inner).dfn hr (by decide) []) hgu tk rfl (da_cons (de_var 2) da_nil)) (de_var 4))))))) (dss_one (ds_ret (de_tup (da_cons (de_var 2) (da_cons (de_var 3) da_nil)))))))))) : Does P w K mg base 6 "gone_to" [[]] (fnBody 2 3 b_gone_to))
theorem ok_part_at (X : K.In h) (G : h.Ns mainGlobals mg) (T : Tab K w) : Does P w K mg base 136 "part_at" [[]] m_part_at :=
  (does_ok (k := 135) (nl := 0) X G T.f_part_at sc_part_at rfl (fun _ _ _ _ _ _ us hl => match us, hl with | [_, _], _ => rfl) (fun f cdv A outer s H E hgu hr tk po => by
      have u1 := Room.u1 hr
      have u200 := Room.u200 hr
      have u210 := Room.u210 hr (by omega)
      have b_all : mg "all" = none := PySem.W.mg_none_of X G T.b_all
      have b_bool : mg "bool" = none := PySem.W.mg_none_of X G T.b_bool
      have b_dict : mg "dict" = none := PySem.W.mg_none_of X G T.b_dict
      have b_enumerate : mg "enumerate" = none := PySem.W.mg_none_of X G T.b_enumerate
      have b_int : mg "int" = none := PySem.W.mg_none_of X G T.b_int
      have b_isinstance : mg "isinstance" = none := PySem.W.mg_none_of X G T.b_isinstance
      have b_len : mg "len" = none := PySem.W.mg_none_of X G T.b_len
      have b_list : mg "list" = none := PySem.W.mg_none_of X G T.b_list
      have b_max : mg "max" = none := PySem.W.mg_none_of X G T.b_max
      have b_min : mg "min" = none := PySem.W.mg_none_of X G T.b_min
      have b_range : mg "range" = none := PySem.W.mg_none_of X G T.b_range
      have b_repr : mg "repr" = none := PySem.W.mg_none_of X G T.b_repr
      have b_sorted : mg "sorted" = none := PySem.W.mg_none_of X G T.b_sorted
      have b_str : mg "str" = none := PySem.W.mg_none_of X G T.b_str
      have b_sum : mg "sum" = none := PySem.W.mg_none_of X G T.b_sum
      have b_tuple : mg "tuple" = none := PySem.W.mg_none_of X G T.b_tuple
      have b_zip : mg "zip" = none := PySem.W.mg_none_of X G T.b_zip
      exact (dss_cons (ds_expr (de_call ((ok_need_term X G T : Does P w K mg base 135 "need_term" _ m_need_term).dfn hr (by decide) []) hgu tk rfl (da_cons (de_var 0) da_nil))) (dss_one (ds_ret (de_ix (xd_ix u1) (de_call ((ok_gone_to X G T : Does P w K mg base 6 "gone_to" _ m_gone_to).dfn hr (by decide) []) hgu tk rfl (da_cons (de_var 0) (da_cons (de_var 1) da_nil))) de_int))))) : Does P w K mg base 136 "part_at" [[]] (fnBody 2 0 b_part_at))
theorem ok_grp_spots_in (X : K.In h) (G : h.Ns mainGlobals mg) (T : Tab K w) : ∀ n : Nat, Does P w K mg base (4 + n) "spots_in" [[]] (n_spots_in n)
  | 0 => does_bad X G T.f_spots_in (ps := ["term"]) (fun _ _ _ _ _ _ us hl => match us, hl with | [_], _ => rfl)
  | n + 1 => by
    have h_spots_in := ok_grp_spots_in X G T n
    · exact (does_ok (k := 4 + n) (nl := 4) X G T.f_spots_in sc_spots_in rfl (fun _ _ _ _ _ _ us hl => match us, hl with | [_], _ => rfl) (fun f cdv A outer s H E hgu hr tk po => by
      have u1 := Room.u1 hr
      have u200 := Room.u200 hr
      have u210 := Room.u210 hr (by omega)
      have b_all : mg "all" = none := PySem.W.mg_none_of X G T.b_all
      have b_bool : mg "bool" = none := PySem.W.mg_none_of X G T.b_bool
      have b_dict : mg "dict" = none := PySem.W.mg_none_of X G T.b_dict
      have b_enumerate : mg "enumerate" = none := PySem.W.mg_none_of X G T.b_enumerate
      have b_int : mg "int" = none := PySem.W.mg_none_of X G T.b_int
      have b_isinstance : mg "isinstance" = none := PySem.W.mg_none_of X G T.b_isinstance
      have b_len : mg "len" = none := PySem.W.mg_none_of X G T.b_len
      have b_list : mg "list" = none := PySem.W.mg_none_of X G T.b_list
      have b_max : mg "max" = none := PySem.W.mg_none_of X G T.b_max
      have b_min : mg "min" = none := PySem.W.mg_none_of X G T.b_min
      have b_range : mg "range" = none := PySem.W.mg_none_of X G T.b_range
      have b_repr : mg "repr" = none := PySem.W.mg_none_of X G T.b_repr
      have b_sorted : mg "sorted" = none := PySem.W.mg_none_of X G T.b_sorted
      have b_str : mg "str" = none := PySem.W.mg_none_of X G T.b_str
      have b_sum : mg "sum" = none := PySem.W.mg_none_of X G T.b_sum
      have b_tuple : mg "tuple" = none := PySem.W.mg_none_of X G T.b_tuple
      have b_zip : mg "zip" = none := PySem.W.mg_none_of X G T.b_zip
      exact (dss_cons (ds_set 1 sc_spots_in.nd (DF.own (df_lst (da_cons (de_tup da_nil) da_nil)))) (dss_cons (ds_for po rfl (di_enum rfl b_enumerate (da_cons (de_call ((ok_inner X G T : Does P w K mg base 4 "inner" _ m_inner).dfn hr (by omega) []) hgu tk rfl (da_cons (de_var 0) da_nil)) da_nil)) (dg_tup rfl (dgs_cons (dg_name 2 sc_spots_in.nd) (dgs_cons (dg_name 3 sc_spots_in.nd) dgs_nil))) (dss_one (ds_expr (de_bm (.lst) F.plainAttrs_list F.slot_list_extend F.type_list_extend md_extend (de_var 1) (da_cons (DF.val (df_comp (own := [("spot", 4)]) rfl sc_spots_in.nd (di_val (de_call ((h_spots_in : Does P w K mg base (4 + n) "spots_in" _ (n_spots_in n)).dfn hr (Nat.le_refl _) []) hgu tk rfl (da_cons (de_var 3) da_nil))) (blkOk_by (N := [Str.ofString "term", Str.ofString "found", Str.ofString "number", Str.ofString "part", Str.ofString "spot"]) (sc := defScope s_spots_in) (by decide +kernel)) (by decide) (fun _ _ _ _ _ => (dg_name 4 sc_spots_in.nd)) (fun _ _ _ _ _ => dts_nil) (fun _ _ _ _ _ => (de_bin od_add (de_tup (da_cons (de_var 2) da_nil)) (de_var 4))))) da_nil))))) (dss_one (ds_ret (de_frz (de_var 1))))))) : Does P w K mg base (4 + n + 1) "spots_in" [[]] (fnBody 1 4 (b_spots_in (n_spots_in n)))).trim
theorem ok_spots_in (X : K.In h) (G : h.Ns mainGlobals mg) (T : Tab K w) : Does P w K mg base 70 "spots_in" [[]] m_spots_in := (ok_grp_spots_in X G T 66)
theorem ok_spots (X : K.In h) (G : h.Ns mainGlobals mg) (T : Tab K w) : Does P w K mg base 136 "spots" [[]] m_spots :=
  (does_ok (k := 135) (nl := 0) X G T.f_spots sc_spots rfl (fun _ _ _ _ _ _ us hl => match us, hl with | [_], _ => rfl) (fun f cdv A outer s H E hgu hr tk po => by
      have u1 := Room.u1 hr
      have u200 := Room.u200 hr
      have u210 := Room.u210 hr (by omega)
      have b_all : mg "all" = none := PySem.W.mg_none_of X G T.b_all
      have b_bool : mg "bool" = none := PySem.W.mg_none_of X G T.b_bool
      have b_dict : mg "dict" = none := PySem.W.mg_none_of X G T.b_dict
      have b_enumerate : mg "enumerate" = none := PySem.W.mg_none_of X G T.b_enumerate
      have b_int : mg "int" = none := PySem.W.mg_none_of X G T.b_int
      have b_isinstance : mg "isinstance" = none := PySem.W.mg_none_of X G T.b_isinstance
      have b_len : mg "len" = none := PySem.W.mg_none_of X G T.b_len
      have b_list : mg "list" = none := PySem.W.mg_none_of X G T.b_list
      have b_max : mg "max" = none := PySem.W.mg_none_of X G T.b_max
      have b_min : mg "min" = none := PySem.W.mg_none_of X G T.b_min
      have b_range : mg "range" = none := PySem.W.mg_none_of X G T.b_range
      have b_repr : mg "repr" = none := PySem.W.mg_none_of X G T.b_repr
      have b_sorted : mg "sorted" = none := PySem.W.mg_none_of X G T.b_sorted
      have b_str : mg "str" = none := PySem.W.mg_none_of X G T.b_str
      have b_sum : mg "sum" = none := PySem.W.mg_none_of X G T.b_sum
      have b_tuple : mg "tuple" = none := PySem.W.mg_none_of X G T.b_tuple
      have b_zip : mg "zip" = none := PySem.W.mg_none_of X G T.b_zip
      exact (dss_cons (ds_expr (de_call ((ok_need_term X G T : Does P w K mg base 135 "need_term" _ m_need_term).dfn hr (by decide) []) hgu tk rfl (da_cons (de_var 0) da_nil))) (dss_one (ds_ret (de_call ((ok_spots_in X G T : Does P w K mg base 70 "spots_in" _ m_spots_in).dfn hr (by decide) []) hgu tk rfl (da_cons (de_var 0) da_nil)))))) : Does P w K mg base 136 "spots" [[]] (fnBody 1 0 b_spots))
theorem ok_grp_put_at (X : K.In h) (G : h.Ns mainGlobals mg) (T : Tab K w) : ∀ n : Nat, Does P w K mg base (4 + n) "put_at" [[]] (n_put_at n)
  | 0 => does_bad X G T.f_put_at (ps := ["term", "spot", "other"]) (fun _ _ _ _ _ _ us hl => match us, hl with | [_, _, _], _ => rfl)
  | n + 1 => by
    have h_put_at := ok_grp_put_at X G T n
    · exact (does_ok (k := 4 + n) (nl := 1) X G T.f_put_at sc_put_at rfl (fun _ _ _ _ _ _ us hl => match us, hl with | [_, _, _], _ => rfl) (fun f cdv A outer s H E hgu hr tk po => by
      have u1 := Room.u1 hr
      have u200 := Room.u200 hr
      have u210 := Room.u210 hr (by omega)
      have b_all : mg "all" = none := PySem.W.mg_none_of X G T.b_all
      have b_bool : mg "bool" = none := PySem.W.mg_none_of X G T.b_bool
      have b_dict : mg "dict" = none := PySem.W.mg_none_of X G T.b_dict
      have b_enumerate : mg "enumerate" = none := PySem.W.mg_none_of X G T.b_enumerate
      have b_int : mg "int" = none := PySem.W.mg_none_of X G T.b_int
      have b_isinstance : mg "isinstance" = none := PySem.W.mg_none_of X G T.b_isinstance
      have b_len : mg "len" = none := PySem.W.mg_none_of X G T.b_len
      have b_list : mg "list" = none := PySem.W.mg_none_of X G T.b_list
      have b_max : mg "max" = none := PySem.W.mg_none_of X G T.b_max
      have b_min : mg "min" = none := PySem.W.mg_none_of X G T.b_min
      have b_range : mg "range" = none := PySem.W.mg_none_of X G T.b_range
      have b_repr : mg "repr" = none := PySem.W.mg_none_of X G T.b_repr
      have b_sorted : mg "sorted" = none := PySem.W.mg_none_of X G T.b_sorted
      have b_str : mg "str" = none := PySem.W.mg_none_of X G T.b_str
      have b_sum : mg "sum" = none := PySem.W.mg_none_of X G T.b_sum
      have b_tuple : mg "tuple" = none := PySem.W.mg_none_of X G T.b_tuple
      have b_zip : mg "zip" = none := PySem.W.mg_none_of X G T.b_zip
      exact (dss_cons (ds_if (dt_cmp (od_eq u200) (de_var 1) (de_tup da_nil)) (dss_one (ds_ret (de_var 2))) dss_nil) (dss_cons (ds_set 3 sc_put_at.nd (de_call ((ok_inner__o X G T : Does P w K mg base 4 "inner" _ m_inner__o).dfn hr (by omega) []) hgu tk rfl (da_cons (de_var 0) da_nil))) (dss_cons (ds_setIx u1 (de_call ((h_put_at : Does P w K mg base (4 + n) "put_at" _ (n_put_at n)).dfn hr (Nat.le_refl _) []) hgu tk rfl (da_cons (de_ix (xd_ix u1) (de_var 3) (de_ix (xd_ix u1) (de_var 1) de_int)) (da_cons (de_slice (de_var 1) (do_some de_int) do_none) (da_cons (de_var 2) da_nil)))) (de_var 3) (de_ix (xd_ix u1) (de_var 1) de_int)) (dss_one (ds_ret (de_call ((ok_with_parts X G T : Does P w K mg base 4 "with_parts" _ m_with_parts).dfn hr (by omega) []) hgu tk rfl (da_cons (de_var 0) (da_cons (de_var 3) da_nil))))))))) : Does P w K mg base (4 + n + 1) "put_at" [[]] (fnBody 3 1 (b_put_at (n_put_at n)))).trim
theorem ok_put_at (X : K.In h) (G : h.Ns mainGlobals mg) (T : Tab K w) : Does P w K mg base 70 "put_at" [[]] m_put_at := (ok_grp_put_at X G T 66)
theorem ok_changed (X : K.In h) (G : h.Ns mainGlobals mg) (T : Tab K w) : Does P w K mg base 136 "changed" [[]] m_changed :=
  (does_ok (k := 135) (nl := 0) X G T.f_changed sc_changed rfl (fun _ _ _ _ _ _ us hl => match us, hl with | [_, _, _], _ => rfl) (fun f cdv A outer s H E hgu hr tk po => by
      have u1 := Room.u1 hr
      have u200 := Room.u200 hr
      have u210 := Room.u210 hr (by omega)
      have b_all : mg "all" = none := PySem.W.mg_none_of X G T.b_all
      have b_bool : mg "bool" = none := PySem.W.mg_none_of X G T.b_bool
      have b_dict : mg "dict" = none := PySem.W.mg_none_of X G T.b_dict
      have b_enumerate : mg "enumerate" = none := PySem.W.mg_none_of X G T.b_enumerate
      have b_int : mg "int" = none := PySem.W.mg_none_of X G T.b_int
      have b_isinstance : mg "isinstance" = none := PySem.W.mg_none_of X G T.b_isinstance
      have b_len : mg "len" = none := PySem.W.mg_none_of X G T.b_len
      have b_list : mg "list" = none := PySem.W.mg_none_of X G T.b_list
      have b_max : mg "max" = none := PySem.W.mg_none_of X G T.b_max
      have b_min : mg "min" = none := PySem.W.mg_none_of X G T.b_min
      have b_range : mg "range" = none := PySem.W.mg_none_of X G T.b_range
      have b_repr : mg "repr" = none := PySem.W.mg_none_of X G T.b_repr
      have b_sorted : mg "sorted" = none := PySem.W.mg_none_of X G T.b_sorted
      have b_str : mg "str" = none := PySem.W.mg_none_of X G T.b_str
      have b_sum : mg "sum" = none := PySem.W.mg_none_of X G T.b_sum
      have b_tuple : mg "tuple" = none := PySem.W.mg_none_of X G T.b_tuple
      have b_zip : mg "zip" = none := PySem.W.mg_none_of X G T.b_zip
      exact (dss_cons (ds_expr (de_call ((ok_need_term X G T : Does P w K mg base 135 "need_term" _ m_need_term).dfn hr (by decide) []) hgu tk rfl (da_cons (de_var 0) da_nil))) (dss_cons (ds_expr (de_call ((ok_gone_to X G T : Does P w K mg base 6 "gone_to" _ m_gone_to).dfn hr (by decide) []) hgu tk rfl (da_cons (de_var 0) (da_cons (de_var 1) da_nil)))) (dss_cons (ds_expr (de_call ((ok_need_term X G T : Does P w K mg base 135 "need_term" _ m_need_term).dfn hr (by decide) []) hgu tk rfl (da_cons (de_var 2) da_nil))) (dss_one (ds_ret (de_call ((ok_put_at X G T : Does P w K mg base 70 "put_at" _ m_put_at).dfn hr (by decide) []) hgu tk rfl (da_cons (de_var 0) (da_cons (de_var 1) (da_cons (de_var 2) da_nil)))))))))) : Does P w K mg base 136 "changed" [[]] (fnBody 3 0 b_changed))
theorem ok_grp_size_of (X : K.In h) (G : h.Ns mainGlobals mg) (T : Tab K w) : ∀ n : Nat, Does P w K mg base (4 + n) "size_of" [[]] (n_size_of n)
  | 0 => does_bad X G T.f_size_of (ps := ["term"]) (fun _ _ _ _ _ _ us hl => match us, hl with | [_], _ => rfl)
  | n + 1 => by
    have h_size_of := ok_grp_size_of X G T n
    · exact (does_ok (k := 4 + n) (nl := 1) X G T.f_size_of sc_size_of rfl (fun _ _ _ _ _ _ us hl => match us, hl with | [_], _ => rfl) (fun f cdv A outer s H E hgu hr tk po => by
      have u1 := Room.u1 hr
      have u200 := Room.u200 hr
      have u210 := Room.u210 hr (by omega)
      have b_all : mg "all" = none := PySem.W.mg_none_of X G T.b_all
      have b_bool : mg "bool" = none := PySem.W.mg_none_of X G T.b_bool
      have b_dict : mg "dict" = none := PySem.W.mg_none_of X G T.b_dict
      have b_enumerate : mg "enumerate" = none := PySem.W.mg_none_of X G T.b_enumerate
      have b_int : mg "int" = none := PySem.W.mg_none_of X G T.b_int
      have b_isinstance : mg "isinstance" = none := PySem.W.mg_none_of X G T.b_isinstance
      have b_len : mg "len" = none := PySem.W.mg_none_of X G T.b_len
      have b_list : mg "list" = none := PySem.W.mg_none_of X G T.b_list
      have b_max : mg "max" = none := PySem.W.mg_none_of X G T.b_max
      have b_min : mg "min" = none := PySem.W.mg_none_of X G T.b_min
      have b_range : mg "range" = none := PySem.W.mg_none_of X G T.b_range
      have b_repr : mg "repr" = none := PySem.W.mg_none_of X G T.b_repr
      have b_sorted : mg "sorted" = none := PySem.W.mg_none_of X G T.b_sorted
      have b_str : mg "str" = none := PySem.W.mg_none_of X G T.b_str
      have b_sum : mg "sum" = none := PySem.W.mg_none_of X G T.b_sum
      have b_tuple : mg "tuple" = none := PySem.W.mg_none_of X G T.b_tuple
      have b_zip : mg "zip" = none := PySem.W.mg_none_of X G T.b_zip
      exact (dss_one (ds_ret (de_bin od_add de_int (de_callB (cd_sum rfl) rfl b_sum rfl (da_cons (DF.val (df_comp (own := [("part", 1)]) rfl sc_size_of.nd (di_val (de_call ((ok_inner X G T : Does P w K mg base 4 "inner" _ m_inner).dfn hr (by omega) []) hgu tk rfl (da_cons (de_var 0) da_nil))) (blkOk_by (N := [Str.ofString "term", Str.ofString "part"]) (sc := defScope s_size_of) (by decide +kernel)) (by decide) (fun _ _ _ _ _ => (dg_name 1 sc_size_of.nd)) (fun _ _ _ _ _ => dts_nil) (fun _ _ _ _ _ => (de_call ((h_size_of : Does P w K mg base (4 + n) "size_of" _ (n_size_of n)).dfn hr (Nat.le_refl _) []) hgu TkD.none rfl (da_cons (de_var 1) da_nil))))) da_nil)))))) : Does P w K mg base (4 + n + 1) "size_of" [[]] (fnBody 1 1 (b_size_of (n_size_of n))))
theorem ok_size_of (X : K.In h) (G : h.Ns mainGlobals mg) (T : Tab K w) : Does P w K mg base 70 "size_of" [[]] m_size_of := (ok_grp_size_of X G T 66)
theorem ok_size (X : K.In h) (G : h.Ns mainGlobals mg) (T : Tab K w) : Does P w K mg base 136 "size" [[]] m_size :=
  (does_ok (k := 135) (nl := 0) X G T.f_size sc_size rfl (fun _ _ _ _ _ _ us hl => match us, hl with | [_], _ => rfl) (fun f cdv A outer s H E hgu hr tk po => by
      have u1 := Room.u1 hr
      have u200 := Room.u200 hr
      have u210 := Room.u210 hr (by omega)
      have b_all : mg "all" = none := PySem.W.mg_none_of X G T.b_all
      have b_bool : mg "bool" = none := PySem.W.mg_none_of X G T.b_bool
      have b_dict : mg "dict" = none := PySem.W.mg_none_of X G T.b_dict
      have b_enumerate : mg "enumerate" = none := PySem.W.mg_none_of X G T.b_enumerate
      have b_int : mg "int" = none := PySem.W.mg_none_of X G T.b_int
      have b_isinstance : mg "isinstance" = none := PySem.W.mg_none_of X G T.b_isinstance
      have b_len : mg "len" = none := PySem.W.mg_none_of X G T.b_len
      have b_list : mg "list" = none := PySem.W.mg_none_of X G T.b_list
      have b_max : mg "max" = none := PySem.W.mg_none_of X G T.b_max
      have b_min : mg "min" = none := PySem.W.mg_none_of X G T.b_min
      have b_range : mg "range" = none := PySem.W.mg_none_of X G T.b_range
      have b_repr : mg "repr" = none := PySem.W.mg_none_of X G T.b_repr
      have b_sorted : mg "sorted" = none := PySem.W.mg_none_of X G T.b_sorted
      have b_str : mg "str" = none := PySem.W.mg_none_of X G T.b_str
      have b_sum : mg "sum" = none := PySem.W.mg_none_of X G T.b_sum
      have b_tuple : mg "tuple" = none := PySem.W.mg_none_of X G T.b_tuple
      have b_zip : mg "zip" = none := PySem.W.mg_none_of X G T.b_zip
      exact (dss_cons (ds_expr (de_call ((ok_need_term X G T : Does P w K mg base 135 "need_term" _ m_need_term).dfn hr (by decide) []) hgu tk rfl (da_cons (de_var 0) da_nil))) (dss_one (ds_ret (de_call ((ok_size_of X G T : Does P w K mg base 70 "size_of" _ m_size_of).dfn hr (by decide) []) hgu tk rfl (da_cons (de_var 0) da_nil)))))) : Does P w K mg base 136 "size" [[]] (fnBody 1 0 b_size))
theorem ok_grp_free_in (X : K.In h) (G : h.Ns mainGlobals mg) (T : Tab K w) : ∀ n : Nat, Does P w K mg base (4 + n) "free_in" [[]] (n_free_in n)
  | 0 => does_bad X G T.f_free_in (ps := ["term"]) (fun _ _ _ _ _ _ us hl => match us, hl with | [_], _ => rfl)
  | n + 1 => by
    have h_free_in := ok_grp_free_in X G T n
    · exact (does_ok (k := 4 + n) (nl := 4) X G T.f_free_in sc_free_in rfl (fun _ _ _ _ _ _ us hl => match us, hl with | [_], _ => rfl) (fun f cdv A outer s H E hgu hr tk po => by
      have u1 := Room.u1 hr
      have u200 := Room.u200 hr
      have u210 := Room.u210 hr (by omega)
      have b_all : mg "all" = none := PySem.W.mg_none_of X G T.b_all
      have b_bool : mg "bool" = none := PySem.W.mg_none_of X G T.b_bool
      have b_dict : mg "dict" = none := PySem.W.mg_none_of X G T.b_dict
      have b_enumerate : mg "enumerate" = none := PySem.W.mg_none_of X G T.b_enumerate
      have b_int : mg "int" = none := PySem.W.mg_none_of X G T.b_int
      have b_isinstance : mg "isinstance" = none := PySem.W.mg_none_of X G T.b_isinstance
      have b_len : mg "len" = none := PySem.W.mg_none_of X G T.b_len
      have b_list : mg "list" = none := PySem.W.mg_none_of X G T.b_list
      have b_max : mg "max" = none := PySem.W.mg_none_of X G T.b_max
      have b_min : mg "min" = none := PySem.W.mg_none_of X G T.b_min
      have b_range : mg "range" = none := PySem.W.mg_none_of X G T.b_range
      have b_repr : mg "repr" = none := PySem.W.mg_none_of X G T.b_repr
      have b_sorted : mg "sorted" = none := PySem.W.mg_none_of X G T.b_sorted
      have b_str : mg "str" = none := PySem.W.mg_none_of X G T.b_str
      have b_sum : mg "sum" = none := PySem.W.mg_none_of X G T.b_sum
      have b_tuple : mg "tuple" = none := PySem.W.mg_none_of X G T.b_tuple
      have b_zip : mg "zip" = none := PySem.W.mg_none_of X G T.b_zip
      exact (dss_cons (ds_if (dt_cmp (od_eq u200) (de_ix (xd_ix u1) (de_var 0) de_int) de_str) (dss_one (ds_ret (de_lst (da_cons (de_ix (xd_ix u1) (de_var 0) de_int) da_nil)))) dss_nil) (dss_cons (ds_set 1 sc_free_in.nd de_dct0O) (dss_cons (ds_for po rfl (di_enum rfl b_enumerate (da_cons (de_call ((ok_inner X G T : Does P w K mg base 4 "inner" _ m_inner).dfn hr (by omega) []) hgu tk rfl (da_cons (de_var 0) da_nil)) da_nil)) (dg_tup rfl (dgs_cons (dg_name 2 sc_free_in.nd) (dgs_cons (dg_name 3 sc_free_in.nd) dgs_nil))) (dss_one (ds_for po rfl (di_val (de_call ((h_free_in : Does P w K mg base (4 + n) "free_in" _ (n_free_in n)).dfn hr (Nat.le_refl _) []) hgu tk rfl (da_cons (de_var 3) da_nil))) (dg_name 4 sc_free_in.nd) (dss_one (ds_if (dt_cmp od_ge (de_var 4) (de_call ((ok_binds X G T : Does P w K mg base 4 "binds" _ m_binds).dfn hr (by omega) []) hgu tk rfl (da_cons (de_var 0) (da_cons (de_var 2) da_nil)))) (dss_one (ds_setIx u1 de_bl (de_var 1) (de_bin od_sub (de_var 4) (de_call ((ok_binds X G T : Does P w K mg base 4 "binds" _ m_binds).dfn hr (by omega) []) hgu tk rfl (da_cons (de_var 0) (da_cons (de_var 2) da_nil)))))) dss_nil))))) (dss_one (ds_ret (DF.val (df_sortDict rfl rfl b_sorted (de_var 1))))))))) : Does P w K mg base (4 + n + 1) "free_in" [[]] (fnBody 1 4 (b_free_in (n_free_in n)))).trim
theorem ok_free_in (X : K.In h) (G : h.Ns mainGlobals mg) (T : Tab K w) : Does P w K mg base 70 "free_in" [[]] m_free_in := (ok_grp_free_in X G T 66)
theorem ok_free (X : K.In h) (G : h.Ns mainGlobals mg) (T : Tab K w) : Does P w K mg base 136 "free" [[]] m_free :=
  (does_ok (k := 135) (nl := 0) X G T.f_free sc_free rfl (fun _ _ _ _ _ _ us hl => match us, hl with | [_], _ => rfl) (fun f cdv A outer s H E hgu hr tk po => by
      have u1 := Room.u1 hr
      have u200 := Room.u200 hr
      have u210 := Room.u210 hr (by omega)
      have b_all : mg "all" = none := PySem.W.mg_none_of X G T.b_all
      have b_bool : mg "bool" = none := PySem.W.mg_none_of X G T.b_bool
      have b_dict : mg "dict" = none := PySem.W.mg_none_of X G T.b_dict
      have b_enumerate : mg "enumerate" = none := PySem.W.mg_none_of X G T.b_enumerate
      have b_int : mg "int" = none := PySem.W.mg_none_of X G T.b_int
      have b_isinstance : mg "isinstance" = none := PySem.W.mg_none_of X G T.b_isinstance
      have b_len : mg "len" = none := PySem.W.mg_none_of X G T.b_len
      have b_list : mg "list" = none := PySem.W.mg_none_of X G T.b_list
      have b_max : mg "max" = none := PySem.W.mg_none_of X G T.b_max
      have b_min : mg "min" = none := PySem.W.mg_none_of X G T.b_min
      have b_range : mg "range" = none := PySem.W.mg_none_of X G T.b_range
      have b_repr : mg "repr" = none := PySem.W.mg_none_of X G T.b_repr
      have b_sorted : mg "sorted" = none := PySem.W.mg_none_of X G T.b_sorted
      have b_str : mg "str" = none := PySem.W.mg_none_of X G T.b_str
      have b_sum : mg "sum" = none := PySem.W.mg_none_of X G T.b_sum
      have b_tuple : mg "tuple" = none := PySem.W.mg_none_of X G T.b_tuple
      have b_zip : mg "zip" = none := PySem.W.mg_none_of X G T.b_zip
      exact (dss_cons (ds_expr (de_call ((ok_need_term X G T : Does P w K mg base 135 "need_term" _ m_need_term).dfn hr (by decide) []) hgu tk rfl (da_cons (de_var 0) da_nil))) (dss_one (ds_ret (de_call ((ok_free_in X G T : Does P w K mg base 70 "free_in" _ m_free_in).dfn hr (by decide) []) hgu tk rfl (da_cons (de_var 0) da_nil)))))) : Does P w K mg base 136 "free" [[]] (fnBody 1 0 b_free))
theorem ok_grp_raise_in (X : K.In h) (G : h.Ns mainGlobals mg) (T : Tab K w) : ∀ n : Nat, Does P w K mg base (4 + n) "raise_in" [[]] (n_raise_in n)
  | 0 => does_bad X G T.f_raise_in (ps := ["term", "by", "start"]) (fun _ _ _ _ _ _ us hl => match us, hl with | [_, _, _], _ => rfl)
  | n + 1 => by
    have h_raise_in := ok_grp_raise_in X G T n
    · exact (does_ok (k := 4 + n) (nl := 3) X G T.f_raise_in sc_raise_in rfl (fun _ _ _ _ _ _ us hl => match us, hl with | [_, _, _], _ => rfl) (fun f cdv A outer s H E hgu hr tk po => by
      have u1 := Room.u1 hr
      have u200 := Room.u200 hr
      have u210 := Room.u210 hr (by omega)
      have b_all : mg "all" = none := PySem.W.mg_none_of X G T.b_all
      have b_bool : mg "bool" = none := PySem.W.mg_none_of X G T.b_bool
      have b_dict : mg "dict" = none := PySem.W.mg_none_of X G T.b_dict
      have b_enumerate : mg "enumerate" = none := PySem.W.mg_none_of X G T.b_enumerate
      have b_int : mg "int" = none := PySem.W.mg_none_of X G T.b_int
      have b_isinstance : mg "isinstance" = none := PySem.W.mg_none_of X G T.b_isinstance
      have b_len : mg "len" = none := PySem.W.mg_none_of X G T.b_len
      have b_list : mg "list" = none := PySem.W.mg_none_of X G T.b_list
      have b_max : mg "max" = none := PySem.W.mg_none_of X G T.b_max
      have b_min : mg "min" = none := PySem.W.mg_none_of X G T.b_min
      have b_range : mg "range" = none := PySem.W.mg_none_of X G T.b_range
      have b_repr : mg "repr" = none := PySem.W.mg_none_of X G T.b_repr
      have b_sorted : mg "sorted" = none := PySem.W.mg_none_of X G T.b_sorted
      have b_str : mg "str" = none := PySem.W.mg_none_of X G T.b_str
      have b_sum : mg "sum" = none := PySem.W.mg_none_of X G T.b_sum
      have b_tuple : mg "tuple" = none := PySem.W.mg_none_of X G T.b_tuple
      have b_zip : mg "zip" = none := PySem.W.mg_none_of X G T.b_zip
      exact (dss_cons (ds_if (dt_cmp (od_eq u200) (de_ix (xd_ix u1) (de_var 0) de_int) de_str) (dss_one (ds_ret (de_if (dt_cmp od_ge (de_ix (xd_ix u1) (de_var 0) de_int) (de_var 2)) (de_tup (da_cons de_str (da_cons (de_bin od_add (de_ix (xd_ix u1) (de_var 0) de_int) (de_var 1)) da_nil))) (de_var 0)))) dss_nil) (dss_cons (ds_set 3 sc_raise_in.nd (de_call ((ok_inner X G T : Does P w K mg base 4 "inner" _ m_inner).dfn hr (by omega) []) hgu tk rfl (da_cons (de_var 0) da_nil))) (dss_cons (ds_if (dt_cmp (od_eq u200) (de_var 3) (de_lst da_nil)) (dss_one (ds_ret (de_var 0))) dss_nil) (dss_one (ds_ret (de_call ((ok_with_parts X G T : Does P w K mg base 4 "with_parts" _ m_with_parts).dfn hr (by omega) []) hgu tk rfl (da_cons (de_var 0) (da_cons (DF.val (df_comp (own := [("number", 4), ("part", 5)]) rfl sc_raise_in.nd (di_enum rfl b_enumerate (da_cons (de_var 3) da_nil)) (blkOk_by (N := [Str.ofString "term", Str.ofString "by", Str.ofString "start", Str.ofString "some", Str.ofString "number", Str.ofString "part"]) (sc := defScope s_raise_in) (by decide +kernel)) (by decide) (fun _ _ _ _ _ => (dg_tup rfl (dgs_cons (dg_name 4 sc_raise_in.nd) (dgs_cons (dg_name 5 sc_raise_in.nd) dgs_nil)))) (fun _ _ _ _ _ => dts_nil) (fun _ _ _ _ _ => (de_call ((h_raise_in : Does P w K mg base (4 + n) "raise_in" _ (n_raise_in n)).dfn hr (Nat.le_refl _) []) hgu TkD.none rfl (da_cons (de_var 5) (da_cons (de_var 1) (da_cons (de_bin od_add (de_var 2) (de_call ((ok_binds X G T : Does P w K mg base 4 "binds" _ m_binds).dfn hr (by omega) []) hgu TkD.none rfl (da_cons (de_var 0) (da_cons (de_var 4) da_nil)))) da_nil))))))) da_nil))))))))) : Does P w K mg base (4 + n + 1) "raise_in" [[]] (fnBody 3 3 (b_raise_in (n_raise_in n))))
theorem ok_raise_in (X : K.In h) (G : h.Ns mainGlobals mg) (T : Tab K w) : Does P w K mg base 70 "raise_in" [[]] m_raise_in := (ok_grp_raise_in X G T 66)
theorem ok_raised (X : K.In h) (G : h.Ns mainGlobals mg) (T : Tab K w) : Does P w K mg base 136 "raised" [[], [.int 0], [.int 1, .int 0]] m_raised :=
  (does_okD (k := 135) (nl := 0) (dds := [.int 1, .int 0]) [[], [.int 0], [.int 1, .int 0]] X G T.f_raised sc_raised rfl (fun _ _ _ _ => (.cons (.int _) (.cons (.int _) .nil))) (by simp) (fun dd hd => by
    simp only [List.mem_cons, List.mem_nil_iff, or_false] at hd
    rcases hd with rfl | rfl | rfl
    · exact ⟨2, rfl, 3, rfl, fun T kV doc pm an cdv ct us its h1 h2 => match us, its, h1, h2 with | [_, _, _], [_, _], _, _ => ⟨_, rfl, rfl⟩⟩
    · exact ⟨1, rfl, 2, rfl, fun T kV doc pm an cdv ct us its h1 h2 => match us, its, h1, h2 with | [_, _], [_, _], _, _ => ⟨_, rfl, rfl⟩⟩
    · exact ⟨0, rfl, 1, rfl, fun T kV doc pm an cdv ct us its h1 h2 => match us, its, h1, h2 with | [_], [_, _], _, _ => ⟨_, rfl, rfl⟩⟩) (fun f cdv A outer s H E hgu hr tk po => by
      have u1 := Room.u1 hr
      have u200 := Room.u200 hr
      have u210 := Room.u210 hr (by omega)
      have b_all : mg "all" = none := PySem.W.mg_none_of X G T.b_all
      have b_bool : mg "bool" = none := PySem.W.mg_none_of X G T.b_bool
      have b_dict : mg "dict" = none := PySem.W.mg_none_of X G T.b_dict
      have b_enumerate : mg "enumerate" = none := PySem.W.mg_none_of X G T.b_enumerate
      have b_int : mg "int" = none := PySem.W.mg_none_of X G T.b_int
      have b_isinstance : mg "isinstance" = none := PySem.W.mg_none_of X G T.b_isinstance
      have b_len : mg "len" = none := PySem.W.mg_none_of X G T.b_len
      have b_list : mg "list" = none := PySem.W.mg_none_of X G T.b_list
      have b_max : mg "max" = none := PySem.W.mg_none_of X G T.b_max
      have b_min : mg "min" = none := PySem.W.mg_none_of X G T.b_min
      have b_range : mg "range" = none := PySem.W.mg_none_of X G T.b_range
      have b_repr : mg "repr" = none := PySem.W.mg_none_of X G T.b_repr
      have b_sorted : mg "sorted" = none := PySem.W.mg_none_of X G T.b_sorted
      have b_str : mg "str" = none := PySem.W.mg_none_of X G T.b_str
      have b_sum : mg "sum" = none := PySem.W.mg_none_of X G T.b_sum
      have b_tuple : mg "tuple" = none := PySem.W.mg_none_of X G T.b_tuple
      have b_zip : mg "zip" = none := PySem.W.mg_none_of X G T.b_zip
      exact (dss_cons (ds_expr (de_call ((ok_need_term X G T : Does P w K mg base 135 "need_term" _ m_need_term).dfn hr (by decide) []) hgu tk rfl (da_cons (de_var 0) da_nil))) (dss_cons (ds_expr (de_call ((ok_need_place X G T : Does P w K mg base 5 "need_place" _ m_need_place).dfn hr (by decide) []) hgu tk rfl (da_cons (de_var 1) da_nil))) (dss_cons (ds_expr (de_call ((ok_need_place X G T : Does P w K mg base 5 "need_place" _ m_need_place).dfn hr (by decide) []) hgu tk rfl (da_cons (de_var 2) da_nil))) (dss_one (ds_ret (de_call ((ok_raise_in X G T : Does P w K mg base 70 "raise_in" _ m_raise_in).dfn hr (by decide) []) hgu tk rfl (da_cons (de_var 0) (da_cons (de_var 1) (da_cons (de_var 2) da_nil)))))))))) : Does P w K mg base 136 "raised" [[], [.int 0], [.int 1, .int 0]] (fnBody 3 0 b_raised))
theorem ok_grp_give_in (X : K.In h) (G : h.Ns mainGlobals mg) (T : Tab K w) : ∀ n : Nat, Does P w K mg base (70 + n) "give_in" [[], [.int 0]] (n_give_in n)
  | 0 => does_badD (ps := ["term", "other", "number", "binders"]) (dds := [.int 0]) [[], [.int 0]] X G T.f_give_in (fun _ _ _ _ => (.cons (.int _) .nil)) (by simp) (fun dd hd => by
    simp only [List.mem_cons, List.mem_nil_iff, or_false] at hd
    rcases hd with rfl | rfl
    · exact ⟨1, rfl, 4, rfl, fun T kV doc pm an cdv ct us its h1 h2 => match us, its, h1, h2 with | [_, _, _, _], [_], _, _ => ⟨_, rfl, rfl⟩⟩
    · exact ⟨0, rfl, 3, rfl, fun T kV doc pm an cdv ct us its h1 h2 => match us, its, h1, h2 with | [_, _, _], [_], _, _ => ⟨_, rfl, rfl⟩⟩)
  | n + 1 => by
    have h_give_in := ok_grp_give_in X G T n
    · exact (does_okD (k := 70 + n) (nl := 3) (dds := [.int 0]) [[], [.int 0]] X G T.f_give_in sc_give_in rfl (fun _ _ _ _ => (.cons (.int _) .nil)) (by simp) (fun dd hd => by
    simp only [List.mem_cons, List.mem_nil_iff, or_false] at hd
    rcases hd with rfl | rfl
    · exact ⟨1, rfl, 4, rfl, fun T kV doc pm an cdv ct us its h1 h2 => match us, its, h1, h2 with | [_, _, _, _], [_], _, _ => ⟨_, rfl, rfl⟩⟩
    · exact ⟨0, rfl, 3, rfl, fun T kV doc pm an cdv ct us its h1 h2 => match us, its, h1, h2 with | [_, _, _], [_], _, _ => ⟨_, rfl, rfl⟩⟩) (fun f cdv A outer s H E hgu hr tk po => by
      have u1 := Room.u1 hr
      have u200 := Room.u200 hr
      have u210 := Room.u210 hr (by omega)
      have b_all : mg "all" = none := PySem.W.mg_none_of X G T.b_all
      have b_bool : mg "bool" = none := PySem.W.mg_none_of X G T.b_bool
      have b_dict : mg "dict" = none := PySem.W.mg_none_of X G T.b_dict
      have b_enumerate : mg "enumerate" = none := PySem.W.mg_none_of X G T.b_enumerate
      have b_int : mg "int" = none := PySem.W.mg_none_of X G T.b_int
      have b_isinstance : mg "isinstance" = none := PySem.W.mg_none_of X G T.b_isinstance
      have b_len : mg "len" = none := PySem.W.mg_none_of X G T.b_len
      have b_list : mg "list" = none := PySem.W.mg_none_of X G T.b_list
      have b_max : mg "max" = none := PySem.W.mg_none_of X G T.b_max
      have b_min : mg "min" = none := PySem.W.mg_none_of X G T.b_min
      have b_range : mg "range" = none := PySem.W.mg_none_of X G T.b_range
      have b_repr : mg "repr" = none := PySem.W.mg_none_of X G T.b_repr
      have b_sorted : mg "sorted" = none := PySem.W.mg_none_of X G T.b_sorted
      have b_str : mg "str" = none := PySem.W.mg_none_of X G T.b_str
      have b_sum : mg "sum" = none := PySem.W.mg_none_of X G T.b_sum
      have b_tuple : mg "tuple" = none := PySem.W.mg_none_of X G T.b_tuple
      have b_zip : mg "zip" = none := PySem.W.mg_none_of X G T.b_zip
      exact (dss_cons (ds_if (dt_cmp (od_eq u200) (de_ix (xd_ix u1) (de_var 0) de_int) de_str) (dss_cons (ds_if (dt_cmp (od_eq u200) (de_ix (xd_ix u1) (de_var 0) de_int) (de_bin od_add (de_var 2) (de_var 3))) (dss_one (ds_ret (de_call ((ok_raise_in X G T : Does P w K mg base 70 "raise_in" _ m_raise_in).dfn hr (by omega) []) hgu tk rfl (da_cons (de_var 1) (da_cons (de_var 3) (da_cons de_int da_nil)))))) dss_nil) (dss_one (ds_ret (de_if (dt_cmp od_gt (de_ix (xd_ix u1) (de_var 0) de_int) (de_bin od_add (de_var 2) (de_var 3))) (de_tup (da_cons de_str (da_cons (de_bin od_sub (de_ix (xd_ix u1) (de_var 0) de_int) de_int) da_nil))) (de_var 0))))) dss_nil) (dss_cons (ds_set 4 sc_give_in.nd (de_call ((ok_inner X G T : Does P w K mg base 4 "inner" _ m_inner).dfn hr (by omega) []) hgu tk rfl (da_cons (de_var 0) da_nil))) (dss_cons (ds_if (dt_cmp (od_eq u200) (de_var 4) (de_lst da_nil)) (dss_one (ds_ret (de_var 0))) dss_nil) (dss_one (ds_ret (de_call ((ok_with_parts X G T : Does P w K mg base 4 "with_parts" _ m_with_parts).dfn hr (by omega) []) hgu tk rfl (da_cons (de_var 0) (da_cons (DF.val (df_comp (own := [("k", 5), ("part", 6)]) rfl sc_give_in.nd (di_enum rfl b_enumerate (da_cons (de_var 4) da_nil)) (blkOk_by (N := [Str.ofString "term", Str.ofString "other", Str.ofString "number", Str.ofString "binders", Str.ofString "some", Str.ofString "k", Str.ofString "part"]) (sc := defScope s_give_in) (by decide +kernel)) (by decide) (fun _ _ _ _ _ => (dg_tup rfl (dgs_cons (dg_name 5 sc_give_in.nd) (dgs_cons (dg_name 6 sc_give_in.nd) dgs_nil)))) (fun _ _ _ _ _ => dts_nil) (fun _ _ _ _ _ => (de_call ((h_give_in : Does P w K mg base (70 + n) "give_in" _ (n_give_in n)).dfn hr (Nat.le_refl _) []) hgu TkD.none rfl (da_cons (de_var 6) (da_cons (de_var 1) (da_cons (de_var 2) (da_cons (de_bin od_add (de_var 3) (de_call ((ok_binds X G T : Does P w K mg base 4 "binds" _ m_binds).dfn hr (by omega) []) hgu TkD.none rfl (da_cons (de_var 0) (da_cons (de_var 5) da_nil)))) da_nil)))))))) da_nil))))))))) : Does P w K mg base (70 + n + 1) "give_in" [[], [.int 0]] (fnBody 4 3 (b_give_in (n_give_in n))))
theorem ok_give_in (X : K.In h) (G : h.Ns mainGlobals mg) (T : Tab K w) : Does P w K mg base 136 "give_in" [[], [.int 0]] m_give_in := (ok_grp_give_in X G T 66)
theorem ok_giving (X : K.In h) (G : h.Ns mainGlobals mg) (T : Tab K w) : Does P w K mg base 137 "giving" [[], [.int 0]] m_giving :=
  (does_okD (k := 136) (nl := 0) (dds := [.int 0]) [[], [.int 0]] X G T.f_giving sc_giving rfl (fun _ _ _ _ => (.cons (.int _) .nil)) (by simp) (fun dd hd => by
    simp only [List.mem_cons, List.mem_nil_iff, or_false] at hd
    rcases hd with rfl | rfl
    · exact ⟨1, rfl, 3, rfl, fun T kV doc pm an cdv ct us its h1 h2 => match us, its, h1, h2 with | [_, _, _], [_], _, _ => ⟨_, rfl, rfl⟩⟩
    · exact ⟨0, rfl, 2, rfl, fun T kV doc pm an cdv ct us its h1 h2 => match us, its, h1, h2 with | [_, _], [_], _, _ => ⟨_, rfl, rfl⟩⟩) (fun f cdv A outer s H E hgu hr tk po => by
      have u1 := Room.u1 hr
      have u200 := Room.u200 hr
      have u210 := Room.u210 hr (by omega)
      have b_all : mg "all" = none := PySem.W.mg_none_of X G T.b_all
      have b_bool : mg "bool" = none := PySem.W.mg_none_of X G T.b_bool
      have b_dict : mg "dict" = none := PySem.W.mg_none_of X G T.b_dict
      have b_enumerate : mg "enumerate" = none := PySem.W.mg_none_of X G T.b_enumerate
      have b_int : mg "int" = none := PySem.W.mg_none_of X G T.b_int
      have b_isinstance : mg "isinstance" = none := PySem.W.mg_none_of X G T.b_isinstance
      have b_len : mg "len" = none := PySem.W.mg_none_of X G T.b_len
      have b_list : mg "list" = none := PySem.W.mg_none_of X G T.b_list
      have b_max : mg "max" = none := PySem.W.mg_none_of X G T.b_max
      have b_min : mg "min" = none := PySem.W.mg_none_of X G T.b_min
      have b_range : mg "range" = none := PySem.W.mg_none_of X G T.b_range
      have b_repr : mg "repr" = none := PySem.W.mg_none_of X G T.b_repr
      have b_sorted : mg "sorted" = none := PySem.W.mg_none_of X G T.b_sorted
      have b_str : mg "str" = none := PySem.W.mg_none_of X G T.b_str
      have b_sum : mg "sum" = none := PySem.W.mg_none_of X G T.b_sum
      have b_tuple : mg "tuple" = none := PySem.W.mg_none_of X G T.b_tuple
      have b_zip : mg "zip" = none := PySem.W.mg_none_of X G T.b_zip
      exact (dss_cons (ds_expr (de_call ((ok_need_term X G T : Does P w K mg base 135 "need_term" _ m_need_term).dfn hr (by decide) []) hgu tk rfl (da_cons (de_var 0) da_nil))) (dss_cons (ds_expr (de_call ((ok_need_term X G T : Does P w K mg base 135 "need_term" _ m_need_term).dfn hr (by decide) []) hgu tk rfl (da_cons (de_var 1) da_nil))) (dss_cons (ds_expr (de_call ((ok_need_place X G T : Does P w K mg base 5 "need_place" _ m_need_place).dfn hr (by decide) []) hgu tk rfl (da_cons (de_var 2) da_nil))) (dss_one (ds_ret (de_call ((ok_give_in X G T : Does P w K mg base 136 "give_in" _ m_give_in).dfn hr (by decide) [.int 0]) hgu tk rfl (da_cons (de_var 0) (da_cons (de_var 1) (da_cons (de_var 2) da_nil)))))))))) : Does P w K mg base 137 "giving" [[], [.int 0]] (fnBody 3 0 b_giving))
theorem ok_lower_in (X : K.In h) (G : h.Ns mainGlobals mg) (T : Tab K w) : Does P w K mg base 137 "lower_in" [[]] m_lower_in :=
  (does_ok (k := 136) (nl := 0) X G T.f_lower_in sc_lower_in rfl (fun _ _ _ _ _ _ us hl => match us, hl with | [_], _ => rfl) (fun f cdv A outer s H E hgu hr tk po => by
      have u1 := Room.u1 hr
      have u200 := Room.u200 hr
      have u210 := Room.u210 hr (by omega)
      have b_all : mg "all" = none := PySem.W.mg_none_of X G T.b_all
      have b_bool : mg "bool" = none := PySem.W.mg_none_of X G T.b_bool
      have b_dict : mg "dict" = none := PySem.W.mg_none_of X G T.b_dict
      have b_enumerate : mg "enumerate" = none := PySem.W.mg_none_of X G T.b_enumerate
      have b_int : mg "int" = none := PySem.W.mg_none_of X G T.b_int
      have b_isinstance : mg "isinstance" = none := PySem.W.mg_none_of X G T.b_isinstance
      have b_len : mg "len" = none := PySem.W.mg_none_of X G T.b_len
      have b_list : mg "list" = none := PySem.W.mg_none_of X G T.b_list
      have b_max : mg "max" = none := PySem.W.mg_none_of X G T.b_max
      have b_min : mg "min" = none := PySem.W.mg_none_of X G T.b_min
      have b_range : mg "range" = none := PySem.W.mg_none_of X G T.b_range
      have b_repr : mg "repr" = none := PySem.W.mg_none_of X G T.b_repr
      have b_sorted : mg "sorted" = none := PySem.W.mg_none_of X G T.b_sorted
      have b_str : mg "str" = none := PySem.W.mg_none_of X G T.b_str
      have b_sum : mg "sum" = none := PySem.W.mg_none_of X G T.b_sum
      have b_tuple : mg "tuple" = none := PySem.W.mg_none_of X G T.b_tuple
      have b_zip : mg "zip" = none := PySem.W.mg_none_of X G T.b_zip
      exact (dss_cons (ds_if (dt_cmp (od_in u1) de_int (de_call ((ok_free_in X G T : Does P w K mg base 70 "free_in" _ m_free_in).dfn hr (by decide) []) hgu tk rfl (da_cons (de_var 0) da_nil))) (dss_one (ds_ret de_non)) dss_nil) (dss_one (ds_ret (de_call ((ok_give_in X G T : Does P w K mg base 136 "give_in" _ m_give_in).dfn hr (by decide) [.int 0]) hgu tk rfl (da_cons (de_var 0) (da_cons (de_tup (da_cons de_str (da_cons de_int da_nil))) (da_cons de_int da_nil)))))))) : Does P w K mg base 137 "lower_in" [[]] (fnBody 1 0 b_lower_in))
theorem ok_lowered (X : K.In h) (G : h.Ns mainGlobals mg) (T : Tab K w) : Does P w K mg base 138 "lowered" [[]] m_lowered :=
  (does_ok (k := 137) (nl := 0) X G T.f_lowered sc_lowered rfl (fun _ _ _ _ _ _ us hl => match us, hl with | [_], _ => rfl) (fun f cdv A outer s H E hgu hr tk po => by
      have u1 := Room.u1 hr
      have u200 := Room.u200 hr
      have u210 := Room.u210 hr (by omega)
      have b_all : mg "all" = none := PySem.W.mg_none_of X G T.b_all
      have b_bool : mg "bool" = none := PySem.W.mg_none_of X G T.b_bool
      have b_dict : mg "dict" = none := PySem.W.mg_none_of X G T.b_dict
      have b_enumerate : mg "enumerate" = none := PySem.W.mg_none_of X G T.b_enumerate
      have b_int : mg "int" = none := PySem.W.mg_none_of X G T.b_int
      have b_isinstance : mg "isinstance" = none := PySem.W.mg_none_of X G T.b_isinstance
      have b_len : mg "len" = none := PySem.W.mg_none_of X G T.b_len
      have b_list : mg "list" = none := PySem.W.mg_none_of X G T.b_list
      have b_max : mg "max" = none := PySem.W.mg_none_of X G T.b_max
      have b_min : mg "min" = none := PySem.W.mg_none_of X G T.b_min
      have b_range : mg "range" = none := PySem.W.mg_none_of X G T.b_range
      have b_repr : mg "repr" = none := PySem.W.mg_none_of X G T.b_repr
      have b_sorted : mg "sorted" = none := PySem.W.mg_none_of X G T.b_sorted
      have b_str : mg "str" = none := PySem.W.mg_none_of X G T.b_str
      have b_sum : mg "sum" = none := PySem.W.mg_none_of X G T.b_sum
      have b_tuple : mg "tuple" = none := PySem.W.mg_none_of X G T.b_tuple
      have b_zip : mg "zip" = none := PySem.W.mg_none_of X G T.b_zip
      exact (dss_cons (ds_expr (de_call ((ok_need_term X G T : Does P w K mg base 135 "need_term" _ m_need_term).dfn hr (by decide) []) hgu tk rfl (da_cons (de_var 0) da_nil))) (dss_one (ds_ret (de_call ((ok_lower_in X G T : Does P w K mg base 137 "lower_in" _ m_lower_in).dfn hr (by decide) []) hgu tk rfl (da_cons (de_var 0) da_nil)))))) : Does P w K mg base 138 "lowered" [[]] (fnBody 1 0 b_lowered))
theorem ok_apply_to (X : K.In h) (G : h.Ns mainGlobals mg) (T : Tab K w) : Does P w K mg base 4 "apply_to" [[]] m_apply_to :=
  (does_ok (k := 3) (nl := 2) X G T.f_apply_to sc_apply_to rfl (fun _ _ _ _ _ _ us hl => match us, hl with | [_, _], _ => rfl) (fun f cdv A outer s H E hgu hr tk po => by
      have u1 := Room.u1 hr
      have u200 := Room.u200 hr
      have u210 := Room.u210 hr (by omega)
      have b_all : mg "all" = none := PySem.W.mg_none_of X G T.b_all
      have b_bool : mg "bool" = none := PySem.W.mg_none_of X G T.b_bool
      have b_dict : mg "dict" = none := PySem.W.mg_none_of X G T.b_dict
      have b_enumerate : mg "enumerate" = none := PySem.W.mg_none_of X G T.b_enumerate
      have b_int : mg "int" = none := PySem.W.mg_none_of X G T.b_int
      have b_isinstance : mg "isinstance" = none := PySem.W.mg_none_of X G T.b_isinstance
      have b_len : mg "len" = none := PySem.W.mg_none_of X G T.b_len
      have b_list : mg "list" = none := PySem.W.mg_none_of X G T.b_list
      have b_max : mg "max" = none := PySem.W.mg_none_of X G T.b_max
      have b_min : mg "min" = none := PySem.W.mg_none_of X G T.b_min
      have b_range : mg "range" = none := PySem.W.mg_none_of X G T.b_range
      have b_repr : mg "repr" = none := PySem.W.mg_none_of X G T.b_repr
      have b_sorted : mg "sorted" = none := PySem.W.mg_none_of X G T.b_sorted
      have b_str : mg "str" = none := PySem.W.mg_none_of X G T.b_str
      have b_sum : mg "sum" = none := PySem.W.mg_none_of X G T.b_sum
      have b_tuple : mg "tuple" = none := PySem.W.mg_none_of X G T.b_tuple
      have b_zip : mg "zip" = none := PySem.W.mg_none_of X G T.b_zip
      exact (dss_cons (ds_set 2 sc_apply_to.nd (de_var 0)) (dss_cons (ds_for po rfl (di_val (de_var 1)) (dg_name 3 sc_apply_to.nd) (dss_one (ds_set 2 sc_apply_to.nd (de_tup (da_cons de_str (da_cons (de_var 2) (da_cons (de_var 3) da_nil))))))) (dss_one (ds_ret (de_var 2)))))) : Does P w K mg base 4 "apply_to" [[]] (fnBody 2 2 b_apply_to))
theorem ok_applied (X : K.In h) (G : h.Ns mainGlobals mg) (T : Tab K w) : Does P w K mg base 136 "applied" [[]] m_applied :=
  (does_ok (k := 135) (nl := 1) X G T.f_applied sc_applied rfl (fun _ _ _ _ _ _ us hl => match us, hl with | [_, _], _ => rfl) (fun f cdv A outer s H E hgu hr tk po => by
      have u1 := Room.u1 hr
      have u200 := Room.u200 hr
      have u210 := Room.u210 hr (by omega)
      have b_all : mg "all" = none := PySem.W.mg_none_of X G T.b_all
      have b_bool : mg "bool" = none := PySem.W.mg_none_of X G T.b_bool
      have b_dict : mg "dict" = none := PySem.W.mg_none_of X G T.b_dict
      have b_enumerate : mg "enumerate" = none := PySem.W.mg_none_of X G T.b_enumerate
      have b_int : mg "int" = none := PySem.W.mg_none_of X G T.b_int
      have b_isinstance : mg "isinstance" = none := PySem.W.mg_none_of X G T.b_isinstance
      have b_len : mg "len" = none := PySem.W.mg_none_of X G T.b_len
      have b_list : mg "list" = none := PySem.W.mg_none_of X G T.b_list
      have b_max : mg "max" = none := PySem.W.mg_none_of X G T.b_max
      have b_min : mg "min" = none := PySem.W.mg_none_of X G T.b_min
      have b_range : mg "range" = none := PySem.W.mg_none_of X G T.b_range
      have b_repr : mg "repr" = none := PySem.W.mg_none_of X G T.b_repr
      have b_sorted : mg "sorted" = none := PySem.W.mg_none_of X G T.b_sorted
      have b_str : mg "str" = none := PySem.W.mg_none_of X G T.b_str
      have b_sum : mg "sum" = none := PySem.W.mg_none_of X G T.b_sum
      have b_tuple : mg "tuple" = none := PySem.W.mg_none_of X G T.b_tuple
      have b_zip : mg "zip" = none := PySem.W.mg_none_of X G T.b_zip
      exact (dss_cons (ds_expr (de_call ((ok_need_term X G T : Does P w K mg base 135 "need_term" _ m_need_term).dfn hr (by decide) []) hgu tk rfl (da_cons (de_var 0) da_nil))) (dss_cons (ds_if (dt_not (dt_val (de_isi2 rfl b_isinstance (de_var 1) rfl b_list rfl (by decide) rfl b_tuple rfl (by decide)))) (dss_one (ds_raise rfl tk (ex_NoTerm X G T hr (by omega)) rfl (da_cons (de_var 1) da_nil))) dss_nil) (dss_cons (ds_for po rfl (di_val (de_var 1)) (dg_name 2 sc_applied.nd) (dss_one (ds_expr (de_call ((ok_need_term X G T : Does P w K mg base 135 "need_term" _ m_need_term).dfn hr (by decide) []) hgu tk rfl (da_cons (de_var 2) da_nil))))) (dss_one (ds_ret (de_call ((ok_apply_to X G T : Does P w K mg base 4 "apply_to" _ m_apply_to).dfn hr (by decide) []) hgu tk rfl (da_cons (de_var 0) (da_cons (de_var 1) da_nil))))))))) : Does P w K mg base 136 "applied" [[]] (fnBody 2 1 b_applied))
theorem ok_open_up (X : K.In h) (G : h.Ns mainGlobals mg) (T : Tab K w) : Does P w K mg base 4 "open_up" [[]] m_open_up :=
  (does_ok (k := 3) (nl := 2) X G T.f_open_up sc_open_up rfl (fun _ _ _ _ _ _ us hl => match us, hl with | [_], _ => rfl) (fun f cdv A outer s H E hgu hr tk po => by
      have u1 := Room.u1 hr
      have u200 := Room.u200 hr
      have u210 := Room.u210 hr (by omega)
      have b_all : mg "all" = none := PySem.W.mg_none_of X G T.b_all
      have b_bool : mg "bool" = none := PySem.W.mg_none_of X G T.b_bool
      have b_dict : mg "dict" = none := PySem.W.mg_none_of X G T.b_dict
      have b_enumerate : mg "enumerate" = none := PySem.W.mg_none_of X G T.b_enumerate
      have b_int : mg "int" = none := PySem.W.mg_none_of X G T.b_int
      have b_isinstance : mg "isinstance" = none := PySem.W.mg_none_of X G T.b_isinstance
      have b_len : mg "len" = none := PySem.W.mg_none_of X G T.b_len
      have b_list : mg "list" = none := PySem.W.mg_none_of X G T.b_list
      have b_max : mg "max" = none := PySem.W.mg_none_of X G T.b_max
      have b_min : mg "min" = none := PySem.W.mg_none_of X G T.b_min
      have b_range : mg "range" = none := PySem.W.mg_none_of X G T.b_range
      have b_repr : mg "repr" = none := PySem.W.mg_none_of X G T.b_repr
      have b_sorted : mg "sorted" = none := PySem.W.mg_none_of X G T.b_sorted
      have b_str : mg "str" = none := PySem.W.mg_none_of X G T.b_str
      have b_sum : mg "sum" = none := PySem.W.mg_none_of X G T.b_sum
      have b_tuple : mg "tuple" = none := PySem.W.mg_none_of X G T.b_tuple
      have b_zip : mg "zip" = none := PySem.W.mg_none_of X G T.b_zip
      exact (dss_cons (ds_set 1 sc_open_up.nd (DF.own (df_lst da_nil))) (dss_cons (ds_set 2 sc_open_up.nd (de_var 0)) (dss_cons (ds_while (fun _ _ => 1000000) po (dt_cmp (od_eq u200) (de_ix (xd_ix u1) (de_var 2) de_int) de_str) (dss_cons (ds_expr (de_bm (.lst) F.plainAttrs_list F.slot_list_insert F.type_list_insert md_insert (de_var 1) (da_cons de_int (da_cons (de_ix (xd_ix u1) (de_var 2) de_int) da_nil)))) (dss_one (ds_set 2 sc_open_up.nd (de_ix (xd_ix u1) (de_var 2) de_int))))) (dss_one (ds_ret (de_tup (da_cons (de_var 2) (da_cons (de_frz (de_var 1)) da_nil))))))))) : Does P w K mg base 4 "open_up" [[]] (fnBody 1 2 b_open_up)).trim
theorem ok_opened (X : K.In h) (G : h.Ns mainGlobals mg) (T : Tab K w) : Does P w K mg base 136 "opened" [[]] m_opened :=
  (does_ok (k := 135) (nl := 0) X G T.f_opened sc_opened rfl (fun _ _ _ _ _ _ us hl => match us, hl with | [_], _ => rfl) (fun f cdv A outer s H E hgu hr tk po => by
      have u1 := Room.u1 hr
      have u200 := Room.u200 hr
      have u210 := Room.u210 hr (by omega)
      have b_all : mg "all" = none := PySem.W.mg_none_of X G T.b_all
      have b_bool : mg "bool" = none := PySem.W.mg_none_of X G T.b_bool
      have b_dict : mg "dict" = none := PySem.W.mg_none_of X G T.b_dict
      have b_enumerate : mg "enumerate" = none := PySem.W.mg_none_of X G T.b_enumerate
      have b_int : mg "int" = none := PySem.W.mg_none_of X G T.b_int
      have b_isinstance : mg "isinstance" = none := PySem.W.mg_none_of X G T.b_isinstance
      have b_len : mg "len" = none := PySem.W.mg_none_of X G T.b_len
      have b_list : mg "list" = none := PySem.W.mg_none_of X G T.b_list
      have b_max : mg "max" = none := PySem.W.mg_none_of X G T.b_max
      have b_min : mg "min" = none := PySem.W.mg_none_of X G T.b_min
      have b_range : mg "range" = none := PySem.W.mg_none_of X G T.b_range
      have b_repr : mg "repr" = none := PySem.W.mg_none_of X G T.b_repr
      have b_sorted : mg "sorted" = none := PySem.W.mg_none_of X G T.b_sorted
      have b_str : mg "str" = none := PySem.W.mg_none_of X G T.b_str
      have b_sum : mg "sum" = none := PySem.W.mg_none_of X G T.b_sum
      have b_tuple : mg "tuple" = none := PySem.W.mg_none_of X G T.b_tuple
      have b_zip : mg "zip" = none := PySem.W.mg_none_of X G T.b_zip
      exact (dss_cons (ds_expr (de_call ((ok_need_term X G T : Does P w K mg base 135 "need_term" _ m_need_term).dfn hr (by decide) []) hgu tk rfl (da_cons (de_var 0) da_nil))) (dss_one (ds_ret (de_call ((ok_open_up X G T : Does P w K mg base 4 "open_up" _ m_open_up).dfn hr (by decide) []) hgu tk rfl (da_cons (de_var 0) da_nil)))))) : Does P w K mg base 136 "opened" [[]] (fnBody 1 0 b_opened))
theorem ok__law_cell (X : K.In h) (G : h.Ns mainGlobals mg) (T : Tab K w) : Does P w K mg base 4 "_law_cell" [[]] m__law_cell :=
  (does_ok (k := 3) (nl := 0) X G T.f__law_cell sc__law_cell rfl (fun _ _ _ _ _ _ us hl => match us, hl with | [_, _], _ => rfl) (fun f cdv A outer s H E hgu hr tk po => by
      have u1 := Room.u1 hr
      have u200 := Room.u200 hr
      have u210 := Room.u210 hr (by omega)
      have b_all : mg "all" = none := PySem.W.mg_none_of X G T.b_all
      have b_bool : mg "bool" = none := PySem.W.mg_none_of X G T.b_bool
      have b_dict : mg "dict" = none := PySem.W.mg_none_of X G T.b_dict
      have b_enumerate : mg "enumerate" = none := PySem.W.mg_none_of X G T.b_enumerate
      have b_int : mg "int" = none := PySem.W.mg_none_of X G T.b_int
      have b_isinstance : mg "isinstance" = none := PySem.W.mg_none_of X G T.b_isinstance
      have b_len : mg "len" = none := PySem.W.mg_none_of X G T.b_len
      have b_list : mg "list" = none := PySem.W.mg_none_of X G T.b_list
      have b_max : mg "max" = none := PySem.W.mg_none_of X G T.b_max
      have b_min : mg "min" = none := PySem.W.mg_none_of X G T.b_min
      have b_range : mg "range" = none := PySem.W.mg_none_of X G T.b_range
      have b_repr : mg "repr" = none := PySem.W.mg_none_of X G T.b_repr
      have b_sorted : mg "sorted" = none := PySem.W.mg_none_of X G T.b_sorted
      have b_str : mg "str" = none := PySem.W.mg_none_of X G T.b_str
      have b_sum : mg "sum" = none := PySem.W.mg_none_of X G T.b_sum
      have b_tuple : mg "tuple" = none := PySem.W.mg_none_of X G T.b_tuple
      have b_zip : mg "zip" = none := PySem.W.mg_none_of X G T.b_zip
      exact (dss_cons (ds_if (dt_cmp od_lt (de_var 1) (de_callB cd_len rfl b_len rfl (da_cons (de_var 0) da_nil))) (dss_one (ds_ret (de_ix (xd_ix u1) (de_var 0) (de_var 1)))) dss_nil) (dss_one (ds_ret (de_bin od_add (de_bin od_mul de_int (de_var 1)) de_int))))) : Does P w K mg base 4 "_law_cell" [[]] (fnBody 2 0 b__law_cell))
theorem ok__law_purse__o (X : K.In h) (G : h.Ns mainGlobals mg) (T : Tab K w) : Does P w K mg base 4 "_law_purse" [[]] m__law_purse__o :=
  (does_ok (k := 3) (nl := 0) X G T.f__law_purse sc__law_purse rfl (fun _ _ _ _ _ _ us hl => match us, hl with | [_], _ => rfl) (fun f cdv A outer s H E hgu hr tk po => by
      have u1 := Room.u1 hr
      have u200 := Room.u200 hr
      have u210 := Room.u210 hr (by omega)
      have b_all : mg "all" = none := PySem.W.mg_none_of X G T.b_all
      have b_bool : mg "bool" = none := PySem.W.mg_none_of X G T.b_bool
      have b_dict : mg "dict" = none := PySem.W.mg_none_of X G T.b_dict
      have b_enumerate : mg "enumerate" = none := PySem.W.mg_none_of X G T.b_enumerate
      have b_int : mg "int" = none := PySem.W.mg_none_of X G T.b_int
      have b_isinstance : mg "isinstance" = none := PySem.W.mg_none_of X G T.b_isinstance
      have b_len : mg "len" = none := PySem.W.mg_none_of X G T.b_len
      have b_list : mg "list" = none := PySem.W.mg_none_of X G T.b_list
      have b_max : mg "max" = none := PySem.W.mg_none_of X G T.b_max
      have b_min : mg "min" = none := PySem.W.mg_none_of X G T.b_min
      have b_range : mg "range" = none := PySem.W.mg_none_of X G T.b_range
      have b_repr : mg "repr" = none := PySem.W.mg_none_of X G T.b_repr
      have b_sorted : mg "sorted" = none := PySem.W.mg_none_of X G T.b_sorted
      have b_str : mg "str" = none := PySem.W.mg_none_of X G T.b_str
      have b_sum : mg "sum" = none := PySem.W.mg_none_of X G T.b_sum
      have b_tuple : mg "tuple" = none := PySem.W.mg_none_of X G T.b_tuple
      have b_zip : mg "zip" = none := PySem.W.mg_none_of X G T.b_zip
      exact (dss_one (ds_ret (DF.own (df_lst (da_cons (de_callB (cd_max2 rfl) rfl b_max rfl (da_cons de_int (da_cons (de_bin od_sub (de_var 0) (de_bin od_pow de_int de_int)) da_nil))) (da_cons (de_bin od_mod (de_var 0) de_int) (da_cons de_int da_nil)))))))) : Does P w K mg base 4 "_law_purse" [[]] (fnBody 1 0 b__law_purse__o)).trim
theorem ok__law_take (X : K.In h) (G : h.Ns mainGlobals mg) (T : Tab K w) : Does P w K mg base 4 "_law_take" [[]] m__law_take :=
  (does_ok (k := 3) (nl := 3) X G T.f__law_take sc__law_take rfl (fun _ _ _ _ _ _ us hl => match us, hl with | [_, _], _ => rfl) (fun f cdv A outer s H E hgu hr tk po => by
      have u1 := Room.u1 hr
      have u200 := Room.u200 hr
      have u210 := Room.u210 hr (by omega)
      have b_all : mg "all" = none := PySem.W.mg_none_of X G T.b_all
      have b_bool : mg "bool" = none := PySem.W.mg_none_of X G T.b_bool
      have b_dict : mg "dict" = none := PySem.W.mg_none_of X G T.b_dict
      have b_enumerate : mg "enumerate" = none := PySem.W.mg_none_of X G T.b_enumerate
      have b_int : mg "int" = none := PySem.W.mg_none_of X G T.b_int
      have b_isinstance : mg "isinstance" = none := PySem.W.mg_none_of X G T.b_isinstance
      have b_len : mg "len" = none := PySem.W.mg_none_of X G T.b_len
      have b_list : mg "list" = none := PySem.W.mg_none_of X G T.b_list
      have b_max : mg "max" = none := PySem.W.mg_none_of X G T.b_max
      have b_min : mg "min" = none := PySem.W.mg_none_of X G T.b_min
      have b_range : mg "range" = none := PySem.W.mg_none_of X G T.b_range
      have b_repr : mg "repr" = none := PySem.W.mg_none_of X G T.b_repr
      have b_sorted : mg "sorted" = none := PySem.W.mg_none_of X G T.b_sorted
      have b_str : mg "str" = none := PySem.W.mg_none_of X G T.b_str
      have b_sum : mg "sum" = none := PySem.W.mg_none_of X G T.b_sum
      have b_tuple : mg "tuple" = none := PySem.W.mg_none_of X G T.b_tuple
      have b_zip : mg "zip" = none := PySem.W.mg_none_of X G T.b_zip
      exact (dss_cons (ds_if (dt_cmp od_gt (de_ix (xd_ix u1) (de_var 0) de_int) de_int) (dss_cons (ds_set 4 sc__law_take.nd (de_bin od_mod (de_ix (xd_ix u1) (de_var 0) de_int) (de_var 1))) (dss_cons (ds_setIx u1 (de_bin od_fdiv (de_ix (xd_ix u1) (de_var 0) de_int) (de_var 1)) (de_var 0) de_int) (dss_one (ds_ret (de_var 4))))) dss_nil) (dss_cons (ds_setIx u1 (de_bin od_add (de_ix (xd_ix u1) (de_var 0) de_int) de_int) (de_var 0) de_int) (dss_cons (ds_set 2 sc__law_take.nd (de_bin od_mod (de_bin od_pow (de_bin od_add (de_bin od_add (de_ix (xd_ix u1) (de_var 0) de_int) (de_bin od_mul de_int (de_ix (xd_ix u1) (de_var 0) de_int))) de_int) de_int) de_int)) (dss_cons (ds_set 3 sc__law_take.nd (de_bin od_mod (de_bin od_pow (de_bin od_add (de_bin od_mul (de_ix (xd_ix u1) (de_var 0) de_int) (de_ix (xd_ix u1) (de_var 0) de_int)) de_int) de_int) de_int)) (dss_one (ds_ret (de_bin od_mod (de_bin od_fdiv (de_bin od_add (de_bin od_mul (de_var 2) de_int) (de_var 3)) de_int) (de_var 1))))))))) : Does P w K mg base 4 "_law_take" [[]] (fnBody 2 3 b__law_take))
theorem ok__law_forms (X : K.In h) (G : h.Ns mainGlobals mg) (T : Tab K w) : Does P w K mg base 4 "_law_forms" [[]] m__law_forms :=
  (does_ok (k := 3) (nl := 2) X G T.f__law_forms sc__law_forms rfl (fun _ _ _ _ _ _ us hl => match us, hl with | [], _ => rfl) (fun f cdv A outer s H E hgu hr tk po => by
      have u1 := Room.u1 hr
      have u200 := Room.u200 hr
      have u210 := Room.u210 hr (by omega)
      have b_all : mg "all" = none := PySem.W.mg_none_of X G T.b_all
      have b_bool : mg "bool" = none := PySem.W.mg_none_of X G T.b_bool
      have b_dict : mg "dict" = none := PySem.W.mg_none_of X G T.b_dict
      have b_enumerate : mg "enumerate" = none := PySem.W.mg_none_of X G T.b_enumerate
      have b_int : mg "int" = none := PySem.W.mg_none_of X G T.b_int
      have b_isinstance : mg "isinstance" = none := PySem.W.mg_none_of X G T.b_isinstance
      have b_len : mg "len" = none := PySem.W.mg_none_of X G T.b_len
      have b_list : mg "list" = none := PySem.W.mg_none_of X G T.b_list
      have b_max : mg "max" = none := PySem.W.mg_none_of X G T.b_max
      have b_min : mg "min" = none := PySem.W.mg_none_of X G T.b_min
      have b_range : mg "range" = none := PySem.W.mg_none_of X G T.b_range
      have b_repr : mg "repr" = none := PySem.W.mg_none_of X G T.b_repr
      have b_sorted : mg "sorted" = none := PySem.W.mg_none_of X G T.b_sorted
      have b_str : mg "str" = none := PySem.W.mg_none_of X G T.b_str
      have b_sum : mg "sum" = none := PySem.W.mg_none_of X G T.b_sum
      have b_tuple : mg "tuple" = none := PySem.W.mg_none_of X G T.b_tuple
      have b_zip : mg "zip" = none := PySem.W.mg_none_of X G T.b_zip
      exact (dss_cons (ds_set 0 sc__law_forms.nd (DK.own (dk_disp (dps_cons de_str de_str (dps_cons de_str de_str (dps_cons de_str de_str (dps_cons de_str de_str (dps_cons de_str de_str (dps_cons de_str de_str (dps_cons de_str de_str (dps_cons de_str de_str dps_nil))))))))))) (dss_cons (ds_set 1 sc__law_forms.nd (DK.own (dk_disp (dps_cons de_str de_str (dps_cons de_str de_str (dps_cons de_str de_str (dps_cons de_str de_str dps_nil))))))) (dss_one (ds_ret (DK.val (dk_dict rfl rfl b_dict (da_cons (de_bin od_add (DF.val (df_items rfl rfl b_list (de_var 0))) (DF.val (df_items rfl rfl b_list (de_var 1)))) da_nil)))))))) : Does P w K mg base 4 "_law_forms" [[]] (fnBody 0 2 b__law_forms)).trim
theorem ok__law_word (X : K.In h) (G : h.Ns mainGlobals mg) (T : Tab K w) : Does P w K mg base 5 "_law_word" [[]] m__law_word :=
  (does_ok (k := 4) (nl := 3) X G T.f__law_word sc__law_word rfl (fun _ _ _ _ _ _ us hl => match us, hl with | [_], _ => rfl) (fun f cdv A outer s H E hgu hr tk po => by
      have u1 := Room.u1 hr
      have u200 := Room.u200 hr
      have u210 := Room.u210 hr (by omega)
      have b_all : mg "all" = none := PySem.W.mg_none_of X G T.b_all
      have b_bool : mg "bool" = none := PySem.W.mg_none_of X G T.b_bool
      have b_dict : mg "dict" = none := PySem.W.mg_none_of X G T.b_dict
      have b_enumerate : mg "enumerate" = none := PySem.W.mg_none_of X G T.b_enumerate
      have b_int : mg "int" = none := PySem.W.mg_none_of X G T.b_int
      have b_isinstance : mg "isinstance" = none := PySem.W.mg_none_of X G T.b_isinstance
      have b_len : mg "len" = none := PySem.W.mg_none_of X G T.b_len
      have b_list : mg "list" = none := PySem.W.mg_none_of X G T.b_list
      have b_max : mg "max" = none := PySem.W.mg_none_of X G T.b_max
      have b_min : mg "min" = none := PySem.W.mg_none_of X G T.b_min
      have b_range : mg "range" = none := PySem.W.mg_none_of X G T.b_range
      have b_repr : mg "repr" = none := PySem.W.mg_none_of X G T.b_repr
      have b_sorted : mg "sorted" = none := PySem.W.mg_none_of X G T.b_sorted
      have b_str : mg "str" = none := PySem.W.mg_none_of X G T.b_str
      have b_sum : mg "sum" = none := PySem.W.mg_none_of X G T.b_sum
      have b_tuple : mg "tuple" = none := PySem.W.mg_none_of X G T.b_tuple
      have b_zip : mg "zip" = none := PySem.W.mg_none_of X G T.b_zip
      exact (dss_cons (ds_set 1 sc__law_word.nd de_str) (dss_cons (ds_set 2 sc__law_word.nd (de_bm (.str) F.plainAttrs_str F.slot_str_join F.type_str_join md_join de_str (da_cons (DF.val (df_comp (own := [("k", 3)]) rfl sc__law_word.nd (di_range1 rfl b_range (da_cons (de_bin od_add de_int (de_call ((ok__law_take X G T : Does P w K mg base 4 "_law_take" _ m__law_take).dfn hr (by decide) []) hgu tk rfl (da_cons (de_var 0) (da_cons de_int da_nil)))) da_nil)) (blkOk_by (N := [Str.ofString "purse", Str.ofString "letters", Str.ofString "word", Str.ofString "k"]) (sc := defScope s__law_word) (by decide +kernel)) (by decide) (fun _ _ _ _ _ => (dg_name 3 sc__law_word.nd)) (fun _ _ _ _ _ => dts_nil) (fun _ _ _ _ _ => (de_ix (xd_ix u1) (de_var 1) (de_call ((ok__law_take X G T : Does P w K mg base 4 "_law_take" _ m__law_take).dfn hr (by decide) []) hgu TkD.none rfl (da_cons (de_var 0) (da_cons de_int da_nil))))))) da_nil))) (dss_one (ds_ret (de_if (dt_cmp (od_in u1) (de_var 2) (de_tup (da_cons de_str (da_cons de_str (da_cons de_str (da_cons de_str (da_cons de_str da_nil))))))) (de_bin od_add de_str (de_var 2)) (de_var 2))))))) : Does P w K mg base 5 "_law_word" [[]] (fnBody 1 3 b__law_word))
theorem ok_grp__law_term (X : K.In h) (G : h.Ns mainGlobals mg) (T : Tab K w) : ∀ n : Nat, Does P w K mg base (5 + n) "_law_term" [[]] (n__law_term n)
  | 0 => does_bad X G T.f__law_term (ps := ["purse", "depth", "below"]) (fun _ _ _ _ _ _ us hl => match us, hl with | [_, _, _], _ => rfl)
  | n + 1 => by
    have h__law_term := ok_grp__law_term X G T n
    · exact (does_ok (k := 5 + n) (nl := 4) X G T.f__law_term sc__law_term rfl (fun _ _ _ _ _ _ us hl => match us, hl with | [_, _, _], _ => rfl) (fun f cdv A outer s H E hgu hr tk po => by
      have u1 := Room.u1 hr
      have u200 := Room.u200 hr
      have u210 := Room.u210 hr (by omega)
      have b_all : mg "all" = none := PySem.W.mg_none_of X G T.b_all
      have b_bool : mg "bool" = none := PySem.W.mg_none_of X G T.b_bool
      have b_dict : mg "dict" = none := PySem.W.mg_none_of X G T.b_dict
      have b_enumerate : mg "enumerate" = none := PySem.W.mg_none_of X G T.b_enumerate
      have b_int : mg "int" = none := PySem.W.mg_none_of X G T.b_int
      have b_isinstance : mg "isinstance" = none := PySem.W.mg_none_of X G T.b_isinstance
      have b_len : mg "len" = none := PySem.W.mg_none_of X G T.b_len
      have b_list : mg "list" = none := PySem.W.mg_none_of X G T.b_list
      have b_max : mg "max" = none := PySem.W.mg_none_of X G T.b_max
      have b_min : mg "min" = none := PySem.W.mg_none_of X G T.b_min
      have b_range : mg "range" = none := PySem.W.mg_none_of X G T.b_range
      have b_repr : mg "repr" = none := PySem.W.mg_none_of X G T.b_repr
      have b_sorted : mg "sorted" = none := PySem.W.mg_none_of X G T.b_sorted
      have b_str : mg "str" = none := PySem.W.mg_none_of X G T.b_str
      have b_sum : mg "sum" = none := PySem.W.mg_none_of X G T.b_sum
      have b_tuple : mg "tuple" = none := PySem.W.mg_none_of X G T.b_tuple
      have b_zip : mg "zip" = none := PySem.W.mg_none_of X G T.b_zip
      exact (dss_cons (ds_set 3 sc__law_term.nd (de_bm (.str) F.plainAttrs_str F.slot_str_split F.type_str_split md_split de_str (da_cons de_str da_nil))) (dss_cons (ds_set 4 sc__law_term.nd (de_if (dt_cmp (od_eq u200) (de_var 1) de_int) (de_ix (xd_ix u1) (de_var 3) (de_call ((ok__law_take X G T : Does P w K mg base 4 "_law_take" _ m__law_take).dfn hr (by omega) []) hgu tk rfl (da_cons (de_var 0) (da_cons de_int da_nil)))) (de_ix (xd_ix u1) (de_var 3) (de_call ((ok__law_take X G T : Does P w K mg base 4 "_law_take" _ m__law_take).dfn hr (by omega) []) hgu tk rfl (da_cons (de_var 0) (da_cons de_int da_nil)))))) (dss_cons (ds_set 5 sc__law_term.nd (DF.own (df_lst (da_cons (de_var 4) da_nil)))) (dss_cons (ds_for po rfl (di_val (de_ix (xd_ix u1) (de_call0 ((ok__law_forms X G T : Does P w K mg base 4 "_law_forms" _ m__law_forms).dfn hr (by omega) []) hgu tk rfl) (de_var 4))) (dg_name 6 sc__law_term.nd) (dss_cons (ds_if (dt_cmp (od_eq u200) (de_var 6) de_str) (dss_one (ds_expr (de_bm (.lst) F.plainAttrs_list F.slot_list_append F.type_list_append md_append (de_var 5) (da_cons (de_call ((ok__law_take X G T : Does P w K mg base 4 "_law_take" _ m__law_take).dfn hr (by omega) []) hgu tk rfl (da_cons (de_var 0) (da_cons (de_ix (xd_ix u1) (de_lst (da_cons (de_var 2) (da_cons de_int da_nil))) (de_callTy cd_int rfl b_int rfl (da_cons (de_cmp (od_eq u200) (de_var 4) de_str) da_nil))) da_nil))) da_nil)))) dss_nil) (dss_cons (ds_if (dt_cmp (od_eq u200) (de_var 6) de_str) (dss_one (ds_expr (de_bm (.lst) F.plainAttrs_list F.slot_list_append F.type_list_append md_append (de_var 5) (da_cons (de_call ((ok__law_take X G T : Does P w K mg base 4 "_law_take" _ m__law_take).dfn hr (by omega) []) hgu tk rfl (da_cons (de_var 0) (da_cons de_int da_nil))) da_nil)))) dss_nil) (dss_cons (ds_if (dt_cmp (od_eq u200) (de_var 6) de_str) (dss_one (ds_expr (de_bm (.lst) F.plainAttrs_list F.slot_list_append F.type_list_append md_append (de_var 5) (da_cons (de_call ((ok__law_word X G T : Does P w K mg base 5 "_law_word" _ m__law_word).dfn hr (by omega) []) hgu tk rfl (da_cons (de_var 0) da_nil)) da_nil)))) dss_nil) (dss_one (ds_if (dt_cmp (od_eq u200) (de_var 6) de_str) (dss_one (ds_expr (de_bm (.lst) F.plainAttrs_list F.slot_list_append F.type_list_append md_append (de_var 5) (da_cons (de_call ((h__law_term : Does P w K mg base (5 + n) "_law_term" _ (n__law_term n)).dfn hr (Nat.le_refl _) []) hgu tk rfl (da_cons (de_var 0) (da_cons (de_bin od_sub (de_var 1) de_int) (da_cons (de_var 2) da_nil)))) da_nil)))) dss_nil)))))) (dss_one (ds_ret (de_callTy cd_tuple rfl b_tuple rfl (da_cons (de_var 5) da_nil))))))))) : Does P w K mg base (5 + n + 1) "_law_term" [[]] (fnBody 3 4 (b__law_term (n__law_term n)))).trim
theorem ok__law_term (X : K.In h) (G : h.Ns mainGlobals mg) (T : Tab K w) : Does P w K mg base 71 "_law_term" [[]] m__law_term := (ok_grp__law_term X G T 66)
theorem ok__law_any (X : K.In h) (G : h.Ns mainGlobals mg) (T : Tab K w) : Does P w K mg base 72 "_law_any" [[]] m__law_any :=
  (does_ok (k := 71) (nl := 3) X G T.f__law_any sc__law_any rfl (fun _ _ _ _ _ _ us hl => match us, hl with | [_, _, _], _ => rfl) (fun f cdv A outer s H E hgu hr tk po => by
      have u1 := Room.u1 hr
      have u200 := Room.u200 hr
      have u210 := Room.u210 hr (by omega)
      have b_all : mg "all" = none := PySem.W.mg_none_of X G T.b_all
      have b_bool : mg "bool" = none := PySem.W.mg_none_of X G T.b_bool
      have b_dict : mg "dict" = none := PySem.W.mg_none_of X G T.b_dict
      have b_enumerate : mg "enumerate" = none := PySem.W.mg_none_of X G T.b_enumerate
      have b_int : mg "int" = none := PySem.W.mg_none_of X G T.b_int
      have b_isinstance : mg "isinstance" = none := PySem.W.mg_none_of X G T.b_isinstance
      have b_len : mg "len" = none := PySem.W.mg_none_of X G T.b_len
      have b_list : mg "list" = none := PySem.W.mg_none_of X G T.b_list
      have b_max : mg "max" = none := PySem.W.mg_none_of X G T.b_max
      have b_min : mg "min" = none := PySem.W.mg_none_of X G T.b_min
      have b_range : mg "range" = none := PySem.W.mg_none_of X G T.b_range
      have b_repr : mg "repr" = none := PySem.W.mg_none_of X G T.b_repr
      have b_sorted : mg "sorted" = none := PySem.W.mg_none_of X G T.b_sorted
      have b_str : mg "str" = none := PySem.W.mg_none_of X G T.b_str
      have b_sum : mg "sum" = none := PySem.W.mg_none_of X G T.b_sum
      have b_tuple : mg "tuple" = none := PySem.W.mg_none_of X G T.b_tuple
      have b_zip : mg "zip" = none := PySem.W.mg_none_of X G T.b_zip
      exact (dss_cons (ds_if (dt_cmp od_gt (de_call ((ok__law_take X G T : Does P w K mg base 4 "_law_take" _ m__law_take).dfn hr (by decide) []) hgu tk rfl (da_cons (de_var 0) (da_cons de_int da_nil))) de_int) (dss_one (ds_ret (de_call ((ok__law_term X G T : Does P w K mg base 71 "_law_term" _ m__law_term).dfn hr (by decide) []) hgu tk rfl (da_cons (de_var 0) (da_cons (de_call ((ok__law_take X G T : Does P w K mg base 4 "_law_take" _ m__law_take).dfn hr (by decide) []) hgu tk rfl (da_cons (de_var 0) (da_cons (de_var 1) da_nil))) (da_cons (de_var 2) da_nil)))))) dss_nil) (dss_cons (ds_set 3 sc__law_any.nd (de_call ((ok__law_term X G T : Does P w K mg base 71 "_law_term" _ m__law_term).dfn hr (by decide) []) hgu tk rfl (da_cons (de_var 0) (da_cons (de_call ((ok__law_take X G T : Does P w K mg base 4 "_law_take" _ m__law_take).dfn hr (by decide) []) hgu tk rfl (da_cons (de_var 0) (da_cons de_int da_nil))) (da_cons (de_var 2) da_nil))))) (dss_cons (ds_for po rfl (di_range1 rfl b_range (da_cons (de_call ((ok__law_take X G T : Does P w K mg base 4 "_law_take" _ m__law_take).dfn hr (by decide) []) hgu tk rfl (da_cons (de_var 0) (da_cons de_int da_nil))) da_nil)) (dg_name 4 sc__law_any.nd) (dss_cons (ds_set 5 sc__law_any.nd (DF.own (df_lst (da_cons (de_tup (da_cons de_str (da_cons (de_tup (da_cons de_str (da_cons de_int da_nil))) (da_cons (de_var 3) da_nil)))) (da_cons (de_tup (da_cons de_str (da_cons (de_tup (da_cons de_str (da_cons de_int da_nil))) (da_cons (de_var 3) da_nil)))) (da_cons (de_tup (da_cons de_str (da_cons (de_var 3) (da_cons (de_tup (da_cons de_str (da_cons de_int da_nil))) da_nil)))) da_nil)))))) (dss_cons (ds_expr (de_bm (.lst) F.plainAttrs_list F.slot_list_append F.type_list_append md_append (de_var 5) (da_cons (de_tup (da_cons de_str (da_cons (de_tup (da_cons de_str (da_cons de_int da_nil))) (da_cons (de_var 3) da_nil)))) da_nil))) (dss_one (ds_set 3 sc__law_any.nd (de_ix (xd_ix u1) (de_var 5) (de_call ((ok__law_take X G T : Does P w K mg base 4 "_law_take" _ m__law_take).dfn hr (by decide) []) hgu tk rfl (da_cons (de_var 0) (da_cons de_int da_nil))))))))) (dss_one (ds_ret (de_var 3))))))) : Does P w K mg base 72 "_law_any" [[]] (fnBody 3 3 b__law_any)).trim
theorem ok__law_parts (X : K.In h) (G : h.Ns mainGlobals mg) (T : Tab K w) : Does P w K mg base 5 "_law_parts" [[]] m__law_parts :=
  (does_ok (k := 4) (nl := 0) X G T.f__law_parts sc__law_parts rfl (fun _ _ _ _ _ _ us hl => match us, hl with | [_], _ => rfl) (fun f cdv A outer s H E hgu hr tk po => by
      have u1 := Room.u1 hr
      have u200 := Room.u200 hr
      have u210 := Room.u210 hr (by omega)
      have b_all : mg "all" = none := PySem.W.mg_none_of X G T.b_all
      have b_bool : mg "bool" = none := PySem.W.mg_none_of X G T.b_bool
      have b_dict : mg "dict" = none := PySem.W.mg_none_of X G T.b_dict
      have b_enumerate : mg "enumerate" = none := PySem.W.mg_none_of X G T.b_enumerate
      have b_int : mg "int" = none := PySem.W.mg_none_of X G T.b_int
      have b_isinstance : mg "isinstance" = none := PySem.W.mg_none_of X G T.b_isinstance
      have b_len : mg "len" = none := PySem.W.mg_none_of X G T.b_len
      have b_list : mg "list" = none := PySem.W.mg_none_of X G T.b_list
      have b_max : mg "max" = none := PySem.W.mg_none_of X G T.b_max
      have b_min : mg "min" = none := PySem.W.mg_none_of X G T.b_min
      have b_range : mg "range" = none := PySem.W.mg_none_of X G T.b_range
      have b_repr : mg "repr" = none := PySem.W.mg_none_of X G T.b_repr
      have b_sorted : mg "sorted" = none := PySem.W.mg_none_of X G T.b_sorted
      have b_str : mg "str" = none := PySem.W.mg_none_of X G T.b_str
      have b_sum : mg "sum" = none := PySem.W.mg_none_of X G T.b_sum
      have b_tuple : mg "tuple" = none := PySem.W.mg_none_of X G T.b_tuple
      have b_zip : mg "zip" = none := PySem.W.mg_none_of X G T.b_zip
      exact (dss_one (ds_ret (de_if (dt_cmp (od_in u1) de_str (de_ix (xd_ix u1) (de_call0 ((ok__law_forms X G T : Does P w K mg base 4 "_law_forms" _ m__law_forms).dfn hr (by decide) []) hgu tk rfl) (de_ix (xd_ix u1) (de_var 0) de_int))) (de_callTy cd_list rfl b_list rfl (da_cons (de_slice (de_var 0) (do_some de_int) do_none) da_nil)) (de_lst da_nil))))) : Does P w K mg base 5 "_law_parts" [[]] (fnBody 1 0 b__law_parts))
theorem ok__law_over (X : K.In h) (G : h.Ns mainGlobals mg) (T : Tab K w) : Does P w K mg base 4 "_law_over" [[]] m__law_over :=
  (does_ok (k := 3) (nl := 0) X G T.f__law_over sc__law_over rfl (fun _ _ _ _ _ _ us hl => match us, hl with | [_, _], _ => rfl) (fun f cdv A outer s H E hgu hr tk po => by
      have u1 := Room.u1 hr
      have u200 := Room.u200 hr
      have u210 := Room.u210 hr (by omega)
      have b_all : mg "all" = none := PySem.W.mg_none_of X G T.b_all
      have b_bool : mg "bool" = none := PySem.W.mg_none_of X G T.b_bool
      have b_dict : mg "dict" = none := PySem.W.mg_none_of X G T.b_dict
      have b_enumerate : mg "enumerate" = none := PySem.W.mg_none_of X G T.b_enumerate
      have b_int : mg "int" = none := PySem.W.mg_none_of X G T.b_int
      have b_isinstance : mg "isinstance" = none := PySem.W.mg_none_of X G T.b_isinstance
      have b_len : mg "len" = none := PySem.W.mg_none_of X G T.b_len
      have b_list : mg "list" = none := PySem.W.mg_none_of X G T.b_list
      have b_max : mg "max" = none := PySem.W.mg_none_of X G T.b_max
      have b_min : mg "min" = none := PySem.W.mg_none_of X G T.b_min
      have b_range : mg "range" = none := PySem.W.mg_none_of X G T.b_range
      have b_repr : mg "repr" = none := PySem.W.mg_none_of X G T.b_repr
      have b_sorted : mg "sorted" = none := PySem.W.mg_none_of X G T.b_sorted
      have b_str : mg "str" = none := PySem.W.mg_none_of X G T.b_str
      have b_sum : mg "sum" = none := PySem.W.mg_none_of X G T.b_sum
      have b_tuple : mg "tuple" = none := PySem.W.mg_none_of X G T.b_tuple
      have b_zip : mg "zip" = none := PySem.W.mg_none_of X G T.b_zip
      exact (dss_one (ds_ret (de_callTy cd_int rfl b_int rfl (da_cons (de_and (de_cmp (od_in u1) (de_ix (xd_ix u1) (de_var 0) de_int) (de_tup (da_cons de_str (da_cons de_str da_nil)))) (de_one (de_cmp (od_eq u200) (de_var 1) de_int))) da_nil))))) : Does P w K mg base 4 "_law_over" [[]] (fnBody 2 0 b__law_over))
theorem ok_grp__law_raised (X : K.In h) (G : h.Ns mainGlobals mg) (T : Tab K w) : ∀ n : Nat, Does P w K mg base (5 + n) "_law_raised" [[]] (n__law_raised n)
  | 0 => does_bad X G T.f__law_raised (ps := ["term", "by", "start"]) (fun _ _ _ _ _ _ us hl => match us, hl with | [_, _, _], _ => rfl)
  | n + 1 => by
    have h__law_raised := ok_grp__law_raised X G T n
    · exact (does_ok (k := 5 + n) (nl := 4) X G T.f__law_raised sc__law_raised rfl (fun _ _ _ _ _ _ us hl => match us, hl with | [_, _, _], _ => rfl) (fun f cdv A outer s H E hgu hr tk po => by
      have u1 := Room.u1 hr
      have u200 := Room.u200 hr
      have u210 := Room.u210 hr (by omega)
      have b_all : mg "all" = none := PySem.W.mg_none_of X G T.b_all
      have b_bool : mg "bool" = none := PySem.W.mg_none_of X G T.b_bool
      have b_dict : mg "dict" = none := PySem.W.mg_none_of X G T.b_dict
      have b_enumerate : mg "enumerate" = none := PySem.W.mg_none_of X G T.b_enumerate
      have b_int : mg "int" = none := PySem.W.mg_none_of X G T.b_int
      have b_isinstance : mg "isinstance" = none := PySem.W.mg_none_of X G T.b_isinstance
      have b_len : mg "len" = none := PySem.W.mg_none_of X G T.b_len
      have b_list : mg "list" = none := PySem.W.mg_none_of X G T.b_list
      have b_max : mg "max" = none := PySem.W.mg_none_of X G T.b_max
      have b_min : mg "min" = none := PySem.W.mg_none_of X G T.b_min
      have b_range : mg "range" = none := PySem.W.mg_none_of X G T.b_range
      have b_repr : mg "repr" = none := PySem.W.mg_none_of X G T.b_repr
      have b_sorted : mg "sorted" = none := PySem.W.mg_none_of X G T.b_sorted
      have b_str : mg "str" = none := PySem.W.mg_none_of X G T.b_str
      have b_sum : mg "sum" = none := PySem.W.mg_none_of X G T.b_sum
      have b_tuple : mg "tuple" = none := PySem.W.mg_none_of X G T.b_tuple
      have b_zip : mg "zip" = none := PySem.W.mg_none_of X G T.b_zip
      exact (dss_cons (ds_if (dt_cmp (od_eq u200) (de_ix (xd_ix u1) (de_var 0) de_int) de_str) (dss_one (ds_ret (de_tup (da_cons de_str (da_cons (de_bin od_add (de_ix (xd_ix u1) (de_var 0) de_int) (de_bin od_mul (de_var 1) (de_callTy cd_int rfl b_int rfl (da_cons (de_cmp od_ge (de_ix (xd_ix u1) (de_var 0) de_int) (de_var 2)) da_nil)))) da_nil))))) dss_nil) (dss_cons (ds_set 3 sc__law_raised.nd (de_call ((ok__law_parts X G T : Does P w K mg base 5 "_law_parts" _ m__law_parts).dfn hr (by omega) []) hgu tk rfl (da_cons (de_var 0) da_nil))) (dss_cons (ds_if (dt_cmp (od_eq u200) (de_var 3) (de_lst da_nil)) (dss_one (ds_ret (de_var 0))) dss_nil) (dss_cons (ds_setComp (hsw := rfl) 4 (own := [("k", 5), ("part", 6)]) rfl sc__law_raised.nd (di_enum rfl b_enumerate (da_cons (de_var 3) da_nil)) (blkOk_by (N := [Str.ofString "term", Str.ofString "by", Str.ofString "start", Str.ofString "some", Str.ofString "found", Str.ofString "k", Str.ofString "part"]) (sc := defScope s__law_raised) (by decide +kernel)) (by decide) (fun _ _ _ _ _ => (dg_tup rfl (dgs_cons (dg_name 5 sc__law_raised.nd) (dgs_cons (dg_name 6 sc__law_raised.nd) dgs_nil)))) (fun _ _ _ _ _ => dts_nil) (fun _ _ _ _ _ => (de_call ((h__law_raised : Does P w K mg base (5 + n) "_law_raised" _ (n__law_raised n)).dfn hr (Nat.le_refl _) []) hgu TkD.none rfl (da_cons (de_var 6) (da_cons (de_var 1) (da_cons (de_bin od_add (de_var 2) (de_call ((ok__law_over X G T : Does P w K mg base 4 "_law_over" _ m__law_over).dfn hr (by omega) []) hgu TkD.none rfl (da_cons (de_var 0) (da_cons (de_var 5) da_nil)))) da_nil)))))) (dss_one (ds_ret (de_bin od_add (de_tup (da_cons (de_ix (xd_ix u1) (de_var 0) de_int) da_nil)) (de_callTy cd_tuple rfl b_tuple rfl (da_cons (de_var 4) da_nil)))))))))) : Does P w K mg base (5 + n + 1) "_law_raised" [[]] (fnBody 3 4 (b__law_raised (n__law_raised n))))
theorem ok__law_raised (X : K.In h) (G : h.Ns mainGlobals mg) (T : Tab K w) : Does P w K mg base 71 "_law_raised" [[]] m__law_raised := (ok_grp__law_raised X G T 66)
theorem ok_grp__law_given (X : K.In h) (G : h.Ns mainGlobals mg) (T : Tab K w) : ∀ n : Nat, Does P w K mg base (71 + n) "_law_given" [[]] (n__law_given n)
  | 0 => does_bad X G T.f__law_given (ps := ["term", "other", "number", "under"]) (fun _ _ _ _ _ _ us hl => match us, hl with | [_, _, _, _], _ => rfl)
  | n + 1 => by
    have h__law_given := ok_grp__law_given X G T n
    · exact (does_ok (k := 71 + n) (nl := 4) X G T.f__law_given sc__law_given rfl (fun _ _ _ _ _ _ us hl => match us, hl with | [_, _, _, _], _ => rfl) (fun f cdv A outer s H E hgu hr tk po => by
      have u1 := Room.u1 hr
      have u200 := Room.u200 hr
      have u210 := Room.u210 hr (by omega)
      have b_all : mg "all" = none := PySem.W.mg_none_of X G T.b_all
      have b_bool : mg "bool" = none := PySem.W.mg_none_of X G T.b_bool
      have b_dict : mg "dict" = none := PySem.W.mg_none_of X G T.b_dict
      have b_enumerate : mg "enumerate" = none := PySem.W.mg_none_of X G T.b_enumerate
      have b_int : mg "int" = none := PySem.W.mg_none_of X G T.b_int
      have b_isinstance : mg "isinstance" = none := PySem.W.mg_none_of X G T.b_isinstance
      have b_len : mg "len" = none := PySem.W.mg_none_of X G T.b_len
      have b_list : mg "list" = none := PySem.W.mg_none_of X G T.b_list
      have b_max : mg "max" = none := PySem.W.mg_none_of X G T.b_max
      have b_min : mg "min" = none := PySem.W.mg_none_of X G T.b_min
      have b_range : mg "range" = none := PySem.W.mg_none_of X G T.b_range
      have b_repr : mg "repr" = none := PySem.W.mg_none_of X G T.b_repr
      have b_sorted : mg "sorted" = none := PySem.W.mg_none_of X G T.b_sorted
      have b_str : mg "str" = none := PySem.W.mg_none_of X G T.b_str
      have b_sum : mg "sum" = none := PySem.W.mg_none_of X G T.b_sum
      have b_tuple : mg "tuple" = none := PySem.W.mg_none_of X G T.b_tuple
      have b_zip : mg "zip" = none := PySem.W.mg_none_of X G T.b_zip
      exact (dss_cons (ds_if (dt_cmp (od_eq u200) (de_ix (xd_ix u1) (de_var 0) de_int) de_str) (dss_cons (ds_if (dt_cmp (od_eq u200) (de_ix (xd_ix u1) (de_var 0) de_int) (de_bin od_add (de_var 2) (de_var 3))) (dss_one (ds_ret (de_call ((ok__law_raised X G T : Does P w K mg base 71 "_law_raised" _ m__law_raised).dfn hr (by omega) []) hgu tk rfl (da_cons (de_var 1) (da_cons (de_var 3) (da_cons de_int da_nil)))))) dss_nil) (dss_one (ds_ret (de_tup (da_cons de_str (da_cons (de_bin od_sub (de_ix (xd_ix u1) (de_var 0) de_int) (de_callTy cd_int rfl b_int rfl (da_cons (de_cmp od_gt (de_ix (xd_ix u1) (de_var 0) de_int) (de_bin od_add (de_var 2) (de_var 3))) da_nil))) da_nil)))))) dss_nil) (dss_cons (ds_set 4 sc__law_given.nd (de_call ((ok__law_parts X G T : Does P w K mg base 5 "_law_parts" _ m__law_parts).dfn hr (by omega) []) hgu tk rfl (da_cons (de_var 0) da_nil))) (dss_cons (ds_if (dt_cmp (od_eq u200) (de_var 4) (de_lst da_nil)) (dss_one (ds_ret (de_var 0))) dss_nil) (dss_cons (ds_setComp (hsw := rfl) 5 (own := [("k", 6), ("part", 7)]) rfl sc__law_given.nd (di_enum rfl b_enumerate (da_cons (de_var 4) da_nil)) (blkOk_by (N := [Str.ofString "term", Str.ofString "other", Str.ofString "number", Str.ofString "under", Str.ofString "some", Str.ofString "found", Str.ofString "k", Str.ofString "part"]) (sc := defScope s__law_given) (by decide +kernel)) (by decide) (fun _ _ _ _ _ => (dg_tup rfl (dgs_cons (dg_name 6 sc__law_given.nd) (dgs_cons (dg_name 7 sc__law_given.nd) dgs_nil)))) (fun _ _ _ _ _ => dts_nil) (fun _ _ _ _ _ => (de_call ((h__law_given : Does P w K mg base (71 + n) "_law_given" _ (n__law_given n)).dfn hr (Nat.le_refl _) []) hgu TkD.none rfl (da_cons (de_var 7) (da_cons (de_var 1) (da_cons (de_var 2) (da_cons (de_bin od_add (de_var 3) (de_call ((ok__law_over X G T : Does P w K mg base 4 "_law_over" _ m__law_over).dfn hr (by omega) []) hgu TkD.none rfl (da_cons (de_var 0) (da_cons (de_var 6) da_nil)))) da_nil))))))) (dss_one (ds_ret (de_bin od_add (de_tup (da_cons (de_ix (xd_ix u1) (de_var 0) de_int) da_nil)) (de_callTy cd_tuple rfl b_tuple rfl (da_cons (de_var 5) da_nil)))))))))) : Does P w K mg base (71 + n + 1) "_law_given" [[]] (fnBody 4 4 (b__law_given (n__law_given n))))
theorem ok__law_given (X : K.In h) (G : h.Ns mainGlobals mg) (T : Tab K w) : Does P w K mg base 137 "_law_given" [[]] m__law_given := (ok_grp__law_given X G T 66)
theorem ok__law_asked (X : K.In h) (G : h.Ns mainGlobals mg) (T : Tab K w) : Does P w K mg base 138 "_law_asked" [[]] m__law_asked :=
  (does_ok (k := 137) (nl := 1) X G T.f__law_asked sc__law_asked rfl (fun _ _ _ _ _ _ us hl => match us, hl with | [_, _, _, _], _ => rfl) (fun f cdv A outer s H E hgu hr tk po => by
      have u1 := Room.u1 hr
      have u200 := Room.u200 hr
      have u210 := Room.u210 hr (by omega)
      have b_all : mg "all" = none := PySem.W.mg_none_of X G T.b_all
      have b_bool : mg "bool" = none := PySem.W.mg_none_of X G T.b_bool
      have b_dict : mg "dict" = none := PySem.W.mg_none_of X G T.b_dict
      have b_enumerate : mg "enumerate" = none := PySem.W.mg_none_of X G T.b_enumerate
      have b_int : mg "int" = none := PySem.W.mg_none_of X G T.b_int
      have b_isinstance : mg "isinstance" = none := PySem.W.mg_none_of X G T.b_isinstance
      have b_len : mg "len" = none := PySem.W.mg_none_of X G T.b_len
      have b_list : mg "list" = none := PySem.W.mg_none_of X G T.b_list
      have b_max : mg "max" = none := PySem.W.mg_none_of X G T.b_max
      have b_min : mg "min" = none := PySem.W.mg_none_of X G T.b_min
      have b_range : mg "range" = none := PySem.W.mg_none_of X G T.b_range
      have b_repr : mg "repr" = none := PySem.W.mg_none_of X G T.b_repr
      have b_sorted : mg "sorted" = none := PySem.W.mg_none_of X G T.b_sorted
      have b_str : mg "str" = none := PySem.W.mg_none_of X G T.b_str
      have b_sum : mg "sum" = none := PySem.W.mg_none_of X G T.b_sum
      have b_tuple : mg "tuple" = none := PySem.W.mg_none_of X G T.b_tuple
      have b_zip : mg "zip" = none := PySem.W.mg_none_of X G T.b_zip
      exact (dss_one (ds_try rfl rfl sc__law_asked.nd tk (fun E' pn xe tk' po' => (dss_cons (ds_if (dt_cmp (od_eq u200) (de_var 0) de_int) (dss_one (ds_ret (de_tup (da_cons de_str (da_cons (de_call ((ok_raised X G T : Does P w K mg base 136 "raised" _ m_raised).dfn hr (by decide) []) hgu tk' rfl (da_cons (de_var 1) (da_cons (de_var 2) (da_cons (de_var 3) da_nil)))) da_nil))))) dss_nil) (dss_one (ds_ret (de_tup (da_cons de_str (da_cons (de_call ((ok_giving X G T : Does P w K mg base 137 "giving" _ m_giving).dfn hr (by decide) []) hgu tk' rfl (da_cons (de_var 1) (da_cons (de_var 2) (da_cons (de_var 3) da_nil)))) da_nil))))))) (HdR.named 4 (te_NoTerm_NoTerm_NoNumber X G T rfl) rfl rfl (fun _ _ _ => (dss_one (ds_ret (de_tup (da_cons de_str (da_cons (de_fld 4 ["NoTerm"] (fun c hc => by simp only [List.mem_cons, List.mem_nil_iff, or_false] at hc; subst hc; first | exact fl_NoTerm_found X G T )) da_nil)))))) (HdR.named 4 (te_NoNumber_NoNumber X G T rfl) rfl rfl (fun _ _ _ => (dss_one (ds_ret (de_tup (da_cons de_str (da_cons (de_fld 4 ["NoNumber"] (fun c hc => by simp only [List.mem_cons, List.mem_nil_iff, or_false] at hc; subst hc; first | exact fl_NoNumber_found X G T )) da_nil)))))) HdR.dead))))) : Does P w K mg base 138 "_law_asked" [[]] (fnBody 4 1 b__law_asked))
theorem ok__law_refused_right (X : K.In h) (G : h.Ns mainGlobals mg) (T : Tab K w) : Does P w K mg base 139 "_law_refused_right" [[]] m__law_refused_right :=
  (does_ok (k := 138) (nl := 13) X G T.f__law_refused_right sc__law_refused_right rfl (fun _ _ _ _ _ _ us hl => match us, hl with | [_, _, _], _ => rfl) (fun f cdv A outer s H E hgu hr tk po => by
      have u1 := Room.u1 hr
      have u200 := Room.u200 hr
      have u210 := Room.u210 hr (by omega)
      have b_all : mg "all" = none := PySem.W.mg_none_of X G T.b_all
      have b_bool : mg "bool" = none := PySem.W.mg_none_of X G T.b_bool
      have b_dict : mg "dict" = none := PySem.W.mg_none_of X G T.b_dict
      have b_enumerate : mg "enumerate" = none := PySem.W.mg_none_of X G T.b_enumerate
      have b_int : mg "int" = none := PySem.W.mg_none_of X G T.b_int
      have b_isinstance : mg "isinstance" = none := PySem.W.mg_none_of X G T.b_isinstance
      have b_len : mg "len" = none := PySem.W.mg_none_of X G T.b_len
      have b_list : mg "list" = none := PySem.W.mg_none_of X G T.b_list
      have b_max : mg "max" = none := PySem.W.mg_none_of X G T.b_max
      have b_min : mg "min" = none := PySem.W.mg_none_of X G T.b_min
      have b_range : mg "range" = none := PySem.W.mg_none_of X G T.b_range
      have b_repr : mg "repr" = none := PySem.W.mg_none_of X G T.b_repr
      have b_sorted : mg "sorted" = none := PySem.W.mg_none_of X G T.b_sorted
      have b_str : mg "str" = none := PySem.W.mg_none_of X G T.b_str
      have b_sum : mg "sum" = none := PySem.W.mg_none_of X G T.b_sum
      have b_tuple : mg "tuple" = none := PySem.W.mg_none_of X G T.b_tuple
      have b_zip : mg "zip" = none := PySem.W.mg_none_of X G T.b_zip
      exact (dss_cons (ds_set 3 sc__law_refused_right.nd (de_lst (da_cons de_non (da_cons de_int (da_cons (DF.own (df_lst (da_cons (de_var 1) da_nil))) (da_cons (de_tup (da_cons de_str da_nil)) (da_cons (de_tup da_nil) (da_cons de_str (da_cons de_dct0 (da_cons (de_tup (da_cons de_str (da_cons de_int da_nil))) (da_cons (de_tup (da_cons de_str (da_cons de_bl da_nil))) (da_cons (de_tup (da_cons de_str (da_cons (de_var 1) da_nil))) (da_cons (de_tup (da_cons de_str (da_cons (de_tup (da_cons de_str (da_cons de_int da_nil))) (da_cons (de_tup da_nil) da_nil)))) da_nil))))))))))))) (dss_cons (ds_set 3 sc__law_refused_right.nd (de_ix (xd_ix u1) (de_bin od_add (de_var 3) (de_lst (da_cons (de_tup (da_cons de_str (da_cons (de_tup (da_cons de_str (da_cons de_int da_nil))) (da_cons (de_tup (da_cons de_str (da_cons de_bl da_nil))) da_nil)))) (da_cons (de_tup (da_cons de_str (da_cons (de_tup (da_cons de_str (da_cons de_int da_nil))) (da_cons (de_tup (da_cons de_str (da_cons de_int da_nil))) da_nil)))) da_nil)))) (de_call ((ok__law_take X G T : Does P w K mg base 4 "_law_take" _ m__law_take).dfn hr (by decide) []) hgu tk rfl (da_cons (de_var 0) (da_cons de_int da_nil))))) (dss_cons (ds_set 4 sc__law_refused_right.nd (de_ix (xd_ix u1) (de_lst (da_cons de_non (da_cons de_bl (da_cons (de_un ud_neg de_int) (da_cons de_int (da_cons de_str (da_cons (DF.own (df_lst (da_cons de_int da_nil))) (da_cons (de_tup (da_cons de_int da_nil)) (da_cons de_dct0 (da_cons (de_bin od_pow de_int de_int) (da_cons (de_var 1) (da_cons de_bl da_nil)))))))))))) (de_call ((ok__law_take X G T : Does P w K mg base 4 "_law_take" _ m__law_take).dfn hr (by decide) []) hgu tk rfl (da_cons (de_var 0) (da_cons de_int da_nil))))) (dss_cons (ds_set 5 sc__law_refused_right.nd (DF.own (df_lst (da_cons (de_tup (da_cons de_int (da_cons (de_var 3) (da_cons (de_var 4) (da_cons (de_var 4) (da_cons de_str (da_cons (de_var 3) da_nil))))))) (da_cons (de_tup (da_cons de_int (da_cons (de_var 1) (da_cons (de_var 4) (da_cons (de_var 3) (da_cons de_str (da_cons (de_var 4) da_nil))))))) (da_cons (de_tup (da_cons de_int (da_cons (de_var 1) (da_cons de_int (da_cons (de_var 4) (da_cons de_str (da_cons (de_var 4) da_nil))))))) da_nil)))))) (dss_cons (ds_set 5 sc__law_refused_right.nd (DF.own (df_add (de_var 5) (de_lst (da_cons (de_tup (da_cons de_int (da_cons (de_var 3) (da_cons (de_var 3) (da_cons (de_var 4) (da_cons de_str (da_cons (de_var 3) da_nil))))))) (da_cons (de_tup (da_cons de_int (da_cons (de_var 1) (da_cons (de_var 3) (da_cons (de_var 4) (da_cons de_str (da_cons (de_var 3) da_nil))))))) da_nil)))))) (dss_cons (ds_expr (de_bm (.lst) F.plainAttrs_list F.slot_list_append F.type_list_append md_append (de_var 5) (da_cons (de_tup (da_cons de_int (da_cons (de_var 1) (da_cons (de_var 2) (da_cons (de_var 4) (da_cons de_str (da_cons (de_var 4) da_nil))))))) da_nil))) (dss_cons (ds_set 5 sc__law_refused_right.nd (DF.own (df_add (de_var 5) (de_lst (da_cons (de_tup (da_cons de_int (da_cons (de_var 3) (da_cons (de_var 2) (da_cons de_int (da_cons de_str (da_cons (de_var 3) da_nil))))))) (da_cons (de_tup (da_cons de_int (da_cons (de_var 3) (da_cons (de_tup (da_cons (de_var 3) da_nil)) (da_cons de_int (da_cons de_str (da_cons (de_var 3) da_nil))))))) da_nil)))))) (dss_cons (ds_set 5 sc__law_refused_right.nd (DF.own (df_add (de_var 5) (de_lst (da_cons (de_tup (da_cons de_int (da_cons (de_var 3) (da_cons de_int (da_cons de_int (da_cons de_str (da_cons (de_var 3) da_nil))))))) (da_cons (de_tup (da_cons de_int (da_cons (de_var 1) (da_cons (de_var 3) (da_cons de_int (da_cons de_str (da_cons (de_var 3) da_nil))))))) da_nil)))))) (dss_cons (ds_for po rfl (di_enum rfl b_enumerate (da_cons (de_frz (de_var 5)) da_nil)) (dg_tup rfl (dgs_cons (dg_name 6 sc__law_refused_right.nd) (dgs_cons (dg_tup rfl (dgs_cons (dg_name 7 sc__law_refused_right.nd) (dgs_cons (dg_name 8 sc__law_refused_right.nd) (dgs_cons (dg_name 9 sc__law_refused_right.nd) (dgs_cons (dg_name 10 sc__law_refused_right.nd) (dgs_cons (dg_name 11 sc__law_refused_right.nd) (dgs_cons (dg_name 12 sc__law_refused_right.nd) dgs_nil))))))) dgs_nil))) (dss_cons (ds_set 13 sc__law_refused_right.nd (de_callB (cd_repr hgu u210) rfl b_repr rfl (da_cons (de_tup (da_cons (de_var 11) (da_cons (de_var 12) da_nil))) da_nil))) (dss_cons (ds_asg (de_call ((ok__law_asked X G T : Does P w K mg base 138 "_law_asked" _ m__law_asked).dfn hr (by decide) []) hgu tk rfl (da_cons (de_var 7) (da_cons (de_var 8) (da_cons (de_var 9) (da_cons (de_var 10) da_nil))))) (dg_tup rfl (dgs_cons (dg_name 14 sc__law_refused_right.nd) (dgs_cons (dg_name 15 sc__law_refused_right.nd) dgs_nil)))) (dss_cons (ds_if (dt_cmp (od_ne u200) (de_callB (cd_repr hgu u210) rfl b_repr rfl (da_cons (de_tup (da_cons (de_var 14) (da_cons (de_var 15) da_nil))) da_nil)) (de_var 13)) (dss_one (ds_ret de_bl)) dss_nil) (dss_one (ds_if (dt_val (de_isi rfl b_isinstance (de_var 12) rfl b_list rfl (by decide))) (dss_cons (ds_expr (de_bm (.lst) F.plainAttrs_list F.slot_list_append F.type_list_append md_append (de_var 12) (da_cons (de_bin od_add de_int (de_var 6)) da_nil))) (dss_one (ds_if (dt_cmp (od_ne u200) (de_slice (de_var 15) (do_some (de_un ud_neg de_int)) do_none) (de_lst (da_cons (de_bin od_add de_int (de_var 6)) da_nil))) (dss_one (ds_ret de_bl)) dss_nil))) dss_nil)))))) (dss_one (ds_ret de_bl)))))))))))) : Does P w K mg base 139 "_law_refused_right" [[]] (fnBody 3 13 b__law_refused_right)).trim
theorem ok__law_first (X : K.In h) (G : h.Ns mainGlobals mg) (T : Tab K w) : Does P w K mg base 140 "_law_first" [[]] m__law_first :=
  (does_ok (k := 139) (nl := 12) X G T.f__law_first sc__law_first rfl (fun _ _ _ _ _ _ us hl => match us, hl with | [_], _ => rfl) (fun f cdv A outer s H E hgu hr tk po => by
      have u1 := Room.u1 hr
      have u200 := Room.u200 hr
      have u210 := Room.u210 hr (by omega)
      have b_all : mg "all" = none := PySem.W.mg_none_of X G T.b_all
      have b_bool : mg "bool" = none := PySem.W.mg_none_of X G T.b_bool
      have b_dict : mg "dict" = none := PySem.W.mg_none_of X G T.b_dict
      have b_enumerate : mg "enumerate" = none := PySem.W.mg_none_of X G T.b_enumerate
      have b_int : mg "int" = none := PySem.W.mg_none_of X G T.b_int
      have b_isinstance : mg "isinstance" = none := PySem.W.mg_none_of X G T.b_isinstance
      have b_len : mg "len" = none := PySem.W.mg_none_of X G T.b_len
      have b_list : mg "list" = none := PySem.W.mg_none_of X G T.b_list
      have b_max : mg "max" = none := PySem.W.mg_none_of X G T.b_max
      have b_min : mg "min" = none := PySem.W.mg_none_of X G T.b_min
      have b_range : mg "range" = none := PySem.W.mg_none_of X G T.b_range
      have b_repr : mg "repr" = none := PySem.W.mg_none_of X G T.b_repr
      have b_sorted : mg "sorted" = none := PySem.W.mg_none_of X G T.b_sorted
      have b_str : mg "str" = none := PySem.W.mg_none_of X G T.b_str
      have b_sum : mg "sum" = none := PySem.W.mg_none_of X G T.b_sum
      have b_tuple : mg "tuple" = none := PySem.W.mg_none_of X G T.b_tuple
      have b_zip : mg "zip" = none := PySem.W.mg_none_of X G T.b_zip
      exact (dss_cons (ds_for po rfl (di_range1 rfl b_range (da_cons (de_callB (cd_max2 rfl) rfl b_max rfl (da_cons de_int (da_cons (de_callB (cd_min2 rfl) rfl b_min rfl (da_cons de_int (da_cons (de_callB cd_len rfl b_len rfl (da_cons (de_var 0) da_nil)) da_nil))) da_nil))) da_nil)) (dg_name 1 sc__law_first.nd) (dss_cons (ds_set 2 sc__law_first.nd (de_call ((ok__law_purse__o X G T : Does P w K mg base 4 "_law_purse" _ m__law_purse__o).dfn hr (by decide) []) hgu tk rfl (da_cons (de_call ((ok__law_cell X G T : Does P w K mg base 4 "_law_cell" _ m__law_cell).dfn hr (by decide) []) hgu tk rfl (da_cons (de_var 0) (da_cons (de_var 1) da_nil))) da_nil))) (dss_cons (ds_set 3 sc__law_first.nd (de_ix (xd_ix u1) (de_lst (da_cons de_int (da_cons de_int (da_cons de_int da_nil)))) (de_call ((ok__law_take X G T : Does P w K mg base 4 "_law_take" _ m__law_take).dfn hr (by decide) []) hgu tk rfl (da_cons (de_var 2) (da_cons de_int da_nil))))) (dss_cons (ds_par 4 5 rfl sc__law_first.nd (de_call ((ok__law_any X G T : Does P w K mg base 72 "_law_any" _ m__law_any).dfn hr (by decide) []) hgu tk rfl (da_cons (de_var 2) (da_cons de_int (da_cons (de_var 3) da_nil)))) (de_call ((ok__law_term X G T : Does P w K mg base 71 "_law_term" _ m__law_term).dfn hr (by decide) []) hgu tk rfl (da_cons (de_var 2) (da_cons (de_call ((ok__law_take X G T : Does P w K mg base 4 "_law_take" _ m__law_take).dfn hr (by decide) []) hgu tk rfl (da_cons (de_var 2) (da_cons de_int da_nil))) (da_cons (de_var 3) da_nil))))) (dss_cons (ds_set 6 sc__law_first.nd (de_callB (cd_repr hgu u210) rfl b_repr rfl (da_cons (de_lst (da_cons (de_var 4) (da_cons (de_var 5) da_nil))) da_nil))) (dss_cons (ds_set 7 sc__law_first.nd (de_ix (xd_ix u1) (de_lst (da_cons de_int (da_cons de_int (da_cons de_int (da_cons de_int (da_cons (de_call ((ok__law_take X G T : Does P w K mg base 4 "_law_take" _ m__law_take).dfn hr (by decide) []) hgu tk rfl (da_cons (de_var 2) (da_cons de_int da_nil))) da_nil)))))) (de_call ((ok__law_take X G T : Does P w K mg base 4 "_law_take" _ m__law_take).dfn hr (by decide) []) hgu tk rfl (da_cons (de_var 2) (da_cons de_int da_nil))))) (dss_cons (ds_set 8 sc__law_first.nd (de_ix (xd_ix u1) (de_lst (da_cons de_int (da_cons de_int (da_cons de_int (da_cons (de_call ((ok__law_take X G T : Does P w K mg base 4 "_law_take" _ m__law_take).dfn hr (by decide) []) hgu tk rfl (da_cons (de_var 2) (da_cons de_int da_nil))) da_nil))))) (de_call ((ok__law_take X G T : Does P w K mg base 4 "_law_take" _ m__law_take).dfn hr (by decide) []) hgu tk rfl (da_cons (de_var 2) (da_cons de_int da_nil))))) (dss_cons (ds_for po rfl (di_range1 rfl b_range (da_cons de_int da_nil)) (dg_name 9 sc__law_first.nd) (dss_cons (ds_if (dt_w (dw_or (dt_cmp (od_ne u200) (de_call ((ok_raised X G T : Does P w K mg base 136 "raised" _ m_raised).dfn hr (by decide) []) hgu tk rfl (da_cons (de_var 4) (da_cons (de_var 7) (da_cons (de_var 8) da_nil)))) (de_call ((ok__law_raised X G T : Does P w K mg base 71 "_law_raised" _ m__law_raised).dfn hr (by decide) []) hgu tk rfl (da_cons (de_var 4) (da_cons (de_var 7) (da_cons (de_var 8) da_nil))))) (dw_or1 (dt_cmp (od_ne u200) (de_call ((ok_raised X G T : Does P w K mg base 136 "raised" _ m_raised).dfn hr (by decide) [.int 1, .int 0]) hgu tk rfl (da_cons (de_var 4) da_nil)) (de_call ((ok__law_raised X G T : Does P w K mg base 71 "_law_raised" _ m__law_raised).dfn hr (by decide) []) hgu tk rfl (da_cons (de_var 4) (da_cons de_int (da_cons de_int da_nil)))))))) (dss_one (ds_ret de_bl)) dss_nil) (dss_cons (ds_par 10 11 rfl sc__law_first.nd (de_call ((ok_raised X G T : Does P w K mg base 136 "raised" _ m_raised).dfn hr (by decide) []) hgu tk rfl (da_cons (de_var 4) (da_cons (de_var 7) (da_cons (de_var 8) da_nil)))) (de_call ((ok__law_raised X G T : Does P w K mg base 71 "_law_raised" _ m__law_raised).dfn hr (by decide) []) hgu tk rfl (da_cons (de_var 4) (da_cons (de_var 7) (da_cons (de_var 8) da_nil))))) (dss_cons (ds_if (dt_cmp (od_ne u200) (de_call ((ok_raised X G T : Does P w K mg base 136 "raised" _ m_raised).dfn hr (by decide) []) hgu tk rfl (da_cons (de_var 10) (da_cons (de_var 7) (da_cons (de_var 8) da_nil)))) (de_call ((ok__law_raised X G T : Does P w K mg base 71 "_law_raised" _ m__law_raised).dfn hr (by decide) []) hgu tk rfl (da_cons (de_var 11) (da_cons (de_var 7) (da_cons (de_var 8) da_nil))))) (dss_one (ds_ret de_bl)) dss_nil) (dss_cons (ds_if (dt_cmp (od_ne u200) (de_call ((ok_giving X G T : Does P w K mg base 137 "giving" _ m_giving).dfn hr (by decide) [.int 0]) hgu tk rfl (da_cons (de_var 10) (da_cons (de_var 5) da_nil))) (de_call ((ok__law_given X G T : Does P w K mg base 137 "_law_given" _ m__law_given).dfn hr (by decide) []) hgu tk rfl (da_cons (de_var 11) (da_cons (de_var 5) (da_cons de_int (da_cons de_int da_nil)))))) (dss_one (ds_ret de_bl)) dss_nil) (dss_cons (ds_for po rfl (di_val (de_lst (da_cons (de_var 8) (da_cons de_int (da_cons de_int (da_cons de_int da_nil)))))) (dg_name 12 sc__law_first.nd) (dss_one (ds_if (dt_cmp (od_ne u200) (de_call ((ok_giving X G T : Does P w K mg base 137 "giving" _ m_giving).dfn hr (by decide) []) hgu tk rfl (da_cons (de_var 4) (da_cons (de_var 5) (da_cons (de_var 12) da_nil)))) (de_call ((ok__law_given X G T : Does P w K mg base 137 "_law_given" _ m__law_given).dfn hr (by decide) []) hgu tk rfl (da_cons (de_var 4) (da_cons (de_var 5) (da_cons (de_var 12) (da_cons de_int da_nil)))))) (dss_one (ds_ret de_bl)) dss_nil))) (dss_one (ds_if (dt_cmp (od_ne u200) (de_call ((ok_giving X G T : Does P w K mg base 137 "giving" _ m_giving).dfn hr (by decide) [.int 0]) hgu tk rfl (da_cons (de_var 4) (da_cons (de_var 5) da_nil))) (de_call ((ok__law_given X G T : Does P w K mg base 137 "_law_given" _ m__law_given).dfn hr (by decide) []) hgu tk rfl (da_cons (de_var 4) (da_cons (de_var 5) (da_cons de_int (da_cons de_int da_nil)))))) (dss_one (ds_ret de_bl)) dss_nil)))))))) (dss_one (ds_if (dt_w (dw_or (dt_cmp (od_ne u200) (de_callB (cd_repr hgu u210) rfl b_repr rfl (da_cons (de_lst (da_cons (de_var 4) (da_cons (de_var 5) da_nil))) da_nil)) (de_var 6)) (dw_or1 (dt_not (dt_val (de_call ((ok__law_refused_right X G T : Does P w K mg base 139 "_law_refused_right" _ m__law_refused_right).dfn hr (by decide) []) hgu tk rfl (da_cons (de_var 2) (da_cons (de_var 4) (da_cons (de_var 5) da_nil))))))))) (dss_one (ds_ret de_bl)) dss_nil)))))))))) (dss_one (ds_ret de_bl)))) : Does P w K mg base 140 "_law_first" [[]] (fnBody 1 12 b__law_first)).trim
theorem ok__law_raising_right (X : K.In h) (G : h.Ns mainGlobals mg) (T : Tab K w) : Does P w K mg base 137 "_law_raising_right" [[]] m__law_raising_right :=
  (does_ok (k := 136) (nl := 3) X G T.f__law_raising_right sc__law_raising_right rfl (fun _ _ _ _ _ _ us hl => match us, hl with | [_, _, _], _ => rfl) (fun f cdv A outer s H E hgu hr tk po => by
      have u1 := Room.u1 hr
      have u200 := Room.u200 hr
      have u210 := Room.u210 hr (by omega)
      have b_all : mg "all" = none := PySem.W.mg_none_of X G T.b_all
      have b_bool : mg "bool" = none := PySem.W.mg_none_of X G T.b_bool
      have b_dict : mg "dict" = none := PySem.W.mg_none_of X G T.b_dict
      have b_enumerate : mg "enumerate" = none := PySem.W.mg_none_of X G T.b_enumerate
      have b_int : mg "int" = none := PySem.W.mg_none_of X G T.b_int
      have b_isinstance : mg "isinstance" = none := PySem.W.mg_none_of X G T.b_isinstance
      have b_len : mg "len" = none := PySem.W.mg_none_of X G T.b_len
      have b_list : mg "list" = none := PySem.W.mg_none_of X G T.b_list
      have b_max : mg "max" = none := PySem.W.mg_none_of X G T.b_max
      have b_min : mg "min" = none := PySem.W.mg_none_of X G T.b_min
      have b_range : mg "range" = none := PySem.W.mg_none_of X G T.b_range
      have b_repr : mg "repr" = none := PySem.W.mg_none_of X G T.b_repr
      have b_sorted : mg "sorted" = none := PySem.W.mg_none_of X G T.b_sorted
      have b_str : mg "str" = none := PySem.W.mg_none_of X G T.b_str
      have b_sum : mg "sum" = none := PySem.W.mg_none_of X G T.b_sum
      have b_tuple : mg "tuple" = none := PySem.W.mg_none_of X G T.b_tuple
      have b_zip : mg "zip" = none := PySem.W.mg_none_of X G T.b_zip
      exact (dss_cons (ds_set 3 sc__law_raising_right.nd (de_call ((ok_raised X G T : Does P w K mg base 136 "raised" _ m_raised).dfn hr (by decide) []) hgu tk rfl (da_cons (de_var 0) (da_cons (de_var 2) (da_cons (de_var 1) da_nil))))) (dss_cons (ds_if (dt_w (dw_or (dt_cmp (od_ne u200) (de_call ((ok_raised X G T : Does P w K mg base 136 "raised" _ m_raised).dfn hr (by decide) []) hgu tk rfl (da_cons (de_var 0) (da_cons de_int (da_cons (de_var 1) da_nil)))) (de_var 0)) (dw_or1 (dt_cmp (od_ne u200) (de_call ((ok_raised X G T : Does P w K mg base 136 "raised" _ m_raised).dfn hr (by decide) []) hgu tk rfl (da_cons (de_var 3) (da_cons de_int (da_cons (de_var 1) da_nil)))) (de_call ((ok_raised X G T : Does P w K mg base 136 "raised" _ m_raised).dfn hr (by decide) []) hgu tk rfl (da_cons (de_var 0) (da_cons (de_bin od_add (de_var 2) de_int) (da_cons (de_var 1) da_nil)))))))) (dss_one (ds_ret de_bl)) dss_nil) (dss_cons (ds_if (dt_w (dw_or (dt_cmp (od_ne u200) (de_call ((ok_spots X G T : Does P w K mg base 136 "spots" _ m_spots).dfn hr (by decide) []) hgu tk rfl (da_cons (de_var 3) da_nil)) (de_call ((ok_spots X G T : Does P w K mg base 136 "spots" _ m_spots).dfn hr (by decide) []) hgu tk rfl (da_cons (de_var 0) da_nil))) (dw_or1 (dt_cmp (od_ne u200) (de_call ((ok_size X G T : Does P w K mg base 136 "size" _ m_size).dfn hr (by decide) []) hgu tk rfl (da_cons (de_var 3) da_nil)) (de_call ((ok_size X G T : Does P w K mg base 136 "size" _ m_size).dfn hr (by decide) []) hgu tk rfl (da_cons (de_var 0) da_nil)))))) (dss_one (ds_ret de_bl)) dss_nil) (dss_cons (ds_if (dt_cmp (od_ne u200) (de_call ((ok_free X G T : Does P w K mg base 136 "free" _ m_free).dfn hr (by decide) []) hgu tk rfl (da_cons (de_var 3) da_nil)) (DF.val (df_comp (own := [("place", 5)]) rfl sc__law_raising_right.nd (di_val (de_call ((ok_free X G T : Does P w K mg base 136 "free" _ m_free).dfn hr (by decide) []) hgu tk rfl (da_cons (de_var 0) da_nil))) (blkOk_by (N := [Str.ofString "term", Str.ofString "low", Str.ofString "more", Str.ofString "high", Str.ofString "near", Str.ofString "place"]) (sc := defScope s__law_raising_right) (by decide +kernel)) (by decide) (fun _ _ _ _ _ => (dg_name 5 sc__law_raising_right.nd)) (fun _ _ _ _ _ => dts_nil) (fun _ _ _ _ _ => (de_bin od_add (de_var 5) (de_bin od_mul (de_var 2) (de_callTy cd_int rfl b_int rfl (da_cons (de_cmp od_ge (de_var 5) (de_var 1)) da_nil)))))))) (dss_one (ds_ret de_bl)) dss_nil) (dss_cons (ds_set 4 sc__law_raising_right.nd (de_call ((ok_raised X G T : Does P w K mg base 136 "raised" _ m_raised).dfn hr (by decide) []) hgu tk rfl (da_cons (de_var 0) (da_cons de_int (da_cons (de_var 1) da_nil))))) (dss_one (ds_ret (de_cmp (od_eq u200) (de_call ((ok_raised X G T : Does P w K mg base 136 "raised" _ m_raised).dfn hr (by decide) []) hgu tk rfl (da_cons (de_var 4) (da_cons (de_var 2) (da_cons (de_bin od_add (de_var 1) de_int) da_nil)))) (de_call ((ok_raised X G T : Does P w K mg base 136 "raised" _ m_raised).dfn hr (by decide) []) hgu tk rfl (da_cons (de_var 3) (da_cons de_int (da_cons (de_var 1) da_nil))))))))))))) : Does P w K mg base 137 "_law_raising_right" [[]] (fnBody 3 3 b__law_raising_right))
theorem ok__law_giving_right (X : K.In h) (G : h.Ns mainGlobals mg) (T : Tab K w) : Does P w K mg base 139 "_law_giving_right" [[]] m__law_giving_right :=
  (does_ok (k := 138) (nl := 3) X G T.f__law_giving_right sc__law_giving_right rfl (fun _ _ _ _ _ _ us hl => match us, hl with | [_, _, _, _], _ => rfl) (fun f cdv A outer s H E hgu hr tk po => by
      have u1 := Room.u1 hr
      have u200 := Room.u200 hr
      have u210 := Room.u210 hr (by omega)
      have b_all : mg "all" = none := PySem.W.mg_none_of X G T.b_all
      have b_bool : mg "bool" = none := PySem.W.mg_none_of X G T.b_bool
      have b_dict : mg "dict" = none := PySem.W.mg_none_of X G T.b_dict
      have b_enumerate : mg "enumerate" = none := PySem.W.mg_none_of X G T.b_enumerate
      have b_int : mg "int" = none := PySem.W.mg_none_of X G T.b_int
      have b_isinstance : mg "isinstance" = none := PySem.W.mg_none_of X G T.b_isinstance
      have b_len : mg "len" = none := PySem.W.mg_none_of X G T.b_len
      have b_list : mg "list" = none := PySem.W.mg_none_of X G T.b_list
      have b_max : mg "max" = none := PySem.W.mg_none_of X G T.b_max
      have b_min : mg "min" = none := PySem.W.mg_none_of X G T.b_min
      have b_range : mg "range" = none := PySem.W.mg_none_of X G T.b_range
      have b_repr : mg "repr" = none := PySem.W.mg_none_of X G T.b_repr
      have b_sorted : mg "sorted" = none := PySem.W.mg_none_of X G T.b_sorted
      have b_str : mg "str" = none := PySem.W.mg_none_of X G T.b_str
      have b_sum : mg "sum" = none := PySem.W.mg_none_of X G T.b_sum
      have b_tuple : mg "tuple" = none := PySem.W.mg_none_of X G T.b_tuple
      have b_zip : mg "zip" = none := PySem.W.mg_none_of X G T.b_zip
      exact (dss_cons (ds_if (dt_cmp (od_ne u200) (de_call ((ok_giving X G T : Does P w K mg base 137 "giving" _ m_giving).dfn hr (by decide) []) hgu tk rfl (da_cons (de_call ((ok_raised X G T : Does P w K mg base 136 "raised" _ m_raised).dfn hr (by decide) []) hgu tk rfl (da_cons (de_var 0) (da_cons de_int (da_cons (de_var 3) da_nil)))) (da_cons (de_var 1) (da_cons (de_var 3) da_nil)))) (de_var 0)) (dss_one (ds_ret de_bl)) dss_nil) (dss_cons (ds_set 4 sc__law_giving_right.nd (de_call ((ok_giving X G T : Does P w K mg base 137 "giving" _ m_giving).dfn hr (by decide) []) hgu tk rfl (da_cons (de_call ((ok_giving X G T : Does P w K mg base 137 "giving" _ m_giving).dfn hr (by decide) []) hgu tk rfl (da_cons (de_var 0) (da_cons (de_var 1) (da_cons de_int da_nil)))) (da_cons (de_var 2) (da_cons (de_var 3) da_nil))))) (dss_cons (ds_set 5 sc__law_giving_right.nd (de_call ((ok_giving X G T : Does P w K mg base 137 "giving" _ m_giving).dfn hr (by decide) []) hgu tk rfl (da_cons (de_var 0) (da_cons (de_call ((ok_raised X G T : Does P w K mg base 136 "raised" _ m_raised).dfn hr (by decide) [.int 1, .int 0]) hgu tk rfl (da_cons (de_var 2) da_nil)) (da_cons (de_bin od_add (de_var 3) de_int) da_nil))))) (dss_cons (ds_if (dt_cmp (od_ne u200) (de_var 4) (de_call ((ok_giving X G T : Does P w K mg base 137 "giving" _ m_giving).dfn hr (by decide) []) hgu tk rfl (da_cons (de_var 5) (da_cons (de_call ((ok_giving X G T : Does P w K mg base 137 "giving" _ m_giving).dfn hr (by decide) []) hgu tk rfl (da_cons (de_var 1) (da_cons (de_var 2) (da_cons (de_var 3) da_nil)))) (da_cons de_int da_nil))))) (dss_one (ds_ret de_bl)) dss_nil) (dss_cons (ds_set 6 sc__law_giving_right.nd (de_call ((ok_lowered X G T : Does P w K mg base 138 "lowered" _ m_lowered).dfn hr (by decide) []) hgu tk rfl (da_cons (de_var 0) da_nil))) (dss_cons (ds_if (dt_w (dw_and (dt_cmp od_isNot (de_var 6) de_non) (dw_and1 (dt_w (dw_or (dt_cmp (od_ne u200) (de_call ((ok_raised X G T : Does P w K mg base 136 "raised" _ m_raised).dfn hr (by decide) [.int 1, .int 0]) hgu tk rfl (da_cons (de_var 6) da_nil)) (de_var 0)) (dw_or1 (dt_cmp (od_ne u200) (de_call ((ok_giving X G T : Does P w K mg base 137 "giving" _ m_giving).dfn hr (by decide) [.int 0]) hgu tk rfl (da_cons (de_var 0) (da_cons (de_var 2) da_nil))) (de_var 6)))))))) (dss_one (ds_ret de_bl)) dss_nil) (dss_one (ds_ret (de_cmp (od_eq u200) (de_cmp od_is (de_var 6) de_non) (de_cmp (od_in u1) de_int (de_call ((ok_free X G T : Does P w K mg base 136 "free" _ m_free).dfn hr (by decide) []) hgu tk rfl (da_cons (de_var 0) da_nil))))))))))))) : Does P w K mg base 139 "_law_giving_right" [[]] (fnBody 4 3 b__law_giving_right))
theorem ok__law_parts_right (X : K.In h) (G : h.Ns mainGlobals mg) (T : Tab K w) : Does P w K mg base 137 "_law_parts_right" [[]] m__law_parts_right :=
  (does_ok (k := 136) (nl := 5) X G T.f__law_parts_right sc__law_parts_right rfl (fun _ _ _ _ _ _ us hl => match us, hl with | [_, _, _], _ => rfl) (fun f cdv A outer s H E hgu hr tk po => by
      have u1 := Room.u1 hr
      have u200 := Room.u200 hr
      have u210 := Room.u210 hr (by omega)
      have b_all : mg "all" = none := PySem.W.mg_none_of X G T.b_all
      have b_bool : mg "bool" = none := PySem.W.mg_none_of X G T.b_bool
      have b_dict : mg "dict" = none := PySem.W.mg_none_of X G T.b_dict
      have b_enumerate : mg "enumerate" = none := PySem.W.mg_none_of X G T.b_enumerate
      have b_int : mg "int" = none := PySem.W.mg_none_of X G T.b_int
      have b_isinstance : mg "isinstance" = none := PySem.W.mg_none_of X G T.b_isinstance
      have b_len : mg "len" = none := PySem.W.mg_none_of X G T.b_len
      have b_list : mg "list" = none := PySem.W.mg_none_of X G T.b_list
      have b_max : mg "max" = none := PySem.W.mg_none_of X G T.b_max
      have b_min : mg "min" = none := PySem.W.mg_none_of X G T.b_min
      have b_range : mg "range" = none := PySem.W.mg_none_of X G T.b_range
      have b_repr : mg "repr" = none := PySem.W.mg_none_of X G T.b_repr
      have b_sorted : mg "sorted" = none := PySem.W.mg_none_of X G T.b_sorted
      have b_str : mg "str" = none := PySem.W.mg_none_of X G T.b_str
      have b_sum : mg "sum" = none := PySem.W.mg_none_of X G T.b_sum
      have b_tuple : mg "tuple" = none := PySem.W.mg_none_of X G T.b_tuple
      have b_zip : mg "zip" = none := PySem.W.mg_none_of X G T.b_zip
      exact (dss_cons (ds_set 3 sc__law_parts_right.nd (de_call ((ok_spots X G T : Does P w K mg base 136 "spots" _ m_spots).dfn hr (by decide) []) hgu tk rfl (da_cons (de_var 1) da_nil))) (dss_cons (ds_set 4 sc__law_parts_right.nd (de_ix (xd_ix u1) (de_var 3) (de_call ((ok__law_take X G T : Does P w K mg base 4 "_law_take" _ m__law_take).dfn hr (by decide) []) hgu tk rfl (da_cons (de_var 0) (da_cons (de_callB cd_len rfl b_len rfl (da_cons (de_var 3) da_nil)) da_nil))))) (dss_cons (ds_if (dt_w (dw_or (dt_cmp (od_ne u200) (de_call ((ok_changed X G T : Does P w K mg base 136 "changed" _ m_changed).dfn hr (by decide) []) hgu tk rfl (da_cons (de_var 1) (da_cons (de_var 4) (da_cons (de_call ((ok_part_at X G T : Does P w K mg base 136 "part_at" _ m_part_at).dfn hr (by decide) []) hgu tk rfl (da_cons (de_var 1) (da_cons (de_var 4) da_nil))) da_nil)))) (de_var 1)) (dw_or1 (dt_cmp (od_ne u200) (de_call ((ok_part_at X G T : Does P w K mg base 136 "part_at" _ m_part_at).dfn hr (by decide) []) hgu tk rfl (da_cons (de_call ((ok_changed X G T : Does P w K mg base 136 "changed" _ m_changed).dfn hr (by decide) []) hgu tk rfl (da_cons (de_var 1) (da_cons (de_var 4) (da_cons (de_var 2) da_nil)))) (da_cons (de_var 4) da_nil))) (de_var 2))))) (dss_one (ds_ret de_bl)) dss_nil) (dss_cons (ds_if (dt_cmp (od_ne u200) (de_call ((ok_size X G T : Does P w K mg base 136 "size" _ m_size).dfn hr (by decide) []) hgu tk rfl (da_cons (de_call ((ok_changed X G T : Does P w K mg base 136 "changed" _ m_changed).dfn hr (by decide) []) hgu tk rfl (da_cons (de_var 1) (da_cons (de_var 4) (da_cons (de_var 2) da_nil)))) da_nil)) (de_bin od_add (de_bin od_sub (de_call ((ok_size X G T : Does P w K mg base 136 "size" _ m_size).dfn hr (by decide) []) hgu tk rfl (da_cons (de_var 1) da_nil)) (de_call ((ok_size X G T : Does P w K mg base 136 "size" _ m_size).dfn hr (by decide) []) hgu tk rfl (da_cons (de_call ((ok_part_at X G T : Does P w K mg base 136 "part_at" _ m_part_at).dfn hr (by decide) []) hgu tk rfl (da_cons (de_var 1) (da_cons (de_var 4) da_nil))) da_nil))) (de_call ((ok_size X G T : Does P w K mg base 136 "size" _ m_size).dfn hr (by decide) []) hgu tk rfl (da_cons (de_var 2) da_nil)))) (dss_one (ds_ret de_bl)) dss_nil) (dss_cons (ds_asg (de_call ((ok_opened X G T : Does P w K mg base 136 "opened" _ m_opened).dfn hr (by decide) []) hgu tk rfl (da_cons (de_var 1) da_nil)) (dg_tup rfl (dgs_cons (dg_name 5 sc__law_parts_right.nd) (dgs_cons (dg_name 6 sc__law_parts_right.nd) dgs_nil)))) (dss_cons (ds_set 7 sc__law_parts_right.nd (de_ix (xd_ix u1) (de_call ((ok_opened X G T : Does P w K mg base 136 "opened" _ m_opened).dfn hr (by decide) []) hgu tk rfl (da_cons (de_call ((ok_applied X G T : Does P w K mg base 136 "applied" _ m_applied).dfn hr (by decide) []) hgu tk rfl (da_cons (de_var 2) (da_cons (de_var 6) da_nil))) da_nil)) de_int)) (dss_one (ds_ret (de_and (de_cmp (od_eq u200) (de_call ((ok_applied X G T : Does P w K mg base 136 "applied" _ m_applied).dfn hr (by decide) []) hgu tk rfl (da_cons (de_var 5) (da_cons (de_var 6) da_nil))) (de_var 1)) (de_and (de_cmp (od_ne u200) (de_ix (xd_ix u1) (de_var 5) de_int) de_str) (de_one (de_cmp (od_eq u200) (de_slice (de_var 7) (do_some (de_bin od_sub (de_callB cd_len rfl b_len rfl (da_cons (de_var 7) da_nil)) (de_callB cd_len rfl b_len rfl (da_cons (de_var 6) da_nil)))) do_none) (de_var 6)))))))))))))) : Does P w K mg base 137 "_law_parts_right" [[]] (fnBody 3 5 b__law_parts_right))
theorem ok__law_second (X : K.In h) (G : h.Ns mainGlobals mg) (T : Tab K w) : Does P w K mg base 140 "_law_second" [[]] m__law_second :=
  (does_ok (k := 139) (nl := 7) X G T.f__law_second sc__law_second rfl (fun _ _ _ _ _ _ us hl => match us, hl with | [_], _ => rfl) (fun f cdv A outer s H E hgu hr tk po => by
      have u1 := Room.u1 hr
      have u200 := Room.u200 hr
      have u210 := Room.u210 hr (by omega)
      have b_all : mg "all" = none := PySem.W.mg_none_of X G T.b_all
      have b_bool : mg "bool" = none := PySem.W.mg_none_of X G T.b_bool
      have b_dict : mg "dict" = none := PySem.W.mg_none_of X G T.b_dict
      have b_enumerate : mg "enumerate" = none := PySem.W.mg_none_of X G T.b_enumerate
      have b_int : mg "int" = none := PySem.W.mg_none_of X G T.b_int
      have b_isinstance : mg "isinstance" = none := PySem.W.mg_none_of X G T.b_isinstance
      have b_len : mg "len" = none := PySem.W.mg_none_of X G T.b_len
      have b_list : mg "list" = none := PySem.W.mg_none_of X G T.b_list
      have b_max : mg "max" = none := PySem.W.mg_none_of X G T.b_max
      have b_min : mg "min" = none := PySem.W.mg_none_of X G T.b_min
      have b_range : mg "range" = none := PySem.W.mg_none_of X G T.b_range
      have b_repr : mg "repr" = none := PySem.W.mg_none_of X G T.b_repr
      have b_sorted : mg "sorted" = none := PySem.W.mg_none_of X G T.b_sorted
      have b_str : mg "str" = none := PySem.W.mg_none_of X G T.b_str
      have b_sum : mg "sum" = none := PySem.W.mg_none_of X G T.b_sum
      have b_tuple : mg "tuple" = none := PySem.W.mg_none_of X G T.b_tuple
      have b_zip : mg "zip" = none := PySem.W.mg_none_of X G T.b_zip
      exact (dss_cons (ds_for po rfl (di_range1 rfl b_range (da_cons (de_callB (cd_max2 rfl) rfl b_max rfl (da_cons de_int (da_cons (de_callB (cd_min2 rfl) rfl b_min rfl (da_cons de_int (da_cons (de_callB cd_len rfl b_len rfl (da_cons (de_var 0) da_nil)) da_nil))) da_nil))) da_nil)) (dg_name 1 sc__law_second.nd) (dss_cons (ds_set 2 sc__law_second.nd (de_call ((ok__law_purse__o X G T : Does P w K mg base 4 "_law_purse" _ m__law_purse__o).dfn hr (by decide) []) hgu tk rfl (da_cons (de_call ((ok__law_cell X G T : Does P w K mg base 4 "_law_cell" _ m__law_cell).dfn hr (by decide) []) hgu tk rfl (da_cons (de_var 0) (da_cons (de_var 1) da_nil))) da_nil))) (dss_cons (ds_set 3 sc__law_second.nd (de_call ((ok__law_any X G T : Does P w K mg base 72 "_law_any" _ m__law_any).dfn hr (by decide) []) hgu tk rfl (da_cons (de_var 2) (da_cons de_int (da_cons de_int da_nil))))) (dss_cons (ds_par 4 5 rfl sc__law_second.nd (de_call ((ok__law_term X G T : Does P w K mg base 71 "_law_term" _ m__law_term).dfn hr (by decide) []) hgu tk rfl (da_cons (de_var 2) (da_cons (de_call ((ok__law_take X G T : Does P w K mg base 4 "_law_take" _ m__law_take).dfn hr (by decide) []) hgu tk rfl (da_cons (de_var 2) (da_cons de_int da_nil))) (da_cons de_int da_nil)))) (de_call ((ok__law_term X G T : Does P w K mg base 71 "_law_term" _ m__law_term).dfn hr (by decide) []) hgu tk rfl (da_cons (de_var 2) (da_cons (de_call ((ok__law_take X G T : Does P w K mg base 4 "_law_take" _ m__law_take).dfn hr (by decide) []) hgu tk rfl (da_cons (de_var 2) (da_cons de_int da_nil))) (da_cons de_int da_nil))))) (dss_cons (ds_par 6 7 rfl sc__law_second.nd (de_call ((ok__law_take X G T : Does P w K mg base 4 "_law_take" _ m__law_take).dfn hr (by decide) []) hgu tk rfl (da_cons (de_var 2) (da_cons de_int da_nil))) (de_call ((ok__law_take X G T : Does P w K mg base 4 "_law_take" _ m__law_take).dfn hr (by decide) []) hgu tk rfl (da_cons (de_var 2) (da_cons de_int da_nil)))) (dss_cons (ds_if (dt_w (dw_or (dt_not (dt_val (de_call ((ok__law_raising_right X G T : Does P w K mg base 137 "_law_raising_right" _ m__law_raising_right).dfn hr (by decide) []) hgu tk rfl (da_cons (de_var 3) (da_cons (de_var 6) (da_cons (de_var 7) da_nil)))))) (dw_or1 (dt_not (dt_val (de_call ((ok__law_giving_right X G T : Does P w K mg base 139 "_law_giving_right" _ m__law_giving_right).dfn hr (by decide) []) hgu tk rfl (da_cons (de_var 3) (da_cons (de_var 4) (da_cons (de_var 5) (da_cons (de_var 6) da_nil)))))))))) (dss_one (ds_ret de_bl)) dss_nil) (dss_one (ds_if (dt_not (dt_val (de_call ((ok__law_parts_right X G T : Does P w K mg base 137 "_law_parts_right" _ m__law_parts_right).dfn hr (by decide) []) hgu tk rfl (da_cons (de_var 2) (da_cons (de_var 3) (da_cons (de_var 4) da_nil)))))) (dss_one (ds_ret de_bl)) dss_nil)))))))) (dss_one (ds_ret de_bl)))) : Does P w K mg base 140 "_law_second" [[]] (fnBody 1 7 b__law_second)).trim
theorem law_D {fa : Addr} (X : K.In h) (G : h.Ns mainGlobals mg) (hfa : mg "law" = some (.ref fa)) (T : Tab K w) :
    ∃ fd : FuncData, (∀ (s : Shared) (u : Value), BindsTo s fd ⟨[u], []⟩ [("script", u)]) ∧ ∀ base : Heap, K.In base → base.Ns mainGlobals mg → FnG P w K mg base 141 fa fd ["script"] (spD K w mg m_law) := by
  have Z := law_ok (P := P) (k := 140) (nl := 0) (body := b_law) X G hfa T.f_law sc_law rfl (fun _ _ _ _ _ _ us hl => match us, hl with | [_], _ => rfl) (fun base f cdv A outer s H E hgu hr tk po => by
      have u1 := Room.u1 hr
      have u200 := Room.u200 hr
      have u210 := Room.u210 hr (by omega)
      have b_all : mg "all" = none := PySem.W.mg_none_of X G T.b_all
      have b_bool : mg "bool" = none := PySem.W.mg_none_of X G T.b_bool
      have b_dict : mg "dict" = none := PySem.W.mg_none_of X G T.b_dict
      have b_enumerate : mg "enumerate" = none := PySem.W.mg_none_of X G T.b_enumerate
      have b_int : mg "int" = none := PySem.W.mg_none_of X G T.b_int
      have b_isinstance : mg "isinstance" = none := PySem.W.mg_none_of X G T.b_isinstance
      have b_len : mg "len" = none := PySem.W.mg_none_of X G T.b_len
      have b_list : mg "list" = none := PySem.W.mg_none_of X G T.b_list
      have b_max : mg "max" = none := PySem.W.mg_none_of X G T.b_max
      have b_min : mg "min" = none := PySem.W.mg_none_of X G T.b_min
      have b_range : mg "range" = none := PySem.W.mg_none_of X G T.b_range
      have b_repr : mg "repr" = none := PySem.W.mg_none_of X G T.b_repr
      have b_sorted : mg "sorted" = none := PySem.W.mg_none_of X G T.b_sorted
      have b_str : mg "str" = none := PySem.W.mg_none_of X G T.b_str
      have b_sum : mg "sum" = none := PySem.W.mg_none_of X G T.b_sum
      have b_tuple : mg "tuple" = none := PySem.W.mg_none_of X G T.b_tuple
      have b_zip : mg "zip" = none := PySem.W.mg_none_of X G T.b_zip
      exact (dss_one (ds_ret (de_and (de_call ((ok__law_first X G T : Does P w K mg base 140 "_law_first" _ m__law_first).dfn hr (by decide) []) hgu tk rfl (da_cons (de_var 0) da_nil)) (de_one (de_call ((ok__law_second X G T : Does P w K mg base 140 "_law_second" _ m__law_second).dfn hr (by decide) []) hgu tk rfl (da_cons (de_var 0) da_nil)))))))
  obtain ⟨fd, h1, h2⟩ := Z
  exact ⟨fd, h1, fun base a b => h2 base a b⟩
end
end K04

set_option Elab.async false
set_option linter.all false
set_option maxRecDepth 100000
set_option maxHeartbeats 4000000
open PySem PySem.W PyProof.Rows DL
set_option maxHeartbeats 0 in
theorem PySem.Challenge.cw_paperwide_k04_whole_raised_and_given_holds : PySem.Challenge.rw_paperwide_k04_whole_raised_and_given.Holds := by
  w_on; o_law; k_head; (case hw => w_witness2)
  k_fill
  refine DL.walk_D (l := PySem.Challenge.rw_paperwide_k04_whole_raised_and_given) (k := 141) (x := "script") (F := K04.m_law) rfl (by decide) rfl ⟨rfl, by decide, by decide⟩ (fun w h Y => PySem.W.kIn_of Y) ?hF K04.law_holds
  case hF =>
    intro w mg fa h KX G hmg
    refine' K04.law_D KX G hmg ?T
    case T =>
      refine' { f_is_whole := ?f_is_whole, f_is_number := ?f_is_number, f_is_name := ?f_is_name, f_has_form := ?f_has_form, f_is_term := ?f_is_term, f_is_spot := ?f_is_spot, f_need_term := ?f_need_term, f_need_place := ?f_need_place, f_inner := ?f_inner, f_with_parts := ?f_with_parts, f_binds := ?f_binds, f_gone_to := ?f_gone_to, f_part_at := ?f_part_at, f_spots_in := ?f_spots_in, f_spots := ?f_spots, f_put_at := ?f_put_at, f_changed := ?f_changed, f_size_of := ?f_size_of, f_size := ?f_size, f_free_in := ?f_free_in, f_free := ?f_free, f_raise_in := ?f_raise_in, f_raised := ?f_raised, f_give_in := ?f_give_in, f_giving := ?f_giving, f_lower_in := ?f_lower_in, f_lowered := ?f_lowered, f_apply_to := ?f_apply_to, f_applied := ?f_applied, f_open_up := ?f_open_up, f_opened := ?f_opened, f__law_cell := ?f__law_cell, f__law_purse := ?f__law_purse, f__law_take := ?f__law_take, f__law_forms := ?f__law_forms, f__law_word := ?f__law_word, f__law_term := ?f__law_term, f__law_any := ?f__law_any, f__law_parts := ?f__law_parts, f__law_over := ?f__law_over, f__law_raised := ?f__law_raised, f__law_given := ?f__law_given, f__law_asked := ?f__law_asked, f__law_refused_right := ?f__law_refused_right, f__law_first := ?f__law_first, f__law_raising_right := ?f__law_raising_right, f__law_giving_right := ?f__law_giving_right, f__law_parts_right := ?f__law_parts_right, f__law_second := ?f__law_second, f_law := ?f_law, b_all := ?b_all, b_bool := ?b_bool, b_dict := ?b_dict, b_enumerate := ?b_enumerate, b_int := ?b_int, b_isinstance := ?b_isinstance, b_len := ?b_len, b_list := ?b_list, b_max := ?b_max, b_min := ?b_min, b_range := ?b_range, b_repr := ?b_repr, b_sorted := ?b_sorted, b_str := ?b_str, b_sum := ?b_sum, b_tuple := ?b_tuple, b_zip := ?b_zip, g_BINDERS := ?g_BINDERS, g_FORMS := ?g_FORMS, g_KEPT := ?g_KEPT, g_MOST_KIND := ?g_MOST_KIND, g_MOST_PLACE := ?g_MOST_PLACE, g_SMALL := ?g_SMALL, x_NoNumber := ?x_NoNumber, x_NoSpot := ?x_NoSpot, x_NoTerm := ?x_NoTerm, t_NoNumber_NoNumber := ?t_NoNumber_NoNumber, t_NoTerm_NoTerm_NoNumber := ?t_NoTerm_NoTerm_NoNumber }
      case f_is_whole => refine' hasFn0_mk ?a ?l ?c ?k; (case a => k_is); (case l => k_is); (case c => k_is); (case k => k_is)
      case f_is_number => refine' hasFn0_mk ?a ?l ?c ?k; (case a => k_is); (case l => k_is); (case c => k_is); (case k => k_is)
      case f_is_name => refine' hasFn0_mk ?a ?l ?c ?k; (case a => k_is); (case l => k_is); (case c => k_is); (case k => k_is)
      case f_has_form => refine' hasFn0_mk ?a ?l ?c ?k; (case a => k_is); (case l => k_is); (case c => k_is); (case k => k_is)
      case f_is_term => refine' hasFn0_mk ?a ?l ?c ?k; (case a => k_is); (case l => k_is); (case c => k_is); (case k => k_is)
      case f_is_spot => refine' hasFn0_mk ?a ?l ?c ?k; (case a => k_is); (case l => k_is); (case c => k_is); (case k => k_is)
      case f_need_term => refine' hasFn0_mk ?a ?l ?c ?k; (case a => k_is); (case l => k_is); (case c => k_is); (case k => k_is)
      case f_need_place => refine' hasFn0_mk ?a ?l ?c ?k; (case a => k_is); (case l => k_is); (case c => k_is); (case k => k_is)
      case f_inner => refine' hasFn0_mk ?a ?l ?c ?k; (case a => k_is); (case l => k_is); (case c => k_is); (case k => k_is)
      case f_with_parts => refine' hasFn0_mk ?a ?l ?c ?k; (case a => k_is); (case l => k_is); (case c => k_is); (case k => k_is)
      case f_binds => refine' hasFn0_mk ?a ?l ?c ?k; (case a => k_is); (case l => k_is); (case c => k_is); (case k => k_is)
      case f_gone_to => refine' hasFn0_mk ?a ?l ?c ?k; (case a => k_is); (case l => k_is); (case c => k_is); (case k => k_is)
      case f_part_at => refine' hasFn0_mk ?a ?l ?c ?k; (case a => k_is); (case l => k_is); (case c => k_is); (case k => k_is)
      case f_spots_in => refine' hasFn0_mk ?a ?l ?c ?k; (case a => k_is); (case l => k_is); (case c => k_is); (case k => k_is)
      case f_spots => refine' hasFn0_mk ?a ?l ?c ?k; (case a => k_is); (case l => k_is); (case c => k_is); (case k => k_is)
      case f_put_at => refine' hasFn0_mk ?a ?l ?c ?k; (case a => k_is); (case l => k_is); (case c => k_is); (case k => k_is)
      case f_changed => refine' hasFn0_mk ?a ?l ?c ?k; (case a => k_is); (case l => k_is); (case c => k_is); (case k => k_is)
      case f_size_of => refine' hasFn0_mk ?a ?l ?c ?k; (case a => k_is); (case l => k_is); (case c => k_is); (case k => k_is)
      case f_size => refine' hasFn0_mk ?a ?l ?c ?k; (case a => k_is); (case l => k_is); (case c => k_is); (case k => k_is)
      case f_free_in => refine' hasFn0_mk ?a ?l ?c ?k; (case a => k_is); (case l => k_is); (case c => k_is); (case k => k_is)
      case f_free => refine' hasFn0_mk ?a ?l ?c ?k; (case a => k_is); (case l => k_is); (case c => k_is); (case k => k_is)
      case f_raise_in => refine' hasFn0_mk ?a ?l ?c ?k; (case a => k_is); (case l => k_is); (case c => k_is); (case k => k_is)
      case f_raised => refine' hasFnD_mk ?a ?l ?c ?k ?d ?e ?v; (case a => k_is); (case l => k_is); (case c => k_is); (case k => k_is); (case d => k_is); (case e => rfl); (case v => exact (.cons ⟨_, rfl⟩ (.cons ⟨_, rfl⟩ .nil)))
      case f_give_in => refine' hasFnD_mk ?a ?l ?c ?k ?d ?e ?v; (case a => k_is); (case l => k_is); (case c => k_is); (case k => k_is); (case d => k_is); (case e => rfl); (case v => exact (.cons ⟨_, rfl⟩ .nil))
      case f_giving => refine' hasFnD_mk ?a ?l ?c ?k ?d ?e ?v; (case a => k_is); (case l => k_is); (case c => k_is); (case k => k_is); (case d => k_is); (case e => rfl); (case v => exact (.cons ⟨_, rfl⟩ .nil))
      case f_lower_in => refine' hasFn0_mk ?a ?l ?c ?k; (case a => k_is); (case l => k_is); (case c => k_is); (case k => k_is)
      case f_lowered => refine' hasFn0_mk ?a ?l ?c ?k; (case a => k_is); (case l => k_is); (case c => k_is); (case k => k_is)
      case f_apply_to => refine' hasFn0_mk ?a ?l ?c ?k; (case a => k_is); (case l => k_is); (case c => k_is); (case k => k_is)
      case f_applied => refine' hasFn0_mk ?a ?l ?c ?k; (case a => k_is); (case l => k_is); (case c => k_is); (case k => k_is)
      case f_open_up => refine' hasFn0_mk ?a ?l ?c ?k; (case a => k_is); (case l => k_is); (case c => k_is); (case k => k_is)
      case f_opened => refine' hasFn0_mk ?a ?l ?c ?k; (case a => k_is); (case l => k_is); (case c => k_is); (case k => k_is)
      case f__law_cell => refine' hasFn0_mk ?a ?l ?c ?k; (case a => k_is); (case l => k_is); (case c => k_is); (case k => k_is)
      case f__law_purse => refine' hasFn0_mk ?a ?l ?c ?k; (case a => k_is); (case l => k_is); (case c => k_is); (case k => k_is)
      case f__law_take => refine' hasFn0_mk ?a ?l ?c ?k; (case a => k_is); (case l => k_is); (case c => k_is); (case k => k_is)
      case f__law_forms => refine' hasFn0_mk ?a ?l ?c ?k; (case a => k_is); (case l => k_is); (case c => k_is); (case k => k_is)
      case f__law_word => refine' hasFn0_mk ?a ?l ?c ?k; (case a => k_is); (case l => k_is); (case c => k_is); (case k => k_is)
      case f__law_term => refine' hasFn0_mk ?a ?l ?c ?k; (case a => k_is); (case l => k_is); (case c => k_is); (case k => k_is)
      case f__law_any => refine' hasFn0_mk ?a ?l ?c ?k; (case a => k_is); (case l => k_is); (case c => k_is); (case k => k_is)
      case f__law_parts => refine' hasFn0_mk ?a ?l ?c ?k; (case a => k_is); (case l => k_is); (case c => k_is); (case k => k_is)
      case f__law_over => refine' hasFn0_mk ?a ?l ?c ?k; (case a => k_is); (case l => k_is); (case c => k_is); (case k => k_is)
      case f__law_raised => refine' hasFn0_mk ?a ?l ?c ?k; (case a => k_is); (case l => k_is); (case c => k_is); (case k => k_is)
      case f__law_given => refine' hasFn0_mk ?a ?l ?c ?k; (case a => k_is); (case l => k_is); (case c => k_is); (case k => k_is)
      case f__law_asked => refine' hasFn0_mk ?a ?l ?c ?k; (case a => k_is); (case l => k_is); (case c => k_is); (case k => k_is)
      case f__law_refused_right => refine' hasFn0_mk ?a ?l ?c ?k; (case a => k_is); (case l => k_is); (case c => k_is); (case k => k_is)
      case f__law_first => refine' hasFn0_mk ?a ?l ?c ?k; (case a => k_is); (case l => k_is); (case c => k_is); (case k => k_is)
      case f__law_raising_right => refine' hasFn0_mk ?a ?l ?c ?k; (case a => k_is); (case l => k_is); (case c => k_is); (case k => k_is)
      case f__law_giving_right => refine' hasFn0_mk ?a ?l ?c ?k; (case a => k_is); (case l => k_is); (case c => k_is); (case k => k_is)
      case f__law_parts_right => refine' hasFn0_mk ?a ?l ?c ?k; (case a => k_is); (case l => k_is); (case c => k_is); (case k => k_is)
      case f__law_second => refine' hasFn0_mk ?a ?l ?c ?k; (case a => k_is); (case l => k_is); (case c => k_is); (case k => k_is)
      case f_law => refine' hasFn0_mk ?a ?l ?c ?k; (case a => k_is); (case l => k_is); (case c => k_is); (case k => k_is)
      case b_all => k_is
      case b_bool => k_is
      case b_dict => k_is
      case b_enumerate => k_is
      case b_int => k_is
      case b_isinstance => k_is
      case b_len => k_is
      case b_list => k_is
      case b_max => k_is
      case b_min => k_is
      case b_range => k_is
      case b_repr => k_is
      case b_sorted => k_is
      case b_str => k_is
      case b_sum => k_is
      case b_tuple => k_is
      case b_zip => k_is
      case g_BINDERS => refine' glTup_mk ?a ?b ?c ?d ?e; (case a => k_is); (case b => k_is); (case c => rfl); (case d => rfl); (case e => exact ⟨⟨_, rfl⟩, ⟨_, rfl⟩, trivial⟩)
      case g_FORMS => refine' glDct_mk ?a ?b ?c ?d ?e; (case a => k_is); (case b => k_is); (case c => exact ⟨⟨_, _, rfl, rfl⟩, ⟨_, _, rfl, rfl⟩, ⟨_, _, rfl, rfl⟩, ⟨_, _, rfl, rfl⟩, ⟨_, _, rfl, rfl⟩, ⟨_, _, rfl, rfl⟩, ⟨_, _, rfl, rfl⟩, ⟨_, _, rfl, rfl⟩, ⟨_, _, rfl, rfl⟩, ⟨_, _, rfl, rfl⟩, ⟨_, _, rfl, rfl⟩, ⟨_, _, rfl, rfl⟩, trivial⟩); (case d => rfl); (case e => exact ⟨⟨_, rfl⟩, ⟨_, rfl⟩, ⟨_, rfl⟩, ⟨_, rfl⟩, ⟨_, rfl⟩, ⟨_, rfl⟩, ⟨_, rfl⟩, ⟨_, rfl⟩, ⟨_, rfl⟩, ⟨_, rfl⟩, ⟨_, rfl⟩, ⟨_, rfl⟩, ⟨_, rfl⟩, ⟨_, rfl⟩, ⟨_, rfl⟩, ⟨_, rfl⟩, ⟨_, rfl⟩, ⟨_, rfl⟩, ⟨_, rfl⟩, ⟨_, rfl⟩, ⟨_, rfl⟩, ⟨_, rfl⟩, ⟨_, rfl⟩, ⟨_, rfl⟩, trivial⟩)
      case g_KEPT => refine' glTup_mk ?a ?b ?c ?d ?e; (case a => k_is); (case b => k_is); (case c => rfl); (case d => rfl); (case e => exact ⟨⟨_, rfl⟩, ⟨_, rfl⟩, ⟨_, rfl⟩, ⟨_, rfl⟩, ⟨_, rfl⟩, trivial⟩)
      case g_MOST_KIND => refine' glInt_mk ?a; (case a => k_is)
      case g_MOST_PLACE => refine' glInt_mk ?a; (case a => k_is)
      case g_SMALL => refine' glStr_mk ?a; (case a => k_is)
      case x_NoNumber => refine' excK_mk ?a1 ?a2 ?a3 ?a4 ?a5 ?a6 ?a7 ?b1 ?b2 ?b3 ?b4 ?b5 ?b6 ?c1 ?c2 ?c3; (case a1 => k_is); (case a2 => k_is); (case a3 => first | rfl | decide +kernel); (case a4 => k_is); (case a5 => k_is); (case a6 => k_is); (case a7 => k_is); (case b1 => k_is); (case b2 => k_is); (case b3 => k_is); (case b4 => k_is); (case b5 => k_is); (case b6 => refine' noFlds_cons ?f0 ?r; (case f0 => k_is); (case r => exact trivial)); (case c1 => k_is); (case c2 => k_is); (case c3 => k_is)
      case x_NoSpot => refine' excK_mk ?a1 ?a2 ?a3 ?a4 ?a5 ?a6 ?a7 ?b1 ?b2 ?b3 ?b4 ?b5 ?b6 ?c1 ?c2 ?c3; (case a1 => k_is); (case a2 => k_is); (case a3 => first | rfl | decide +kernel); (case a4 => k_is); (case a5 => k_is); (case a6 => k_is); (case a7 => k_is); (case b1 => k_is); (case b2 => k_is); (case b3 => k_is); (case b4 => k_is); (case b5 => k_is); (case b6 => refine' noFlds_cons ?f0 ?r; (case f0 => k_is); (case r => exact trivial)); (case c1 => k_is); (case c2 => k_is); (case c3 => k_is)
      case x_NoTerm => refine' excK_mk ?a1 ?a2 ?a3 ?a4 ?a5 ?a6 ?a7 ?b1 ?b2 ?b3 ?b4 ?b5 ?b6 ?c1 ?c2 ?c3; (case a1 => k_is); (case a2 => k_is); (case a3 => first | rfl | decide +kernel); (case a4 => k_is); (case a5 => k_is); (case a6 => k_is); (case a7 => k_is); (case b1 => k_is); (case b2 => k_is); (case b3 => k_is); (case b4 => k_is); (case b5 => k_is); (case b6 => refine' noFlds_cons ?f0 ?r; (case f0 => k_is); (case r => exact trivial)); (case c1 => k_is); (case c2 => k_is); (case c3 => k_is)
      case t_NoNumber_NoNumber => refine' exmsK_cons ?e ?r; (case e => refine' exmK_mk ?a1 ?a2 ?a3 ?a4 ?a5 ?a6; (case a1 => k_is); (case a2 => k_is); (case a3 => k_is); (case a4 => k_is); (case a5 => k_is); (case a6 => first | rfl | k_is)); (case r => exact trivial)
      case t_NoTerm_NoTerm_NoNumber => refine' exmsK_cons ?e ?r; (case e => refine' exmK_mk ?a1 ?a2 ?a3 ?a4 ?a5 ?a6; (case a1 => k_is); (case a2 => k_is); (case a3 => k_is); (case a4 => k_is); (case a5 => k_is); (case a6 => first | rfl | k_is)); (case r => refine' exmsK_cons ?e ?r; (case e => refine' exmK_mk ?a1 ?a2 ?a3 ?a4 ?a5 ?a6; (case a1 => k_is); (case a2 => k_is); (case a3 => k_is); (case a4 => k_is); (case a5 => k_is); (case a6 => first | rfl | k_is)); (case r => exact trivial))
