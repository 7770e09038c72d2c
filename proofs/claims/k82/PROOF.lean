import PyProof.Rows.All
import HandS.ForMost
import HandS.Flow
import HandS.TupAny
import HandS.IsInst
import HandS.Deep
import HandS.SetKeys
import HandS.More
import KE.SortData
import PyProof.ListStr
import KE.KDictSum
import HandS.Conv
import HandS.AnyAll
import PyProof.GenCompT
import PyProof.WalksPairs
import PyProof.TupleOfGen
import HandS.JoinGen
import HandS.EndTab
import HandS.Codes
import PySem.Challenge.RW_fewoffers_k82_plans_of_questions
set_option Elab.async false
set_option linter.all false
set_option maxRecDepth 100000
set_option autoImplicit false
/-! Rl, part 1: data by value, what represents it in the abstract heap, the slots of a def, the relation that a running def keeps. -/
namespace Rl
open PySem PySem.Spec PyProof.Rows L2

/-- a test that is not looked into when terms are compared (the kernel would count up to its big numbers) -/
theorem opq_ex {α : Type} (f : α → Bool) : ∃ g : α → Bool, ∀ x, g x = f x := ⟨f, fun _ => rfl⟩
noncomputable def opq {α : Type} (f : α → Bool) : α → Bool := Classical.choose (opq_ex f)
theorem opq_eq {α : Type} (f : α → Bool) (x : α) : opq f x = f x := Classical.choose_spec (opq_ex f) x
/-- data by value (texts are their code points; a dict its keys and its values, t: the keys are tuples) -/
inductive D where
  | non
  | bl (b : Bool)
  | int (i : Int)
  | str (s : List Nat)
  | tup (ds : List D)
  | lst (ds : List D)
  | dic (t : Bool) (ks vs : List D)
  /-- a list that may be one of the module's own (the script) -/
  | scr (ds : List D)

def keyD : Key → D
  | .inl i => .int i
  | .inr x => .str x.cps.toList

def DKs (kvs : List (Key × V)) (ks : List D) (xs : List V) : Prop := ks = kvs.map (fun p => keyD p.1) ∧ xs = kvs.map (·.2)
def DTs (kvs : List (List Key × V)) (ks : List D) (xs : List V) : Prop := ks = kvs.map (fun p => D.tup (p.1.map keyD)) ∧ xs = kvs.map (·.2)
/-- what stands at an address (by R) is a dict with these keys and values -/
def DicIn (R : HO → Prop) : Bool → List D → List V → Prop
  | false, ks, xs => ∃ kvs, R (.dK kvs) ∧ DKs kvs ks xs
  | true, ks, xs => ∃ kvs, R (.dT kvs) ∧ DTs kvs ks xs

mutual
/-- the value v is the data d, over the frozen part F of the heap -/
def Rep (K : PySem.W.Frag) (F : Hp) : D → V → Prop
  | .non, v => v = .non
  | .bl b, v => v = .bl b
  | .int i, v => v = .int i
  | .str s, v => v = .str ⟨s.toArray⟩
  | .tup ds, v => ∃ a xs, v = .ref a ∧ F a = some (.tup xs) ∧ Reps K F ds xs
  | .lst ds, v => ∃ a xs, v = .ref a ∧ Rd F a (.lst xs) ∧ Reps K F ds xs
  | .scr ds, v => ∃ a xs, v = .ref a ∧ SqL K F a xs ∧ Reps K F ds xs
  | .dic t ks ds, v => ∃ a xs, v = .ref a ∧ DicIn (fun u => ∃ o, F a = some (.frz o u)) t ks xs ∧ Reps K F ds xs
def Reps (K : PySem.W.Frag) (F : Hp) : List D → List V → Prop
  | [], xs => xs = []
  | d :: ds, xs => ∃ x r, xs = x :: r ∧ Rep K F d x ∧ Reps K F ds r
end

def NoFrz : HO → Prop
  | .frz _ _ => False
  | _ => True
/-- what can be read in F can be read in F' -/
def RdX (F F' : Hp) : Prop := (∀ a u, NoFrz u → Rd F a u → Rd F' a u) ∧ (∀ a xs, F a = some (.tup xs) → F' a = some (.tup xs)) ∧ ∀ a o u, F a = some (.frz o u) → F' a = some (.frz o u)
theorem RdX.refl (F : Hp) : RdX F F := ⟨fun _ _ _ h => h, fun _ _ h => h, fun _ _ _ h => h⟩
theorem RdX.trans {F F1 F2 : Hp} (a : RdX F F1) (b : RdX F1 F2) : RdX F F2 := ⟨fun x u n h => b.1 x u n (a.1 x u n h), fun x xs h => b.2.1 x xs (a.2.1 x xs h), fun x o u h => b.2.2 x o u (a.2.2 x o u h)⟩
def Ex (F F' : Hp) : Prop := ∀ a u, F a = some u → F' a = some u
theorem Ex.refl (F : Hp) : Ex F F := fun _ _ h => h
theorem Ex.trans {F F1 F2 : Hp} (a : Ex F F1) (b : Ex F1 F2) : Ex F F2 := fun x u h => b x u (a x u h)
theorem Ex.rdx {F F' : Hp} (e : Ex F F') : RdX F F' := ⟨fun a u _ h => by
  rcases h with h | ⟨o, h⟩
  · exact .inl (e a _ h)
  · exact .inr ⟨o, e a _ h⟩, fun a xs h => e a _ h, fun a o u h => e a _ h⟩
theorem Ex.new {F : Hp} {p : Addr} {u : HO} (h : F p = none) : Ex F (upd F p u) := fun a o e => by rw [upd_ne (ne_of_none e h)]; exact e

section
variable {K : PySem.W.Frag} {F F' H : Hp}
theorem RdX.l {a : Addr} {xs : List V} (e : RdX F F') (h : SqL K F a xs) : SqL K F' a xs := h.imp (e.1 a _ trivial) id
theorem RdX.t {a : Addr} {xs : List V} (e : RdX F F') (h : SqT K F a xs) : SqT K F' a xs := h.imp (e.1 a _ trivial) id
theorem DicIn.mono {R R' : HO → Prop} {t : Bool} {ks : List D} {xs : List V} (h : DicIn R t ks xs) (hR : ∀ u, NoFrz u → R u → R' u) : DicIn R' t ks xs := by
  cases t with
  | false => obtain ⟨kvs, r, q⟩ := h; exact ⟨kvs, hR _ trivial r, q⟩
  | true => obtain ⟨kvs, r, q⟩ := h; exact ⟨kvs, hR _ trivial r, q⟩
mutual
theorem Rep.mono (e : RdX F F') : ∀ (d : D) (v : V), Rep K F d v → Rep K F' d v
  | .non, _, h => h
  | .bl _, _, h => h
  | .int _, _, h => h
  | .str _, _, h => h
  | .tup ds, v, h => by
    obtain ⟨a, xs, h1, h2, h3⟩ := h
    exact ⟨a, xs, h1, e.2.1 _ _ h2, Reps.mono e ds xs h3⟩
  | .lst ds, v, h => by
    obtain ⟨a, xs, h1, h2, h3⟩ := h
    exact ⟨a, xs, h1, e.1 a _ trivial h2, Reps.mono e ds xs h3⟩
  | .scr ds, v, h => by
    obtain ⟨a, xs, h1, h2, h3⟩ := h
    exact ⟨a, xs, h1, e.l h2, Reps.mono e ds xs h3⟩
  | .dic t ks ds, v, h => by
    obtain ⟨a, xs, h1, h2, h3⟩ := h
    exact ⟨a, xs, h1, h2.mono fun u _ ⟨o, q⟩ => ⟨o, e.2.2 a o u q⟩, Reps.mono e ds xs h3⟩
theorem Reps.mono (e : RdX F F') : ∀ (ds : List D) (xs : List V), Reps K F ds xs → Reps K F' ds xs
  | [], _, h => h
  | d :: ds, xs, h => by
    obtain ⟨x, r, h1, h2, h3⟩ := h
    exact ⟨x, r, h1, Rep.mono e d x h2, Reps.mono e ds r h3⟩
end
theorem Rep.mono' (e : RdX F F') {d : D} {v : V} (h : Rep K F d v) : Rep K F' d v := Rep.mono e d v h
theorem Reps.mono' (e : RdX F F') {d : List D} {v : List V} (h : Reps K F d v) : Reps K F' d v := Reps.mono e d v h
theorem Reps.length : ∀ {ds : List D} {xs : List V}, Reps K F ds xs → ds.length = xs.length
  | [], _, h => by rw [show _ = [] from h]; rfl
  | d :: ds, xs, h => by
    obtain ⟨x, r, rfl, _, h3⟩ := h
    rw [List.length_cons, List.length_cons, h3.length]
theorem Reps.get : ∀ {ds : List D} {xs : List V} {i : Nat} {d : D}, Reps K F ds xs → ds[i]? = some d → ∃ x, xs[i]? = some x ∧ Rep K F d x
  | [], _, _, _, _, e => by simp at e
  | d :: ds, xs, 0, d', h, e => by
    obtain ⟨x, r, rfl, h2, _⟩ := h
    simp at e
    exact ⟨x, rfl, e ▸ h2⟩
  | d :: ds, xs, i + 1, d', h, e => by
    obtain ⟨x, r, rfl, _, h3⟩ := h
    obtain ⟨y, e2, r2⟩ := h3.get (i := i) (by simpa using e)
    exact ⟨y, by simpa using e2, r2⟩
theorem Reps.getV : ∀ {ds : List D} {xs : List V} {i : Nat} {x : V}, Reps K F ds xs → xs[i]? = some x → ∃ d, ds[i]? = some d ∧ Rep K F d x
  | [], xs, _, _, h, e => by rw [show xs = [] from h] at e; simp at e
  | d :: ds, xs, 0, x', h, e => by
    obtain ⟨x, r, rfl, h2, _⟩ := h
    simp at e
    exact ⟨d, rfl, e ▸ h2⟩
  | d :: ds, xs, i + 1, x', h, e => by
    obtain ⟨x, r, rfl, _, h3⟩ := h
    obtain ⟨y, e2, r2⟩ := h3.getV (i := i) (by simpa using e)
    exact ⟨y, by simpa using e2, r2⟩
theorem Reps.nil : Reps K F [] [] := rfl
theorem Reps.cons {d : D} {x : V} {ds : List D} {xs : List V} (h : Rep K F d x) (t : Reps K F ds xs) : Reps K F (d :: ds) (x :: xs) := ⟨x, xs, rfl, h, t⟩
theorem Reps.append : ∀ {ds es : List D} {xs ys : List V}, Reps K F ds xs → Reps K F es ys → Reps K F (ds ++ es) (xs ++ ys)
  | [], _, _, _, h, t => by rw [show _ = [] from h]; exact t
  | d :: ds, _, _, _, h, t => by
    obtain ⟨x, r, rfl, h2, h3⟩ := h
    exact .cons h2 (h3.append t)
theorem Reps.set : ∀ {ds : List D} {xs : List V} {d : D} {x : V} (i : Nat), Reps K F ds xs → Rep K F d x → Reps K F (ds.set i d) (xs.set i x)
  | [], _, _, _, _, h, _ => by rw [show _ = [] from h]; exact rfl
  | d :: ds, _, _, _, 0, h, q => by
    obtain ⟨x, r, rfl, h2, h3⟩ := h
    exact .cons q h3
  | d :: ds, _, _, _, i + 1, h, q => by
    obtain ⟨x, r, rfl, h2, h3⟩ := h
    exact .cons h2 (h3.set i q)
theorem Reps.take : ∀ {ds : List D} {xs : List V} (n : Nat), Reps K F ds xs → Reps K F (ds.take n) (xs.take n)
  | _, _, 0, _ => by rw [List.take_zero, List.take_zero]; exact rfl
  | [], _, n + 1, h => by rw [show _ = [] from h]; exact rfl
  | d :: ds, _, n + 1, h => by
    obtain ⟨x, r, rfl, h2, h3⟩ := h
    exact .cons h2 (h3.take n)
theorem Reps.drop : ∀ {ds : List D} {xs : List V} (n : Nat), Reps K F ds xs → Reps K F (ds.drop n) (xs.drop n)
  | _, _, 0, h => h
  | [], _, n + 1, h => by rw [show _ = [] from h]; exact rfl
  | d :: ds, _, n + 1, h => by
    obtain ⟨x, r, rfl, h2, h3⟩ := h
    exact h3.drop n
theorem Reps.eraseIdx : ∀ {ds : List D} {xs : List V} (n : Nat), Reps K F ds xs → Reps K F (ds.eraseIdx n) (xs.eraseIdx n)
  | [], _, _, h => by rw [show _ = [] from h]; exact rfl
  | d :: ds, _, 0, h => by
    obtain ⟨x, r, rfl, h2, h3⟩ := h
    exact h3
  | d :: ds, _, n + 1, h => by
    obtain ⟨x, r, rfl, h2, h3⟩ := h
    exact .cons h2 (h3.eraseIdx n)
theorem Reps.dropLast {ds : List D} {xs : List V} (h : Reps K F ds xs) : Reps K F ds.dropLast xs.dropLast := by
  rw [List.dropLast_eq_take, List.dropLast_eq_take, h.length]
  exact h.take _
theorem Reps.reverse : ∀ {ds : List D} {xs : List V}, Reps K F ds xs → Reps K F ds.reverse xs.reverse
  | [], _, h => by rw [show _ = [] from h]; exact rfl
  | d :: ds, _, h => by
    obtain ⟨x, r, rfl, h2, h3⟩ := h
    rw [List.reverse_cons, List.reverse_cons]
    exact h3.reverse.append (.cons h2 .nil)
end

/-! ### slots -/
/-- a name of a def: not assigned; frozen data; a list or a dict of its own -/
inductive Sl where
  | un
  | val (d : D)
  | lst (ds : List D)
  | dic (t : Bool) (ks vs : List D)
  /-- a dict of its own whose values are lists of its own -/
  | dl (ks : List D) (vss : List (List D))
def Sl.toD : Sl → Option D
  | .un => none
  | .dl _ _ => none
  | .val d => some d
  | .lst ds => some (.lst ds)
  | .dic t ks vs => some (.dic t ks vs)
def OwnLs (K : PySem.W.Frag) (F H : Hp) (vss : List (List D)) (as : List Addr) : Prop := vss.length = as.length ∧ ∀ (j : Nat) (b : Addr) (ds : List D), as[j]? = some b → vss[j]? = some ds → ∃ xs, H b = some (.lst xs) ∧ Reps K F ds xs
/-- the slot's value; A: the addresses that it alone owns -/
def OwnS (K : PySem.W.Frag) (F H : Hp) : Sl → Option V → List Addr → Prop
  | .un, _, A => A = []
  | .val d, o, A => A = [] ∧ ∃ v, o = some v ∧ Rep K F d v
  | .lst ds, o, A => ∃ a xs, o = some (.ref a) ∧ A = [a] ∧ H a = some (.lst xs) ∧ Reps K F ds xs
  | .dic t ks ds, o, A => ∃ a xs, o = some (.ref a) ∧ A = [a] ∧ DicIn (fun u => H a = some u) t ks xs ∧ Reps K F ds xs
  | .dl ks vss, o, A => ∃ a as kvs, o = some (.ref a) ∧ A = a :: as ∧ H a = some (.dK kvs) ∧ DKs kvs ks (as.map V.ref) ∧ OwnLs K F H vss as ∧ (a :: as).Nodup
/-- frozen things stand in H; a frozen dict may be locked by a walk -/
def Sub (F H : Hp) : Prop := ∀ a u, F a = some u → H a = some u ∨ (Mut (some u) ∧ ∃ od, H a = some (.frz od u))
/-- a table of code objects, which may grow -/
def IsTb : HO → Prop
  | .tbl ps => TriplesOk ps.toList
  | _ => False
theorem IsTb.mut {u : HO} (h : IsTb u) (m : Mut (some u)) : False := by cases u <;> first | exact h | exact m
/-- what was at a is there still, but for a lock of a frozen thing, or more in a table -/
def Kpt (F H : Hp) (a : Addr) (o : HO) : Prop := H a = some o ∨ (F a = some o ∧ Mut (some o) ∧ ∃ od, H a = some (.frz od o)) ∨ (IsTb o ∧ ∃ o', H a = some o' ∧ IsTb o')
def IsTup : HO → Prop
  | .tup _ => True
  | _ => False
theorem IsTup.mut {u : HO} (h : IsTup u) (m : Mut (some u)) : False := by cases u <;> first | exact h | exact m
structure Bs where
  H0 : Hp
  F0 : Hp
  A0 : List (List Addr)
/-- the tables of code objects that stand in the heap -/
class Tabs where
  T : List Addr

def Al (A : List (List Addr)) (a : Addr) : Prop := ∃ (i : Nat) (As : List Addr), A[i]? = some As ∧ a ∈ As
/-- no address twice -/
def Apart (A : List (List Addr)) : Prop := ∀ (i j : Nat) (As Bs : List Addr) (a : Addr), A[i]? = some As → A[j]? = some Bs → a ∈ As → a ∈ Bs → i = j

variable [Tabs]
structure Rel (K : PySem.W.Frag) (B : Bs) (F : Hp) (ε : List Sl) (σ : L2.St) (H : Hp) (A : List (List Addr)) : Prop where
  sub : Sub F H
  len : ε.length = σ.length
  lenA : A.length = σ.length
  own : ∀ (i : Nat) (s : Sl) (o : Option V) (As : List Addr), ε[i]? = some s → σ[i]? = some o → A[i]? = some As → OwnS K F H s o As
  nd : Apart A
  dis : ∀ a, Al A a → F a = none
  bfr : ∀ a o, B.H0 a = some o → ¬ Al B.A0 a → Kpt B.F0 H a o
  bex : Ex B.F0 F
  bnew : ∀ a u, F a = some u → B.F0 a = some u ∨ B.H0 a = none ∨ IsTup u
  bown : ∀ a, Al A a → Al B.A0 a ∨ B.H0 a = none
  bdom : ∀ a, H a = none → B.H0 a = none
  bio : ∀ (i : Nat) (As : List Addr), B.A0[i]? = some As → As ≠ [] → A[i]? = some As
  tb : ∀ P ∈ Tabs.T, (∃ o, H P = some o ∧ IsTb o) ∧ F P = none ∧ B.H0 P ≠ none
/-- from (F, H) to (F', H'), only the addresses in A may have changed -/
structure Ext (F H F' H' : Hp) (A : List (List Addr)) : Prop where
  ex : Ex F F'
  new : ∀ a u, F' a = some u → F a = some u ∨ H a = none ∨ IsTup u
  fr : ∀ a o, H a = some o → ¬ Al A a → Kpt F H' a o
  dom : ∀ a, H' a = none → H a = none

section
variable {K : PySem.W.Frag} {B : Bs} {F F' F1 F2 H H' H1 H2 : Hp} {ε ε' : List Sl} {σ : L2.St} {A : List (List Addr)} {a p : Addr} {o u : HO}
theorem mut_nofrz {od : Obj} {u : HO} (h : Mut (some (.frz od u))) : False := h
theorem Sub.tup {xs : List V} (s : Sub F H) (h : F a = some (.tup xs)) : H a = some (.tup xs) := by
  rcases s a _ h with q | ⟨m, _⟩
  · exact q
  · exact (show False from m).elim
theorem Sub.frz {od : Obj} (s : Sub F H) (h : F a = some (.frz od u)) : H a = some (.frz od u) := by
  rcases s a _ h with q | ⟨m, _⟩
  · exact q
  · exact (show False from m).elim
theorem Sub.rdx (s : Sub F H) : RdX F H := ⟨fun a u n h => by
  rcases h with h | ⟨o, h⟩
  · rcases s a u h with q | ⟨_, od, q⟩
    · exact .inl q
    · exact .inr ⟨od, q⟩
  · rcases s a _ h with q | ⟨m, _⟩
    · exact .inr ⟨o, q⟩
    · exact m.elim, fun a xs h => s.tup h, fun a o u h => s.frz h⟩
theorem Sub.none (s : Sub F H) (h : H a = none) : F a = none := by
  cases e : F a with
  | none => rfl
  | some u =>
    rcases s a u e with q | ⟨_, _, q⟩ <;> (rw [h] at q; cases q)
theorem Kpt.trans {o : HO} (h1 : Kpt F H1 a o) (e : Ex F F1) (h2 : ∀ o, H1 a = some o → Kpt F1 H2 a o) (hf : ∀ u, F1 a = some u → F a = some u ∨ H a = Option.none ∨ IsTup u) (hH : H a = some o) : Kpt F H2 a o := by
  rcases h1 with q | ⟨f, m, od, q⟩ | ⟨t, o1, q, t1⟩
  · rcases h2 o q with z | ⟨f, m, od, z⟩ | z
    · exact .inl z
    · rcases hf _ f with z2 | z2 | z2
      · exact .inr (.inl ⟨z2, m, od, z⟩)
      · rw [hH] at z2; cases z2
      · exact (z2.mut m).elim
    · exact .inr (.inr z)
  · rcases h2 _ q with z | ⟨_, m2, _⟩ | ⟨t, _⟩
    · exact .inr (.inl ⟨f, m, od, z⟩)
    · exact m2.elim
    · exact t.elim
  · rcases h2 o1 q with z | ⟨_, m2, _⟩ | ⟨_, z⟩
    · exact .inr (.inr ⟨t, o1, z, t1⟩)
    · exact (t1.mut m2).elim
    · exact .inr (.inr ⟨t, z⟩)
theorem Ext.refl (F H : Hp) (A : List (List Addr)) : Ext F H F H A := ⟨Ex.refl F, fun _ _ h => .inl h, fun _ _ h _ => .inl h, fun _ h => h⟩
theorem Ext.trans (x : Ext F H F1 H1 A) (y : Ext F1 H1 F2 H2 A) : Ext F H F2 H2 A where
  ex := x.ex.trans y.ex
  new := fun a u h => by
    rcases y.new a u h with q | q | q
    · exact x.new a u q
    · exact .inr (.inl (x.dom a q))
    · exact .inr (.inr q)
  fr := fun a o h na => (x.fr a o h na).trans x.ex (fun o' q => y.fr a o' q na) (fun u q => x.new a u q) h
  dom := fun a h => x.dom a (y.dom a h)
theorem Ext.rdx (x : Ext F H F' H' A) : RdX F F' := x.ex.rdx
/-- a thing that is neither frozen nor owned stays as it is -/
theorem Ext.stay (x : Ext F H F' H' A) (s : Sub F' H') (h : H a = some o) (m : Mut (some o)) (hf : F a = none) (ha : ¬ Al A a) : H' a = some o ∧ F' a = none := by
  have k : H' a = some o := by
    rcases x.fr a o h ha with q | ⟨f, _⟩ | ⟨t, _⟩
    · exact q
    · rw [hf] at f; cases f
    · exact (t.mut m).elim
  refine ⟨k, ?_⟩
  cases e : F' a with
  | none => rfl
  | some u =>
    rcases x.new a u e with q | q | q
    · rw [hf] at q; cases q
    · rw [h] at q; cases q
    · cases u <;> try exact q.elim
      rw [s.tup e] at k
      cases k
      exact m.elim

/-- a table stays one -/
theorem Ext.tab {B : Bs} {P : Addr} (x : Ext F H F' H' A) (s : Sub F' H') (ha : ¬ Al A P) (h : (∃ o, H P = some o ∧ IsTb o) ∧ F P = none ∧ B.H0 P ≠ none) : (∃ o, H' P = some o ∧ IsTb o) ∧ F' P = none ∧ B.H0 P ≠ none := by
  obtain ⟨⟨o, h1, t⟩, h2, h3⟩ := h
  have k : ∃ o', H' P = some o' ∧ IsTb o' := by
    rcases x.fr P o h1 ha with q | ⟨f, _⟩ | ⟨_, q⟩
    · exact ⟨o, q, t⟩
    · rw [h2] at f; cases f
    · exact q
  refine ⟨k, ?_, h3⟩
  cases e : F' P with
  | none => rfl
  | some u =>
    rcases x.new P u e with q | q | q
    · rw [h2] at q; cases q
    · rw [h1] at q; cases q
    · cases u <;> try exact q.elim
      obtain ⟨o', k1, k2⟩ := k
      rw [s.tup e] at k1
      cases k1
      exact k2.elim

/-! ### how the relation goes on -/
theorem OwnS.mono {s : Sl} {o : Option V} {As : List Addr} (h : OwnS K F H s o As) (e : RdX F F') (k : ∀ a ∈ As, ∀ u, H a = some u → H' a = some u) : OwnS K F' H' s o As := by
  cases s with
  | un => exact h
  | val d =>
    obtain ⟨h1, v, h2, h3⟩ := h
    exact ⟨h1, v, h2, h3.mono' e⟩
  | lst ds =>
    obtain ⟨a, xs, h1, h2, h3, h4⟩ := h
    exact ⟨a, xs, h1, h2, k a (by rw [h2]; simp) _ h3, h4.mono' e⟩
  | dic t ks ds =>
    obtain ⟨a, xs, h1, h2, h3, h4⟩ := h
    exact ⟨a, xs, h1, h2, h3.mono fun u _ q => k a (by rw [h2]; simp) u q, h4.mono' e⟩
  | dl ks vss =>
    obtain ⟨a, as, kvs, h1, h2, h3, h4, h5, h6⟩ := h
    refine ⟨a, as, kvs, h1, h2, k a (by rw [h2]; simp) _ h3, h4, ⟨h5.1, fun j b ds q1 q2 => ?_⟩, h6⟩
    obtain ⟨xs, q3, q4⟩ := h5.2 j b ds q1 q2
    exact ⟨xs, k b (by rw [h2]; exact List.mem_cons_of_mem _ (List.mem_of_getElem? q1)) _ q3, q4.mono' e⟩
theorem OwnS.there {s : Sl} {v : Option V} {As : List Addr} (h : OwnS K F H s v As) (ha : a ∈ As) : ∃ o, H a = some o ∧ Mut (some o) := by
  cases s with
  | un => rw [show As = [] from h] at ha; cases ha
  | val d => rw [h.1] at ha; cases ha
  | lst ds =>
    obtain ⟨b, xs, _, h2, h3, _⟩ := h
    rw [h2] at ha
    have e : a = b := by simpa using ha
    exact ⟨_, e ▸ h3, show Mut (some (HO.lst _)) from trivial⟩
  | dic t ks ds =>
    obtain ⟨b, xs, _, h2, h3, _⟩ := h
    rw [h2] at ha
    have e : a = b := by simpa using ha
    cases t with
    | false => obtain ⟨kvs, q, _⟩ := h3; exact ⟨_, e ▸ q, show Mut (some (HO.dK _)) from trivial⟩
    | true => obtain ⟨kvs, q, _⟩ := h3; exact ⟨_, e ▸ q, show Mut (some (HO.dT _)) from trivial⟩
  | dl ks vss =>
    obtain ⟨b, as, kvs, _, h2, h3, _, h5, _⟩ := h
    rw [h2] at ha
    rcases List.mem_cons.mp ha with e | ha
    · exact ⟨_, e ▸ h3, show Mut (some (HO.dK _)) from trivial⟩
    · obtain ⟨j, hj, e⟩ := List.getElem_of_mem ha
      have hj2 : j < vss.length := by rw [h5.1]; exact hj
      obtain ⟨xs, q, _⟩ := h5.2 j a vss[j] (by rw [List.getElem?_eq_getElem hj, e]) (List.getElem?_eq_getElem hj2)
      exact ⟨_, q, show Mut (some (HO.lst _)) from trivial⟩
theorem Rel.idx (R : Rel K B F ε σ H A) {i : Nat} {As : List Addr} (h : A[i]? = some As) : ∃ s o, ε[i]? = some s ∧ σ[i]? = some o ∧ OwnS K F H s o As := by
  have hi : i < A.length := (List.getElem?_eq_some_iff.mp h).1
  have h1 : i < ε.length := by rw [R.len, ← R.lenA]; exact hi
  have h2 : i < σ.length := by rw [← R.lenA]; exact hi
  exact ⟨ε[i], σ[i], List.getElem?_eq_getElem h1, List.getElem?_eq_getElem h2, R.own i _ _ As (List.getElem?_eq_getElem h1) (List.getElem?_eq_getElem h2) h⟩
theorem Rel.idxE (R : Rel K B F ε σ H A) {i : Nat} {s : Sl} (h : ε[i]? = some s) : ∃ o As, σ[i]? = some o ∧ A[i]? = some As ∧ OwnS K F H s o As := by
  have hi : i < ε.length := (List.getElem?_eq_some_iff.mp h).1
  have h1 : i < A.length := by rw [R.lenA, ← R.len]; exact hi
  have h2 : i < σ.length := by rw [← R.len]; exact hi
  exact ⟨σ[i], A[i], List.getElem?_eq_getElem h2, List.getElem?_eq_getElem h1, R.own i _ _ _ h (List.getElem?_eq_getElem h2) (List.getElem?_eq_getElem h1)⟩
theorem Rel.there (R : Rel K B F ε σ H A) (h : Al A a) : ∃ o, H a = some o ∧ Mut (some o) := by
  obtain ⟨i, As, h1, h2⟩ := h
  obtain ⟨s, o, _, _, q⟩ := R.idx h1
  exact q.there h2
theorem Rel.noTb (R : Rel K B F ε σ H A) {P : Addr} (h : P ∈ Tabs.T) : ¬ Al A P := fun q => by
  obtain ⟨o, e, m⟩ := R.there q
  obtain ⟨⟨o', e', t⟩, _⟩ := R.tb P h
  rw [e] at e'
  cases e'
  exact t.mut m
theorem Rel.fresh (R : Rel K B F ε σ H A) (h : H p = none) : F p = none ∧ ¬ Al A p ∧ B.H0 p = none :=
  ⟨R.sub.none h, (fun q => by
    obtain ⟨o, e, _⟩ := R.there q
    rw [h] at e
    cases e), R.bdom p h⟩
/-- something was done that left the owned things alone -/
theorem Rel.ext (R : Rel K B F ε σ H A) (x : Ext F H F' H' []) (s : Sub F' H') : Rel K B F' ε σ H' A := by
  have none_ : ∀ a, ¬ Al [] a := fun a ⟨i, As, h, _⟩ => by simp at h
  have keep : ∀ a, Al A a → ∀ u, H a = some u → H' a = some u := fun a ha u e => by
    obtain ⟨o, e2, m⟩ := R.there ha
    rw [e] at e2
    cases e2
    exact (x.stay s e m (R.dis a ha) (none_ a)).1
  refine ⟨s, R.len, R.lenA, fun i s o As h1 h2 h3 => (R.own i s o As h1 h2 h3).mono x.rdx fun a ha u e => keep a ⟨i, As, h3, ha⟩ u e, R.nd, fun a ha => ?_, fun a o h na => ?_, R.bex.trans x.ex, fun a u h => ?_, R.bown, fun a h => R.bdom a (x.dom a h), R.bio, fun P hP => x.tab s (none_ P) (R.tb P hP)⟩
  · obtain ⟨o, e, m⟩ := R.there ha
    exact (x.stay s e m (R.dis a ha) (none_ a)).2
  · exact (R.bfr a o h na).trans R.bex (fun o' q => x.fr a o' q (none_ a)) (R.bnew a) h
  · rcases x.new a u h with q | q | q
    · exact R.bnew a u q
    · exact .inr (.inl (R.bdom a q))
    · exact .inr (.inr q)
theorem Ext.less (x : Ext F H F' H' []) : Ext F H F' H' A := ⟨x.ex, x.new, fun a o h _ => x.fr a o h fun ⟨i, As, q, _⟩ => by simp at q, x.dom⟩
/-- a new object, frozen at once -/
theorem ext_new (hp : H p = none) (s : Sub F H) : Ext F H (upd F p u) (upd H p u) [] where
  ex := Ex.new (s.none hp)
  new := fun a v h => by
    by_cases e : a = p
    · subst e; exact .inr (.inl hp)
    · rw [upd_ne e] at h; exact .inl h
  fr := fun a o h _ => .inl (by rw [upd_ne (ne_of_none h hp)]; exact h)
  dom := fun a h => by
    by_cases e : a = p
    · subst e; exact hp
    · rw [upd_ne e] at h; exact h
theorem sub_new (hp : H p = none) (s : Sub F H) : Sub (upd F p u) (upd H p u) := fun a v h => by
  by_cases e : a = p
  · subst e
    rw [upd_same] at h
    exact .inl (by rw [upd_same]; exact h)
  · rw [upd_ne e] at h ⊢
    exact s a v h
/-- a new object, not frozen -/
theorem ext_tmp (hp : H p = none) (s : Sub F H) : Ext F H F (upd H p u) [] where
  ex := Ex.refl F
  new := fun a v h => .inl h
  fr := fun a o h _ => .inl (by rw [upd_ne (ne_of_none h hp)]; exact h)
  dom := (ext_new (u := u) hp s).dom
theorem sub_tmp (hp : F p = none) (s : Sub F H) : Sub F (upd H p u) := fun a v h => by
  rw [upd_ne (ne_of_none h hp)]
  exact s a v h
theorem Rel.new (R : Rel K B F ε σ H A) (hp : H p = none) : Rel K B (upd F p u) ε σ (upd H p u) A := R.ext (ext_new hp R.sub) (sub_new hp R.sub)
theorem Rel.tmp (R : Rel K B F ε σ H A) (hp : H p = none) : Rel K B F ε σ (upd H p u) A := R.ext (ext_tmp hp R.sub) (sub_tmp (R.sub.none hp) R.sub)
/-- a temporary thing changes -/
theorem Rel.tmpSet (R : Rel K B F ε σ H A) (hp : H p = some o) (hf : F p = none) (ha : ¬ Al A p) (h0 : B.H0 p = none) : Rel K B F ε σ (upd H p u) A := by
  have keep : ∀ a, Al A a → ∀ v, H a = some v → upd H p u a = some v := fun a q v e => by
    rw [upd_ne (fun z => ha (by rw [← z]; exact q))]; exact e
  refine ⟨sub_tmp hf R.sub, R.len, R.lenA, fun i s o As h1 h2 h3 => (R.own i s o As h1 h2 h3).mono (RdX.refl F) fun a q v e => keep a ⟨i, As, h3, q⟩ v e, R.nd, R.dis, fun a o h na => ?_, R.bex, R.bnew, R.bown, fun a h => ?_, R.bio, fun P hP => ?_⟩
  · have hne : a ≠ p := fun z => by subst z; rw [h0] at h; cases h
    rcases R.bfr a o h na with q | ⟨f, m, od, q⟩ | ⟨t, o', q, t'⟩
    · exact .inl (by rw [upd_ne hne]; exact q)
    · exact .inr (.inl ⟨f, m, od, by rw [upd_ne hne]; exact q⟩)
    · exact .inr (.inr ⟨t, o', by rw [upd_ne hne]; exact q, t'⟩)
  · by_cases e : a = p
    · subst e; exact h0
    · rw [upd_ne e] at h; exact R.bdom a h
  · obtain ⟨⟨o1, e1, t1⟩, e2, e3⟩ := R.tb P hP
    exact ⟨⟨o1, by rw [upd_ne (fun z => e3 (by rw [z]; exact h0))]; exact e1, t1⟩, e2, e3⟩
/-- only owned things changed -/
theorem Rel.step (R : Rel K B F ε σ H A) (x : Ext F H F' H' A) (s : Sub F' H') (hl : ε'.length = ε.length) (own' : ∀ (i : Nat) (s : Sl) (o : Option V) (As : List Addr), ε'[i]? = some s → σ[i]? = some o → A[i]? = some As → OwnS K F' H' s o As)
    (dis' : ∀ a, Al A a → F' a = none) : Rel K B F' ε' σ H' A := by
  refine ⟨s, hl.trans R.len, R.lenA, own', R.nd, dis', fun a o h na => ?_, R.bex.trans x.ex, fun a u h => ?_, R.bown, fun a h => R.bdom a (x.dom a h), R.bio, fun P hP => x.tab s (R.noTb hP) (R.tb P hP)⟩
  · have hA : ¬ Al A a := fun z => by
      rcases R.bown a z with q | q
      · exact na q
      · rw [h] at q; cases q
    exact (R.bfr a o h na).trans R.bex (fun o' q => x.fr a o' q hA) (R.bnew a) h
  · rcases x.new a u h with q | q | q
    · exact R.bnew a u q
    · exact .inr (.inl (R.bdom a q))
    · exact .inr (.inr q)
end
end Rl

set_option Elab.async false
set_option linter.all false
set_option maxRecDepth 100000
set_option autoImplicit false
set_option maxHeartbeats 1000000
/-! Rl, part 2: readings of expressions by mirrors. -/
noncomputable section
namespace Rl
open PySem PySem.Spec PyProof.Rows L2
variable [Tabs]

/-! ### weaker readings -/
section
variable {X : Cx}
theorem peImp {e : Expr} {t t' : TE} (h : PE X e t) (i : ∀ σ H Q, t' σ H Q → t σ H Q) : PE X e t' := ⟨fun pins s σ H Q I q => h.run pins s σ H Q I (i σ H Q q)⟩
theorem ptImp {e : Expr} {t t' : TT} (h : PT X e t) (i : ∀ σ H Q, t' σ H Q → t σ H Q) : PT X e t' := ⟨fun pins s σ H Q I q => h.run pins s σ H Q I (i σ H Q q)⟩
theorem paImp {e : List Expr} {t t' : TA} (h : PA X e t) (i : ∀ σ H Q, t' σ H Q → t σ H Q) : PA X e t' := ⟨fun pos pins s σ H Q I q => h.run pos pins s σ H Q I (i σ H Q q)⟩
theorem psImp {e : Stmt} {t t' : TS} (h : PS X e t) (i : ∀ D σ H, t' D σ H → t D σ H) : PS X e t' := ⟨fun pins s σ H D I q => h.run pins s σ H D I (i D σ H q)⟩
theorem pssImp {e : List Stmt} {t t' : TS} (h : PSs X e t) (i : ∀ D σ H, t' D σ H → t D σ H) : PSs X e t' := ⟨fun pins s σ H D I q => h.run pins s σ H D I (i D σ H q)⟩
theorem piImp {tg e : Expr} {t t' : TI} (h : PI X tg e t) (i : ∀ σ H R, t' σ H R → t σ H R) : PI X tg e t' := ⟨fun pins s σ H R I q => h.run pins s σ H R I (i σ H R q)⟩
end

/-! ### mirrors -/
abbrev ME := List Sl → Option (D × List Sl)
abbrev MT := List Sl → Option (Bool × List Sl)
abbrev MA := List Sl → Option (List D × List Sl)
abbrev MN := List Sl → Option (Sl × List Sl)
/-- what an operand is: data, or an own thing of a slot, looked at when it is needed -/
inductive Vw where
  | d (x : D)
  | sl (i : Nat)
abbrev MV := List Sl → Option (Vw × List Sl)
def slotD (ε : List Sl) (i : Nat) : Option D := match ε[i]? with
  | some (.lst ds) => some (.lst ds)
  | some (.dic t ks vs) => some (.dic t ks vs)
  | _ => none
def Vw.get (ε : List Sl) : Vw → Option D
  | .d x => some x
  | .sl i => slotD ε i

def VwOk (K : PySem.W.Frag) (F : Hp) (σ : L2.St) (A : List (List Addr)) : Vw → V → Prop
  | .d x, v => Rep K F x v
  | .sl i, v => ∃ a, v = .ref a ∧ σ[i]? = some (some (.ref a)) ∧ A[i]? = some [a]
/-- data whose outermost list or dict may be an own one -/
def RepT (K : PySem.W.Frag) (F H : Hp) : D → V → Prop
  | .lst ds, v => ∃ a xs, v = .ref a ∧ Rd H a (.lst xs) ∧ Reps K F ds xs
  | .scr ds, v => ∃ a xs, v = .ref a ∧ SqL K H a xs ∧ Reps K F ds xs
  | .dic t ks ds, v => ∃ a xs, v = .ref a ∧ DicIn (Rd H a) t ks xs ∧ Reps K F ds xs
  | d, v => Rep K F d v
/-- a new own thing -/
def NewS (K : PySem.W.Frag) (F H : Hp) (A : List (List Addr)) (H0 : Hp) (s : Sl) (v : V) : Prop :=
  ∃ p, v = .ref p ∧ OwnS K F H s (some v) [p] ∧ F p = none ∧ ¬ Al A p ∧ H0 p = none

section
variable {K : PySem.W.Frag} {B : Bs} {F F' F1 F2 H H' H1 H2 : Hp} {ε ε' : List Sl} {σ : L2.St} {A : List (List Addr)} {a p : Addr} {o u : HO} {d : D} {v : V}
theorem VwOk.mono {w : Vw} (h : VwOk K F σ A w v) (e : RdX F F') : VwOk K F' σ A w v := by
  cases w with
  | d x => exact Rep.mono' e (show Rep K F x v from h)
  | sl i => exact h
theorem Rep.rept (h : Rep K F d v) (s : Sub F H) : RepT K F H d v := by
  cases d with
  | lst ds =>
    obtain ⟨a, xs, h1, h2, h3⟩ := h
    exact ⟨a, xs, h1, s.rdx.1 a _ trivial h2, h3⟩
  | scr ds =>
    obtain ⟨a, xs, h1, h2, h3⟩ := h
    exact ⟨a, xs, h1, s.rdx.l h2, h3⟩
  | dic t ks ds =>
    obtain ⟨a, xs, h1, h2, h3⟩ := h
    exact ⟨a, xs, h1, h2.mono fun u _ ⟨o, q⟩ => .inr ⟨o, s.frz q⟩, h3⟩
  | _ => exact h
theorem VwOk.rept {w : Vw} (R : Rel K B F ε σ H A) (h : VwOk K F σ A w v) (g : w.get ε = some d) : RepT K F H d v := by
  cases w with
  | d x =>
    cases (Option.some.inj (show some x = some d from g))
    exact Rep.rept h R.sub
  | sl i =>
    obtain ⟨a, rfl, h2, h3⟩ := h
    have g' : slotD ε i = some d := g
    unfold slotD at g'
    split at g'
    · rename_i ds e
      cases g'
      obtain ⟨b, xs, q1, q2, q3, q4⟩ := R.own i _ _ _ e h2 h3
      cases q1
      exact ⟨_, xs, rfl, .inl q3, q4⟩
    · rename_i t ks vs e
      cases g'
      obtain ⟨b, xs, q1, q2, q3, q4⟩ := R.own i _ _ _ e h2 h3
      cases q1
      exact ⟨_, xs, rfl, q3.mono fun u _ q => .inl q, q4⟩
    · cases g'
/-- an own thing is frozen -/
theorem Rel.freeze (R : Rel K B F ε σ H A) (hp : H p = some u) (hf : F p = none) (ha : ¬ Al A p) (h0 : B.H0 p = none) : Rel K B (upd F p u) ε σ H A := by
  have e : Ex F (upd F p u) := Ex.new hf
  refine ⟨fun a v h => ?_, R.len, R.lenA, fun i s o As h1 h2 h3 => (R.own i s o As h1 h2 h3).mono e.rdx fun _ _ _ q => q, R.nd, fun a q => ?_, R.bfr, R.bex.trans e, fun a v h => ?_, R.bown, R.bdom, R.bio, fun P hP => ?_⟩
  · by_cases z : a = p
    · subst z
      rw [upd_same] at h
      exact .inl (by rw [hp]; exact h)
    · rw [upd_ne z] at h
      exact R.sub a v h
  · rw [upd_ne (fun z => ha (by rw [← z]; exact q))]
    exact R.dis a q
  · by_cases z : a = p
    · subst z; exact .inr (.inl h0)
    · rw [upd_ne z] at h
      exact R.bnew a v h
  · obtain ⟨e1, e2, e3⟩ := R.tb P hP
    exact ⟨e1, by rw [upd_ne (fun z => e3 (by rw [z]; exact h0))]; exact e2, e3⟩
theorem updSelf {H : Hp} {a : Addr} {o : HO} (h : H a = some o) : upd H a o = H := by
  funext b
  by_cases e : b = a
  · subst e; rw [upd_same, h]
  · rw [upd_ne e]
/-- a thing that nobody else owns is frozen, a dict for good locked -/
theorem Rel.frz1 {X : Cx} {pins : List (Addr × Obj)} {sh : Shared} {s : Sl} {Hs : Hp} (I : Inv X pins σ H sh) (R : Rel X.K B F ε σ H A) (n : NewS X.K F H A Hs s v) (g : s.toD = some d) (h0 : ∀ p, Hs p = none → B.H0 p = none) :
    ∃ p u, Inv X pins σ (upd H p u) sh ∧ Rel X.K B (upd F p u) ε σ (upd H p u) A ∧ F p = none ∧ H p ≠ none ∧ ¬ Al A p ∧ Hs p = none ∧ Rep X.K (upd F p u) d v := by
  obtain ⟨p, rfl, h1, h2, h3, h4⟩ := n
  have e : ∀ u, RdX F (upd F p u) := fun u => (Ex.new h2).rdx
  have lock : ∀ u, H p = some u → Mut (some u) → ∃ od, Inv X pins σ (upd H p (.frz od u)) sh ∧ Rel X.K B (upd F p (.frz od u)) ε σ (upd H p (.frz od u)) A := fun u hu mu => by
    obtain ⟨od, I2⟩ := I.lock hu mu
    exact ⟨od, I2, (R.tmpSet (u := .frz od u) hu h2 h3 (h0 p h4)).freeze upd_same h2 h3 (h0 p h4)⟩
  cases s with
  | un => cases g
  | dl ks vss => obtain ⟨a, as, kvs, q1, q2, q3, q4, q5, q6⟩ := h1; cases g
  | val x => exact absurd h1.1 (by simp)
  | lst ds =>
    cases g
    obtain ⟨a, xs, q1, q2, q3, q4⟩ := h1
    cases q1
    refine ⟨p, .lst xs, ?_, ?_, h2, by rw [q3]; simp, h3, h4, p, xs, rfl, .inl upd_same, q4.mono' (e _)⟩
    · rw [updSelf q3]; exact I
    · rw [updSelf q3]; exact R.freeze q3 h2 h3 (h0 p h4)
  | dic t ks vs =>
    cases g
    obtain ⟨a, xs, q1, q2, q3, q4⟩ := h1
    cases q1
    cases t with
    | false =>
      obtain ⟨kvs, r, q⟩ := q3
      obtain ⟨od, I2, R2⟩ := lock _ r trivial
      exact ⟨p, _, I2, R2, h2, by rw [r]; simp, h3, h4, p, xs, rfl, ⟨kvs, ⟨od, upd_same⟩, q⟩, q4.mono' (e _)⟩
    | true =>
      obtain ⟨kvs, r, q⟩ := q3
      obtain ⟨od, I2, R2⟩ := lock _ r trivial
      exact ⟨p, _, I2, R2, h2, by rw [r]; simp, h3, h4, p, xs, rfl, ⟨kvs, ⟨od, upd_same⟩, q⟩, q4.mono' (e _)⟩
end

/-! ### readings -/
def rE (K : PySem.W.Frag) (m : ME) : TE := fun σ H Q => ∃ B F ε A d ε', Rel K B F ε σ H A ∧ m ε = some (d, ε') ∧ ∀ v F' H', Rel K B F' ε' σ H' A → Ext F H F' H' A → Rep K F' d v → Q v H'
def rV (K : PySem.W.Frag) (m : MV) : TE := fun σ H Q => ∃ B F ε A w ε', Rel K B F ε σ H A ∧ m ε = some (w, ε') ∧ ∀ v F' H', Rel K B F' ε' σ H' A → Ext F H F' H' A → VwOk K F' σ A w v → Q v H'
def rT (K : PySem.W.Frag) (m : MT) : TT := fun σ H Q => ∃ B F ε A b ε', Rel K B F ε σ H A ∧ m ε = some (b, ε') ∧ ∀ F' H', Rel K B F' ε' σ H' A → Ext F H F' H' A → Q b H'
def rA (K : PySem.W.Frag) (m : MA) : TA := fun σ H Q => ∃ B F ε A ds ε', Rel K B F ε σ H A ∧ m ε = some (ds, ε') ∧ ∀ vs F' H', Rel K B F' ε' σ H' A → Ext F H F' H' A → Reps K F' ds vs → Q vs H'
def rN (K : PySem.W.Frag) (m : MN) : TE := fun σ H Q => ∃ B F ε A s ε', Rel K B F ε σ H A ∧ m ε = some (s, ε') ∧ ∀ v F' H', Rel K B F' ε' σ H' A → Ext F H F' H' A → NewS K F' H' A H s v → Q v H'

def eFr (m : MN) : ME := fun ε => (m ε).bind fun p => (p.1.toD).bind fun d => some (d, p.2)
def vE (m : ME) : MV := fun ε => (m ε).bind fun p => some (.d p.1, p.2)
def eC (d : D) : ME := fun ε => some (d, ε)
def eVar (i : Nat) : ME := fun ε => match ε[i]? with
  | some (.val d) => some (d, ε)
  | _ => none
def vVar (i : Nat) : MV := fun ε => match ε[i]? with
  | some (.val d) => some (.d d, ε)
  | some (.lst _) => some (.sl i, ε)
  | some (.dic _ _ _) => some (.sl i, ε)
  | _ => none
def aNil : MA := fun ε => some ([], ε)
def aCons (m : ME) (r : MA) : MA := fun ε => (m ε).bind fun p => (r p.2).bind fun q => some (p.1 :: q.1, q.2)

section
variable {X : Cx} {e a b : Expr} {es : List Expr} {pos : Pos}
theorem ie_fr {m : MN} (h : PE X e (rN X.K m)) : PE X e (rE X.K (eFr m)) := by
  refine ⟨fun pins s σ H Q I hh => ?_⟩
  obtain ⟨B, F, ε, A, d, ε', R, hm, q⟩ := hh
  simp only [eFr, Option.bind_eq_some_iff] at hm
  obtain ⟨⟨sl, ε1⟩, h1, d', h2, h3⟩ := hm
  obtain ⟨rfl, rfl⟩ : d' = d ∧ ε1 = ε' := by cases h3; exact ⟨rfl, rfl⟩
  refine thn (h.run pins s σ H (fun v H1 => ∃ F1, Rel X.K B F1 ε1 σ H1 A ∧ Ext F H F1 H1 A ∧ NewS X.K F1 H1 A H sl v) I ⟨B, F, ε, A, sl, _, R, h1, fun v F' H' R' x n => ⟨F', R', x, n⟩⟩) fun u s1 ⟨v, H1, I1, rv, F1, R1, x1, n1⟩ => ?_
  obtain ⟨p, w, I2, R2, h5, h5', h6, h7, h8⟩ := R1.frz1 I1 n1 h2 R.bdom
  refine ⟨v, _, I2, rv, q v _ _ R2 ?_ h8⟩
  refine ⟨x1.ex.trans (Ex.new h5), fun a z ha => ?_, fun a o ha na => ?_, fun a ha => ?_⟩
  · by_cases e : a = p
    · subst e; exact .inr (.inl h7)
    · rw [upd_ne e] at ha; exact x1.new a z ha
  · have hne : a ≠ p := fun z => by rw [z, h7] at ha; cases ha
    rcases x1.fr a o ha na with z | ⟨z1, z2, od, z3⟩ | ⟨t, o', z, t'⟩
    · exact .inl (by rw [upd_ne hne]; exact z)
    · exact .inr (.inl ⟨z1, z2, od, by rw [upd_ne hne]; exact z3⟩)
    · exact .inr (.inr ⟨t, o', by rw [upd_ne hne]; exact z, t'⟩)
  · by_cases e : a = p
    · subst e; exact h7
    · rw [upd_ne e] at ha; exact x1.dom a ha
theorem iv_e {m : ME} (h : PE X e (rE X.K m)) : PE X e (rV X.K (vE m)) := by
  refine peImp h ?_
  rintro σ H Q ⟨B, F, ε, A, w, ε', R, hm, q⟩
  simp only [vE, Option.bind_eq_some_iff] at hm
  obtain ⟨⟨d, ε1⟩, h1, h3⟩ := hm
  cases h3
  exact ⟨B, F, ε, A, d, _, R, h1, fun v F' H' R' x r => q v F' H' R' x r⟩
theorem ie_c {d : D} {v : V} (h : PE X e (tC v)) (r : ∀ F, Rep X.K F d v) : PE X e (rE X.K (eC d)) := by
  refine peImp h ?_
  rintro σ H Q ⟨B, F, ε, A, d', ε', R, hm, q⟩
  cases hm
  exact q v F H R (Ext.refl F H A) (r F)
theorem ie_int {i : Int} {j : Nat} : PE X (.Constant (.int i) j pos) (rE X.K (eC (.int i))) := ie_c pe_int fun _ => rfl
theorem ie_bl {i : Bool} {j : Nat} : PE X (.Constant (.bool i) j pos) (rE X.K (eC (.bl i))) := ie_c pe_bl fun _ => rfl
theorem ie_non {j : Nat} : PE X (.Constant .none j pos) (rE X.K (eC .non)) := ie_c pe_non fun _ => rfl
theorem str_eta (x : Str) : (⟨x.cps.toList.toArray⟩ : Str) = x := by cases x; simp
theorem ie_str {x : Str} {j : Nat} {l : List Nat} (h : x.cps.toList = l := by first | rfl | decide +kernel) : PE X (.Constant (.str x) j pos) (rE X.K (eC (.str l))) := by
  subst h
  exact ie_c pe_str fun _ => by show V.str x = V.str _; rw [str_eta]
theorem ie_var (i : Nat) {x : Str} (h : PE X (.Name x pos) (tVar i)) : PE X (.Name x pos) (rE X.K (eVar i)) := by
  refine peImp h ?_
  rintro σ H Q ⟨B, F, ε, A, d, ε', R, hm, q⟩
  unfold eVar at hm
  split at hm
  · rename_i d' e
    cases hm
    obtain ⟨o, As, h1, h2, h3⟩ := R.idxE e
    obtain ⟨_, v, rfl, r⟩ := h3
    exact ⟨v, h1, q v F H R (Ext.refl F H A) r⟩
  · cases hm
theorem iv_var (i : Nat) {x : Str} (h : PE X (.Name x pos) (tVar i)) : PE X (.Name x pos) (rV X.K (vVar i)) := by
  refine peImp h ?_
  rintro σ H Q ⟨B, F, ε, A, d, ε', R, hm, q⟩
  unfold vVar at hm
  split at hm
  · rename_i d' e
    cases hm
    obtain ⟨o, As, h1, h2, h3⟩ := R.idxE e
    obtain ⟨_, v, rfl, r⟩ := h3
    exact ⟨v, h1, q v F H R (Ext.refl F H A) r⟩
  · rename_i d' e
    cases hm
    obtain ⟨o, As, h1, h2, a, xs, rfl, rfl, h3⟩ := R.idxE e
    exact ⟨_, h1, q _ F H R (Ext.refl F H A) ⟨a, rfl, h1, h2⟩⟩
  · rename_i t ks vs e
    cases hm
    obtain ⟨o, As, h1, h2, a, xs, rfl, rfl, h3⟩ := R.idxE e
    exact ⟨_, h1, q _ F H R (Ext.refl F H A) ⟨a, rfl, h1, h2⟩⟩
  · cases hm
theorem ia_nil : PA X [] (rA X.K aNil) := by
  refine paImp pa_nil ?_
  rintro σ H Q ⟨B, F, ε, A, d, ε', R, hm, q⟩
  cases hm
  exact q [] F H R (Ext.refl F H A) rfl
theorem ia_cons {m : ME} {r : MA} (h : PE X e (rE X.K m)) (t : PA X es (rA X.K r)) (hs : starEach (e :: es) X.env = (false, eval e X.env) :: starEach es X.env := by rfl) : PA X (e :: es) (rA X.K (aCons m r)) := by
  refine paImp (pa_cons h t hs) ?_
  rintro σ H Q ⟨B, F, ε, A, d, ε', R, hm, q⟩
  simp only [aCons, Option.bind_eq_some_iff] at hm
  obtain ⟨⟨d1, ε1⟩, h1, ⟨ds, ε2⟩, h2, h3⟩ := hm
  cases h3
  refine ⟨B, F, ε, A, d1, ε1, R, h1, fun v F1 H1 R1 x1 r1 => ?_⟩
  refine ⟨B, F1, ε1, A, ds, _, R1, h2, fun vs F2 H2 R2 x2 r2 => ?_⟩
  exact q _ F2 H2 R2 (x1.trans x2) (.cons (r1.mono' x2.rdx) r2)
end

/-! ### displays -/
def szOk (n : Nat) : Bool := opq (fun n : Nat => decide (n ≤ sizeLine)) n
omit [Tabs] in
theorem szOk_eq (n : Nat) : szOk n = decide (n ≤ sizeLine) := opq_eq _ n
def eTup (m : MA) : ME := fun ε => (m ε).bind fun p => if szOk p.1.length then some (.tup p.1, p.2) else none
def nLst (m : MA) : MN := fun ε => (m ε).bind fun p => if szOk p.1.length then some (.lst p.1, p.2) else none
theorem szOk_le {n : Nat} (h : szOk n = true) : n ≤ sizeLine := of_decide_eq_true (by rw [← szOk_eq]; exact h)
section
variable {X : Cx} {e a b : Expr} {es : List Expr} {pos : Pos}
theorem ie_tup {x1 : Nat} {m : MA} (h : PA X es (rA X.K m)) : PE X (.Tuple es x1 pos) (rE X.K (eTup m)) := by
  refine peImp (pe_tup h) ?_
  rintro σ H Q ⟨B, F, ε, A, d, ε', R, hm, q⟩
  simp only [eTup, Option.bind_eq_some_iff] at hm
  obtain ⟨⟨ds, ε1⟩, h1, h2⟩ := hm
  split at h2
  · rename_i hz
    cases h2
    refine ⟨B, F, ε, A, ds, _, R, h1, fun vs F1 H1 R1 x1 r1 => ⟨by rw [← r1.length]; exact szOk_le hz, fun p hp => ?_⟩⟩
    exact q _ _ _ (R1.new hp) (x1.trans (ext_new hp R1.sub).less) ⟨p, vs, rfl, upd_same, r1.mono' (Ex.new (R1.sub.none hp)).rdx⟩
  · cases h2
theorem in_lst {m : MA} (h : PA X es (rA X.K m)) : PE X (.List es pos) (rN X.K (nLst m)) := by
  refine peImp (pe_lst h) ?_
  rintro σ H Q ⟨B, F, ε, A, d, ε', R, hm, q⟩
  simp only [nLst, Option.bind_eq_some_iff] at hm
  obtain ⟨⟨ds, ε1⟩, h1, h2⟩ := hm
  split at h2
  · rename_i hz
    cases h2
    refine ⟨B, F, ε, A, ds, _, R, h1, fun vs F1 H1 R1 x1 r1 => ⟨by rw [← r1.length]; exact szOk_le hz, fun p hp => ?_⟩⟩
    refine q _ F1 _ (R1.tmp hp) (x1.trans (ext_tmp hp R1.sub).less) ⟨p, rfl, ⟨p, vs, rfl, rfl, upd_same, r1⟩, R1.sub.none hp, (R1.fresh hp).2.1, x1.dom p hp⟩
  · cases h2
end

/-! ### operations by values -/
/-- what an operation may end with: a value that is there, or a new frozen object -/
structure Fin (K : PySem.W.Frag) (F H : Hp) (d : D) (Q : VK) : Prop where
  old : ∀ v, Rep K F d v → Q v H
  new : ∀ p u, H p = none → Rep K (upd F p u) d (.ref p) → Q (.ref p) (upd H p u)
structure OpD (X : Cx) (f : Value → Value → Sem Value) (g : D → D → Option D) : Prop where
  ok : ∃ r : R2, OpR X f r ∧ ∀ (F H : Hp) (dx dy d : D) (x y : V) (Q : VK), g dx dy = some d → Sub F H → RepT X.K F H dx x → RepT X.K F H dy y → Fin X.K F H d Q → r x y H Q
structure IxD (X : Cx) (g : D → D → Option D) : Prop where
  ok : ∃ r : R2, IxR X r ∧ ∀ (F H : Hp) (dx dy d : D) (x y : V) (Q : VK), g dx dy = some d → Sub F H → RepT X.K F H dx x → RepT X.K F H dy y → Fin X.K F H d Q → r x y H Q
structure UnD (X : Cx) (f : Value → Sem Value) (g : D → Option D) : Prop where
  ok : ∃ r : V → Hp → VK → Prop, UnR X f r ∧ ∀ (F H : Hp) (dx d : D) (x : V) (Q : VK), g dx = some d → Sub F H → RepT X.K F H dx x → Fin X.K F H d Q → r x H Q
structure CallD1 (X : Cx) (f : Value) (g : D → Option D) : Prop where
  ok : ∃ r : List V → Hp → VK → Prop, CallR X f r ∧ ∀ (F H : Hp) (dx d : D) (x : V) (Q : VK), g dx = some d → Sub F H → RepT X.K F H dx x → Fin X.K F H d Q → r [x] H Q
structure CallD2 (X : Cx) (f : Value) (g : D → D → Option D) : Prop where
  ok : ∃ r : List V → Hp → VK → Prop, CallR X f r ∧ ∀ (F H : Hp) (dx dy d : D) (x y : V) (Q : VK), g dx dy = some d → Sub F H → RepT X.K F H dx x → RepT X.K F H dy y → Fin X.K F H d Q → r [x, y] H Q
/-- a call that makes a new list -/
structure CallN1 (X : Cx) (f : Value) (g : D → Option (List D)) : Prop where
  ok : ∃ r : List V → Hp → VK → Prop, CallR X f r ∧ ∀ (F H : Hp) (dx : D) (ds : List D) (x : V) (Q : VK), g dx = some ds → Sub F H → RepT X.K F H dx x → (∀ p ys, H p = none → Reps X.K F ds ys → Q (.ref p) (upd H p (.lst ys))) → r [x] H Q

def eOp (g : D → D → Option D) (a b : MV) : ME := fun ε => (a ε).bind fun p => (b p.2).bind fun q => (p.1.get q.2).bind fun x => (q.1.get q.2).bind fun y => (g x y).bind fun d => some (d, q.2)
def eUn (g : D → Option D) (a : MV) : ME := fun ε => (a ε).bind fun p => (p.1.get p.2).bind fun x => (g x).bind fun d => some (d, p.2)
def nUn (g : D → Option (List D)) (a : MV) : MN := fun ε => (a ε).bind fun p => (p.1.get p.2).bind fun x => (g x).bind fun ds => some (.lst ds, p.2)

section
variable {X : Cx} {e a b : Expr} {es : List Expr} {pos : Pos} {ma mb : MV} {g : D → D → Option D} {g1 : D → Option D}
theorem Fin.of {B : Bs} {F F' H H' : Hp} {ε' : List Sl} {σ : L2.St} {A : List (List Addr)} {d : D} {Q : VK} (R' : Rel X.K B F' ε' σ H' A) (x : Ext F H F' H' A)
    (q : ∀ v F' H', Rel X.K B F' ε' σ H' A → Ext F H F' H' A → Rep X.K F' d v → Q v H') : Fin X.K F' H' d Q :=
  ⟨fun v r => q v F' H' R' x r, fun p u hp r => q _ _ _ (R'.new hp) (x.trans (ext_new hp R'.sub).less) r⟩
theorem seq2 {r : R2} {σ : L2.St} {H : Hp} {Q : VK} (hr : ∀ (F H : Hp) (dx dy d : D) (x y : V) (Q : VK), g dx dy = some d → Sub F H → RepT X.K F H dx x → RepT X.K F H dy y → Fin X.K F H d Q → r x y H Q) (h : rE X.K (eOp g ma mb) σ H Q) :
    rV X.K ma σ H fun x H1 => rV X.K mb σ H1 fun y H2 => r x y H2 Q := by
  obtain ⟨B, F, ε, A, d, ε', R, hm, q⟩ := h
  simp only [eOp, Option.bind_eq_some_iff] at hm
  obtain ⟨⟨w1, ε1⟩, h1, ⟨w2, ε2⟩, h2, dx, h3, dy, h4, dd, h5, h6⟩ := hm
  cases h6
  refine ⟨B, F, ε, A, w1, ε1, R, h1, fun v F1 H1 R1 x1 r1 => ?_⟩
  refine ⟨B, F1, ε1, A, w2, _, R1, h2, fun u F2 H2 R2 x2 r2 => ?_⟩
  exact hr F2 H2 dx dy d v u Q h5 R2.sub ((r1.mono x2.rdx).rept R2 h3) (r2.rept R2 h4) (Fin.of R2 (x1.trans x2) q)
theorem seq1 {r : V → Hp → VK → Prop} {σ : L2.St} {H : Hp} {Q : VK} (hr : ∀ (F H : Hp) (dx d : D) (x : V) (Q : VK), g1 dx = some d → Sub F H → RepT X.K F H dx x → Fin X.K F H d Q → r x H Q) (h : rE X.K (eUn g1 ma) σ H Q) :
    rV X.K ma σ H fun x H1 => r x H1 Q := by
  obtain ⟨B, F, ε, A, d, ε', R, hm, q⟩ := h
  simp only [eUn, Option.bind_eq_some_iff] at hm
  obtain ⟨⟨w1, ε1⟩, h1, dx, h3, dd, h5, h6⟩ := hm
  cases h6
  refine ⟨B, F, ε, A, w1, _, R, h1, fun v F1 H1 R1 x1 r1 => ?_⟩
  exact hr F1 H1 dx d v Q h5 R1.sub (r1.rept R1 h3) (Fin.of R1 x1 q)
theorem seqN {r : V → Hp → VK → Prop} {gn : D → Option (List D)} {σ : L2.St} {H : Hp} {Q : VK} (hr : ∀ (F H : Hp) (dx : D) (ds : List D) (x : V) (Q : VK), gn dx = some ds → Sub F H → RepT X.K F H dx x → (∀ p ys, H p = none → Reps X.K F ds ys → Q (.ref p) (upd H p (.lst ys))) → r x H Q)
    (h : rN X.K (nUn gn ma) σ H Q) : rV X.K ma σ H fun x H1 => r x H1 Q := by
  obtain ⟨B, F, ε, A, d, ε', R, hm, q⟩ := h
  simp only [nUn, Option.bind_eq_some_iff] at hm
  obtain ⟨⟨w1, ε1⟩, h1, dx, h3, ds, h5, h6⟩ := hm
  cases h6
  refine ⟨B, F, ε, A, w1, _, R, h1, fun v F1 H1 R1 x1 r1 => ?_⟩
  exact hr F1 H1 dx ds v Q h5 R1.sub (r1.rept R1 h3) fun p ys hp r => q _ F1 _ (R1.tmp hp) (x1.trans (ext_tmp hp R1.sub).less) ⟨p, rfl, ⟨p, ys, rfl, rfl, upd_same, r⟩, R1.sub.none hp, (R1.fresh hp).2.1, x1.dom p hp⟩
theorem ie_op {op : Operator} (ho : OpD X (binaryOp op) g) (ha : PE X a (rV X.K ma)) (hb : PE X b (rV X.K mb)) : PE X (.BinOp a op b pos) (rE X.K (eOp g ma mb)) := by
  obtain ⟨r, h1, h2⟩ := ho.ok
  exact peImp (pe_op h1 ha hb) fun σ H Q h => seq2 h2 h
theorem ie_cmp {op : CmpOp} (ho : OpD X (compareOp op) g) (ha : PE X a (rV X.K ma)) (hb : PE X b (rV X.K mb)) (hm : behindInMarks op b = false) : PE X (.Compare a [op] [b] pos) (rE X.K (eOp g ma mb)) := by
  obtain ⟨r, h1, h2⟩ := ho.ok
  exact peImp (pe_cmpR h1 ha hb hm) fun σ H Q h => seq2 h2 h
theorem ie_ix (ho : IxD X g) (ha : PE X a (rV X.K ma)) (hb : PE X b (rV X.K mb)) (hs : PlainIx b := by first | exact fun _ _ => rfl | (intro o i; rfl)) : PE X (.Subscript a b pos) (rE X.K (eOp g ma mb)) := by
  obtain ⟨r, h1, h2⟩ := ho.ok
  exact peImp (pe_ix h1 ha hb hs) fun σ H Q h => seq2 h2 h
theorem ie_un {op : UnaryOp} (ho : UnD X (unaryOp op) g1) (ha : PE X a (rV X.K ma)) : PE X (.UnaryOp op a pos) (rE X.K (eUn g1 ma)) := by
  obtain ⟨r, h1, h2⟩ := ho.ok
  exact peImp (pe_un h1 ha) fun σ H Q h => seq1 h2 h
section
variable {id T x : Str} {p : Pos}
theorem ie_callB1 {id : String} {x : Str} {p : Pos} (hc : CallD1 X (.builtin id) g1) (hg : Gl X x) (hm : X.mg x = none) (hv : bootBuiltins x = some (.builtin id)) (ha : PE X a (rV X.K ma)) (hn : x ≠ "__name__" := by decide) (hdb : (x == ("__debug__" : Str)) = false := by decide)
    (he : starEach [a] X.env = [(false, eval a X.env)] := by rfl) : PE X (.Call (.Name x p) [a] [] pos) (rE X.K (eUn g1 ma)) := by
  obtain ⟨r, h1, h2⟩ := hc.ok
  exact peImp (pe_callB h1 hg hm hv (pa_cons ha pa_nil he) hn hdb he (by rfl)) fun σ H Q h => seq1 (r := fun x H Q => r [x] H Q) h2 h
theorem ie_callT1 {T : String} {x : Str} {p : Pos} (hc : CallD1 X (.type T) g1) (hg : Gl X x) (hm : X.mg x = none) (hv : bootBuiltins x = some (.type T)) (ha : PE X a (rV X.K ma)) (hn : x ≠ "__name__" := by decide) (hdb : (x == ("__debug__" : Str)) = false := by decide)
    (he : starEach [a] X.env = [(false, eval a X.env)] := by rfl) : PE X (.Call (.Name x p) [a] [] pos) (rE X.K (eUn g1 ma)) := by
  obtain ⟨r, h1, h2⟩ := hc.ok
  exact peImp (pe_callTy h1 hg hm hv (pa_cons ha pa_nil he) hn hdb he (by rfl)) fun σ H Q h => seq1 (r := fun x H Q => r [x] H Q) h2 h
theorem in_callT1 {T : String} {x : Str} {p : Pos} {gn : D → Option (List D)} (hc : CallN1 X (.type T) gn) (hg : Gl X x) (hm : X.mg x = none) (hv : bootBuiltins x = some (.type T)) (ha : PE X a (rV X.K ma)) (hn : x ≠ "__name__" := by decide) (hdb : (x == ("__debug__" : Str)) = false := by decide)
    (he : starEach [a] X.env = [(false, eval a X.env)] := by rfl) : PE X (.Call (.Name x p) [a] [] pos) (rN X.K (nUn gn ma)) := by
  obtain ⟨r, h1, h2⟩ := hc.ok
  exact peImp (pe_callTy h1 hg hm hv (pa_cons ha pa_nil he) hn hdb he (by rfl)) fun σ H Q h => seqN (r := fun x H Q => r [x] H Q) h2 h
theorem in_callB1 {id : String} {x : Str} {p : Pos} {gn : D → Option (List D)} (hc : CallN1 X (.builtin id) gn) (hg : Gl X x) (hm : X.mg x = none) (hv : bootBuiltins x = some (.builtin id)) (ha : PE X a (rV X.K ma)) (hn : x ≠ "__name__" := by decide) (hdb : (x == ("__debug__" : Str)) = false := by decide)
    (he : starEach [a] X.env = [(false, eval a X.env)] := by rfl) : PE X (.Call (.Name x p) [a] [] pos) (rN X.K (nUn gn ma)) := by
  obtain ⟨r, h1, h2⟩ := hc.ok
  exact peImp (pe_callB h1 hg hm hv (pa_cons ha pa_nil he) hn hdb he (by rfl)) fun σ H Q h => seqN (r := fun x H Q => r [x] H Q) h2 h
theorem ie_callB2 {id : String} {x : Str} {p : Pos} (hc : CallD2 X (.builtin id) g) (hg : Gl X x) (hm : X.mg x = none) (hv : bootBuiltins x = some (.builtin id)) (ha : PE X a (rV X.K ma)) (hb : PE X b (rV X.K mb)) (hn : x ≠ "__name__" := by decide) (hdb : (x == ("__debug__" : Str)) = false := by decide)
    (he : starEach [a, b] X.env = (false, eval a X.env) :: starEach [b] X.env := by rfl) (he2 : starEach [b] X.env = [(false, eval b X.env)] := by rfl) (hpl : (backTo pos (starEach [b] X.env)).any (·.1) = false := by rfl) : PE X (.Call (.Name x p) [a, b] [] pos) (rE X.K (eOp g ma mb)) := by
  obtain ⟨r, h1, h2⟩ := hc.ok
  exact peImp (pe_callB h1 hg hm hv (pa_cons ha (pa_cons hb pa_nil he2) he) hn hdb he hpl) fun σ H Q h => seq2 (r := fun x y H Q => r [x, y] H Q) h2 h
end
end
end Rl
end

set_option Elab.async false
set_option linter.all false
set_option maxRecDepth 100000
set_option autoImplicit false
set_option maxHeartbeats 1000000
/-! Rl, part 3: tests, statements, loops by mirrors. -/
noncomputable section
namespace Rl
open PySem PySem.Spec PyProof.Rows L2
variable [Tabs]

/-! ### tests -/
def tOf (m : ME) : MT := fun ε => (m ε).bind fun p => match p.1 with
  | .bl b => some (b, p.2)
  | _ => none
/-- truth -/
def truD : D → Option Bool
  | .non => some false
  | .bl b => some b
  | .int i => some (i != 0)
  | .str s => if szOk s.length then some (!s.isEmpty) else none
  | .tup ds => some (!ds.isEmpty)
  | .lst ds => some (!ds.isEmpty)
  | .scr ds => some (!ds.isEmpty)
  | .dic _ _ _ => none
def tTru (m : MV) : MT := fun ε => (m ε).bind fun p => (p.1.get p.2).bind fun x => (truD x).bind fun b => some (b, p.2)
def tNot (m : MT) : MT := fun ε => (m ε).bind fun p => some (!p.1, p.2)
def tAnd (m n : MT) : MT := fun ε => (m ε).bind fun p => if p.1 then n p.2 else some (false, p.2)
def tOr (m n : MT) : MT := fun ε => (m ε).bind fun p => if p.1 then some (true, p.2) else n p.2
def eIf (c : MT) (a b : ME) : ME := fun ε => (c ε).bind fun p => if p.1 then a p.2 else b p.2
def nIf (c : MT) (a b : MN) : MN := fun ε => (c ε).bind fun p => if p.1 then a p.2 else b p.2
def vIf (c : MT) (a b : MV) : MV := fun ε => (c ε).bind fun p => if p.1 then a p.2 else b p.2
/-- a and b, a or b as values -/
def eAnd (a b : ME) : ME := fun ε => (a ε).bind fun p => (truD p.1).bind fun k => if k then b p.2 else some p
def eOr (a b : ME) : ME := fun ε => (a ε).bind fun p => (truD p.1).bind fun k => if k then some p else b p.2
def eNot (m : MV) : ME := fun ε => (m ε).bind fun p => (p.1.get p.2).bind fun x => (truD x).bind fun b => some (.bl (!b), p.2)

theorem truV_of {K : PySem.W.Frag} {F H : Hp} {d : D} {v : V} {b : Bool} (s : Sub F H) (r : RepT K F H d v) (h : truD d = some b) : TruV K v H b := by
  cases d with
  | non => cases h; rw [show v = .non from r]; exact rfl
  | bl c => cases h; rw [show v = .bl b from r]; exact rfl
  | int i => cases h; rw [show v = .int i from r]; exact rfl
  | str l =>
    simp only [truD] at h
    split at h
    · rename_i hz
      cases h
      rw [show v = .str ⟨l.toArray⟩ from r]
      have e : (⟨l.toArray⟩ : Str).length = l.length := by simp [Str.length]
      refine ⟨by rw [e]; exact szOk_le hz, ?_⟩
      rw [e]
      cases l with
      | nil => rfl
      | cons a l => simp; omega
    · cases h
  | tup ds =>
    cases h
    obtain ⟨a, xs, rfl, h2, h3⟩ := r
    refine .inr (.inl ⟨xs, SqT.of (s.tup h2), ?_⟩)
    have := h3.length
    cases ds <;> cases xs <;> simp_all
  | lst ds =>
    cases h
    obtain ⟨a, xs, rfl, h2, h3⟩ := r
    refine .inl ⟨xs, .inl h2, ?_⟩
    have := h3.length
    cases ds <;> cases xs <;> simp_all
  | scr ds =>
    cases h
    obtain ⟨a, xs, rfl, h2, h3⟩ := r
    refine .inl ⟨xs, h2, ?_⟩
    have := h3.length
    cases ds <;> cases xs <;> simp_all
  | dic t ks vs => cases h

section
variable {X : Cx} {e a b c : Expr} {rest : List Expr} {pos : Pos} {m n : MT} {me : ME} {ma mb : MV} {g : D → D → Option D}
theorem tOf_elim {t : TE} {σ : L2.St} {H : Hp} {Q : Bool → Hp → Prop} (h : rT X.K (tOf me) σ H Q) : rE X.K me σ H fun x H1 => ∃ k, x = .bl k ∧ Q k H1 := by
  obtain ⟨B, F, ε, A, d, ε', R, hm, q⟩ := h
  simp only [tOf, Option.bind_eq_some_iff] at hm
  obtain ⟨⟨d1, ε1⟩, h1, h2⟩ := hm
  cases d1 <;> try cases h2
  exact ⟨B, F, ε, A, _, _, R, h1, fun v F1 H1 R1 x1 r1 => ⟨_, r1, q F1 H1 R1 x1⟩⟩
theorem it_val (h : PE X e (rE X.K me)) (he : ∀ whole, isTrue e X.env whole = (do let v ← whole; standAt e.pos; holding [v] (truthy v)) := by intro _; rfl) : PT X e (rT X.K (tOf me)) :=
  ptImp (pt_val h he) fun σ H Q h => tOf_elim (t := rE X.K me) h
theorem it_cmp {op : CmpOp} (ho : OpD X (compareOp op) g) (ha : PE X a (rV X.K ma)) (hb : PE X b (rV X.K mb)) (hm : behindInMarks op b = false) : PT X (.Compare a [op] [b] pos) (rT X.K (tOf (eOp g ma mb))) := by
  obtain ⟨r, h1, h2⟩ := ho.ok
  refine ptImp (pt_cmpR h1 ha hb hm) fun σ H Q h => ?_
  exact seq2 h2 (tOf_elim (t := rE X.K (eOp g ma mb)) h)
theorem it_tru (h : PE X e (rV X.K ma)) (he : ∀ whole, isTrue e X.env whole = (do let v ← whole; standAt e.pos; holding [v] (truthy v)) := by intro _; rfl) : PT X e (rT X.K (tTru ma)) := by
  refine ptImp (pt_truth h he) ?_
  rintro σ H Q ⟨B, F, ε, A, d, ε', R, hm, q⟩
  simp only [tTru, Option.bind_eq_some_iff] at hm
  obtain ⟨⟨w, ε1⟩, h1, x, h2, k, h3, h4⟩ := hm
  cases h4
  exact ⟨B, F, ε, A, w, _, R, h1, fun v F1 H1 R1 x1 r1 => ⟨d, truV_of R1.sub (r1.rept R1 h2) h3, q F1 H1 R1 x1⟩⟩
theorem it_not (h : PT X e (rT X.K m)) : PT X (.UnaryOp .Not e pos) (rT X.K (tNot m)) := by
  refine ptImp (pt_not h) ?_
  rintro σ H Q ⟨B, F, ε, A, d, ε', R, hm, q⟩
  simp only [tNot, Option.bind_eq_some_iff] at hm
  obtain ⟨⟨k, ε1⟩, h1, h4⟩ := hm
  cases h4
  exact ⟨B, F, ε, A, k, _, R, h1, q⟩
theorem pwImp {e : Expr} {t t' : TT} (h : PW X e t) (i : ∀ σ H Q, t' σ H Q → t σ H Q) : PW X e t' := ⟨fun wh pins s σ H Q I q => h.run wh pins s σ H Q I (i σ H Q q)⟩
theorem iw_and1 (h : PT X a (rT X.K m)) : PW X (.BoolOp .And [a] pos) (rT X.K m) := pw_and1 h
theorem iw_or1 (h : PT X a (rT X.K m)) : PW X (.BoolOp .Or [a] pos) (rT X.K m) := pw_or1 h
theorem iw_and (h : PT X a (rT X.K m)) (t : PW X (.BoolOp .And (b :: rest) pos) (rT X.K n)) : PW X (.BoolOp .And (a :: b :: rest) pos) (rT X.K (tAnd m n)) := by
  refine pwImp (pw_and h t) ?_
  rintro σ H Q ⟨B, F, ε, A, d, ε', R, hm, q⟩
  simp only [Rl.tAnd, Option.bind_eq_some_iff] at hm
  obtain ⟨⟨k, ε1⟩, h1, h2⟩ := hm
  refine ⟨B, F, ε, A, k, _, R, h1, fun F1 H1 R1 x1 => ?_⟩
  cases k with
  | true =>
    rw [if_pos rfl] at h2 ⊢
    exact ⟨B, F1, ε1, A, d, _, R1, h2, fun F2 H2 R2 x2 => q F2 H2 R2 (x1.trans x2)⟩
  | false =>
    cases h2
    exact q F1 H1 R1 x1
theorem iw_or (h : PT X a (rT X.K m)) (t : PW X (.BoolOp .Or (b :: rest) pos) (rT X.K n)) : PW X (.BoolOp .Or (a :: b :: rest) pos) (rT X.K (tOr m n)) := by
  refine pwImp (pw_or h t) ?_
  rintro σ H Q ⟨B, F, ε, A, d, ε', R, hm, q⟩
  simp only [Rl.tOr, Option.bind_eq_some_iff] at hm
  obtain ⟨⟨k, ε1⟩, h1, h2⟩ := hm
  refine ⟨B, F, ε, A, k, _, R, h1, fun F1 H1 R1 x1 => ?_⟩
  cases k with
  | false => exact ⟨B, F1, ε1, A, d, _, R1, h2, fun F2 H2 R2 x2 => q F2 H2 R2 (x1.trans x2)⟩
  | true =>
    cases h2
    exact q F1 H1 R1 x1
theorem ie_if {x y : ME} (h : PT X c (rT X.K m)) (ha : PE X a (rE X.K x)) (hb : PE X b (rE X.K y)) : PE X (.IfExp c a b pos) (rE X.K (eIf m x y)) := by
  refine peImp (pe_ifExp h ha hb) ?_
  rintro σ H Q ⟨B, F, ε, A, d, ε', R, hm, q⟩
  simp only [eIf, Option.bind_eq_some_iff] at hm
  obtain ⟨⟨k, ε1⟩, h1, h2⟩ := hm
  refine ⟨B, F, ε, A, k, _, R, h1, fun F1 H1 R1 x1 => ?_⟩
  cases k with
  | true => exact ⟨B, F1, ε1, A, d, _, R1, h2, fun v F2 H2 R2 x2 r => q v F2 H2 R2 (x1.trans x2) r⟩
  | false => exact ⟨B, F1, ε1, A, d, _, R1, h2, fun v F2 H2 R2 x2 r => q v F2 H2 R2 (x1.trans x2) r⟩
theorem iv_if {x y : MV} (h : PT X c (rT X.K m)) (ha : PE X a (rV X.K x)) (hb : PE X b (rV X.K y)) : PE X (.IfExp c a b pos) (rV X.K (vIf m x y)) := by
  refine peImp (pe_ifExp h ha hb) ?_
  rintro σ H Q ⟨B, F, ε, A, d, ε', R, hm, q⟩
  simp only [vIf, Option.bind_eq_some_iff] at hm
  obtain ⟨⟨k, ε1⟩, h1, h2⟩ := hm
  refine ⟨B, F, ε, A, k, _, R, h1, fun F1 H1 R1 x1 => ?_⟩
  cases k with
  | true => exact ⟨B, F1, ε1, A, d, _, R1, h2, fun v F2 H2 R2 x2 r => q v F2 H2 R2 (x1.trans x2) r⟩
  | false => exact ⟨B, F1, ε1, A, d, _, R1, h2, fun v F2 H2 R2 x2 r => q v F2 H2 R2 (x1.trans x2) r⟩
theorem in_if {x y : MN} (h : PT X c (rT X.K m)) (ha : PE X a (rN X.K x)) (hb : PE X b (rN X.K y)) : PE X (.IfExp c a b pos) (rN X.K (nIf m x y)) := by
  refine peImp (pe_ifExp h ha hb) ?_
  rintro σ H Q ⟨B, F, ε, A, d, ε', R, hm, q⟩
  simp only [nIf, Option.bind_eq_some_iff] at hm
  obtain ⟨⟨k, ε1⟩, h1, h2⟩ := hm
  have aux : ∀ {F1 H1 F2 H2 v}, Ext F H F1 H1 A → NewS X.K F2 H2 A H1 d v → NewS X.K F2 H2 A H d v := fun x1 ⟨p, h1, h2, h3, h4, h5⟩ => ⟨p, h1, h2, h3, h4, x1.dom p h5⟩
  refine ⟨B, F, ε, A, k, _, R, h1, fun F1 H1 R1 x1 => ?_⟩
  cases k with
  | true => exact ⟨B, F1, ε1, A, d, _, R1, h2, fun v F2 H2 R2 x2 r => q v F2 H2 R2 (x1.trans x2) (aux x1 r)⟩
  | false => exact ⟨B, F1, ε1, A, d, _, R1, h2, fun v F2 H2 R2 x2 r => q v F2 H2 R2 (x1.trans x2) (aux x1 r)⟩
theorem ie_one {op} (h : PE X a (rE X.K me)) : PE X (.BoolOp op [a] pos) (rE X.K me) := pe_one h
theorem ie_and {x y : ME} (h : PE X a (rE X.K x)) (t : PE X (.BoolOp .And (b :: rest) pos) (rE X.K y)) : PE X (.BoolOp .And (a :: b :: rest) pos) (rE X.K (eAnd x y)) := by
  refine peImp (pe_andT h t) ?_
  rintro σ H Q ⟨B, F, ε, A, d, ε', R, hm, q⟩
  simp only [eAnd, Option.bind_eq_some_iff] at hm
  obtain ⟨⟨d1, ε1⟩, h1, k, h2, h3⟩ := hm
  refine ⟨B, F, ε, A, d1, _, R, h1, fun v F1 H1 R1 x1 r1 => ⟨k, truV_of R1.sub (r1.rept R1.sub) h2, ?_⟩⟩
  cases k with
  | true => exact ⟨B, F1, ε1, A, d, _, R1, h3, fun v F2 H2 R2 x2 r => q v F2 H2 R2 (x1.trans x2) r⟩
  | false =>
    cases h3
    exact q v F1 H1 R1 x1 r1
theorem ie_or {x y : ME} (h : PE X a (rE X.K x)) (t : PE X (.BoolOp .Or (b :: rest) pos) (rE X.K y)) : PE X (.BoolOp .Or (a :: b :: rest) pos) (rE X.K (eOr x y)) := by
  refine peImp (pe_orT h t) ?_
  rintro σ H Q ⟨B, F, ε, A, d, ε', R, hm, q⟩
  simp only [eOr, Option.bind_eq_some_iff] at hm
  obtain ⟨⟨d1, ε1⟩, h1, k, h2, h3⟩ := hm
  refine ⟨B, F, ε, A, d1, _, R, h1, fun v F1 H1 R1 x1 r1 => ⟨k, truV_of R1.sub (r1.rept R1.sub) h2, ?_⟩⟩
  cases k with
  | false => exact ⟨B, F1, ε1, A, d, _, R1, h3, fun v F2 H2 R2 x2 r => q v F2 H2 R2 (x1.trans x2) r⟩
  | true =>
    cases h3
    exact q v F1 H1 R1 x1 r1
theorem ie_not (h : PE X a (rV X.K ma)) : PE X (.UnaryOp .Not a pos) (rE X.K (eNot ma)) := by
  refine peImp (pe_notT h) ?_
  rintro σ H Q ⟨B, F, ε, A, d, ε', R, hm, q⟩
  simp only [eNot, Option.bind_eq_some_iff] at hm
  obtain ⟨⟨w, ε1⟩, h1, x, h2, k, h3, h4⟩ := hm
  cases h4
  exact ⟨B, F, ε, A, w, _, R, h1, fun v F1 H1 R1 x1 r1 => ⟨k, truV_of R1.sub (r1.rept R1 h2) h3, q _ F1 H1 R1 x1 rfl⟩⟩
end

/-! ### statements -/
inductive Fl where
  | nx | bk | ct
  | rt (s : Sl)
abbrev MS := List Sl → Option (Fl × List Sl)
/-- a value handed back: frozen, or a new own thing -/
def RetS (K : PySem.W.Frag) (B : Bs) (F H : Hp) (A : List (List Addr)) : Sl → V → Prop
  | .un, _ => False
  | .val d, v => Rep K F d v
  | .lst ds, v => NewS K F H A B.H0 (.lst ds) v
  | .dic t ks vs, v => NewS K F H A B.H0 (.dic t ks vs) v
  | .dl ks vss, v => NewS K F H A B.H0 (.dl ks vss) v
def Wish (K : PySem.W.Frag) (B : Bs) (F0 : Hp) (D : Ends) : Fl → List Sl → Prop
  | .nx, ε => ∀ F σ H A, Rel K B F ε σ H A → Ex F0 F → D.nx σ H
  | .bk, ε => ∀ F σ H A, Rel K B F ε σ H A → Ex F0 F → D.bk σ H
  | .ct, ε => ∀ F σ H A, Rel K B F ε σ H A → Ex F0 F → D.ct σ H
  | .rt s, ε => ∀ v F σ H A, Rel K B F ε σ H A → Ex F0 F → RetS K B F H A s v → D.rt v H
theorem Wish.from {K : PySem.W.Frag} {B : Bs} {F0 F1 : Hp} {D : Ends} {f : Fl} {ε : List Sl} (w : Wish K B F0 D f ε) (e : Ex F0 F1) : Wish K B F1 D f ε := by
  cases f with
  | nx => exact fun F σ H A R x => w F σ H A R (e.trans x)
  | bk => exact fun F σ H A R x => w F σ H A R (e.trans x)
  | ct => exact fun F σ H A R x => w F σ H A R (e.trans x)
  | rt s => exact fun v F σ H A R x => w v F σ H A R (e.trans x)
def rS (K : PySem.W.Frag) (np : Nat) (m : MS) : TS := fun D σ H => ∃ B F ε A fl ε', Rel K B F ε σ H A ∧ B.A0.length = np ∧ m ε = some (fl, ε') ∧ Wish K B F D fl ε'

def sNx : MS := fun ε => some (.nx, ε)
def sBk : MS := fun ε => some (.bk, ε)
def sCt : MS := fun ε => some (.ct, ε)
def sSeq (m n : MS) : MS := fun ε => (m ε).bind fun p => match p.1 with
  | .nx => n p.2
  | f => some (f, p.2)
def sIf (c : MT) (m n : MS) : MS := fun ε => (c ε).bind fun p => if p.1 then m p.2 else n p.2
def sDrop (m : ME) : MS := fun ε => (m ε).bind fun p => some (.nx, p.2)
def sRet (m : ME) : MS := fun ε => (m ε).bind fun p => some (.rt (.val p.1), p.2)
def sRetN (m : MN) : MS := fun ε => (m ε).bind fun p => some (.rt p.1, p.2)
def sRet0 : MS := fun ε => some (.rt (.val .non), ε)
/-- an own name is handed back -/
def sRetV (i : Nat) : MS := fun ε => match ε[i]? with
  | some (.lst ds) => some (.rt (.lst ds), ε.set i .un)
  | some (.dic t ks vs) => some (.rt (.dic t ks vs), ε.set i .un)
  | _ => none
/-- from here on the own name is frozen -/
def frzE (ε : List Sl) (i : Nat) : Option (List Sl) := match ε[i]? with
  | some (.lst ds) => some (ε.set i (.val (.lst ds)))
  | some (.dic t ks vs) => some (ε.set i (.val (.dic t ks vs)))
  | some (.dl ks vss) => some (ε.set i (.val (.dic false ks (vss.map .lst))))
  | some _ => some ε
  | none => none
def sFrz (i : Nat) (m : MS) : MS := fun ε => (frzE ε i).bind m
def plainAt (ε : List Sl) (i : Nat) : Bool := match ε[i]? with
  | some .un => true
  | some (.val _) => true
  | _ => false
/-- x = e: x is no own name now -/
def sSet (i : Nat) (m : ME) : MS := fun ε => (m ε).bind fun p => if plainAt p.2 i then some (.nx, p.2.set i (.val p.1)) else none
/-- x = e, whatever x was (x no parameter) -/
def sSetL (i : Nat) (m : ME) : MS := fun ε => (m ε).bind fun p => some (.nx, p.2.set i (.val p.1))
/-- x = a new own thing (x no parameter) -/
def sSetN (i : Nat) (m : MN) : MS := fun ε => (m ε).bind fun p => some (.nx, p.2.set i p.1)

section
variable {K : PySem.W.Frag} {B : Bs} {F F' F1 F2 H H' H1 H2 : Hp} {ε ε' : List Sl} {σ : L2.St} {A : List (List Addr)} {a p : Addr} {o u : HO} {d : D} {v : V}
theorem al_set {i : Nat} {As : List Addr} (h : Al (A.set i As) a) : a ∈ As ∨ (∃ j Bs, j ≠ i ∧ A[j]? = some Bs ∧ a ∈ Bs) := by
  obtain ⟨j, Bs, h1, h2⟩ := h
  by_cases e : i = j
  · subst e
    rw [List.getElem?_set] at h1
    simp only [if_true] at h1
    split at h1
    · cases h1; exact .inl h2
    · cases h1
  · rw [List.getElem?_set_ne e] at h1
    exact .inr ⟨j, Bs, Ne.symm e, h1, h2⟩
/-- slot i gets something else -/
theorem Rel.put (R : Rel K B F ε σ H A) {i : Nat} {s : Sl} {o : Option V} {As : List Addr} (hs : i < ε.length → OwnS K F H s o As) (hn : ∀ a ∈ As, ¬ Al A a ∧ F a = none ∧ B.H0 a = none)
    (h0 : ∀ Bs, B.A0[i]? = some Bs → Bs = []) : Rel K B F (ε.set i s) (σ.set i o) H (A.set i As) := by
  refine ⟨R.sub, by simp [R.len], by simp [R.lenA], fun j t o' Cs h1 h2 h3 => ?_, fun j k Cs Ds a h1 h2 h3 h4 => ?_, fun a h => ?_, R.bfr, R.bex, R.bnew, fun a h => ?_, R.bdom, fun j Cs h1 h2 => ?_, R.tb⟩
  · by_cases e : i = j
    · subst e
      have hl : i < ε.length := by
        have := (List.getElem?_eq_some_iff.mp h1).1
        simpa using this
      have hl2 : i < σ.length := by rw [← R.len]; exact hl
      have hl3 : i < A.length := by rw [R.lenA]; exact hl2
      rw [List.getElem?_set_self hl] at h1
      rw [List.getElem?_set_self hl2] at h2
      rw [List.getElem?_set_self hl3] at h3
      cases h1; cases h2; cases h3
      exact hs hl
    · rw [List.getElem?_set_ne e] at h1 h2 h3
      exact R.own j t o' Cs h1 h2 h3
  · by_cases e : i = j
    · by_cases e2 : i = k
      · omega
      · subst e
        rw [List.getElem?_set_ne e2] at h2
        rw [List.getElem?_set] at h1
        simp only [if_true] at h1
        split at h1
        · cases h1
          exact absurd ⟨k, Ds, h2, h4⟩ (hn a h3).1
        · cases h1
    · by_cases e2 : i = k
      · subst e2
        rw [List.getElem?_set_ne e] at h1
        rw [List.getElem?_set] at h2
        simp only [if_true] at h2
        split at h2
        · cases h2
          exact absurd ⟨j, Cs, h1, h3⟩ (hn a h4).1
        · cases h2
      · rw [List.getElem?_set_ne e] at h1
        rw [List.getElem?_set_ne e2] at h2
        exact R.nd j k Cs Ds a h1 h2 h3 h4
  · rcases al_set h with q | ⟨j, Bs, _, q1, q2⟩
    · exact (hn a q).2.1
    · exact R.dis a ⟨j, Bs, q1, q2⟩
  · rcases al_set h with q | ⟨j, Bs, _, q1, q2⟩
    · exact .inr (hn a q).2.2
    · exact R.bown a ⟨j, Bs, q1, q2⟩
  · by_cases e : i = j
    · subst e
      exact absurd (h0 Cs h1) h2
    · rw [List.getElem?_set_ne e]
      exact R.bio j Cs h1 h2
theorem np_none {np i : Nat} (h : B.A0.length = np) (hi : np ≤ i) : ∀ Bs, B.A0[i]? = some Bs → Bs = [] := fun Bs e => by
  have := (List.getElem?_eq_some_iff.mp e).1
  omega
theorem Rel.plain0 (R : Rel K B F ε σ H A) {i : Nat} (h : plainAt ε i = true) : ∀ Bs, B.A0[i]? = some Bs → Bs = [] := fun Bs e => by
  by_cases z : Bs = []
  · exact z
  · have q := R.bio i Bs e z
    obtain ⟨s, o, h1, h2, h3⟩ := R.idx q
    unfold plainAt at h
    rw [h1] at h
    cases s with
    | un => exact h3
    | val d => exact h3.1
    | lst ds => cases h
    | dic t ks vs => cases h
    | dl ks vss => cases h
theorem Rel.plainA (R : Rel K B F ε σ H A) {i : Nat} (h : plainAt ε i = true) : A[i]? = some [] := by
  unfold plainAt at h
  cases e : ε[i]? with
  | none => rw [e] at h; cases h
  | some s =>
    rw [e] at h
    obtain ⟨o, As, h1, h2, h3⟩ := R.idxE e
    cases s with
    | un => rw [h2, show As = [] from h3]
    | val d => rw [h2, h3.1]
    | lst ds => cases h
    | dic t ks vs => cases h
    | dl ks vss => cases h
theorem Rel.plainSet (R : Rel K B F ε σ H A) {i : Nat} (h : plainAt ε i = true) (r : Rep K F d v) : Rel K B F (ε.set i (.val d)) (σ.set i (some v)) H A := by
  have q := R.put (i := i) (s := .val d) (o := some v) (As := []) (fun _ => ⟨rfl, v, rfl, r⟩) (fun _ z => nomatch z) (R.plain0 h)
  have e : A.set i [] = A := by
    apply List.ext_getElem?
    intro j
    by_cases z : i = j
    · subst z
      rw [R.plainA h, List.getElem?_set_self (List.getElem?_eq_some_iff.mp (R.plainA h)).1]
    · rw [List.getElem?_set_ne z]
  rw [e] at q
  exact q
end

section
variable {X : Cx} {np : Nat} {st : Stmt} {rest : List Stmt} {m n : MS} {c e : Expr} {pos : Pos} {mt : MT} {me : ME} {mn : MN}
theorem is_nil : PSs X [] (rS X.K np sNx) := by
  refine pssImp pss_nil ?_
  rintro D σ H ⟨B, F, ε, A, fl, ε', R, hn, hm, q⟩
  cases hm
  exact q F σ H A R (Ex.refl F)
theorem is_pass : PS X (.Pass pos) (rS X.K np sNx) := by
  refine psImp ps_pass ?_
  rintro D σ H ⟨B, F, ε, A, fl, ε', R, hn, hm, q⟩
  cases hm
  exact q F σ H A R (Ex.refl F)
theorem is_break : PS X (.Break pos) (rS X.K np sBk) := by
  refine psImp ps_break ?_
  rintro D σ H ⟨B, F, ε, A, fl, ε', R, hn, hm, q⟩
  cases hm
  exact q F σ H A R (Ex.refl F)
theorem is_cont : PS X (.Continue pos) (rS X.K np sCt) := by
  refine psImp ps_continue ?_
  rintro D σ H ⟨B, F, ε, A, fl, ε', R, hn, hm, q⟩
  cases hm
  exact q F σ H A R (Ex.refl F)
theorem is_one (h : PS X st (rS X.K np m)) : PSs X [st] (rS X.K np m) := pss_one h
theorem is_seq (h : PS X st (rS X.K np m)) (t : PSs X rest (rS X.K np n)) : PSs X (st :: rest) (rS X.K np (sSeq m n)) := by
  refine pssImp (pss_cons h t) ?_
  rintro D σ H ⟨B, F, ε, A, fl, ε', R, hn, hm, q⟩
  simp only [sSeq, Option.bind_eq_some_iff] at hm
  obtain ⟨⟨f, ε1⟩, h1, h2⟩ := hm
  cases f with
  | nx => exact ⟨B, F, ε, A, .nx, ε1, R, hn, h1, fun F1 σ1 H1 A1 R1 x1 => ⟨B, F1, ε1, A1, fl, ε', R1, hn, h2, q.from x1⟩⟩
  | bk => cases h2; exact ⟨B, F, ε, A, .bk, ε1, R, hn, h1, q⟩
  | ct => cases h2; exact ⟨B, F, ε, A, .ct, ε1, R, hn, h1, q⟩
  | rt s => cases h2; exact ⟨B, F, ε, A, .rt s, ε1, R, hn, h1, q⟩
theorem is_if {x y : List Stmt} (hc : PT X c (rT X.K mt)) (hx : PSs X x (rS X.K np m)) (hy : PSs X y (rS X.K np n)) : PS X (.If c x y pos) (rS X.K np (sIf mt m n)) := by
  refine psImp (ps_if hc hx hy) ?_
  rintro D σ H ⟨B, F, ε, A, fl, ε', R, hn, hm, q⟩
  simp only [sIf, Option.bind_eq_some_iff] at hm
  obtain ⟨⟨k, ε1⟩, h1, h2⟩ := hm
  refine ⟨B, F, ε, A, k, ε1, R, h1, fun F1 H1 R1 x1 => ?_⟩
  cases k with
  | true => exact ⟨B, F1, ε1, A, fl, ε', R1, hn, h2, q.from x1.ex⟩
  | false => exact ⟨B, F1, ε1, A, fl, ε', R1, hn, h2, q.from x1.ex⟩
theorem is_expr (h : PE X e (rE X.K me)) (hs : swapsWith e none pos.line X.env = pure false := by rfl) : PS X (.Expr e pos) (rS X.K np (sDrop me)) := by
  refine psImp (ps_expr h hs) ?_
  rintro D σ H ⟨B, F, ε, A, fl, ε', R, hn, hm, q⟩
  simp only [sDrop, Option.bind_eq_some_iff] at hm
  obtain ⟨⟨d, ε1⟩, h1, h2⟩ := hm
  cases h2
  exact ⟨B, F, ε, A, d, _, R, h1, fun v F1 H1 R1 x1 r1 => q F1 σ H1 A R1 x1.ex⟩
theorem is_ret (h : PE X e (rE X.K me)) : PS X (.Return (some e) pos) (rS X.K np (sRet me)) := by
  refine psImp (ps_ret h) ?_
  rintro D σ H ⟨B, F, ε, A, fl, ε', R, hn, hm, q⟩
  simp only [sRet, Option.bind_eq_some_iff] at hm
  obtain ⟨⟨d, ε1⟩, h1, h2⟩ := hm
  cases h2
  exact ⟨B, F, ε, A, d, _, R, h1, fun v F1 H1 R1 x1 r1 => q v F1 σ H1 A R1 x1.ex r1⟩
theorem is_ret0 : PS X (.Return none pos) (rS X.K np sRet0) := by
  refine psImp ps_retN ?_
  rintro D σ H ⟨B, F, ε, A, fl, ε', R, hn, hm, q⟩
  cases hm
  exact q .non F σ H A R (Ex.refl F) rfl
theorem retS_of {K : PySem.W.Frag} {B : Bs} {F H H0 : Hp} {A : List (List Addr)} {s : Sl} {v : V} (n : NewS K F H A H0 s v) (h : ∀ p, H0 p = none → B.H0 p = none) : RetS K B F H A s v := by
  obtain ⟨p, e, h1, h2, h3, h4⟩ := n
  cases s with
  | un => exact absurd (show [p] = [] from h1) (by simp)
  | val d => exact absurd h1.1 (by simp)
  | lst ds => exact ⟨p, e, h1, h2, h3, h p h4⟩
  | dic t ks vs => exact ⟨p, e, h1, h2, h3, h p h4⟩
  | dl ks vss => exact ⟨p, e, h1, h2, h3, h p h4⟩
theorem is_retN (h : PE X e (rN X.K mn)) : PS X (.Return (some e) pos) (rS X.K np (sRetN mn)) := by
  refine psImp (ps_ret h) ?_
  rintro D σ H ⟨B, F, ε, A, fl, ε', R, hn, hm, q⟩
  simp only [sRetN, Option.bind_eq_some_iff] at hm
  obtain ⟨⟨s, ε1⟩, h1, h2⟩ := hm
  cases h2
  exact ⟨B, F, ε, A, s, _, R, h1, fun v F1 H1 R1 x1 r1 => q v F1 σ H1 A R1 x1.ex (retS_of r1 R.bdom)⟩
theorem is_retV (i : Nat) {x : Str} {p : Pos} (hi : np ≤ i) (h : PE X (.Name x p) (tVar i)) : PS X (.Return (some (.Name x p)) pos) (rS X.K np (sRetV i)) := by
  refine psImp (ps_ret h) ?_
  rintro D σ H ⟨B, F, ε, A, fl, ε', R, hn, hm, q⟩
  have go : ∀ s, ε[i]? = some s → (∃ a, σ[i]? = some (some (.ref a)) ∧ A[i]? = some [a] ∧ OwnS X.K F H s (some (.ref a)) [a]) → fl = .rt s → ε' = ε.set i .un → ((∃ ds, s = .lst ds) ∨ ∃ t ks vs, s = .dic t ks vs) → Rl.rS X.K np (sRetV i) D σ H → L2.tRet (tVar i) D σ H := by
    rintro s hs ⟨a, h1, h2, h3⟩ rfl rfl hk _
    refine ⟨_, h1, ?_⟩
    have al : Al A a := ⟨i, [a], h2, by simp⟩
    have na : ¬ Al (A.set i []) a := fun z => by
      rcases al_set z with z | ⟨j, Bs, z1, z2, z3⟩
      · cases z
      · exact z1 (R.nd j i Bs [a] a z2 h2 z3 (by simp))
    have h0 : B.H0 a = none := by
      rcases R.bown a al with ⟨j, Bs, z2, z3⟩ | z
      · have z4 := R.bio j Bs z2 (fun z => by rw [z] at z3; cases z3)
        have : j = i := R.nd j i Bs [a] a z4 h2 z3 (by simp)
        have := (List.getElem?_eq_some_iff.mp z2).1
        omega
      · exact z
    have R2 : Rel X.K B F (ε.set i .un) (σ.set i (σ[i]'(List.getElem?_eq_some_iff.mp h1).1)) H (A.set i []) := R.put (s := .un) (fun _ => rfl) (fun _ z => nomatch z) (np_none hn hi)
    rw [List.set_getElem_self] at R2
    refine q _ F σ H _ R2 (Ex.refl F) ?_
    have nw : NewS X.K F H (A.set i []) B.H0 s (.ref a) := ⟨a, rfl, h3, R.dis a al, na, h0⟩
    rcases hk with ⟨ds, rfl⟩ | ⟨t, ks, vs, rfl⟩
    · exact nw
    · exact nw
  unfold sRetV at hm
  split at hm
  · rename_i ds e
    obtain ⟨o, As, h1, h2, a, xs, rfl, rfl, h3⟩ := R.idxE e
    cases hm
    exact go _ e ⟨a, h1, h2, a, xs, rfl, rfl, h3⟩ rfl rfl (.inl ⟨ds, rfl⟩) ⟨B, F, ε, A, _, _, R, hn, by unfold sRetV; rw [e], q⟩
  · rename_i t ks vs e
    obtain ⟨o, As, h1, h2, a, xs, rfl, rfl, h3⟩ := R.idxE e
    cases hm
    exact go _ e ⟨a, h1, h2, a, xs, rfl, rfl, h3⟩ rfl rfl (.inr ⟨t, ks, vs, rfl⟩) ⟨B, F, ε, A, _, _, R, hn, by unfold sRetV; rw [e], q⟩
  · cases hm
section
variable {X : Cx} {pins : List (Addr × Obj)} {sh : Shared} {B : Bs} {F H : Hp} {ε ε' : List Sl} {σ : L2.St} {A : List (List Addr)} {i : Nat} {As : List Addr}
theorem set_slot {α : Type} {σ : List α} {i : Nat} {o : α} (h : σ[i]? = some o) : σ.set i o = σ := by
  apply List.ext_getElem?
  intro j
  by_cases z : i = j
  · subst z
    rw [h, List.getElem?_set_self (List.getElem?_eq_some_iff.mp h).1]
  · rw [List.getElem?_set_ne z]
/-- what a slot of its own holds was not there before the def -/
theorem Rel.ownNew {K : PySem.W.Frag} (R : Rel K B F ε σ H A) (hn : B.A0.length = np) (hi : np ≤ i) {a : Addr} (h2 : A[i]? = some As) (ha : a ∈ As) : B.H0 a = none := by
  rcases R.bown a ⟨i, As, h2, ha⟩ with ⟨j, Bs, z2, z3⟩ | z
  · have z4 := R.bio j Bs z2 (fun z => by rw [z] at z3; cases z3)
    have : j = i := R.nd j i Bs As a z4 h2 z3 ha
    have := (List.getElem?_eq_some_iff.mp z2).1
    omega
  · exact z
/-- the slot gives its things away -/
theorem Rel.give {K : PySem.W.Frag} {o : Option V} (R : Rel K B F ε σ H A) (hn : B.A0.length = np) (hi : np ≤ i) (h1 : σ[i]? = some o) (h2 : A[i]? = some As) : Rel K B F (ε.set i .un) σ H (A.set i []) ∧ ∀ a ∈ As, F a = none ∧ ¬ Al (A.set i []) a ∧ B.H0 a = none := by
  have R2 : Rel K B F (ε.set i .un) (σ.set i o) H (A.set i []) := R.put (s := .un) (fun _ => rfl) (fun _ z => nomatch z) (np_none hn hi)
  rw [set_slot h1] at R2
  refine ⟨R2, fun a ha => ⟨R.dis a ⟨i, As, h2, ha⟩, fun z => ?_, R.ownNew hn hi h2 ha⟩⟩
  rcases al_set z with z | ⟨j, Bs, z1, z2, z3⟩
  · cases z
  · exact z1 (R.nd j i Bs As a z2 h2 z3 ha)
/-- lists that nobody owns are frozen -/
theorem Rel.frzAll {K : PySem.W.Frag} : ∀ {as : List Addr} {F : Hp}, Rel K B F ε σ H A → (∀ a ∈ as, (∃ xs, H a = some (.lst xs)) ∧ F a = none ∧ ¬ Al A a ∧ B.H0 a = none) → as.Nodup → ∃ F', Rel K B F' ε σ H A ∧ Ex F F' ∧ (∀ a ∈ as, F' a = H a) ∧ ∀ a, a ∉ as → F' a = F a
  | [], F, R, _, _ => ⟨F, R, Ex.refl F, (fun _ h => nomatch h), fun _ _ => rfl⟩
  | b :: as, F, R, h, nd => by
    obtain ⟨⟨xs, q1⟩, q2, q3, q4⟩ := h b List.mem_cons_self
    have nd' := List.nodup_cons.mp nd
    have R1 := R.freeze q1 q2 q3 q4
    obtain ⟨F', R2, e2, k1, k2⟩ := R1.frzAll (as := as) (fun a ha => by
      obtain ⟨z1, z2, z3, z4⟩ := h a (List.mem_cons_of_mem _ ha)
      exact ⟨z1, by rw [upd_ne (fun z => nd'.1 (by rw [← z]; exact ha))]; exact z2, z3, z4⟩) nd'.2
    refine ⟨F', R2, (Ex.new q2).trans e2, fun a ha => ?_, fun a ha => ?_⟩
    · rcases List.mem_cons.mp ha with rfl | ha
      · rw [k2 a nd'.1, upd_same, q1]
      · exact k1 a ha
    · rw [k2 a fun z => ha (List.mem_cons_of_mem _ z), upd_ne fun z => ha (by rw [z]; simp)]
/-- slot i is frozen -/
theorem Rel.frzSlot (I : Inv X pins σ H sh) (R : Rel X.K B F ε σ H A) (hn : B.A0.length = np) (hi : np ≤ i) (h : frzE ε i = some ε') : ∃ F' H' A', Inv X pins σ H' sh ∧ Rel X.K B F' ε' σ H' A' ∧ Ex F F' := by
  have go : ∀ s a d, s.toD = some d → σ[i]? = some (some (.ref a)) → A[i]? = some [a] → OwnS X.K F H s (some (.ref a)) [a] → ε' = ε.set i (.val d) → ∃ F' H' A', Inv X pins σ H' sh ∧ Rel X.K B F' ε' σ H' A' ∧ Ex F F' := by
    intro s a d hd h1 h2 h3 he
    obtain ⟨R2, g⟩ := R.give hn hi h1 h2
    obtain ⟨g1, g2, g3⟩ := g a (by simp)
    obtain ⟨p, u, I3, R3, k1, _, _, _, k2⟩ := R2.frz1 (Hs := B.H0) I ⟨a, rfl, h3, g1, g2, g3⟩ hd fun _ z => z
    have R4 := R3.put (i := i) (s := .val d) (o := some (.ref a)) (As := []) (fun _ => ⟨rfl, _, rfl, k2⟩) (fun _ z => nomatch z) (np_none hn hi)
    rw [set_slot h1, List.set_set] at R4
    exact ⟨_, _, _, I3, by rw [he]; exact R4, Ex.new k1⟩
  unfold frzE at h
  split at h
  · rename_i ds e
    cases h
    obtain ⟨o, As, h1, h2, a, xs, rfl, rfl, h3⟩ := R.idxE e
    exact go (.lst ds) a _ rfl h1 h2 ⟨a, xs, rfl, rfl, h3⟩ rfl
  · rename_i t ks vs e
    cases h
    obtain ⟨o, As, h1, h2, a, xs, rfl, rfl, h3⟩ := R.idxE e
    exact go (.dic t ks vs) a _ rfl h1 h2 ⟨a, xs, rfl, rfl, h3⟩ rfl
  · rename_i ks vss e
    cases h
    obtain ⟨o, As, h1, h2, a, as, kvs, rfl, rfl, h3, h4, h5, h6⟩ := R.idxE e
    obtain ⟨R2, g⟩ := R.give hn hi h1 h2
    have nd := List.nodup_cons.mp h6
    have there : ∀ b ∈ as, ∃ xs, H b = some (.lst xs) := fun b hb => by
      obtain ⟨j, hj, e⟩ := List.getElem_of_mem hb
      have hj2 : j < vss.length := by rw [h5.1]; exact hj
      obtain ⟨xs, q, _⟩ := h5.2 j b vss[j] (by rw [List.getElem?_eq_getElem hj, e]) (List.getElem?_eq_getElem hj2)
      exact ⟨xs, q⟩
    obtain ⟨F1, R3, e1, k1, k2⟩ := R2.frzAll (as := as) (fun b hb => ⟨there b hb, g b (List.mem_cons_of_mem _ hb)⟩) nd.2
    obtain ⟨g1, g2, g3⟩ := g a List.mem_cons_self
    have f1 : F1 a = none := by rw [k2 a nd.1]; exact g1
    obtain ⟨od, I2⟩ := I.lock h3 trivial
    have R4 := (R3.tmpSet (u := .frz od (.dK kvs)) h3 f1 g2 g3).freeze upd_same f1 g2 g3
    have rr : Reps X.K (upd F1 a (.frz od (.dK kvs))) (vss.map .lst) (as.map V.ref) := by
      have gen : ∀ (as : List Addr) (vss : List (List D)), OwnLs X.K F H vss as → (∀ b ∈ as, F1 b = H b ∧ b ≠ a) → Reps X.K (upd F1 a (.frz od (.dK kvs))) (vss.map .lst) (as.map V.ref) := by
        intro as
        induction as with
        | nil => intro vss q _; cases vss <;> first | exact rfl | exact absurd q.1 (by simp)
        | cons b as ih =>
          intro vss q hb
          cases vss with
          | nil => exact absurd q.1 (by simp)
          | cons ds vss =>
            obtain ⟨xs, z1, z2⟩ := q.2 0 b ds rfl rfl
            obtain ⟨w1, w2⟩ := hb b List.mem_cons_self
            refine .cons ⟨b, xs, rfl, .inl (by rw [upd_ne w2, w1]; exact z1), z2.mono' (e1.trans (Ex.new f1)).rdx⟩ (ih vss ⟨by simpa using q.1, fun j c ds y1 y2 => q.2 (j + 1) c ds (by simpa using y1) (by simpa using y2)⟩ fun c hc => hb c (List.mem_cons_of_mem _ hc))
      exact gen as vss h5 fun b hb => ⟨k1 b hb, fun z => nd.1 (by rw [← z]; exact hb)⟩
    have R5 := R4.put (i := i) (s := .val (.dic false ks (vss.map .lst))) (o := some (.ref a)) (As := []) (fun _ => ⟨rfl, _, rfl, a, as.map V.ref, rfl, ⟨kvs, ⟨od, upd_same⟩, h4⟩, rr⟩) (fun _ z => nomatch z) (np_none hn hi)
    rw [set_slot h1, List.set_set] at R5
    exact ⟨_, _, _, I2, R5, e1.trans (Ex.new f1)⟩
  · cases h; exact ⟨F, H, A, I, R, Ex.refl F⟩
  · cases h
end
theorem is_frz (i : Nat) {sts : List Stmt} (hi : np ≤ i) (h : PSs X sts (rS X.K np m)) : PSs X sts (rS X.K np (sFrz i m)) := by
  refine ⟨fun pins s σ H D I hh => ?_⟩
  obtain ⟨B, F, ε, A, fl, ε', R, hn, hm, q⟩ := hh
  simp only [sFrz, Option.bind_eq_some_iff] at hm
  obtain ⟨ε1, h1, h2⟩ := hm
  obtain ⟨F', H', A', I', R', e⟩ := R.frzSlot I hn hi h1
  exact h.run pins s σ H' D I' ⟨B, F', ε1, A', fl, ε', R', hn, h2, q.from e⟩
theorem is_set (i : Nat) {x : Str} {pos' : Pos} (hN : X.N.Nodup) (hi : X.N[i]? = some x) (hx : Loc X.env.scope x) (h : PE X e (rE X.K me)) (hs : swapsWith e (some (.Name x pos')) pos.line X.env = pure false := by rfl) (hf : X.fn x = true ∨ X.env.scope.names.lookup x = some .local := by first | exact .inl rfl | exact .inr rfl | assumption) :
    PS X (.Assign [.Name x pos'] e pos) (rS X.K np (sSet i me)) := by
  refine psImp (ps_set hN hi hx h hs hf) ?_
  rintro D σ H ⟨B, F, ε, A, fl, ε', R, hn, hm, q⟩
  simp only [sSet, Option.bind_eq_some_iff] at hm
  obtain ⟨⟨d, ε1⟩, h1, h2⟩ := hm
  split at h2
  · rename_i hp
    cases h2
    exact ⟨B, F, ε, A, d, _, R, h1, fun v F1 H1 R1 x1 r1 => q F1 _ H1 A (R1.plainSet hp r1) x1.ex⟩
  · cases h2
theorem is_setL (i : Nat) {x : Str} {pos' : Pos} (hnp : np ≤ i) (hN : X.N.Nodup) (hi : X.N[i]? = some x) (hx : Loc X.env.scope x) (h : PE X e (rE X.K me)) (hs : swapsWith e (some (.Name x pos')) pos.line X.env = pure false := by rfl) (hf : X.fn x = true ∨ X.env.scope.names.lookup x = some .local := by first | exact .inl rfl | exact .inr rfl | assumption) :
    PS X (.Assign [.Name x pos'] e pos) (rS X.K np (sSetL i me)) := by
  refine psImp (ps_set hN hi hx h hs hf) ?_
  rintro D σ H ⟨B, F, ε, A, fl, ε', R, hn, hm, q⟩
  simp only [sSetL, Option.bind_eq_some_iff] at hm
  obtain ⟨⟨d, ε1⟩, h1, h2⟩ := hm
  cases h2
  exact ⟨B, F, ε, A, d, _, R, h1, fun v F1 H1 R1 x1 r1 => q F1 _ H1 _ (R1.put (As := []) (fun _ => ⟨rfl, v, rfl, r1⟩) (fun _ z => nomatch z) (np_none hn hnp)) x1.ex⟩
theorem is_setN (i : Nat) {x : Str} {pos' : Pos} (hnp : np ≤ i) (hN : X.N.Nodup) (hi : X.N[i]? = some x) (hx : Loc X.env.scope x) (h : PE X e (rN X.K mn)) (hs : swapsWith e (some (.Name x pos')) pos.line X.env = pure false := by rfl) (hf : X.fn x = true ∨ X.env.scope.names.lookup x = some .local := by first | exact .inl rfl | exact .inr rfl | assumption) :
    PS X (.Assign [.Name x pos'] e pos) (rS X.K np (sSetN i mn)) := by
  refine psImp (ps_set hN hi hx h hs hf) ?_
  rintro D σ H ⟨B, F, ε, A, fl, ε', R, hn, hm, q⟩
  simp only [sSetN, Option.bind_eq_some_iff] at hm
  obtain ⟨⟨s, ε1⟩, h1, h2⟩ := hm
  cases h2
  refine ⟨B, F, ε, A, s, _, R, h1, fun v F1 H1 R1 x1 r1 => ?_⟩
  obtain ⟨p, rfl, q1, q2, q3, q4⟩ := r1
  refine q F1 _ H1 _ (R1.put (As := [p]) (fun _ => q1) (fun a ha => ?_) (np_none hn hnp)) x1.ex
  have e : a = p := by simpa using ha
  subst e
  exact ⟨q3, q2, R.bdom a q4⟩
end
end Rl
end

set_option Elab.async false
set_option linter.all false
set_option maxRecDepth 100000
set_option autoImplicit false
set_option maxHeartbeats 1000000
/-! Rl, part 4: targets, what is walked, for, while, comprehensions. -/
noncomputable section
namespace Rl
open PySem PySem.Spec PyProof.Rows L2
variable [Tabs]

theorem Ext.mono {F F' H H' : Hp} {A A' : List (List Addr)} (x : Ext F H F' H' A) (h : ∀ a, Al A a → Al A' a) : Ext F H F' H' A' := ⟨x.ex, x.new, fun a o e n => x.fr a o e fun z => n (h a z), x.dom⟩

/-! ### targets -/
inductive Tg where
  | nm (i : Nat)
  | tp (ts : List Tg)
mutual
def Tg.bind : Tg → D → List Sl → Option (List Sl)
  | .nm i, d, ε => if plainAt ε i then some (ε.set i (.val d)) else none
  | .tp ts, d, ε => match d with
    | .tup ds => Tg.binds ts ds ε
    | _ => none
def Tg.binds : List Tg → List D → List Sl → Option (List Sl)
  | [], [], ε => some ε
  | t :: ts, d :: ds, ε => (t.bind d ε).bind fun ε1 => Tg.binds ts ds ε1
  | _, _, _ => none
end
mutual
def Tg.slots : Tg → List Nat
  | .nm i => [i]
  | .tp ts => Tg.slotss ts
def Tg.slotss : List Tg → List Nat
  | [] => []
  | t :: ts => t.slots ++ Tg.slotss ts
end
/-- σ' is σ but for the slots at is -/
def But (is : List Nat) (σ σ' : L2.St) : Prop := σ'.length = σ.length ∧ ∀ j, j ∉ is → σ'[j]? = σ[j]?
theorem But.refl (is : List Nat) (σ : L2.St) : But is σ σ := ⟨rfl, fun _ _ => rfl⟩
theorem But.trans {is js : List Nat} {σ σ1 σ2 : L2.St} (a : But is σ σ1) (b : But js σ1 σ2) : But (is ++ js) σ σ2 := ⟨b.1.trans a.1, fun j h => by
  rw [List.mem_append] at h
  rw [b.2 j fun z => h (.inr z), a.2 j fun z => h (.inl z)]⟩
def gR (K : PySem.W.Frag) (t : Tg) : TG := fun v σ H Q => ∃ B F ε A d ε', Rel K B F ε σ H A ∧ Rep K F d v ∧ t.bind d ε = some ε' ∧ ∀ σ', Rel K B F ε' σ' H A → But t.slots σ σ' → Q σ' H
def gRs (K : PySem.W.Frag) (ts : List Tg) : TGs := fun vs σ H Q => ∃ B F ε A ds ε', Rel K B F ε σ H A ∧ Reps K F ds vs ∧ Tg.binds ts ds ε = some ε' ∧ ∀ σ', Rel K B F ε' σ' H A → But (Tg.slotss ts) σ σ' → Q σ' H
section
variable {X : Cx} {e : Expr} {es : List Expr} {pos : Pos}
theorem pgImp {e : Expr} {t t' : TG} (h : PG X e t) (i : ∀ v σ H Q, t' v σ H Q → t v σ H Q) : PG X e t' := ⟨fun pins s σ H v u Q I r q => h.run pins s σ H v u Q I r (i v σ H Q q)⟩
theorem pgsImp {e : List Expr} {t t' : TGs} (h : PGs X e t) (i : ∀ v σ H Q, t' v σ H Q → t v σ H Q) : PGs X e t' := ⟨fun pins s σ H v u Q I r q => h.run pins s σ H v u Q I r (i v σ H Q q)⟩
theorem ig_nm (i : Nat) {x : Str} (h : PG X (.Name x pos) (gName i)) : PG X (.Name x pos) (gR X.K (.nm i)) := by
  refine pgImp h ?_
  rintro v σ H Q ⟨B, F, ε, A, d, ε', R, r, hb, q⟩
  simp only [Tg.bind] at hb
  split at hb
  · rename_i hp
    cases hb
    refine q _ (R.plainSet hp r) ⟨by simp, fun j hj => ?_⟩
    rw [List.getElem?_set_ne]
    intro z
    exact hj (by rw [← z]; simp [Tg.slots])
  · cases hb
theorem igs_nil : PGs X [] (gRs X.K []) := by
  refine pgsImp pgs_nil ?_
  rintro v σ H Q ⟨B, F, ε, A, d, ε', R, r, hb, q⟩
  cases d with
  | nil =>
    cases hb
    exact ⟨r, q σ R (But.refl _ σ)⟩
  | cons d ds => cases hb
theorem igs_cons {t : Tg} {ts : List Tg} (h : PG X e (gR X.K t)) (hr : PGs X es (gRs X.K ts)) (hs : (assignEach (e :: es) X.env).map (·.2) = assign e X.env :: (assignEach es X.env).map (·.2) := by rfl) : PGs X (e :: es) (gRs X.K (t :: ts)) := by
  refine pgsImp (pgs_cons h hr hs) ?_
  rintro v σ H Q ⟨B, F, ε, A, d, ε', R, r, hb, q⟩
  cases d with
  | nil => cases hb
  | cons d ds =>
    obtain ⟨x, xs, rfl, r1, r2⟩ := r
    simp only [Tg.binds, Option.bind_eq_some_iff] at hb
    obtain ⟨ε1, h1, h2⟩ := hb
    refine ⟨x, xs, rfl, B, F, ε, A, d, ε1, R, r1, h1, fun σ1 R1 b1 => ?_⟩
    exact ⟨B, F, ε1, A, ds, ε', R1, r2, h2, fun σ2 R2 b2 => q σ2 R2 (b1.trans b2)⟩
theorem ig_tp {ts : List Tg} {k : Nat} (hc : X.calm = true) (h : PGs X es (gRs X.K ts)) (hn : (assignEach es X.env).length = ts.length := by rfl) (hst : (assignEach es X.env).findIdx? (·.1) = none := by rfl) : PG X (.Tuple es k pos) (gR X.K (.tp ts)) := by
  have len : ∀ (ts : List Tg) (ds : List D) (ε ε' : List Sl), Tg.binds ts ds ε = some ε' → ds.length = ts.length := by
    intro ts
    induction ts with
    | nil => intro ds ε ε' e; cases ds <;> first | rfl | cases e
    | cons t ts ih =>
      intro ds ε ε' e
      cases ds with
      | nil => cases e
      | cons d ds =>
        simp only [Tg.binds, Option.bind_eq_some_iff] at e
        obtain ⟨ε1, _, e2⟩ := e
        rw [List.length_cons, List.length_cons, ih ds ε1 ε' e2]
  refine pgImp (pg_tup hc h hn hst) ?_
  rintro v σ H Q ⟨B, F, ε, A, d, ε', R, r, hb, q⟩
  cases d <;> try (simp only [Tg.bind] at hb; cases hb)
  rename_i ds
  simp only [Tg.bind] at hb
  obtain ⟨a, xs, rfl, h2, h3⟩ := r
  refine ⟨a, xs, rfl, SqT.of (R.sub.tup h2), by rw [← h3.length]; exact len _ _ _ _ hb, ?_⟩
  exact ⟨B, F, ε, A, ds, ε', R, h3, hb, q⟩
end

/-! ### what is walked -/
/-- the iterator J gives the data ds, one by one -/
def JIt (K : PySem.W.Frag) (J : It) (F : Hp) (ds : List D) : Prop := ∀ F2 H2, Ex F F2 → Sub F2 H2 →
  (∀ i, ds.length ≤ i → J.stop i H2) ∧ ∀ i d, ds[i]? = some d → J.go i H2 ∧ ∀ x H3, J.yld i H2 x H3 → ∃ F3, Ext F2 H2 F3 H3 [] ∧ Sub F3 H3 ∧ Rep K F3 d x
abbrev MI := List Sl → Option (List D × List Sl)
def rI (K : PySem.W.Frag) (m : MI) : TI := fun σ H R => ∃ B F ε A ds ε', Rel K B F ε σ H A ∧ m ε = some (ds, ε') ∧ ∀ J F' H', Rel K B F' ε' σ H' A → Ext F H F' H' A → JIt K J F' ds → R J H'
/-- a frozen list, a tuple, a text: its items -/
def itsD : D → Option (List D)
  | .lst ds => some ds
  | .tup ds => some ds
  | .str s => some (s.map fun c => .str [c])
  | .dic _ ks _ => some ks
  | _ => none
def iIts (m : ME) : MI := fun ε => (m ε).bind fun p => (itsD p.1).bind fun ds => some (ds, p.2)
def rngD (lo hi : Int) : List D := (List.range (hi - lo).toNat).map fun k : Nat => .int (lo + (k : Int))
def rngOk (i : Int) : Bool := opq (fun i : Int => decide (-(2 ^ 62) ≤ i) && decide (i < 2 ^ 62)) i
omit [Tabs] in
theorem rngOk_eq (i : Int) : rngOk i = (decide (-(2 ^ 62) ≤ i) && decide (i < 2 ^ 62)) := opq_eq _ i
def iRange1 (m : ME) : MI := fun ε => (m ε).bind fun p => match p.1 with
  | .int j => if rngOk j then some (rngD 0 j, p.2) else none
  | _ => none
def iRange2 (m n : ME) : MI := fun ε => (m ε).bind fun p => (n p.2).bind fun q => match p.1, q.1 with
  | .int i, .int j => if rngOk i && rngOk j then some (rngD i j, q.2) else none
  | _, _ => none
theorem rngOk_of {i : Int} (h : rngOk i = true) : -(2 ^ 62) ≤ i ∧ i < 2 ^ 62 := by
  rw [rngOk_eq] at h
  rw [Bool.and_eq_true] at h
  exact ⟨of_decide_eq_true h.1, of_decide_eq_true h.2⟩
section
variable {K : PySem.W.Frag} {F : Hp}
theorem jit_list {a : Addr} {xs : List V} {ds : List D} (hl : SqL K F a xs) (r : Reps K F ds xs) : JIt K (Itl K a) F ds := by
  intro F2 H2 e s
  have l2 : SqL K H2 a xs := s.rdx.l (e.rdx.l hl)
  have r2 : Reps K F2 ds xs := r.mono' e.rdx
  refine ⟨fun i hi => ⟨xs, l2, by rw [← r.length]; exact hi⟩, fun i d hd => ?_⟩
  obtain ⟨x, hx, rx⟩ := r2.get hd
  refine ⟨⟨xs, x, l2, hx⟩, fun y H3 ⟨e3, hy⟩ => ⟨F2, ?_, ?_, ?_⟩⟩
  · rw [e3]; exact Ext.refl _ _ _
  · rw [e3]; exact s
  · have := hy xs l2
    rw [hx] at this
    cases this
    exact rx
theorem jit_tup {a : Addr} {xs : List V} {ds : List D} (hl : F a = some (.tup xs)) (r : Reps K F ds xs) : JIt K (Itt K a) F ds := by
  intro F2 H2 e s
  have l2 : SqT K H2 a xs := SqT.of (s.tup (e a _ hl))
  have r2 : Reps K F2 ds xs := r.mono' e.rdx
  refine ⟨fun i hi => ⟨xs, l2, by rw [← r.length]; exact hi⟩, fun i d hd => ?_⟩
  obtain ⟨x, hx, rx⟩ := r2.get hd
  refine ⟨⟨xs, x, l2, hx⟩, fun y H3 ⟨e3, hy⟩ => ⟨F2, ?_, ?_, ?_⟩⟩
  · rw [e3]; exact Ext.refl _ _ _
  · rw [e3]; exact s
  · have := hy xs l2
    rw [hx] at this
    cases this
    exact rx
theorem jit_str {s : List Nat} : JIt K (Its ⟨s.toArray⟩) F (s.map fun c => .str [c]) := by
  intro F2 H2 e sb
  refine ⟨fun i hi => by show s.toArray.size ≤ i; simpa using hi, fun i d hd => ?_⟩
  rw [List.getElem?_map] at hd
  cases hc : s[i]? with
  | none => rw [hc] at hd; cases hd
  | some c =>
    rw [hc] at hd
    cases hd
    refine ⟨by show i < s.toArray.size; simpa using (List.getElem?_eq_some_iff.mp hc).1, fun y H3 ⟨e3, c', h1, h2⟩ => ⟨F2, ?_, ?_, ?_⟩⟩
    · rw [e3]; exact Ext.refl _ _ _
    · rw [e3]; exact sb
    · have h1' : s[i]? = some c' := by simpa using h1
      rw [hc] at h1'
      cases h1'
      exact h2
theorem jit_rng {lo : Int} {n : Nat} : JIt K (Itr lo n) F ((List.range n).map fun k : Nat => .int (lo + (k : Int))) := by
  intro F2 H2 e sb
  refine ⟨fun i hi => by show n ≤ i; simpa using hi, fun i d hd => ?_⟩
  rw [List.getElem?_map] at hd
  by_cases hi : i < n
  · rw [List.getElem?_range hi] at hd
    cases hd
    refine ⟨hi, fun y H3 ⟨e3, h2⟩ => ⟨F2, ?_, ?_, h2⟩⟩
    · rw [e3]; exact Ext.refl _ _ _
    · rw [e3]; exact sb
  · rw [List.getElem?_eq_none (by simpa using hi)] at hd
    cases hd
end
section
variable {X : Cx} {tg e e2 : Expr} {pos p : Pos} {m n : ME}
/-- items of a thing known to be a list -/
def iL (m : ME) : MI := fun ε => (m ε).bind fun p => match p.1 with
  | .lst ds => some (ds, p.2)
  | _ => none
def iT (m : ME) : MI := fun ε => (m ε).bind fun p => match p.1 with
  | .tup ds => some (ds, p.2)
  | _ => none
def iS (m : ME) : MI := fun ε => (m ε).bind fun p => match p.1 with
  | .str s => some (s.map fun c => .str [c], p.2)
  | _ => none
theorem ii_l (h : PE X e (rE X.K m)) : PI X tg e (rI X.K (iL m)) := by
  refine piImp (pi_list h) ?_
  rintro σ H Rr ⟨B, F, ε, A, ds, ε', R, hm, q⟩
  simp only [iL, Option.bind_eq_some_iff] at hm
  obtain ⟨⟨d, ε1⟩, h1, h2⟩ := hm
  cases d <;> try cases h2
  refine ⟨B, F, ε, A, _, _, R, h1, fun v F1 H1 R1 x1 r1 => ?_⟩
  obtain ⟨a, xs, rfl, h4, h5⟩ := r1
  exact ⟨a, rfl, ⟨xs, R1.sub.rdx.l (.inl h4)⟩, q _ F1 H1 R1 x1 (jit_list (.inl h4) h5)⟩
theorem ii_t (h : PE X e (rE X.K m)) : PI X tg e (rI X.K (iT m)) := by
  refine piImp (pi_tup h) ?_
  rintro σ H Rr ⟨B, F, ε, A, ds, ε', R, hm, q⟩
  simp only [iT, Option.bind_eq_some_iff] at hm
  obtain ⟨⟨d, ε1⟩, h1, h2⟩ := hm
  cases d <;> try cases h2
  refine ⟨B, F, ε, A, _, _, R, h1, fun v F1 H1 R1 x1 r1 => ?_⟩
  obtain ⟨a, xs, rfl, h4, h5⟩ := r1
  exact ⟨a, rfl, ⟨xs, SqT.of (R1.sub.tup h4)⟩, q _ F1 H1 R1 x1 (jit_tup h4 h5)⟩
theorem ii_s (h : PE X e (rE X.K m)) : PI X tg e (rI X.K (iS m)) := by
  refine piImp (pi_str h) ?_
  rintro σ H Rr ⟨B, F, ε, A, ds, ε', R, hm, q⟩
  simp only [iS, Option.bind_eq_some_iff] at hm
  obtain ⟨⟨d, ε1⟩, h1, h2⟩ := hm
  cases d <;> try cases h2
  refine ⟨B, F, ε, A, _, _, R, h1, fun v F1 H1 R1 x1 r1 => ?_⟩
  exact ⟨_, r1, q _ F1 H1 R1 x1 jit_str⟩
theorem ii_range1 (hg : Gl X "range") (hm : X.mg "range" = none) (h : PE X e (rE X.K m)) (hs : starEach [e] X.env = [(false, eval e X.env)] := by rfl) : PI X tg (.Call (.Name "range" p) [e] [] pos) (rI X.K (iRange1 m)) := by
  refine piImp (pi_range1 hg hm (pa_cons h pa_nil hs) hs) ?_
  rintro σ H Rr ⟨B, F, ε, A, ds, ε', R, hm, q⟩
  simp only [iRange1, Option.bind_eq_some_iff] at hm
  obtain ⟨⟨d, ε1⟩, h1, h2⟩ := hm
  obtain ⟨j, rfl⟩ : ∃ j, d = .int j := by cases d <;> first | exact ⟨_, rfl⟩ | cases h2
  simp only at h2
  split at h2
  · rename_i hz
    cases h2
    refine ⟨B, F, ε, A, _, _, R, h1, fun v F1 H1 R1 x1 r1 => ?_⟩
    rw [show v = .int _ from r1]
    refine ⟨_, rfl, (rngOk_of hz).1, (rngOk_of hz).2, q _ F1 H1 R1 x1 ?_⟩
    unfold rngD
    rw [Int.sub_zero]
    exact jit_rng
  · cases h2
theorem ii_range2 (hg : Gl X "range") (hm : X.mg "range" = none) (h : PE X e (rE X.K m)) (h' : PE X e2 (rE X.K n)) (hs : starEach [e, e2] X.env = [(false, eval e X.env), (false, eval e2 X.env)] := by rfl) (hs2 : starEach [e2] X.env = [(false, eval e2 X.env)] := by rfl) (hs3 : starEach [e, e2] X.env = (false, eval e X.env) :: starEach [e2] X.env := by rfl) :
    PI X tg (.Call (.Name "range" p) [e, e2] [] pos) (rI X.K (iRange2 m n)) := by
  refine piImp (pi_range2 hg hm (pa_cons h (pa_cons h' pa_nil hs2) hs3) hs hs2) ?_
  rintro σ H Rr ⟨B, F, ε, A, ds, ε', R, hm, q⟩
  simp only [iRange2, Option.bind_eq_some_iff] at hm
  obtain ⟨⟨d, ε1⟩, h1, ⟨d2, ε2⟩, h2, h3⟩ := hm
  obtain ⟨j, j2, rfl, rfl⟩ : ∃ j j2, d = .int j ∧ d2 = .int j2 := by cases d <;> cases d2 <;> first | exact ⟨_, _, rfl, rfl⟩ | cases h3
  simp only at h3
  split at h3
  · rename_i hz
    cases h3
    rw [Bool.and_eq_true] at hz
    refine ⟨B, F, ε, A, _, _, R, h1, fun v F1 H1 R1 x1 r1 => ?_⟩
    refine ⟨B, F1, _, A, _, _, R1, h2, fun v2 F2 H2 R2 x2 r2 => ?_⟩
    rw [show v = .int _ from r1, show v2 = .int _ from r2]
    exact ⟨_, _, rfl, ⟨(rngOk_of hz.1).1, (rngOk_of hz.1).2, (rngOk_of hz.2).1, (rngOk_of hz.2).2⟩, q _ F2 H2 R2 (x1.trans x2) jit_rng⟩
  · cases h3
end

/-! ### for -/
def forL (t : Tg) (body : MS) : List D → List Sl → Option (Fl × List Sl)
  | [], ε => some (.nx, ε)
  | d :: ds, ε => (t.bind d ε).bind fun ε1 => (body ε1).bind fun p => match p.1 with
    | .nx => forL t body ds p.2
    | .ct => forL t body ds p.2
    | .bk => some (.nx, p.2)
    | .rt s => some (.rt s, p.2)
def sFor (i : MI) (t : Tg) (body : MS) : MS := fun ε => (i ε).bind fun p => forL t body p.1 p.2
def whileL (c : MT) (body : MS) : Nat → List Sl → Option (Fl × List Sl)
  | 0, _ => none
  | n + 1, ε => (c ε).bind fun k => if k.1 then (body k.2).bind fun p => match p.1 with
    | .nx => whileL c body n p.2
    | .ct => whileL c body n p.2
    | .bk => some (.nx, p.2)
    | .rt s => some (.rt s, p.2)
    else some (.nx, k.2)
def sWhile (n : Nat) (c : MT) (body : MS) : MS := whileL c body n
section
variable {X : Cx} {np : Nat} {tg e c : Expr} {sts : List Stmt} {pos : Pos} {mi : MI} {t : Tg} {m : MS} {mt : MT}
theorem is_for (hp : PassesOwn (model X.prog X.w) X.A X.env X.xe) (hc : X.calm = true) (hi : PI X tg e (rI X.K mi)) (hg : PG X tg (gR X.K t)) (hb : PSs X sts (rS X.K np m)) (hs : ∀ x, foldedSetIterable e X.env x = pure x := by intro _; rfl) :
    PS X (.For tg e sts [] pos) (rS X.K np (sFor mi t m)) := by
  refine psImp (ps_for hp hc hi hg hb hs) ?_
  rintro D σ H ⟨B, F, ε, A, fl, ε', R, hn, hm, q⟩
  simp only [sFor, Option.bind_eq_some_iff] at hm
  obtain ⟨⟨ds, ε1⟩, h1, h2⟩ := hm
  refine ⟨B, F, ε, A, ds, ε1, R, h1, fun J F1 H1 R1 x1 j1 => ?_⟩
  refine ⟨fun i n σ H => ∃ F2 ε2 A2, Rel X.K B F2 ε2 σ H A2 ∧ Ex F1 F2 ∧ n = ds.length - i ∧ forL t m (ds.drop i) ε2 = some (fl, ε'), ⟨ds.length, F1, ε1, A, R1, Ex.refl F1, by simp, by simpa using h2⟩, ?_⟩
  rintro i n σ2 H2 ⟨F2, ε2, A2, R2, e2, rfl, hf⟩
  obtain ⟨hstop, hgo⟩ := j1 F2 H2 e2 R2.sub
  by_cases hi : i < ds.length
  · obtain ⟨go, yl⟩ := hgo i ds[i] (List.getElem?_eq_getElem hi)
    rw [List.drop_eq_getElem_cons hi] at hf
    simp only [forL, Option.bind_eq_some_iff] at hf
    obtain ⟨ε3, h3, ⟨f, ε4⟩, h4, h5⟩ := hf
    refine .inr ⟨go, fun σ' H' => ∃ F5 ε5 A5, Rel X.K B F5 ε5 σ' H' A5 ∧ Ex F1 F5 ∧ forL t m (ds.drop (i + 1)) ε5 = some (fl, ε'), fun σ' H' ⟨F5, ε5, A5, R5, e5, h6⟩ => ⟨ds.length - (i + 1), by omega, F5, ε5, A5, R5, e5, rfl, h6⟩, fun x H3 y => ?_⟩
    obtain ⟨F3, x3, s3, r3⟩ := yl x H3 y
    have R3 := R2.ext x3 s3
    refine ⟨B, F3, ε2, A2, _, ε3, R3, r3, h3, fun σ4 R4 _ => ?_⟩
    refine ⟨B, F3, ε3, A2, f, ε4, R4, hn, h4, ?_⟩
    have e13 : Ex F1 F3 := e2.trans x3.ex
    cases f with
    | nx => exact fun F5 σ5 H5 A5 R5 e5 => ⟨F5, ε4, A5, R5, e13.trans e5, h5⟩
    | ct => exact fun F5 σ5 H5 A5 R5 e5 => ⟨F5, ε4, A5, R5, e13.trans e5, h5⟩
    | bk => cases h5; exact fun F5 σ5 H5 A5 R5 e5 => q F5 σ5 H5 A5 R5 (x1.ex.trans (e13.trans e5))
    | rt s => cases h5; exact fun v F5 σ5 H5 A5 R5 e5 => q v F5 σ5 H5 A5 R5 (x1.ex.trans (e13.trans e5))
  · rw [List.drop_eq_nil_of_le (by omega)] at hf
    cases hf
    exact .inl ⟨hstop i (by omega), q F2 σ2 H2 A2 R2 (x1.ex.trans e2)⟩
theorem is_while (fuel : Nat) (hp : PassesOwn (model X.prog X.w) X.A X.env X.xe) (hc : PT X c (rT X.K mt)) (hb : PSs X sts (rS X.K np m)) : PS X (.While c sts [] pos) (rS X.K np (sWhile fuel mt m)) := by
  refine psImp (ps_while hp hc hb) ?_
  rintro D σ H ⟨B, F, ε, A, fl, ε', R, hn, hm, q⟩
  refine ⟨fun n σ H => ∃ F2 ε2 A2, Rel X.K B F2 ε2 σ H A2 ∧ Ex F F2 ∧ whileL mt m n ε2 = some (fl, ε'), ⟨fuel, F, ε, A, R, Ex.refl F, hm⟩, ?_⟩
  rintro n σ2 H2 ⟨F2, ε2, A2, R2, e2, hf⟩
  cases n with
  | zero => cases hf
  | succ n =>
    simp only [whileL, Option.bind_eq_some_iff] at hf
    obtain ⟨⟨k, ε3⟩, h3, h4⟩ := hf
    refine ⟨B, F2, ε2, A2, k, ε3, R2, h3, fun F3 H3 R3 x3 => ?_⟩
    cases k with
    | true =>
      simp only [if_true, Option.bind_eq_some_iff] at h4
      obtain ⟨⟨f, ε4⟩, h5, h6⟩ := h4
      rw [if_pos rfl]
      refine ⟨fun σ' H' => ∃ F5 ε5 A5, Rel X.K B F5 ε5 σ' H' A5 ∧ Ex F F5 ∧ whileL mt m n ε5 = some (fl, ε'), fun σ' H' ⟨F5, ε5, A5, R5, e5, h6⟩ => ⟨n, Nat.lt_succ_self n, F5, ε5, A5, R5, e5, h6⟩, ?_⟩
      refine ⟨B, F3, ε3, A2, f, ε4, R3, hn, h5, ?_⟩
      have e13 : Ex F F3 := e2.trans x3.ex
      cases f with
      | nx => exact fun F5 σ5 H5 A5 R5 e5 => ⟨F5, ε4, A5, R5, e13.trans e5, h6⟩
      | ct => exact fun F5 σ5 H5 A5 R5 e5 => ⟨F5, ε4, A5, R5, e13.trans e5, h6⟩
      | bk => cases h6; exact fun F5 σ5 H5 A5 R5 e5 => q F5 σ5 H5 A5 R5 (e13.trans e5)
      | rt s => cases h6; exact fun v F5 σ5 H5 A5 R5 e5 => q v F5 σ5 H5 A5 R5 (e13.trans e5)
    | false =>
      rw [if_neg Bool.false_ne_true]
      cases h4
      exact q F3 σ2 H3 A2 R3 (e2.trans x3.ex)
end

/-! ### comprehensions -/
def wipeE : List Nat → List Sl → List Sl
  | [], ε => ε
  | v :: vs, ε => (wipeE vs ε).set v .un
/-- the slots vs as they were in ε0 -/
def backE : List Nat → List Sl → List Sl → List Sl
  | [], _, ε => ε
  | v :: vs, ε0, ε => (backE vs ε0 ε).set v (ε0.getD v .un)
def lcL (vs : List Nat) (t : Tg) (c : MT) (elt : ME) : List D → List Sl → Option (List D × List Sl)
  | [], ε => some ([], ε)
  | d :: ds, ε => (t.bind d (wipeE vs ε)).bind fun ε1 => (c ε1).bind fun k => if k.1 then (elt k.2).bind fun y => (lcL vs t c elt ds y.2).bind fun r => some (y.1 :: r.1, r.2) else lcL vs t c elt ds k.2
def nLc (vs : List Nat) (i : MI) (t : Tg) (c : MT) (elt : ME) : MN := fun ε => (i ε).bind fun p => if vs.all (plainAt p.2) then (lcL vs t c elt p.1 p.2).bind fun r => if szOk r.1.length then some (.lst r.1, backE vs p.2 r.2) else none else none
def tYes' : MT := fun ε => some (true, ε)
theorem wipeE_length (ε : List Sl) : ∀ vs, (wipeE vs ε).length = ε.length
  | [] => rfl
  | v :: vs => by show ((wipeE vs ε).set v .un).length = _; rw [List.length_set, wipeE_length ε vs]
theorem backE_length (ε0 ε : List Sl) : ∀ vs, (backE vs ε0 ε).length = ε.length
  | [] => rfl
  | v :: vs => by show ((backE vs ε0 ε).set v _).length = _; rw [List.length_set, backE_length ε0 ε vs]
theorem wipeE_out {ε : List Sl} {i : Nat} : ∀ {vs : List Nat}, i ∉ vs → (wipeE vs ε)[i]? = ε[i]?
  | [], _ => rfl
  | v :: vs, h => by
    show ((wipeE vs ε).set v .un)[i]? = _
    rw [List.getElem?_set_ne (fun z => h (by rw [z]; simp)), wipeE_out fun z => h (List.mem_cons_of_mem _ z)]
theorem wipeE_in {ε : List Sl} {i : Nat} : ∀ {vs : List Nat}, i ∈ vs → i < ε.length → (wipeE vs ε)[i]? = some .un
  | v :: vs, h, hl => by
    show ((wipeE vs ε).set v .un)[i]? = _
    by_cases e : v = i
    · subst e
      rw [List.getElem?_set_self (by rw [wipeE_length]; exact hl)]
    · rw [List.getElem?_set_ne e, wipeE_in (by rcases List.mem_cons.mp h with z | z; exact absurd z.symm e; exact z) hl]
theorem backE_out {ε0 ε : List Sl} {i : Nat} : ∀ {vs : List Nat}, i ∉ vs → (backE vs ε0 ε)[i]? = ε[i]?
  | [], _ => rfl
  | v :: vs, h => by
    show ((backE vs ε0 ε).set v _)[i]? = _
    rw [List.getElem?_set_ne (fun z => h (by rw [z]; simp)), backE_out fun z => h (List.mem_cons_of_mem _ z)]
theorem backE_in {ε0 ε : List Sl} {i : Nat} : ∀ {vs : List Nat}, i ∈ vs → i < ε.length → (backE vs ε0 ε)[i]? = some (ε0.getD i .un)
  | v :: vs, h, hl => by
    show ((backE vs ε0 ε).set v _)[i]? = _
    by_cases e : v = i
    · subst e
      rw [List.getElem?_set_self (by rw [backE_length]; exact hl)]
    · rw [List.getElem?_set_ne e, backE_in (by rcases List.mem_cons.mp h with z | z; exact absurd z.symm e; exact z) hl]
theorem wipe_len (σ : L2.St) (vs : List Nat) : (wipe σ vs).length = σ.length := wipe_length σ vs
theorem wipe_in {σ : L2.St} {i : Nat} : ∀ {vs : List Nat}, i ∈ vs → i < σ.length → (wipe σ vs)[i]? = some none
  | v :: vs, h, hl => by
    show ((wipe σ vs).set v none)[i]? = _
    by_cases e : v = i
    · subst e
      rw [List.getElem?_set_self (by rw [wipe_length]; exact hl)]
    · rw [List.getElem?_set_ne e, wipe_in (by rcases List.mem_cons.mp h with z | z; exact absurd z.symm e; exact z) hl]
theorem wipe_ext {σ σ' : L2.St} {vs : List Nat} (hl : σ'.length = σ.length) (h : ∀ j, j ∉ vs → σ'[j]? = σ[j]?) : wipe σ' vs = wipe σ vs := by
  apply List.ext_getElem?
  intro j
  by_cases hj : j ∈ vs
  · by_cases hlj : j < σ.length
    · rw [wipe_in hj hlj, wipe_in hj (by rw [hl]; exact hlj)]
    · rw [List.getElem?_eq_none (by rw [wipe_length]; omega), List.getElem?_eq_none (by rw [wipe_length]; omega)]
  · rw [wipe_out hj, wipe_out hj]
    exact h j hj
section
variable {K : PySem.W.Frag} {B : Bs} {F F' F1 F2 H H' H1 H2 : Hp} {ε ε' ε1 ε2 : List Sl} {σ : L2.St} {A : List (List Addr)} {vs : List Nat}
theorem Rel.plainOf (R : Rel K B F ε σ H A) {i : Nat} (h : A[i]? = some []) : plainAt ε i = true := by
  obtain ⟨s, o, h1, h2, h3⟩ := R.idx h
  unfold plainAt
  rw [h1]
  cases s with
  | un => rfl
  | val d => rfl
  | lst ds => obtain ⟨a, xs, _, z, _⟩ := h3; cases z
  | dic t ks vs => obtain ⟨a, xs, _, z, _⟩ := h3; cases z
  | dl ks vss => obtain ⟨a, as, kvs, _, z, _⟩ := h3; cases z
/-- the own names of a block are forgotten -/
theorem Rel.wiped (R : Rel K B F ε σ H A) (h : ∀ v ∈ vs, A[v]? = some []) {σ' : L2.St} (hl : σ'.length = σ.length) (hs : ∀ j, j ∉ vs → σ'[j]? = σ[j]?) : Rel K B F (wipeE vs ε) σ' H A := by
  refine ⟨R.sub, by rw [wipeE_length, hl]; exact R.len, by rw [hl]; exact R.lenA, fun j s o As h1 h2 h3 => ?_, R.nd, R.dis, R.bfr, R.bex, R.bnew, R.bown, R.bdom, R.bio, R.tb⟩
  by_cases hj : j ∈ vs
  · have hlt : j < ε.length := by
      have := (List.getElem?_eq_some_iff.mp h1).1
      rwa [wipeE_length] at this
    rw [wipeE_in hj hlt] at h1
    cases h1
    rw [h j hj] at h3
    cases h3
    rfl
  · rw [wipeE_out hj] at h1
    rw [hs j hj] at h2
    exact R.own j s o As h1 h2 h3
/-- behind the block -/
theorem Rel.back (R1 : Rel K B F1 ε1 σ H1 A) (R2 : Rel K B F2 ε2 (wipe σ vs) H2 A) (e : Ex F1 F2) (h : ∀ v ∈ vs, A[v]? = some []) : Rel K B F2 (backE vs ε1 ε2) σ H2 A := by
  have l2 : ε2.length = σ.length := by rw [R2.len, wipe_length]
  refine ⟨R2.sub, by rw [backE_length]; exact l2, R1.lenA, fun j s o As h1 h2 h3 => ?_, R2.nd, R2.dis, R2.bfr, R2.bex, R2.bnew, R2.bown, R2.bdom, R2.bio, R2.tb⟩
  by_cases hj : j ∈ vs
  · have hlt : j < ε2.length := by
      have := (List.getElem?_eq_some_iff.mp h1).1
      rwa [backE_length] at this
    rw [backE_in hj hlt] at h1
    cases h1
    have hlt1 : j < ε1.length := by rw [R1.len, ← l2]; exact hlt
    have q := R1.own j _ o As (show ε1[j]? = some (ε1.getD j .un) by rw [List.getD_eq_getElem?_getD, List.getElem?_eq_getElem hlt1]; rfl) h2 h3
    refine q.mono e.rdx fun a ha => ?_
    rw [h j hj] at h3
    cases h3
    cases ha
  · rw [backE_out hj] at h1
    exact R2.own j s o As h1 (by rw [wipe_out hj]; exact h2) h3
end
section
variable {X : Cx} {tg iter elt : Expr} {ifs : List Expr} {scope : Scope} {own : List (Str × Nat)} {pos : Pos} {mi : MI} {t : Tg} {mt : MT} {me : ME}
structure PTs' (X : Cx) (ifs : List Expr) (m : MT) : Prop where
  h : PTs X ifs (rT X.K m)
theorem its_nil : PTs X [] (rT X.K tYes') := by
  have h := pts_nil (X := X)
  refine ⟨fun pins s σ H Q I q => h.run pins s σ H Q I ?_⟩
  obtain ⟨B, F, ε, A, b, ε', R, hm, q⟩ := q
  cases hm
  exact q F H R (Ext.refl F H A)
theorem its_one {c : Expr} (h : PT X c (rT X.K mt)) : PTs X [c] (rT X.K mt) := pts_one h
theorem lc_elim {σ : L2.St} {H : Hp} {Q : VK} {vs : List Nat} (hts : ∀ j, j ∈ t.slots → j ∈ vs) (h : rN X.K (nLc vs mi t mt me) σ H Q) : tLc (rI X.K mi) (gR X.K t) (rT X.K mt) (rE X.K me) vs σ H Q := by
  obtain ⟨B, F, ε, A, s, ε', R, hm, q⟩ := h
  simp only [nLc, Option.bind_eq_some_iff] at hm
  obtain ⟨⟨ds, ε1⟩, h1, h2⟩ := hm
  simp only at h2
  split at h2
  · rename_i hpl
    simp only [Option.bind_eq_some_iff] at h2
    obtain ⟨⟨tot, εf⟩, h3, h4⟩ := h2
    simp only at h4
    split at h4
    · rename_i hz
      cases h4
      refine ⟨B, F, ε, A, ds, ε1, R, h1, fun J F1 H1 R1 x1 j1 Dl hD => ?_⟩
      have hv : ∀ v ∈ vs, A[v]? = some [] := fun v hv => R1.plainA (List.all_eq_true.mp hpl v hv)
      have fD := R1.fresh hD
      refine ⟨fun i n Hc => ∃ F2 ε2 xs acc rest, Rel X.K B F2 (wipeE vs ε2) (wipe σ vs) Hc A ∧ Ext F1 H1 F2 Hc A ∧ Hc Dl = some (.lst xs) ∧ F2 Dl = none ∧ Reps X.K F2 acc xs ∧ lcL vs t mt me (ds.drop i) ε2 = some (rest, εf) ∧ acc ++ rest = tot ∧ n = ds.length - i,
        ⟨ds.length, F1, ε1, [], [], tot, ?_, (ext_tmp hD R1.sub).less, upd_same, fD.1, rfl, by simpa using h3, rfl, by simp⟩, ?_⟩
      · exact (R1.tmp hD).wiped hv (wipe_length σ vs) fun j hj => wipe_out hj
      · rintro i n Hc ⟨F2, ε2, xs, acc, rest, R2, x2, hDl, fDl, racc, hl, htot, rfl⟩
        obtain ⟨hstop, hgo⟩ := j1 F2 Hc x2.ex R2.sub
        by_cases hi : i < ds.length
        · obtain ⟨go, yl⟩ := hgo i ds[i] (List.getElem?_eq_getElem hi)
          rw [List.drop_eq_getElem_cons hi] at hl
          simp only [lcL, Option.bind_eq_some_iff] at hl
          obtain ⟨ε3, h5, ⟨k, ε4⟩, h6, h7⟩ := hl
          have nD : ¬ Al A Dl := fD.2.1
          refine .inr ⟨go, fun Hc' => ∃ F5 ε5 xs acc rest, Rel X.K B F5 (wipeE vs ε5) (wipe σ vs) Hc' A ∧ Ext F1 H1 F5 Hc' A ∧ Hc' Dl = some (.lst xs) ∧ F5 Dl = none ∧ Reps X.K F5 acc xs ∧ lcL vs t mt me (ds.drop (i + 1)) ε5 = some (rest, εf) ∧ acc ++ rest = tot,
            fun Hc' ⟨F5, ε5, xs, acc, rest, a1, a2, a3, a4, a5, a6, a7⟩ => ⟨ds.length - (i + 1), by omega, F5, ε5, xs, acc, rest, a1, a2, a3, a4, a5, a6, a7, rfl⟩, fun x H3 y => ?_⟩
          obtain ⟨F3, x3, s3, r3⟩ := yl x H3 y
          have R3 := R2.ext x3 s3
          have x23 : Ext F1 H1 F3 H3 A := x2.trans x3.less
          obtain ⟨hDl3, fDl3⟩ := x3.less (A := A) |>.stay s3 hDl trivial fDl nD
          refine ⟨B, F3, wipeE vs ε2, A, _, ε3, R3, r3, h5, fun σ4 R4 bt => ?_⟩
          have bt2 : ∀ j, j ∉ vs → σ4[j]? = (wipe σ vs)[j]? := fun j hj => bt.2 j fun z => hj (hts j z)
          refine ⟨by rw [wipe_ext bt.1 bt2]; exact wipe_ext (wipe_length σ vs) fun j hj => wipe_out hj, ?_⟩
          refine ⟨B, F3, ε3, A, k, ε4, R4, h6, fun F6 H6 R6 x6 => ?_⟩
          obtain ⟨hDl6, fDl6⟩ := x6.stay R6.sub hDl3 trivial fDl3 nD
          cases k with
          | true =>
            rw [if_pos rfl] at h7 ⊢
            simp only [Option.bind_eq_some_iff] at h7
            obtain ⟨⟨d, ε7⟩, h8, ⟨rest2, ε8⟩, h9, h10⟩ := h7
            cases h10
            refine ⟨B, F6, ε4, A, d, ε7, R6, h8, fun y F7 H7 R7 x7 r7 => ?_⟩
            obtain ⟨hDl7, fDl7⟩ := x7.stay R7.sub hDl6 trivial fDl6 nD
            have ex27 : Ex F2 F7 := x3.ex.trans (x6.ex.trans x7.ex)
            have hlen : acc.length = xs.length := racc.length
            refine ⟨xs, hDl7, ?_, F7, ε7, xs ++ [y], acc ++ [d], rest2, ?_, ?_, upd_same, fDl7, (racc.mono' ex27.rdx).append (.cons r7 .nil), h9, by rw [List.append_assoc]; exact htot⟩
            · have := szOk_le hz
              simp only [← htot, List.length_append, List.length_cons] at this
              omega
            · have R8 : Rel X.K B F7 ε7 σ4 (upd H7 Dl (.lst (xs ++ [y]))) A := R7.tmpSet hDl7 fDl7 nD fD.2.2
              have R9 := R8.wiped (σ' := wipe σ vs) hv (by rw [wipe_length]; rw [bt.1, wipe_length]) fun j hj => (bt2 j hj).symm
              exact R9
            · have xx : Ext F1 H1 F7 H7 A := (x23.trans x6).trans x7
              refine ⟨xx.ex, xx.new, fun a o ha na => ?_, fun a ha => ?_⟩
              · have hne : a ≠ Dl := fun z => by rw [z, hD] at ha; cases ha
                rcases xx.fr a o ha na with z | ⟨z1, z2, od, z3⟩ | ⟨t, o', z, t'⟩
                · exact .inl (by rw [upd_ne hne]; exact z)
                · exact .inr (.inl ⟨z1, z2, od, by rw [upd_ne hne]; exact z3⟩)
                · exact .inr (.inr ⟨t, o', by rw [upd_ne hne]; exact z, t'⟩)
              · by_cases e : a = Dl
                · rw [e]; exact hD
                · rw [upd_ne e] at ha; exact xx.dom a ha
          | false =>
            rw [if_neg Bool.false_ne_true] at h7 ⊢
            have ex26 : Ex F2 F6 := x3.ex.trans x6.ex
            refine ⟨F6, ε4, xs, acc, rest, ?_, x23.trans x6, hDl6, fDl6, racc.mono' ex26.rdx, h7, htot⟩
            exact R6.wiped (σ' := wipe σ vs) hv (by rw [wipe_length]; rw [bt.1, wipe_length]) fun j hj => (bt2 j hj).symm
        · rw [List.drop_eq_nil_of_le (by omega)] at hl
          cases hl
          rw [List.append_nil] at htot
          subst htot
          refine .inl ⟨hstop i (by omega), ?_⟩
          have R9 := R1.back R2 x2.ex hv
          have e9 : backE vs ε1 (wipeE vs εf) = backE vs ε1 εf := by
            apply List.ext_getElem?
            intro j
            by_cases hj : j ∈ vs
            · by_cases hlj : j < εf.length
              · rw [backE_in hj (by rw [wipeE_length]; exact hlj), backE_in hj hlj]
              · rw [List.getElem?_eq_none (by rw [backE_length, wipeE_length]; omega), List.getElem?_eq_none (by rw [backE_length]; omega)]
            · rw [backE_out hj, backE_out hj, wipeE_out hj]
          rw [e9] at R9
          exact q _ F2 Hc R9 (x1.trans x2) ⟨Dl, rfl, ⟨Dl, xs, rfl, rfl, hDl, racc⟩, fDl, fD.2.1, x1.dom Dl hD⟩
    · cases h4
  · cases h2
theorem in_lc (hc : X.calm = true) (hN : X.N.Nodup) (hi : PI X tg iter (rI X.K mi)) (ok : BlkOk X.N X.env.scope scope own)
    (hg : ∀ (s : Shared) (H : Hp) (C : Addr) (cl : List (Str × Addr)) (fp : List Addr), PG (X.blk s H scope (compEnvC scope cl C X.env) fp) tg (gR X.K t)) (ht : ∀ (s : Shared) (H : Hp) (C : Addr) (cl : List (Str × Addr)) (fp : List Addr), PTs (X.blk s H scope (compEnvC scope cl C X.env) fp) ifs (rT X.K mt))
    (he : ∀ (s : Shared) (H : Hp) (C : Addr) (cl : List (Str × Addr)) (fp : List Addr), PE (X.blk s H scope (compEnvC scope cl C X.env) fp) elt (rE X.K me)) (hts : (t.slots.all fun j => decide (j ∈ own.map (·.2))) = true := by rfl) (hs : ∀ x, foldedSetIterable iter X.env x = pure x := by intro _; rfl) :
    PE X (.ListComp elt [⟨tg, iter, ifs, 0⟩] scope pos) (rN X.K (nLc (own.map (·.2)) mi t mt me)) :=
  peImp (pe_lc hc hN hi ok hg ht he hs) fun σ H Q h => lc_elim (fun j hj => of_decide_eq_true (List.all_eq_true.mp hts j hj)) h
end
end Rl
end

set_option Elab.async false
set_option linter.all false
set_option maxRecDepth 100000
set_option autoImplicit false
set_option maxHeartbeats 1000000
/-! Rl, part 5: defs and calls by mirrors. -/
noncomputable section
namespace Rl
open PySem PySem.Spec PyProof.Rows L2
variable [Tabs]

/-! ### a def -/
abbrev Fn := List Sl → Option (Sl × List Sl)
def fnOf (np n : Nat) (body : MS) : Fn := fun args => if args.length = np then (body (args ++ List.replicate (n - np) .un)).bind fun p => match p.1 with
    | .rt s => some (s, p.2.take np)
    | .nx => some (.val .non, p.2.take np)
    | _ => none
  else none
def ArgsR (K : PySem.W.Frag) (F H : Hp) (args : List Sl) (vs : List V) (A : List (List Addr)) : Prop :=
  args.length = vs.length ∧ A.length = vs.length ∧ ∀ (i : Nat) (s : Sl) (v : V) (As : List Addr), args[i]? = some s → vs[i]? = some v → A[i]? = some As → OwnS K F H s (some v) As
/-- behind a call: vs the arguments, A what they own, outs what the own ones are now, r the result -/
structure PostF (K : PySem.W.Frag) (F H : Hp) (A : List (List Addr)) (vs : List V) (outs : List Sl) (F' H' : Hp) (r : Sl) (v : V) : Prop where
  sub : Sub F' H'
  ext : Ext F H F' H' A
  outs : ∀ (i : Nat) (As : List Addr) (u : V), A[i]? = some As → As ≠ [] → vs[i]? = some u → ∃ s, outs[i]? = some s ∧ OwnS K F' H' s (some u) As
  dis : ∀ a, Al A a → F' a = none
  res : RetS K ⟨H, F, A⟩ F' H' A r v
def spF (K : PySem.W.Frag) (f : Fn) : Sp := fun vs H Q _ => ∃ F args A r outs, ArgsR K F H args vs A ∧ (Sub F H ∧ ∀ P ∈ Tabs.T, (∃ o, H P = some o ∧ IsTb o) ∧ F P = none) ∧ Apart A ∧ (∀ a, Al A a → F a = none) ∧ f args = some (r, outs) ∧ ∀ v F' H', PostF K F H A vs outs F' H' r v → Q v H'

theorem ownS_ref {K : PySem.W.Frag} {F H : Hp} {s : Sl} {o : Option V} {As : List Addr} (h : OwnS K F H s o As) (ne : As ≠ []) : ∃ a, As.head? = some a ∧ o = some (.ref a) := by
  cases s with
  | un => exact absurd h ne
  | val d => exact absurd h.1 ne
  | lst ds => obtain ⟨a, xs, e1, e2, _⟩ := h; exact ⟨a, by rw [e2]; rfl, e1⟩
  | dic t ks vs => obtain ⟨a, xs, e1, e2, _⟩ := h; exact ⟨a, by rw [e2]; rfl, e1⟩
  | dl ks vss => obtain ⟨a, as, kvs, e1, e2, _⟩ := h; exact ⟨a, by rw [e2]; rfl, e1⟩
theorem ownS_same {K : PySem.W.Frag} {F H F' H' : Hp} {s s' : Sl} {o o' : Option V} {As : List Addr} (h : OwnS K F H s o As) (h' : OwnS K F' H' s' o' As) (ne : As ≠ []) : o = o' := by
  obtain ⟨a, h1, h2⟩ := ownS_ref h ne
  obtain ⟨b, h3, h4⟩ := ownS_ref h' ne
  rw [h1] at h3
  cases h3
  rw [h2, h4]

section
variable {P : Program} {w : World} {K : PySem.W.Frag} {mg : Str → Option Value} {base : Heap}
theorem retS_mono {B B' : Bs} {F H : Hp} {A A' : List (List Addr)} {s : Sl} {v : V} (h : RetS K B F H A s v) (ha : ∀ a, Al A' a → Al A a) (h0 : B'.H0 = B.H0) : RetS K B' F H A' s v := by
  have go : ∀ s, NewS K F H A B.H0 s v → NewS K F H A' B'.H0 s v := fun s ⟨p, q1, q2, q3, q4, q5⟩ => ⟨p, q1, q2, q3, fun z => q4 (ha p z), by rw [h0]; exact q5⟩
  cases s with
  | un => exact h
  | val d => exact h
  | lst ds => exact go _ h
  | dic t ks vs => exact go _ h
  | dl ks vss => exact go _ h
theorem sp_len {ps N : List Str} {m : MS} : ∀ vs H Q E, spF K (fnOf ps.length N.length m) vs H Q E → vs.length = ps.length := by
  rintro vs H Q E ⟨F, args, A, r, outs, ⟨h1, _⟩, _, _, _, h2, _⟩
  unfold fnOf at h2
  split at h2
  · omega
  · cases h2
theorem sp_start {ps N : List Str} {m : MS} (hN : ps.length ≤ N.length) {vs : List V} {H : Hp} {Q : VK} {E : XK} (hsp : spF K (fnOf ps.length N.length m) vs H Q E) : rS K ps.length m { nx := fun _ H' => Q .non H', rt := Q } (start N vs) H := by
  have hl := sp_len vs H Q E hsp
  obtain ⟨F, args, A, r, outs, ⟨a1, a2, a3⟩, ⟨sb, tb⟩, ap, dis, hf, q⟩ := hsp
  unfold fnOf at hf
  rw [if_pos (by omega)] at hf
  simp only [Option.bind_eq_some_iff] at hf
  obtain ⟨⟨fl, ε'⟩, h1, h2⟩ := hf
  let k2 := N.length - ps.length
  have alA : ∀ a, Al (A ++ List.replicate k2 []) a → Al A a := by
    rintro a ⟨i, As, h, ha⟩
    by_cases hi : i < A.length
    · rw [List.getElem?_append_left hi] at h
      exact ⟨i, As, h, ha⟩
    · rw [List.getElem?_append_right (by omega), List.getElem?_replicate] at h
      split at h
      · cases h; cases ha
      · cases h
  have R : Rel K ⟨H, F, A⟩ F (args ++ List.replicate k2 .un) (start N vs) H (A ++ List.replicate k2 []) := by
    refine ⟨sb, ?_, ?_, fun i s o As e1 e2 e3 => ?_, fun i j As Bs a e1 e2 e3 e4 => ?_, fun a h => dis a (alA a h), fun a o h _ => .inl h, Ex.refl F, fun a u h => .inl h, fun a h => .inl (alA a h), fun a h => h, fun i As e1 e2 => ?_, fun P hP => ⟨(tb P hP).1, (tb P hP).2, fun z => by obtain ⟨⟨o, e, _⟩, _⟩ := tb P hP; have z' : H P = none := z; rw [z'] at e; cases e⟩⟩
    · show (args ++ List.replicate k2 Sl.un).length = (vs.map some ++ List.replicate (N.length - vs.length) none).length
      simp only [List.length_append, List.length_replicate, List.length_map]
      omega
    · show (A ++ List.replicate k2 []).length = (vs.map some ++ List.replicate (N.length - vs.length) none).length
      simp only [List.length_append, List.length_replicate, List.length_map]
      omega
    · by_cases hi : i < vs.length
      · rw [List.getElem?_append_left (by omega)] at e1 e3
        have e2' : (vs.map some ++ List.replicate (N.length - vs.length) none)[i]? = some o := e2
        rw [List.getElem?_append_left (by simpa using hi), List.getElem?_map, List.getElem?_eq_getElem hi] at e2'
        cases e2'
        exact a3 i s _ As e1 (List.getElem?_eq_getElem hi) e3
      · rw [List.getElem?_append_right (by omega), List.getElem?_replicate] at e1 e3
        split at e1
        · cases e1
          split at e3
          · cases e3; rfl
          · cases e3
        · cases e1
    · by_cases hi : i < A.length
      · by_cases hj : j < A.length
        · rw [List.getElem?_append_left hi] at e1
          rw [List.getElem?_append_left hj] at e2
          exact ap i j As Bs a e1 e2 e3 e4
        · rw [List.getElem?_append_right (by omega), List.getElem?_replicate] at e2
          split at e2
          · cases e2; cases e4
          · cases e2
      · rw [List.getElem?_append_right (by omega), List.getElem?_replicate] at e1
        split at e1
        · cases e1; cases e3
        · cases e1
    · rw [List.getElem?_append_left (List.getElem?_eq_some_iff.mp e1).1]
      exact e1
  refine ⟨⟨H, F, A⟩, F, _, _, fl, ε', R, by show A.length = ps.length; omega, by rw [a1, hl] at *; exact h1, ?_⟩
  have fin : ∀ (v : V) (F' H' : Hp) (σ' : L2.St) (A' : List (List Addr)), Rel K ⟨H, F, A⟩ F' ε' σ' H' A' → RetS K ⟨H, F, A⟩ F' H' A' r v → outs = ε'.take ps.length → Q v H' := by
    intro v F' H' σ' A' R' rr eo
    have up : ∀ a, Al A a → Al A' a := by
      rintro a ⟨i, As, e1, e2⟩
      exact ⟨i, As, R'.bio i As e1 (fun z => by rw [z] at e2; cases e2), e2⟩
    refine q v F' H' ⟨R'.sub, ⟨R'.bex, R'.bnew, fun a o h na => R'.bfr a o h na, R'.bdom⟩, fun i As u e1 e2 e3 => ?_, fun a h => R'.dis a (up a h), retS_mono rr up rfl⟩
    have e4 := R'.bio i As e1 e2
    obtain ⟨s, o, q1, q2, q3⟩ := R'.idx e4
    have hi := (List.getElem?_eq_some_iff.mp e3).1
    obtain ⟨sa, ea⟩ : ∃ sa, args[i]? = some sa := ⟨_, List.getElem?_eq_getElem (show i < args.length by omega)⟩
    have := ownS_same q3 (a3 i sa u As ea e3 e1) e2
    subst this
    exact ⟨s, by rw [eo, List.getElem?_take_of_lt (by omega)]; exact q1, q3⟩
  cases fl with
  | nx =>
    cases h2
    exact fun F' σ' H' A' R' _ => fin .non F' H' σ' A' R' rfl rfl
  | rt s =>
    cases h2
    exact fun v F' σ' H' A' R' _ rr => fin v F' H' σ' A' R' rr rfl
  | bk => cases h2
  | ct => cases h2
/-- THE RULE for a def, by its mirror -/
theorem fn_ok {x qual : Str} {st : Stmt} {f : Addr} {fd : FuncData} {N ps : List Str} {k : Nat} {m : MS} (Fu : Fun K x qual st f fd) (S : FnScope N ps (defScope st))
    (hb : ∀ (cdv : Value) (A : Around) (outer : List Env) (s : Shared) (H : Hp) (E : XK), Room k (A.deeper (envOfC qual (defScope st) s.heap.objs.size f cdv)) →
      PSs (cxOf CX0 P w K mg base N qual (defScope st) f cdv A outer s H E).nox (defBody st) (rS K ps.length m)) (hN : ps.length ≤ N.length := by decide) :
    FnOk P w K mg base CX0 (k + 1) f fd ps (spF K (fnOf ps.length N.length m)) :=
  Fu.ok S sp_len fun cdv A0 outer s H vs Q E hr hsp => ⟨_, hb cdv A0 outer s H E hr, sp_start hN hsp⟩
/-- a def whose code object stands at c -/
structure FunC (K : PySem.W.Frag) (x qual : Str) (st : Stmt) (f : Addr) (fd : FuncData) (c : Addr) : Prop where
  ex : ∃ (oc : Value) (od : Option Addr) (kV doc pm : Value) (an : Option Addr) (ct : Value) (osl : Array (Option Value)),
    fd = PySem.W.fnOf x qual (defArgs st) (defBody st) (defScope st) .none kV doc pm an (.ref c) ct ∧ K.lookup f = some ⟨oc, od, .func fd, osl⟩ ∧ PySem.W.codeIn K (.ref c) qual = true
  fn : Fun K x qual st f fd
theorem fn_okC {x qual : Str} {st : Stmt} {f c : Addr} {fd : FuncData} {N ps : List Str} {k : Nat} {m : MS} (Fu : FunC K x qual st f fd c) (S : FnScope N ps (defScope st))
    (hb : ∀ (A : Around) (outer : List Env) (s : Shared) (H : Hp) (E : XK), Room k (A.deeper (envOfC qual (defScope st) s.heap.objs.size f (.ref c))) →
      PSs (cxOf CX0 P w K mg base N qual (defScope st) f (.ref c) A outer s H E).nox (defBody st) (rS K ps.length m)) (hN : ps.length ≤ N.length := by decide) :
    FnOk P w K mg base CX0 (k + 1) f fd ps (spF K (fnOf ps.length N.length m)) := by
  obtain ⟨oc, od, kV, doc, pm, an, ct, osl, rfl, lk, hcd⟩ := Fu.ex
  exact fn_of lk hcd S sp_len fun A outer s H vs Q E hr hsp => ⟨_, (hb A outer s H E hr).nox, sp_start hN hsp⟩
end

/-! ### calls -/
inductive Ag where
  | e (d : D)
  | own (i : Nat)
  /-- a new own thing, which the caller forgets -/
  | nw (s : Sl)
abbrev MG := List Sl → Option (List Ag × List Sl)
def gNil : MG := fun ε => some ([], ε)
def gCons (m : ME) (r : MG) : MG := fun ε => (m ε).bind fun p => (r p.2).bind fun q => some (.e p.1 :: q.1, q.2)
def isOwn (ε : List Sl) (i : Nat) : Bool := match ε[i]? with
  | some (.lst _) => true
  | some (.dic _ _ _) => true
  | _ => false
def gOwn (i : Nat) (r : MG) : MG := fun ε => if isOwn ε i then (r ε).bind fun q => some (.own i :: q.1, q.2) else none
def gNwc (m : MN) (r : MG) : MG := fun ε => (m ε).bind fun p => (r p.2).bind fun q => some (.nw p.1 :: q.1, q.2)
/-- one argument; Hs: the heap before the arguments -/
def Ag1 (K : PySem.W.Frag) (F H Hs : Hp) (σ : L2.St) (A : List (List Addr)) : Ag → V → Prop
  | .e d, v => Rep K F d v
  | .own i, v => ∃ a, v = .ref a ∧ σ[i]? = some (some (.ref a)) ∧ A[i]? = some [a]
  | .nw s, v => ∃ p, v = .ref p ∧ OwnS K F H s (some v) [p] ∧ F p = none ∧ ¬ Al A p ∧ Hs p = none
def AgOk (K : PySem.W.Frag) (F H Hs : Hp) (σ : L2.St) (A : List (List Addr)) : List Ag → List V → Prop
  | [], vs => vs = []
  | g :: r, vs => ∃ v t, vs = v :: t ∧ Ag1 K F H Hs σ A g v ∧ AgOk K F H Hs σ A r t
/-- the new things are different things -/
def NwD (gs : List Ag) (vs : List V) : Prop := ∀ (i k : Nat) (s t : Sl) (a : Addr), gs[i]? = some (.nw s) → gs[k]? = some (.nw t) → vs[i]? = some (.ref a) → vs[k]? = some (.ref a) → i = k
theorem NwD.skip {g : Ag} {v : V} {gs : List Ag} {vs : List V} (h : NwD gs vs) (hg : ∀ s p, g = .nw s → v = .ref p → ∀ (k : Nat) (t : Sl), gs[k]? = some (.nw t) → vs[k]? ≠ some (.ref p)) : NwD (g :: gs) (v :: vs) := by
  intro i k s t a h1 h2 h3 h4
  cases i with
  | zero =>
    cases k with
    | zero => rfl
    | succ k =>
      simp at h1 h3
      exact absurd (by simpa using h4) (hg s a h1 h3 k t (by simpa using h2))
  | succ i =>
    cases k with
    | zero =>
      simp at h2 h4
      exact absurd (by simpa using h3) (hg t a h2 h4 i s (by simpa using h1))
    | succ k => rw [h i k s t a (by simpa using h1) (by simpa using h2) (by simpa using h3) (by simpa using h4)]
def rG (K : PySem.W.Frag) (m : MG) : TA := fun σ H Q => ∃ B F ε A ds ε', Rel K B F ε σ H A ∧ m ε = some (ds, ε') ∧ ∀ vs F' H', Rel K B F' ε' σ H' A → Ext F H F' H' A → AgOk K F' H' H σ A ds vs → NwD ds vs → Q vs H'
theorem Ag1.since {K : PySem.W.Frag} {F H Hs Hr : Hp} {σ : L2.St} {A : List (List Addr)} (e : ∀ p, Hs p = none → Hr p = none) {g : Ag} {v : V} (h : Ag1 K F H Hs σ A g v) : Ag1 K F H Hr σ A g v := by
  cases g with
  | e d => exact h
  | own i => exact h
  | nw s =>
    obtain ⟨p, h1, h2, h3, h4, h5⟩ := h
    exact ⟨p, h1, h2, h3, h4, e p h5⟩
theorem AgOk.since {K : PySem.W.Frag} {F H Hs Hr : Hp} {σ : L2.St} {A : List (List Addr)} (e : ∀ p, Hs p = none → Hr p = none) : ∀ {gs : List Ag} {vs : List V}, AgOk K F H Hs σ A gs vs → AgOk K F H Hr σ A gs vs
  | [], _, h => h
  | g :: r, _, h => by
    obtain ⟨v, t, h1, h2, h3⟩ := h
    exact ⟨v, t, h1, h2.since e, h3.since e⟩
theorem AgOk.at {K : PySem.W.Frag} {F H Hs : Hp} {σ : L2.St} {A : List (List Addr)} : ∀ {gs : List Ag} {vs : List V} {i : Nat} {g : Ag}, AgOk K F H Hs σ A gs vs → gs[i]? = some g → ∃ v, vs[i]? = some v ∧ Ag1 K F H Hs σ A g v
  | [], _, _, _, _, e => by simp at e
  | g :: r, vs, 0, _, h, e => by
    obtain ⟨v, t, rfl, h1, h2⟩ := h
    simp at e
    exact ⟨v, rfl, e ▸ h1⟩
  | g :: r, vs, i + 1, _, h, e => by
    obtain ⟨v, t, rfl, h1, h2⟩ := h
    obtain ⟨u, q1, q2⟩ := h2.at (i := i) (by simpa using e)
    exact ⟨u, by simpa using q1, q2⟩
section
variable {X : Cx} {e : Expr} {es : List Expr} {pos : Pos}
theorem iga_nil : PA X [] (rG X.K gNil) := by
  refine paImp pa_nil ?_
  rintro σ H Q ⟨B, F, ε, A, d, ε', R, hm, q⟩
  cases hm
  exact q [] F H R (Ext.refl F H A) rfl (fun _ _ _ _ _ h => by simp at h)
theorem gCons_elim {m : ME} {r : MG} {σ : L2.St} {H : Hp} {Q : List V → Hp → Prop} (h : rG X.K (gCons m r) σ H Q) : rE X.K m σ H fun v H1 => rG X.K r σ H1 fun vs H2 => Q (v :: vs) H2 := by
  obtain ⟨B, F, ε, A, d, ε', R, hm, q⟩ := h
  simp only [gCons, Option.bind_eq_some_iff] at hm
  obtain ⟨⟨d1, ε1⟩, h1, ⟨ds, ε2⟩, h2, h3⟩ := hm
  cases h3
  refine ⟨B, F, ε, A, d1, ε1, R, h1, fun v F1 H1 R1 x1 r1 => ?_⟩
  refine ⟨B, F1, ε1, A, ds, _, R1, h2, fun vs F2 H2 R2 x2 r2 nd => ?_⟩
  exact q _ F2 H2 R2 (x1.trans x2) ⟨v, vs, rfl, r1.mono' x2.rdx, r2.since x1.dom⟩ (nd.skip fun _ _ z => nomatch z)
theorem iga_cons {m : ME} {r : MG} (h : PE X e (rE X.K m)) (t : PA X es (rG X.K r)) (hs : starEach (e :: es) X.env = (false, eval e X.env) :: starEach es X.env := by rfl) : PA X (e :: es) (rG X.K (gCons m r)) :=
  paImp (pa_cons h t hs) fun σ H Q q => gCons_elim q
theorem isOwn_at {K : PySem.W.Frag} {B : Bs} {F H : Hp} {ε : List Sl} {σ : L2.St} {A : List (List Addr)} {i : Nat} (R : Rel K B F ε σ H A) (h : isOwn ε i = true) : ∃ a, σ[i]? = some (some (.ref a)) ∧ A[i]? = some [a] := by
  unfold isOwn at h
  split at h
  · rename_i e
    obtain ⟨o, As, h1, h2, a, xs, rfl, rfl, _⟩ := R.idxE e
    exact ⟨a, h1, h2⟩
  · rename_i e
    obtain ⟨o, As, h1, h2, a, xs, rfl, rfl, _⟩ := R.idxE e
    exact ⟨a, h1, h2⟩
  · cases h
theorem gOwn_elim (i : Nat) {r : MG} {σ : L2.St} {H : Hp} {Q : List V → Hp → Prop} (h : rG X.K (gOwn i r) σ H Q) : tVar i σ H fun v H1 => rG X.K r σ H1 fun vs H2 => Q (v :: vs) H2 := by
  obtain ⟨B, F, ε, A, d, ε', R, hm, q⟩ := h
  simp only [gOwn] at hm
  split at hm
  · rename_i ho
    simp only [Option.bind_eq_some_iff] at hm
    obtain ⟨⟨ds, ε2⟩, h2, h3⟩ := hm
    cases h3
    obtain ⟨a, h4, h5⟩ := isOwn_at R ho
    exact ⟨_, h4, B, F, ε, A, ds, _, R, h2, fun vs F2 H2 R2 x2 r2 nd => q _ F2 H2 R2 x2 ⟨_, vs, rfl, ⟨a, rfl, h4, h5⟩, r2⟩ (nd.skip fun _ _ z => nomatch z)⟩
  · cases hm
theorem iga_own (i : Nat) {x : Str} {r : MG} (h : PE X (.Name x pos) (tVar i)) (t : PA X es (rG X.K r)) (hs : starEach (.Name x pos :: es) X.env = (false, eval (.Name x pos) X.env) :: starEach es X.env := by rfl) : PA X (.Name x pos :: es) (rG X.K (gOwn i r)) :=
  paImp (pa_cons h t hs) fun σ H Q q => gOwn_elim i q
theorem gNwc_elim {m : MN} {r : MG} {σ : L2.St} {H : Hp} {Q : List V → Hp → Prop} (h : rG X.K (gNwc m r) σ H Q) : rN X.K m σ H fun v H1 => rG X.K r σ H1 fun vs H2 => Q (v :: vs) H2 := by
  obtain ⟨B, F, ε, A, d, ε', R, hm, q⟩ := h
  simp only [gNwc, Option.bind_eq_some_iff] at hm
  obtain ⟨⟨s, ε1⟩, h1, ⟨ds, ε2⟩, h2, h3⟩ := hm
  cases h3
  refine ⟨B, F, ε, A, s, ε1, R, h1, fun v F1 H1 R1 x1 n1 => ?_⟩
  refine ⟨B, F1, ε1, A, ds, _, R1, h2, fun vs F2 H2 R2 x2 r2 nd => ?_⟩
  obtain ⟨p, rfl, n2, n3, n4, n5⟩ := n1
  obtain ⟨o, n6, n7⟩ := n2.there (a := p) (by simp)
  obtain ⟨k1, k2⟩ := x2.stay R2.sub n6 n7 n3 n4
  refine q _ F2 H2 R2 (x1.trans x2) ⟨_, vs, rfl, ⟨p, rfl, n2.mono x2.rdx fun a ha u e => ?_, k2, n4, n5⟩, r2.since x1.dom⟩ (nd.skip fun s' p' _ e k t z1 z2 => ?_)
  · have : a = p := by simpa using ha
    subst this
    rw [n6] at e
    cases e
    exact k1
  · cases e
    obtain ⟨u, e1, p2, rfl, _, _, _, e2⟩ := r2.at z1
    rw [z2] at e1
    cases e1
    rw [n6] at e2
    cases e2
theorem iga_nwc {m : MN} {r : MG} (h : PE X e (rN X.K m)) (t : PA X es (rG X.K r)) (hs : starEach (e :: es) X.env = (false, eval e X.env) :: starEach es X.env := by rfl) : PA X (e :: es) (rG X.K (gNwc m r)) :=
  paImp (pa_cons h t hs) fun σ H Q q => gNwc_elim q
/-! keywords -/
theorem pkImp {kws : List Keyword} {t t' : TA} (h : PK X kws t) (i : ∀ σ H Q, t' σ H Q → t σ H Q) : PK X kws t' := ⟨fun pos pins s σ H Q I q => h.run pos pins s σ H Q I (i σ H Q q)⟩
theorem igk_nil : PK X [] (rG X.K gNil) := by
  refine pkImp pk_nil ?_
  rintro σ H Q ⟨B, F, ε, A, d, ε', R, hm, q⟩
  cases hm
  exact q [] F H R (Ext.refl F H A) rfl (fun _ _ _ _ _ h => by simp at h)
theorem igk_cons {nm : Option Str} {kws : List Keyword} {m : ME} {r : MG} (h : PE X e (rE X.K m)) (t : PK X kws (rG X.K r)) : PK X (⟨nm, e, pos⟩ :: kws) (rG X.K (gCons m r)) :=
  pkImp (pk_cons h t) fun σ H Q q => gCons_elim q
end

def argSl (ε : List Sl) : List Ag → Option (List Sl)
  | [] => some []
  | .e d :: r => (argSl ε r).bind fun t => some (.val d :: t)
  | .own i :: r => if isOwn ε i then (ε[i]?).bind fun s => (argSl ε r).bind fun t => some (s :: t) else none
  | .nw s :: r => (argSl ε r).bind fun t => some (s :: t)
def ownsOf : List Ag → List Nat
  | [] => []
  | .e _ :: r => ownsOf r
  | .own i :: r => i :: ownsOf r
  | .nw _ :: r => ownsOf r
def nodupB : List Nat → Bool
  | [] => true
  | i :: r => !r.contains i && nodupB r
def nwsOf : List Ag → Nat
  | [] => 0
  | .nw _ :: r => nwsOf r + 1
  | _ :: r => nwsOf r
def backArgs : List Ag → List Sl → List Sl → List Sl
  | .e _ :: r, _ :: t, ε => backArgs r t ε
  | .own i :: r, s :: t, ε => (backArgs r t ε).set i s
  | .nw _ :: r, _ :: t, ε => backArgs r t ε
  | _, _, ε => ε
/-- the arguments in the parameters' order -/
def pick {α : Type} (ix : List Nat) (xs : List α) : List α := ix.filterMap fun i => xs[i]?
def runGs (f : Fn) (gs : List Ag) (ε : List Sl) : Option (Sl × List Sl) := if nodupB (ownsOf gs) then (argSl ε gs).bind fun as => (f as).bind fun r => some (r.1, backArgs gs r.2 ε) else none
def runCall (f : Fn) (g : MG) (ε : List Sl) : Option (Sl × List Sl) := (g ε).bind fun p => runGs f p.1 p.2
def runCallK (f : Fn) (ix : List Nat) (g : MG) (ε : List Sl) : Option (Sl × List Sl) := (g ε).bind fun p => if decide (ix.length = p.1.length) && decide (nwsOf (pick ix p.1) ≤ 1) then runGs f (pick ix p.1) p.2 else none
def valR (r : Sl × List Sl) : Option (D × List Sl) := match r.1 with
  | .val d => some (d, r.2)
  | _ => none
def ownR (r : Sl × List Sl) : Option (Sl × List Sl) := match r.1 with
  | .lst ds => some (.lst ds, r.2)
  | .dic t ks vs => some (.dic t ks vs, r.2)
  | _ => none
def eCall (f : Fn) (g : MG) : ME := fun ε => (runCall f g ε).bind valR
def nCall (f : Fn) (g : MG) : MN := fun ε => (runCall f g ε).bind ownR
def eCallK (f : Fn) (ix : List Nat) (g : MG) : ME := fun ε => (runCallK f ix g ε).bind valR
def nCallK (f : Fn) (ix : List Nat) (g : MG) : MN := fun ε => (runCallK f ix g ε).bind ownR

def addrs : V → List Addr
  | .ref p => [p]
  | _ => []
def agA (A : List (List Addr)) : List Ag → List V → List (List Addr)
  | .e _ :: r, _ :: t => [] :: agA A r t
  | .own i :: r, _ :: t => A.getD i [] :: agA A r t
  | .nw _ :: r, v :: t => addrs v :: agA A r t
  | _, _ => []
theorem agA_at {A : List (List Addr)} : ∀ {gs : List Ag} {vs : List V} {i : Nat} {As : List Addr}, (agA A gs vs)[i]? = some As → As = [] ∨ (∃ j, gs[i]? = some (.own j) ∧ As = A.getD j []) ∨ ∃ s v, gs[i]? = some (.nw s) ∧ vs[i]? = some v ∧ As = addrs v
  | [], _, _, _, h => by simp [agA] at h
  | g :: r, [], _, _, h => by cases g <;> simp [agA] at h
  | .e d :: r, _ :: _, 0, _, h => by simp [agA] at h; exact .inl h
  | .own j :: r, _ :: _, 0, _, h => by simp [agA] at h; exact .inr (.inl ⟨j, rfl, by simpa using h.symm⟩)
  | .nw s :: r, v :: _, 0, _, h => by simp [agA] at h; exact .inr (.inr ⟨s, v, rfl, rfl, h.symm⟩)
  | .e d :: r, _ :: t, i + 1, As, h => by
    rcases agA_at (gs := r) (vs := t) (i := i) (by simpa [agA] using h) with z | ⟨j, z1, z2⟩ | ⟨s, v, z1, z2⟩
    · exact .inl z
    · exact .inr (.inl ⟨j, by simpa using z1, z2⟩)
    · exact .inr (.inr ⟨s, v, by simpa using z1, by simpa using z2⟩)
  | .own j' :: r, _ :: t, i + 1, As, h => by
    rcases agA_at (gs := r) (vs := t) (i := i) (by simpa [agA] using h) with z | ⟨j, z1, z2⟩ | ⟨s, v, z1, z2⟩
    · exact .inl z
    · exact .inr (.inl ⟨j, by simpa using z1, z2⟩)
    · exact .inr (.inr ⟨s, v, by simpa using z1, by simpa using z2⟩)
  | .nw s' :: r, _ :: t, i + 1, As, h => by
    rcases agA_at (gs := r) (vs := t) (i := i) (by simpa [agA] using h) with z | ⟨j, z1, z2⟩ | ⟨s, v, z1, z2⟩
    · exact .inl z
    · exact .inr (.inl ⟨j, by simpa using z1, z2⟩)
    · exact .inr (.inr ⟨s, v, by simpa using z1, by simpa using z2⟩)
theorem own_mem {gs : List Ag} {i j : Nat} (h : gs[i]? = some (.own j)) : j ∈ ownsOf gs := by
  induction gs generalizing i with
  | nil => simp at h
  | cons g r ih =>
    cases i with
    | zero => simp at h; subst h; simp [ownsOf]
    | succ i =>
      have := ih (i := i) (by simpa using h)
      cases g with
      | e d => exact this
      | own k => exact List.mem_cons_of_mem _ this
      | nw s => exact this
theorem nws_pos {gs : List Ag} {i : Nat} {s : Sl} (h : gs[i]? = some (.nw s)) : 1 ≤ nwsOf gs := by
  induction gs generalizing i with
  | nil => simp at h
  | cons g r ih =>
    cases i with
    | zero => simp at h; subst h; simp [nwsOf]
    | succ i =>
      have := ih (i := i) (by simpa using h)
      cases g <;> simp only [nwsOf] <;> omega
theorem nw_inj {gs : List Ag} (hn : nwsOf gs ≤ 1) {i k : Nat} {s t : Sl} (h : gs[i]? = some (.nw s)) (h' : gs[k]? = some (.nw t)) : i = k := by
  induction gs generalizing i k with
  | nil => simp at h
  | cons g r ih =>
    cases i with
    | zero =>
      cases k with
      | zero => rfl
      | succ k =>
        simp at h
        subst h
        have := nws_pos (gs := r) (i := k) (by simpa using h')
        simp only [nwsOf] at hn
        omega
    | succ i =>
      cases k with
      | zero =>
        simp at h'
        subst h'
        have := nws_pos (gs := r) (i := i) (by simpa using h)
        simp only [nwsOf] at hn
        omega
      | succ k => rw [ih (by cases g <;> simp only [nwsOf] at hn <;> omega) (i := i) (k := k) (by simpa using h) (by simpa using h')]
theorem own_inj {gs : List Ag} (hn : nodupB (ownsOf gs) = true) {i k j : Nat} (h : gs[i]? = some (.own j)) (h' : gs[k]? = some (.own j)) : i = k := by
  induction gs generalizing i k with
  | nil => simp at h
  | cons g r ih =>
    have hr : nodupB (ownsOf r) = true := by
      cases g with
      | e d => exact hn
      | own z => exact (Bool.and_eq_true_iff.mp hn).2
      | nw s => exact hn
    cases i with
    | zero =>
      cases k with
      | zero => rfl
      | succ k =>
        simp at h
        subst h
        have := own_mem (gs := r) (i := k) (by simpa using h')
        have hn1 := (Bool.and_eq_true_iff.mp hn).1
        simp at hn1
        exact absurd this hn1
    | succ i =>
      cases k with
      | zero =>
        simp at h'
        subst h'
        have := own_mem (gs := r) (i := i) (by simpa using h)
        have hn1 := (Bool.and_eq_true_iff.mp hn).1
        simp at hn1
        exact absurd this hn1
      | succ k =>
        rw [ih hr (i := i) (k := k) (by simpa using h) (by simpa using h')]
theorem backArgs_len : ∀ (gs : List Ag) (t ε : List Sl), (backArgs gs t ε).length = ε.length
  | [], _, _ => by simp [backArgs]
  | .e _ :: r, [], _ => by simp [backArgs]
  | .own _ :: r, [], _ => by simp [backArgs]
  | .nw _ :: r, [], _ => by simp [backArgs]
  | .e _ :: r, _ :: t, ε => by rw [backArgs]; exact backArgs_len r t ε
  | .nw _ :: r, _ :: t, ε => by rw [backArgs]; exact backArgs_len r t ε
  | .own i :: r, s :: t, ε => by rw [backArgs, List.length_set]; exact backArgs_len r t ε
theorem backArgs_out {j : Nat} : ∀ {gs : List Ag} {t ε : List Sl}, j ∉ ownsOf gs → (backArgs gs t ε)[j]? = ε[j]?
  | [], _, _, _ => by simp [backArgs]
  | .e _ :: r, [], _, _ => by simp [backArgs]
  | .own _ :: r, [], _, _ => by simp [backArgs]
  | .nw _ :: r, [], _, _ => by simp [backArgs]
  | .e _ :: r, _ :: t, ε, h => by rw [backArgs]; exact backArgs_out (gs := r) h
  | .nw _ :: r, _ :: t, ε, h => by rw [backArgs]; exact backArgs_out (gs := r) h
  | .own i :: r, s :: t, ε, h => by
    rw [backArgs, List.getElem?_set_ne (fun z => h (by rw [z]; simp [ownsOf]))]
    exact backArgs_out (gs := r) fun z => h (List.mem_cons_of_mem _ z)
theorem backArgs_in {j : Nat} : ∀ {gs : List Ag} {t ε : List Sl} {i : Nat} {s : Sl}, nodupB (ownsOf gs) = true → gs[i]? = some (.own j) → t[i]? = some s → j < ε.length → (backArgs gs t ε)[j]? = some s
  | [], _, _, _, _, _, h, _, _ => by simp at h
  | g :: r, [], _, _, _, _, _, h, _ => by simp at h
  | .e _ :: r, _ :: t, ε, i, s, hn, h1, h2, hl => by
    cases i with
    | zero => simp at h1
    | succ i =>
      rw [backArgs]
      exact backArgs_in (gs := r) (i := i) hn (by simpa using h1) (by simpa using h2) hl
  | .nw _ :: r, _ :: t, ε, i, s, hn, h1, h2, hl => by
    cases i with
    | zero => simp at h1
    | succ i =>
      rw [backArgs]
      exact backArgs_in (gs := r) (i := i) hn (by simpa using h1) (by simpa using h2) hl
  | .own k :: r, s0 :: t, ε, i, s, hn, h1, h2, hl => by
    rw [backArgs]
    cases i with
    | zero =>
      simp at h1 h2
      subst h1 h2
      rw [List.getElem?_set_self (by rw [backArgs_len]; exact hl)]
    | succ i =>
      have h1' : r[i]? = some (.own j) := by simpa using h1
      have hk : k ≠ j := fun z => by
        have := own_mem h1'
        have hn1 := (Bool.and_eq_true_iff.mp hn).1
        simp at hn1
        exact hn1 (z ▸ this)
      rw [List.getElem?_set_ne hk]
      exact backArgs_in (gs := r) (i := i) (Bool.and_eq_true_iff.mp hn).2 h1' (by simpa using h2) hl

section
variable {K : PySem.W.Frag} {B : Bs} {F F' H H' Hs : Hp} {ε : List Sl} {σ : L2.St} {A : List (List Addr)}
theorem AgOk.len : ∀ {gs : List Ag} {vs : List V}, AgOk K F H Hs σ A gs vs → gs.length = vs.length
  | [], _, h => by rw [show _ = [] from h]; rfl
  | g :: r, vs, h => by
    obtain ⟨v, t, rfl, h1, h2⟩ := h
    rw [List.length_cons, List.length_cons, h2.len]
theorem AgOk.pick {gs : List Ag} {vs : List V} (h : AgOk K F H Hs σ A gs vs) : ∀ ix : List Nat, AgOk K F H Hs σ A (Rl.pick ix gs) (Rl.pick ix vs)
  | [] => rfl
  | i :: r => by
    have ih := h.pick r
    unfold Rl.pick at ih ⊢
    cases e : gs[i]? with
    | none =>
      have e2 : vs[i]? = none := by
        rw [List.getElem?_eq_none_iff] at e ⊢
        rw [← h.len]; exact e
      rw [List.filterMap_cons_none e, List.filterMap_cons_none e2]
      exact ih
    | some g =>
      obtain ⟨v, q1, q2⟩ := h.at e
      rw [List.filterMap_cons_some e, List.filterMap_cons_some q1]
      exact ⟨v, _, rfl, q2, ih⟩
theorem argSl_ok (R : Rel K B F ε σ H A) : ∀ {gs : List Ag} {vs : List V} {as : List Sl}, AgOk K F H Hs σ A gs vs → argSl ε gs = some as → ArgsR K F H as vs (agA A gs vs)
  | [], vs, as, h, e => by
    cases e
    rw [show vs = [] from h]
    exact ⟨rfl, rfl, fun i s v As h => by simp at h⟩
  | .e d :: r, vs, as, h, e => by
    obtain ⟨v, t, rfl, h2, h3⟩ := h
    simp only [argSl, Option.bind_eq_some_iff] at e
    obtain ⟨t2, e1, e2⟩ := e
    cases e2
    obtain ⟨q1, q2, q3⟩ := argSl_ok R h3 e1
    refine ⟨by simp [q1], by simp [agA, q2], fun i s u As a1 a2 a3 => ?_⟩
    cases i with
    | zero =>
      simp [agA] at a1 a2 a3
      subst a1 a2 a3
      exact ⟨rfl, _, rfl, h2⟩
    | succ i => exact q3 i s u As (by simpa using a1) (by simpa using a2) (by simpa [agA] using a3)
  | .nw s0 :: r, vs, as, h, e => by
    obtain ⟨v, t, rfl, ⟨p, rfl, h2, _⟩, h3⟩ := h
    simp only [argSl, Option.bind_eq_some_iff] at e
    obtain ⟨t2, e1, e2⟩ := e
    cases e2
    obtain ⟨q1, q2, q3⟩ := argSl_ok R h3 e1
    refine ⟨by simp [q1], by simp [agA, q2], fun i s u As a1 a2 a3 => ?_⟩
    cases i with
    | zero =>
      simp [agA, addrs] at a1 a2 a3
      subst a1 a2 a3
      exact h2
    | succ i => exact q3 i s u As (by simpa using a1) (by simpa using a2) (by simpa [agA] using a3)
  | .own j :: r, vs, as, h, e => by
    obtain ⟨v, t, rfl, ⟨a, rfl, h2, h2'⟩, h3⟩ := h
    simp only [argSl] at e
    split at e
    · simp only [Option.bind_eq_some_iff] at e
      obtain ⟨s, e0, t2, e1, e2⟩ := e
      cases e2
      obtain ⟨q1, q2, q3⟩ := argSl_ok R h3 e1
      refine ⟨by simp [q1], by simp [agA, q2], fun i s' u As a1 a2 a3 => ?_⟩
      cases i with
      | zero =>
        simp [agA, h2'] at a1 a2 a3
        subst a1 a2 a3
        exact R.own j _ _ _ e0 h2 h2'
      | succ i => exact q3 i s' u As (by simpa using a1) (by simpa using a2) (by simpa [agA] using a3)
    · cases e
theorem agA_sub {gs : List Ag} {vs : List V} {a : Addr} (ok : AgOk K F H Hs σ A gs vs) (h : Al (agA A gs vs) a) : (∃ (i j : Nat), gs[i]? = some (Ag.own j) ∧ (∃ As, A[j]? = some As ∧ a ∈ As)) ∨ (F a = none ∧ ¬ Al A a ∧ Hs a = none) := by
  obtain ⟨i, As, h1, h2⟩ := h
  rcases agA_at h1 with rfl | ⟨j, h3, rfl⟩ | ⟨s, v, h3, h4, rfl⟩
  · cases h2
  · cases e : A[j]? with
    | none => rw [List.getD_eq_getElem?_getD, e] at h2; cases h2
    | some Bs =>
      rw [List.getD_eq_getElem?_getD, e] at h2
      exact .inl ⟨i, j, h3, Bs, e, h2⟩
  · obtain ⟨u, q1, p, rfl, _, q2⟩ := ok.at h3
    rw [h4] at q1
    cases q1
    have : a = p := by simpa [addrs] using h2
    subst this
    exact .inr q2
theorem agA_apart (R : Rel K B F ε σ H A) {gs : List Ag} {vs : List V} (ok : AgOk K F H Hs σ A gs vs) (hn : nodupB (ownsOf gs) = true) (hw : NwD gs vs) : Apart (agA A gs vs) := by
  intro i k As Bs a h1 h2 h3 h4
  have get : ∀ {j : Nat}, a ∈ A.getD j [] → ∃ As, A[j]? = some As ∧ a ∈ As := fun {j} z => by
    cases e : A[j]? with
    | none => rw [List.getD_eq_getElem?_getD, e] at z; cases z
    | some Bs => rw [List.getD_eq_getElem?_getD, e] at z; exact ⟨Bs, rfl, z⟩
  have nw : ∀ {i : Nat} {s : Sl} {v : V}, gs[i]? = some (.nw s) → vs[i]? = some v → a ∈ addrs v → ¬ Al A a := fun {i s v} z1 z2 z3 => by
    obtain ⟨u, q1, p, rfl, _, _, q2, _⟩ := ok.at z1
    rw [z2] at q1
    cases q1
    have : a = p := by simpa [addrs] using z3
    subst this
    exact q2
  rcases agA_at h1 with rfl | ⟨j, g1, rfl⟩ | ⟨s, v, g1, g1', rfl⟩
  · cases h3
  · rcases agA_at h2 with rfl | ⟨l, g2, rfl⟩ | ⟨s, v, g2, g2', rfl⟩
    · cases h4
    · obtain ⟨C1, c1, c2⟩ := get h3
      obtain ⟨C2, c3, c4⟩ := get h4
      have : j = l := R.nd j l C1 C2 a c1 c3 c2 c4
      subst this
      exact own_inj hn g1 g2
    · obtain ⟨C1, c1, c2⟩ := get h3
      exact absurd ⟨j, C1, c1, c2⟩ (nw g2 g2' h4)
  · rcases agA_at h2 with rfl | ⟨l, g2, rfl⟩ | ⟨s, v, g2, g2', rfl⟩
    · cases h4
    · obtain ⟨C1, c1, c2⟩ := get h4
      exact absurd ⟨l, C1, c1, c2⟩ (nw g1 g1' h3)
    · have e1 : ∀ {v : V}, a ∈ addrs v → v = .ref a := fun {v} z => by cases v <;> simp [addrs] at z; rw [z]
      rw [e1 h3] at g1'
      rw [e1 h4] at g2'
      exact hw i k _ _ a g1 g2 g1' g2'
theorem mem_own {gs : List Ag} {j : Nat} (h : j ∈ ownsOf gs) : ∃ i : Nat, gs[i]? = some (Ag.own j) := by
  induction gs with
  | nil => cases h
  | cons g r ih =>
    cases g with
    | e d =>
      obtain ⟨i, q⟩ := ih h
      exact ⟨i + 1, by simpa using q⟩
    | nw d =>
      obtain ⟨i, q⟩ := ih h
      exact ⟨i + 1, by simpa using q⟩
    | own k =>
      rcases List.mem_cons.mp h with rfl | h
      · exact ⟨0, rfl⟩
      · obtain ⟨i, q⟩ := ih h
        exact ⟨i + 1, by simpa using q⟩
theorem agA_own {gs : List Ag} {vs : List V} {i j : Nat} {a : Addr} (hl : gs.length = vs.length) (h1 : gs[i]? = some (.own j)) (h2 : A[j]? = some [a]) : (agA A gs vs)[i]? = some [a] := by
  induction gs generalizing i vs with
  | nil => simp at h1
  | cons g r ih =>
    cases vs with
    | nil => cases hl
    | cons v t =>
      cases i with
      | zero =>
        simp at h1
        subst h1
        simp [agA, h2]
      | succ i =>
        have := ih (vs := t) (i := i) (by simpa using hl) (by simpa using h1)
        cases g <;> simpa [agA] using this
/-- only owned and forgotten things changed -/
theorem Rel.step2 {A2 : List (List Addr)} {ε' : List Sl} (R : Rel K B F ε σ H A) (x : Ext F H F' H' A2) (hA : ∀ a, Al A2 a → Al A a ∨ B.H0 a = none) (s : Sub F' H') (hl : ε'.length = ε.length) (own' : ∀ (i : Nat) (s : Sl) (o : Option V) (As : List Addr), ε'[i]? = some s → σ[i]? = some o → A[i]? = some As → OwnS K F' H' s o As)
    (dis' : ∀ a, Al A a → F' a = none) : Rel K B F' ε' σ H' A := by
  refine ⟨s, hl.trans R.len, R.lenA, own', R.nd, dis', fun a o h na => ?_, R.bex.trans x.ex, fun a u h => ?_, R.bown, fun a h => R.bdom a (x.dom a h), R.bio, fun P hP => x.tab s (fun z => ?_) (R.tb P hP)⟩
  · have hA : ¬ Al A2 a := fun z => by
      rcases hA a z with z | z
      · rcases R.bown a z with q | q
        · exact na q
        · rw [h] at q; cases q
      · rw [h] at z; cases z
    exact (R.bfr a o h na).trans R.bex (fun o' q => x.fr a o' q hA) (R.bnew a) h
  · rcases x.new a u h with q | q | q
    · exact R.bnew a u q
    · exact .inr (.inl (R.bdom a q))
    · exact .inr (.inr q)
  · rcases hA P z with z | z
    · exact R.noTb hP z
    · exact (R.tb P hP).2.2 z
/-- behind the call; Fs, Hs: before the arguments -/
theorem Rel.called {Fs : Hp} (R : Rel K B F ε σ H A) (xs : Ext Fs Hs F H A) {gs : List Ag} {vs : List V} {outs : List Sl} {r : Sl} {v : V} (h0 : ∀ a, Hs a = none → B.H0 a = none) (ok : AgOk K F H Hs σ A gs vs) (hn : nodupB (ownsOf gs) = true) (p : PostF K F H (agA A gs vs) vs outs F' H' r v) :
    Rel K B F' (backArgs gs outs ε) σ H' A ∧ Ext Fs Hs F' H' A := by
  have x := p.ext
  have hsub : ∀ a, Al (agA A gs vs) a → Al A a ∨ (F a = none ∧ ¬ Al A a ∧ Hs a = none) := fun a h => (agA_sub ok h).imp (fun ⟨i, j, _, As, q1, q2⟩ => ⟨j, As, q1, q2⟩) id
  refine ⟨R.step2 x (fun a h => (hsub a h).imp id fun z => h0 a z.2.2) p.sub (backArgs_len _ _ _) (fun j s o As e1 e2 e3 => ?_) fun a h => ?_, ?_⟩
  · by_cases hj : j ∈ ownsOf gs
    · obtain ⟨i, gi⟩ := mem_own hj
      obtain ⟨_, q1, a, rfl, q2, q3⟩ := ok.at gi
      rw [q3] at e3
      cases e3
      rw [q2] at e2
      cases e2
      obtain ⟨s', o1, o2⟩ := p.outs i [a] _ (agA_own ok.len gi q3) (by simp) q1
      have hjl : j < ε.length := by
        have := (List.getElem?_eq_some_iff.mp e1).1
        rwa [backArgs_len] at this
      rw [backArgs_in hn gi o1 hjl] at e1
      cases e1
      exact o2
    · rw [backArgs_out hj] at e1
      refine (R.own j s o As e1 e2 e3).mono x.rdx fun a ha u e => ?_
      obtain ⟨o2, e4, m4⟩ := R.there ⟨j, As, e3, ha⟩
      rw [e] at e4
      cases e4
      refine (p.ext.stay p.sub e m4 (R.dis a ⟨j, As, e3, ha⟩) fun z => ?_).1
      rcases agA_sub ok z with ⟨i, k, g1, Cs, c1, c2⟩ | ⟨_, z2, _⟩
      · have : j = k := R.nd j k As Cs a e3 c1 ha c2
        subst this
        exact hj (own_mem g1)
      · exact z2 ⟨j, As, e3, ha⟩
  · by_cases z : Al (agA A gs vs) a
    · exact p.dis a z
    · obtain ⟨o, e, m⟩ := R.there h
      exact (p.ext.stay p.sub e m (R.dis a h) z).2
  · refine ⟨xs.ex.trans x.ex, fun a u h => ?_, fun a o h na => ?_, fun a h => xs.dom a (x.dom a h)⟩
    · rcases x.new a u h with q | q | q
      · exact xs.new a u q
      · exact .inr (.inl (xs.dom a q))
      · exact .inr (.inr q)
    · refine (xs.fr a o h na).trans xs.ex (fun o' q => x.fr a o' q fun z => ?_) (fun u q => xs.new a u q) h
      rcases hsub a z with z | z
      · exact na z
      · rw [h] at z; cases z.2.2
end

section
variable {X : Cx} {k : Nat} {f : Addr} {fd : FuncData} {ps : List Str} {fn : Fn} {x : Str} {p pos : Pos} {e : Expr} {es : List Expr} {g : MG}
theorem runGs_elim {Q : VK} {B : Bs} {Fs Hs F H : Hp} {ε : List Sl} {σ : L2.St} {A : List (List Addr)} {r : Sl} {ε' : List Sl} {gs : List Ag} {vs : List V} (R0 : Rel X.K B Fs ε σ Hs A) {ε1 : List Sl} (R : Rel X.K B F ε1 σ H A) (x : Ext Fs Hs F H A) (ok : AgOk X.K F H Hs σ A gs vs) (nd : NwD gs vs) (hm : runGs fn gs ε1 = some (r, ε'))
    (q : ∀ v F' H', Rel X.K B F' ε' σ H' A → Ext Fs Hs F' H' A → RetS X.K ⟨Hs, Fs, A⟩ F' H' A r v → Q v H') : spF X.K fn vs H Q E0 := by
  simp only [runGs] at hm
  split at hm
  · rename_i hn
    simp only [Option.bind_eq_some_iff] at hm
    obtain ⟨as, h3, ⟨r', outs⟩, h4, h5⟩ := hm
    cases h5
    refine ⟨F, as, agA A gs vs, r', outs, argSl_ok R ok h3, ⟨R.sub, fun P hP => ⟨(R.tb P hP).1, (R.tb P hP).2.1⟩⟩, agA_apart R ok hn nd, fun a h => ?_, h4, fun v F2 H2 post => ?_⟩
    · rcases agA_sub ok h with ⟨i, j, _, As, q1, q2⟩ | z
      · exact R.dis a ⟨j, As, q1, q2⟩
      · exact z.1
    · obtain ⟨R2, x2⟩ := R.called x R0.bdom ok hn post
      refine q v F2 H2 R2 x2 ?_
      have go : ∀ s, NewS X.K F2 H2 (agA A gs vs) H s v → NewS X.K F2 H2 A Hs s v := fun s ⟨b, q1, q2, q3, q4, q5⟩ => ⟨b, q1, q2, q3, (R.fresh q5).2.1, x.dom b q5⟩
      have res := post.res
      cases r' with
      | un => exact res
      | val d => exact res
      | lst ds => exact go _ res
      | dic t ks vs => exact go _ res
      | dl ks vss => exact go _ res
  · cases hm
theorem call_elim {σ : L2.St} {H : Hp} {Q : VK} (B : Bs) (F : Hp) (ε : List Sl) (A : List (List Addr)) (r : Sl) (ε' : List Sl) (R : Rel X.K B F ε σ H A) (hm : runCall fn g ε = some (r, ε'))
    (q : ∀ v F' H', Rel X.K B F' ε' σ H' A → Ext F H F' H' A → RetS X.K ⟨H, F, A⟩ F' H' A r v → Q v H') : tCall (spF X.K fn) [] E0 (rG X.K g) σ H Q := by
  simp only [runCall, Option.bind_eq_some_iff] at hm
  obtain ⟨⟨gs, ε1⟩, h1, h2⟩ := hm
  refine ⟨B, F, ε, A, gs, ε1, R, h1, fun vs F1 H1 R1 x1 ok nd => ?_⟩
  show spF X.K fn (vs ++ []) H1 Q E0
  rw [List.append_nil]
  exact runGs_elim R R1 x1 ok nd h2 q
theorem valR_elim {r : Sl × List Sl} {d : D} {ε' : List Sl} (h : valR r = some (d, ε')) : r = (.val d, ε') := by
  obtain ⟨r1, r2⟩ := r
  cases r1 <;> cases h
  rfl
theorem ownR_elim {r : Sl × List Sl} {s : Sl} {ε' : List Sl} (h : ownR r = some (s, ε')) : r = (s, ε') ∧ ((∃ ds, s = .lst ds) ∨ ∃ t ks vs, s = .dic t ks vs) := by
  obtain ⟨r1, r2⟩ := r
  cases r1 <;> cases h
  · exact ⟨rfl, .inl ⟨_, rfl⟩⟩
  · exact ⟨rfl, .inr ⟨_, _, _, rfl⟩⟩
theorem eCall_elim {σ : L2.St} {H : Hp} {Q : VK} (h : rE X.K (eCall fn g) σ H Q) : tCall (spF X.K fn) [] E0 (rG X.K g) σ H Q := by
  obtain ⟨B, F, ε, A, d, ε', R, hm, q⟩ := h
  simp only [eCall, Option.bind_eq_some_iff] at hm
  obtain ⟨r, h1, h2⟩ := hm
  cases valR_elim h2
  exact call_elim B F ε A _ _ R h1 fun v F' H' R' x' r' => q v F' H' R' x' r'
theorem nCall_elim {σ : L2.St} {H : Hp} {Q : VK} (h : rN X.K (nCall fn g) σ H Q) : tCall (spF X.K fn) [] E0 (rG X.K g) σ H Q := by
  obtain ⟨B, F, ε, A, d, ε', R, hm, q⟩ := h
  simp only [nCall, Option.bind_eq_some_iff] at hm
  obtain ⟨r, h1, h2⟩ := hm
  obtain ⟨rfl, h3⟩ := ownR_elim h2
  rcases h3 with ⟨ds, rfl⟩ | ⟨t, ks, vs, rfl⟩
  · exact call_elim B F ε A _ _ R h1 fun v F' H' R' x' r' => q v F' H' R' x' r'
  · exact call_elim B F ε A _ _ R h1 fun v F' H' R' x' r' => q v F' H' R' x' r'
theorem ie_call (Fk : FnOk X.prog X.w X.K X.mg X.base CX0 k f fd ps (spF X.K fn)) (hr : Room k X.A) (hg : Gl X x) (hm : X.mg x = some (.ref f)) (hk : PySem.W.keepIn X.K (.ref f) = true) (hb : Binds X.K fd ps []) (ha : PA X (e :: es) (rG X.K g))
    (hdb : (x == ("__debug__" : Str)) = false := by decide) (he : starEach (e :: es) X.env = (false, eval e X.env) :: starEach es X.env := by rfl) (hpl : (backTo pos (starEach es X.env)).any (·.1) = false := by rfl) :
    PE X (.Call (.Name x p) (e :: es) [] pos) (rE X.K (eCall fn g)) := peImp (pe_call Fk hr hg hm hk hb .nil pass0 ha hdb he hpl) fun σ H Q h => eCall_elim h
theorem in_call (Fk : FnOk X.prog X.w X.K X.mg X.base CX0 k f fd ps (spF X.K fn)) (hr : Room k X.A) (hg : Gl X x) (hm : X.mg x = some (.ref f)) (hk : PySem.W.keepIn X.K (.ref f) = true) (hb : Binds X.K fd ps []) (ha : PA X (e :: es) (rG X.K g))
    (hdb : (x == ("__debug__" : Str)) = false := by decide) (he : starEach (e :: es) X.env = (false, eval e X.env) :: starEach es X.env := by rfl) (hpl : (backTo pos (starEach es X.env)).any (·.1) = false := by rfl) :
    PE X (.Call (.Name x p) (e :: es) [] pos) (rN X.K (nCall fn g)) := peImp (pe_call Fk hr hg hm hk hb .nil pass0 ha hdb he hpl) fun σ H Q h => nCall_elim h

/-! calls with keywords only -/
/-- the values of the keywords ks bind the parameters ps: ix says where each parameter's value stands -/
def KwB (K : PySem.W.Frag) (fd : FuncData) (ps ks : List Str) (ix : List Nat) : Prop := ∀ (s : Shared) (ws : List Value), ws.length = ks.length → BindsTo s fd ⟨[], ks.zip ws⟩ (ps.zip (pick ix ws))
theorem vals_pick {vs : List V} {us : List Value} (h : Vals vs us) : ∀ ix : List Nat, Vals (pick ix vs) (pick ix us)
  | [] => .nil
  | i :: r => by
    have ih := vals_pick h r
    unfold pick at ih ⊢
    have hl := h.length
    by_cases hi : i < vs.length
    · obtain ⟨v, e1⟩ : ∃ v, vs[i]? = some v := ⟨_, List.getElem?_eq_getElem hi⟩
      obtain ⟨u, e2, r2⟩ := h.get e1
      rw [List.filterMap_cons_some e1, List.filterMap_cons_some e2]
      exact .cons r2 ih
    · have e1 : vs[i]? = none := List.getElem?_eq_none (by omega)
      have e2 : us[i]? = none := List.getElem?_eq_none (by omega)
      rw [List.filterMap_cons_none e1, List.filterMap_cons_none e2]
      exact ih
def tCallP (sp : Sp) (n : Nat) (ix : List Nat) (tk : TA) : TE := fun σ H Q => tk σ H fun zs H2 => zs.length = n ∧ sp (pick ix zs) H2 Q E0
theorem pe_callKO {sp : Sp} {ks : List Str} {ix : List Nat} {kws : List Keyword} {tk : TA} (F : FnOk X.prog X.w X.K X.mg X.base CX0 k f fd ps sp) (hr : Room k X.A) (hg : Gl X x) (hm : X.mg x = some (.ref f)) (hk : PySem.W.keepIn X.K (.ref f) = true) (hb : KwB X.K fd ps ks ix)
    (hkw : PK X kws tk) (hall : (backToKw pos (keywordEach kws X.env)).all (·.1.isSome) = true := by rfl) (hks : (backToKw pos (keywordEach kws X.env)).filterMap (·.1) = ks := by rfl)
    (hdb : (x == ("__debug__" : Str)) = false := by decide) (hpl : ((backTo pos (starEach [] X.env)).any (·.1) || (backToKw pos (keywordEach kws X.env)).any (·.1.isNone)) = false := by rfl) :
    PE X (.Call (.Name x p) [] kws pos) (tCallP sp ks.length ix tk) := by
  refine ⟨fun pins s σ H Q I h => ?_⟩
  refine wpAny_Call_Name_kw (ld_glob I hg hm ?_ hdb)
  refine PySem.W.callWith_KW0 (h₀ := X.base) I.ok.mod.kin hk hall (thn (hkw.run pos pins s σ H _ I h) fun ws s2 ⟨zs, H2, I2, rz, l2, q2⟩ => ⟨I2.kIn, ?_⟩) hpl
  rw [hks]
  have rp := vals_pick rz ix
  refine wpAny_call (codeAny_mono (F.run X.A X.stack s2 H2 ⟨[], ks.zip ws⟩ (pick ix ws) (pick ix zs) Q E0 hr I2.env0 (hb s2 ws (rz.length.symm.trans l2)) rp q2) fun r s' hq => ?_)
  cases r with
  | error e => exact pass0 pins σ H2 s2 e s' I2 hq
  | ok fl =>
    cases fl with
    | ret u => exact I2.after hq
    | next => exact False.elim hq
    | brk => exact False.elim hq
    | cont => exact False.elim hq
theorem callK_elim {n : Nat} {ix : List Nat} {σ : L2.St} {H : Hp} {Q : VK} (B : Bs) (F : Hp) (ε : List Sl) (A : List (List Addr)) (r : Sl) (ε' : List Sl) (R : Rel X.K B F ε σ H A) (hix : ix.length = n) (hm : runCallK fn ix g ε = some (r, ε'))
    (q : ∀ v F' H', Rel X.K B F' ε' σ H' A → Ext F H F' H' A → RetS X.K ⟨H, F, A⟩ F' H' A r v → Q v H') : tCallP (spF X.K fn) n ix (rG X.K g) σ H Q := by
  simp only [runCallK, Option.bind_eq_some_iff] at hm
  obtain ⟨⟨gs, ε1⟩, h1, h2⟩ := hm
  simp only at h2
  split at h2
  · rename_i hl
    rw [Bool.and_eq_true] at hl
    refine ⟨B, F, ε, A, gs, ε1, R, h1, fun vs F1 H1 R1 x1 ok _ => ?_⟩
    exact ⟨by rw [← ok.len, ← of_decide_eq_true hl.1]; exact hix, runGs_elim R R1 x1 (ok.pick ix) (fun _ _ _ _ _ z1 z2 _ _ => nw_inj (of_decide_eq_true hl.2) z1 z2) h2 q⟩
  · cases h2
theorem ie_callK {ks : List Str} {ix : List Nat} {kws : List Keyword} (Fk : FnOk X.prog X.w X.K X.mg X.base CX0 k f fd ps (spF X.K fn)) (hr : Room k X.A) (hg : Gl X x) (hm : X.mg x = some (.ref f)) (hk : PySem.W.keepIn X.K (.ref f) = true) (hb : KwB X.K fd ps ks ix) (hkw : PK X kws (rG X.K g))
    (hix : ix.length = ks.length := by rfl) (hall : (backToKw pos (keywordEach kws X.env)).all (·.1.isSome) = true := by rfl) (hks : (backToKw pos (keywordEach kws X.env)).filterMap (·.1) = ks := by rfl)
    (hdb : (x == ("__debug__" : Str)) = false := by decide) (hpl : ((backTo pos (starEach [] X.env)).any (·.1) || (backToKw pos (keywordEach kws X.env)).any (·.1.isNone)) = false := by rfl) :
    PE X (.Call (.Name x p) [] kws pos) (rE X.K (eCallK fn ix g)) := by
  refine peImp (pe_callKO Fk hr hg hm hk hb hkw hall hks hdb hpl) ?_
  rintro σ H Q ⟨B, F, ε, A, d, ε', R, hm, q⟩
  simp only [eCallK, Option.bind_eq_some_iff] at hm
  obtain ⟨r, h1, h2⟩ := hm
  cases valR_elim h2
  exact callK_elim B F ε A _ _ R hix h1 fun v F' H' R' x' r' => q v F' H' R' x' r'
theorem in_callK {ks : List Str} {ix : List Nat} {kws : List Keyword} (Fk : FnOk X.prog X.w X.K X.mg X.base CX0 k f fd ps (spF X.K fn)) (hr : Room k X.A) (hg : Gl X x) (hm : X.mg x = some (.ref f)) (hk : PySem.W.keepIn X.K (.ref f) = true) (hb : KwB X.K fd ps ks ix) (hkw : PK X kws (rG X.K g))
    (hix : ix.length = ks.length := by rfl) (hall : (backToKw pos (keywordEach kws X.env)).all (·.1.isSome) = true := by rfl) (hks : (backToKw pos (keywordEach kws X.env)).filterMap (·.1) = ks := by rfl)
    (hdb : (x == ("__debug__" : Str)) = false := by decide) (hpl : ((backTo pos (starEach [] X.env)).any (·.1) || (backToKw pos (keywordEach kws X.env)).any (·.1.isNone)) = false := by rfl) :
    PE X (.Call (.Name x p) [] kws pos) (rN X.K (nCallK fn ix g)) := by
  refine peImp (pe_callKO Fk hr hg hm hk hb hkw hall hks hdb hpl) ?_
  rintro σ H Q ⟨B, F, ε, A, d, ε', R, hm, q⟩
  simp only [nCallK, Option.bind_eq_some_iff] at hm
  obtain ⟨r, h1, h2⟩ := hm
  obtain ⟨rfl, h3⟩ := ownR_elim h2
  rcases h3 with ⟨ds, rfl⟩ | ⟨t, ks, vs, rfl⟩
  · exact callK_elim B F ε A _ _ R hix h1 fun v F' H' R' x' r' => q v F' H' R' x' r'
  · exact callK_elim B F ε A _ _ R hix h1 fun v F' H' R' x' r' => q v F' H' R' x' r'
end
end Rl
end

set_option Elab.async false
set_option linter.all false
set_option maxRecDepth 100000
set_option autoImplicit false
set_option maxHeartbeats 1000000
/-! Rl, part 6: keys and dicts by value; own lists and dicts changed. -/
noncomputable section
namespace Rl
open PySem PySem.Spec PyProof.Rows L2
variable [Tabs]

/-! ### keys -/
def kEq1 : D → D → Bool
  | .int i, .int j => i == j
  | .str a, .str b => a == b
  | _, _ => false
def kEqs : List D → List D → Bool
  | [], [] => true
  | a :: r, b :: t => kEq1 a b && kEqs r t
  | _, _ => false
def kEq : D → D → Bool
  | .tup a, .tup b => kEqs a b
  | a, b => kEq1 a b
def keyOf : D → Option Key
  | .int i => some (.inl i)
  | .str s => some (.inr ⟨s.toArray⟩)
  | _ => none
def keysOf : List D → Option (List Key)
  | [] => some []
  | d :: r => (keyOf d).bind fun k => (keysOf r).bind fun t => some (k :: t)
/-- may it be a key (t: of a dict with tuple keys) -/
def isKey : Bool → D → Bool
  | false, d => (keyOf d).isSome
  | true, .tup ds => (keysOf ds).isSome
  | true, _ => false
def lookD : List D → List D → D → Option D
  | k :: ks, v :: vs, x => if kEq k x then some v else lookD ks vs x
  | _, _, _ => none
def hasD : List D → D → Bool
  | [], _ => false
  | k :: ks, x => kEq k x || hasD ks x
/-- the values with v at the key x, where x is there -/
def setD : List D → List D → D → D → List D
  | k :: ks, w :: vs, x, v => (if kEq k x then v else w) :: setD ks vs x v
  | _, _, _, _ => []
def putKs (ks : List D) (x : D) : List D := if hasD ks x then ks else ks ++ [x]
def putVs (ks vs : List D) (x v : D) : List D := if hasD ks x then setD ks vs x v else vs ++ [v]
theorem keyOf_kD {d : D} {k : Key} (h : keyOf d = some k) : keyD k = d := by
  cases d <;> try cases h
  · rfl
  · show D.str _ = _; simp
theorem kEq1_dec {a k : Key} {d : D} (h : keyOf d = some k) : kEq1 (keyD a) d = decide (a = k) := by
  rw [← keyOf_kD h]
  cases a with
  | inl i =>
    cases k with
    | inl j =>
      show (i == j) = _
      by_cases e : i = j
      · subst e; simp
      · rw [decide_eq_false (fun z => e (Sum.inl.inj z))]; simpa using e
    | inr y => rw [decide_eq_false (fun z => nomatch z)]; rfl
  | inr x =>
    cases k with
    | inl j => rw [decide_eq_false (fun z => nomatch z)]; rfl
    | inr y =>
      show (x.cps.toList == y.cps.toList) = _
      by_cases e : x = y
      · subst e; simp
      · have e2 : x.cps.toList ≠ y.cps.toList := fun z => e (by cases x; cases y; congr; exact Array.toList_inj.mp z)
        rw [decide_eq_false (fun z => e (Sum.inr.inj z))]; simpa using e2
theorem kEqs_dec : ∀ {a : List Key} {ds : List D} {k : List Key}, keysOf ds = some k → kEqs (a.map keyD) ds = decide (a = k)
  | [], [], _, h => by cases h; rfl
  | [], d :: r, k, h => by
    simp only [keysOf, Option.bind_eq_some_iff] at h
    obtain ⟨k1, _, t, _, h3⟩ := h
    cases h3
    rfl
  | x :: a, [], _, h => by cases h; rfl
  | x :: a, d :: r, k, h => by
    simp only [keysOf, Option.bind_eq_some_iff] at h
    obtain ⟨k1, h1, t, h2, h3⟩ := h
    cases h3
    show (kEq1 (keyD x) d && kEqs (a.map keyD) r) = _
    rw [kEq1_dec h1, kEqs_dec h2]
    by_cases e : x = k1
    · subst e
      by_cases e2 : a = t
      · subst e2; simp
      · rw [decide_eq_false e2, decide_eq_false (fun z => e2 (List.cons.inj z).2)]; simp
    · rw [decide_eq_false e, decide_eq_false (fun z => e (List.cons.inj z).1)]; simp
theorem kEq_kD (a : Key) (d : D) : kEq (keyD a) d = kEq1 (keyD a) d := by cases a <;> rfl
section
variable {K : PySem.W.Frag} {F H : Hp}
theorem keyV {d : D} {k : Key} {v : V} (h : keyOf d = some k) (r : Rep K F d v) : v = kV k := by
  cases d <;> try cases h
  · exact r
  · exact r
theorem keysV : ∀ {ds : List D} {k : List Key} {vs : List V}, keysOf ds = some k → Reps K F ds vs → vs = k.map kV
  | [], _, _, h, r => by cases h; exact r
  | d :: t, k, vs, h, r => by
    simp only [keysOf, Option.bind_eq_some_iff] at h
    obtain ⟨k1, h1, t', h2, h3⟩ := h
    cases h3
    obtain ⟨x, r', rfl, h4, h5⟩ := r
    rw [keyV h1 h4, keysV h2 h5]
    rfl
/-- looking up, with any type of keys -/
theorem look_gen {κ : Type} [DecidableEq κ] (enc : κ → D) (x : D) (k : κ) (he : ∀ a, kEq (enc a) x = decide (a = k)) : ∀ (kvs : List (κ × V)) (ds : List D), Reps K F ds (kvs.map (·.2)) →
    (∀ v, valV kvs k = some v → ∃ d, lookD (kvs.map fun p => enc p.1) ds x = some d ∧ Rep K F d v) ∧ (valV kvs k = none → lookD (kvs.map fun p => enc p.1) ds x = none) ∧ hasD (kvs.map fun p => enc p.1) x = (valV kvs k).isSome
  | [], ds, h => ⟨fun v e => (nomatch e), fun _ => (by cases ds <;> rfl), rfl⟩
  | (a, w) :: r, ds, h => by
    obtain ⟨ih1, ih2, ih3⟩ := look_gen enc x k he r (ds.drop 1) (by
      cases ds with
      | nil => cases (show (w :: r.map (·.2)) = [] from h)
      | cons d ds => obtain ⟨y, t, e, _, h3⟩ := h; cases e; exact h3)
    cases ds with
    | nil => cases (show (w :: r.map (·.2)) = [] from h)
    | cons d ds =>
      obtain ⟨y, t, e, h2, h3⟩ := h
      cases e
      by_cases e : a = k
      · subst e
        have e1 : kEq (enc a) x = true := by rw [he]; simp
        rw [valV_pos (p := (a, w)) rfl]
        refine ⟨fun v e => ?_, fun z => (by cases z), ?_⟩
        · cases e
          exact ⟨d, by show (if kEq (enc a) x then some d else _) = _; rw [e1]; rfl, h2⟩
        · show (kEq (enc a) x || _) = _
          rw [e1]; rfl
      · have e1 : kEq (enc a) x = false := by rw [he]; simpa using e
        rw [valV_neg (p := (a, w)) e]
        refine ⟨fun v z => ?_, fun z => ?_, ?_⟩
        · obtain ⟨d', q1, q2⟩ := ih1 v z
          exact ⟨d', by show (if kEq (enc a) x then some d else lookD (r.map fun p => enc p.1) ds x) = _; rw [e1]; exact q1, q2⟩
        · show (if kEq (enc a) x then some d else lookD (r.map fun p => enc p.1) ds x) = _
          rw [e1]; exact ih2 z
        · show (kEq (enc a) x || hasD (r.map fun p => enc p.1) x) = _
          rw [e1]; exact ih3
theorem put_gen {κ : Type} [DecidableEq κ] (enc : κ → D) (x : D) (k : κ) (hx : enc k = x) (he : ∀ a, kEq (enc a) x = decide (a = k)) (kvs : List (κ × V)) (ds : List D) (h : Reps K F ds (kvs.map (·.2))) {d : D} {v : V} (r : Rep K F d v) :
    putKs (kvs.map fun p => enc p.1) x = (putK kvs k v).map (fun p => enc p.1) ∧ Reps K F (putVs (kvs.map fun p => enc p.1) ds x d) ((putK kvs k v).map (·.2)) := by
  have hh := (look_gen enc x k he kvs ds h).2.2
  have hany := valV_any k kvs
  unfold putKs putVs putK
  rw [hh, hany]
  cases e : (valV kvs k).isSome with
  | false =>
    rw [if_neg Bool.false_ne_true, if_neg Bool.false_ne_true, if_neg Bool.false_ne_true]
    refine ⟨by simp [hx], ?_⟩
    rw [List.map_append]
    exact h.append (.cons r .nil)
  | true =>
    rw [if_pos rfl, if_pos rfl, if_pos rfl]
    refine ⟨?_, ?_⟩
    · rw [List.map_map]
      apply List.map_congr_left
      rintro ⟨a, w⟩ _
      show enc a = enc (if a = k then (a, v) else (a, w)).1
      split <;> rfl
    · clear e hh hany
      induction kvs generalizing ds with
      | nil => cases ds with
        | nil => exact rfl
        | cons d0 ds => obtain ⟨_, _, e, _⟩ := h; cases e
      | cons p kvs ih =>
        obtain ⟨a, w⟩ := p
        cases ds with
        | nil => cases (show (w :: kvs.map (·.2)) = [] from h)
        | cons d0 ds =>
          obtain ⟨y, t, e, h2, h3⟩ := h
          cases e
          have := ih ds h3
          show Reps K F ((if kEq (enc a) x then d else d0) :: setD (kvs.map fun p => enc p.1) ds x d) ((if a = k then (a, v) else (a, w)).2 :: _)
          rw [he]
          refine .cons ?_ this
          by_cases z : a = k
          · simp only [z, decide_true, if_true]; exact r
          · simp only [z, decide_false, if_false]; exact h2
/-- a key is looked up -/
theorem dget_of {a : Addr} {t : Bool} {ks vs : List D} {xs : List V} {x : D} {y : V} (s : Sub F H) (h : DicIn (Rd H a) t ks xs) (r : Reps K F vs xs) (hk : isKey t x = true) (rx : Rep K F x y) :
    ∃ o, DGet H a y o ∧ (∀ v, o = some v → ∃ d, lookD ks vs x = some d ∧ Rep K F d v) ∧ (o = none → lookD ks vs x = none) ∧ hasD ks x = o.isSome := by
  cases t with
  | false =>
    obtain ⟨kvs, hr, rfl, rfl⟩ := h
    obtain ⟨k, hk'⟩ := Option.isSome_iff_exists.mp (show (keyOf x).isSome = true from hk)
    have q := look_gen (K := K) (F := F) keyD x k (fun a => by rw [kEq_kD, kEq1_dec hk']) kvs vs r
    exact ⟨_, .inl ⟨kvs, k, hr, keyV hk' rx, rfl⟩, q⟩
  | true =>
    obtain ⟨kvs, hr, rfl, rfl⟩ := h
    cases x <;> try cases hk
    rename_i ds
    obtain ⟨k, hk'⟩ := Option.isSome_iff_exists.mp (show (keysOf ds).isSome = true from hk)
    obtain ⟨b, zs, rfl, hb, hz⟩ := rx
    have q := look_gen (K := K) (F := F) (fun p : List Key => D.tup (p.map keyD)) (.tup ds) k (fun a => kEqs_dec hk') kvs vs r
    rw [keysV hk' hz] at hb
    exact ⟨_, .inr ⟨kvs, k, b, hr, rfl, s.tup hb, rfl⟩, q⟩
theorem keysOf_kD : ∀ {ds : List D} {k : List Key}, keysOf ds = some k → k.map keyD = ds
  | [], _, h => by cases h; rfl
  | d :: r, k, h => by
    simp only [keysOf, Option.bind_eq_some_iff] at h
    obtain ⟨k1, h1, t, h2, h3⟩ := h
    cases h3
    rw [List.map_cons, keyOf_kD h1, keysOf_kD h2]
/-- a store at a key of an own dict -/
theorem dput_of {a : Addr} {t : Bool} {ks vs : List D} {xs : List V} {x d : D} {y v : V} (s : Sub F H) (h : DicIn (fun u => H a = some u) t ks xs) (r : Reps K F vs xs) (hk : isKey t x = true) (rx : Rep K F x y) (rd : Rep K F d v) (hz : ks.length < sizeLine) :
    ∃ u xs', DPut H a y v (upd H a u) ∧ Mut (some u) ∧ DicIn (fun w => w = u) t (putKs ks x) xs' ∧ Reps K F (putVs ks vs x d) xs' := by
  cases t with
  | false =>
    obtain ⟨kvs, hr, rfl, rfl⟩ := h
    obtain ⟨k, hk'⟩ := Option.isSome_iff_exists.mp (show (keyOf x).isSome = true from hk)
    obtain ⟨q1, q2⟩ := put_gen (K := K) (F := F) keyD x k (keyOf_kD hk') (fun a => by rw [kEq_kD, kEq1_dec hk']) kvs vs r rd
    exact ⟨_, _, .inl ⟨kvs, k, hr, keyV hk' rx, by simpa using hz, rfl⟩, trivial, ⟨_, rfl, q1, rfl⟩, q2⟩
  | true =>
    obtain ⟨kvs, hr, rfl, rfl⟩ := h
    cases x <;> try cases hk
    rename_i ds
    obtain ⟨k, hk'⟩ := Option.isSome_iff_exists.mp (show (keysOf ds).isSome = true from hk)
    obtain ⟨b, zs, rfl, hb, hz'⟩ := rx
    obtain ⟨q1, q2⟩ := put_gen (K := K) (F := F) (fun p : List Key => D.tup (p.map keyD)) (.tup ds) k (by show D.tup _ = _; rw [keysOf_kD hk']) (fun a => kEqs_dec hk') kvs vs r rd
    rw [keysV hk' hz'] at hb
    exact ⟨_, _, .inr ⟨kvs, k, b, hr, rfl, s.tup hb, by simpa using hz, rfl⟩, trivial, ⟨_, rfl, q1, rfl⟩, q2⟩
end

/-! ### an own thing changes -/
section
variable {K : PySem.W.Frag} {B : Bs} {F H : Hp} {ε : List Sl} {σ : L2.St} {A : List (List Addr)}
theorem Rel.mut (R : Rel K B F ε σ H A) {i : Nat} {As : List Addr} {o : Option V} {s' : Sl} {a : Addr} {u : HO} (hA : A[i]? = some As) (hσ : σ[i]? = some o) (ha : a ∈ As) (new : OwnS K F (upd H a u) s' o As) :
    Rel K B F (ε.set i s') σ (upd H a u) A ∧ Ext F H F (upd H a u) A := by
  have al : Al A a := ⟨i, As, hA, ha⟩
  have fa := R.dis a al
  obtain ⟨o1, h1, _⟩ := R.there al
  have x : Ext F H F (upd H a u) A := ⟨Ex.refl F, fun _ _ h => .inl h, fun b o e nb => .inl (by rw [upd_ne (fun z => nb (by rw [z]; exact al))]; exact e), fun b e => by
    by_cases z : b = a
    · subst z; rw [upd_same] at e; cases e
    · rw [upd_ne z] at e; exact e⟩
  refine ⟨R.step x (fun b v h => ?_) (by simp) (fun j s o' Bs e1 e2 e3 => ?_) R.dis, x⟩
  · rw [upd_ne (fun z => by rw [z, fa] at h; cases h)]
    exact R.sub b v h
  · by_cases e : i = j
    · subst e
      have hl : i < ε.length := by
        have := (List.getElem?_eq_some_iff.mp e1).1
        simpa using this
      rw [List.getElem?_set_self hl] at e1
      cases e1
      rw [hA] at e3
      rw [hσ] at e2
      cases e2; cases e3
      exact new
    · rw [List.getElem?_set_ne e] at e1
      refine (R.own j s o' Bs e1 e2 e3).mono (RdX.refl F) fun b hb v q => ?_
      rw [upd_ne (fun z => e (R.nd i j As Bs a hA e3 ha (by rw [← z]; exact hb)))]
      exact q
/-- what an own list's slot is -/
theorem Rel.lstAt (R : Rel K B F ε σ H A) {i : Nat} {ds : List D} (h : ε[i]? = some (.lst ds)) : ∃ a xs, σ[i]? = some (some (.ref a)) ∧ A[i]? = some [a] ∧ H a = some (.lst xs) ∧ Reps K F ds xs := by
  obtain ⟨o, As, h1, h2, a, xs, rfl, rfl, h3, h4⟩ := R.idxE h
  exact ⟨a, xs, h1, h2, h3, h4⟩
theorem Rel.dicAt (R : Rel K B F ε σ H A) {i : Nat} {t : Bool} {ks vs : List D} (h : ε[i]? = some (.dic t ks vs)) : ∃ a xs, σ[i]? = some (some (.ref a)) ∧ A[i]? = some [a] ∧ DicIn (fun u => H a = some u) t ks xs ∧ Reps K F vs xs := by
  obtain ⟨o, As, h1, h2, a, xs, rfl, rfl, h3, h4⟩ := R.idxE h
  exact ⟨a, xs, h1, h2, h3, h4⟩
theorem Rel.same {a : Addr} {σ : L2.St} {i : Nat} {v : V} (h : σ[i]? = some (some (.ref a))) (h' : σ[i]? = some (some v)) : v = .ref a := by
  rw [h] at h'
  cases h'
  rfl
end

def isLst (ε : List Sl) (i : Nat) : Bool := match ε[i]? with
  | some (.lst _) => true
  | _ => false
def lstOf (ε : List Sl) (i : Nat) : Option (List D) := match ε[i]? with
  | some (.lst ds) => some ds
  | _ => none
theorem lstOf_at {ε : List Sl} {i : Nat} {ds : List D} (h : lstOf ε i = some ds) : ε[i]? = some (.lst ds) := by
  unfold lstOf at h
  split at h
  · rename_i e; cases h; exact e
  · cases h
def szLt (n : Nat) : Bool := opq (fun n : Nat => decide (n < sizeLine)) n
omit [Tabs] in
theorem szLt_eq (n : Nat) : szLt n = decide (n < sizeLine) := opq_eq _ n
theorem szLt_lt {n : Nat} (h : szLt n = true) : n < sizeLine := of_decide_eq_true (by rw [← szLt_eq]; exact h)
def ix63 (k : Int) : Bool := opq (fun k : Int => decide (-(2 ^ 63) ≤ k) && decide (k < 2 ^ 63)) k
omit [Tabs] in
theorem ix63_eq (k : Int) : ix63 k = (decide (-(2 ^ 63) ≤ k) && decide (k < 2 ^ 63)) := opq_eq _ k
/-- x.append(e) -/
def eApp (i : Nat) (m : ME) : ME := fun ε => (lstOf ε i).bind fun _ => (m ε).bind fun p => (lstOf p.2 i).bind fun ds => if szLt ds.length then some (.non, p.2.set i (.lst (ds ++ [p.1]))) else none
/-- x.pop() -/
def ePop (i : Nat) : ME := fun ε => (lstOf ε i).bind fun ds => (ds[ds.length - 1]?).bind fun d => some (d, ε.set i (.lst ds.dropLast))
/-- x.pop(e) -/
def ePopAt (i : Nat) (m : ME) : ME := fun ε => (lstOf ε i).bind fun _ => (m ε).bind fun p => match p.1 with
  | .int k => (lstOf p.2 i).bind fun ds => if ix63 k then (seqIndex? k ds.length).bind fun j => (ds[j]?).bind fun d => some (d, p.2.set i (.lst (ds.eraseIdx j))) else none
  | _ => none
/-- x[e] = v -/
def sPutL (i : Nat) (mi mv : ME) : MS := fun ε => (mv ε).bind fun p => (lstOf p.2 i).bind fun _ => (mi p.2).bind fun q => match q.1 with
  | .int k => (lstOf q.2 i).bind fun ds => (ixN ds.length k).bind fun j => some (.nx, q.2.set i (.lst (ds.set j p.1)))
  | _ => none
def dicOf (ε : List Sl) (i : Nat) : Option (Bool × List D × List D) := match ε[i]? with
  | some (.dic t ks vs) => some (t, ks, vs)
  | _ => none
theorem dicOf_at {ε : List Sl} {i : Nat} {x : Bool × List D × List D} (h : dicOf ε i = some x) : ε[i]? = some (.dic x.1 x.2.1 x.2.2) := by
  unfold dicOf at h
  split at h
  · rename_i e; cases h; exact e
  · cases h
/-- d[e] = v -/
def sPutD (i : Nat) (mk mv : ME) : MS := fun ε => (mv ε).bind fun p => (dicOf p.2 i).bind fun _ => (mk p.2).bind fun q => (dicOf q.2 i).bind fun x =>
  if isKey x.1 q.1 && szLt x.2.1.length then some (.nx, q.2.set i (.dic x.1 (putKs x.2.1 q.1) (putVs x.2.1 x.2.2 q.1 p.1))) else none
section
variable {X : Cx} {np : Nat} {e k : Expr} {m mi mk : ME} {apos cpos p pos pos' : Pos} {x : Str}
theorem ie_app (i : Nat) (h : PE X (.Name x p) (tVar i)) (ha : PE X e (rE X.K m)) (hbase : attributeBase (.Name x p) "append" X.env (eval (.Name x p) X.env) = eval (.Name x p) X.env := by rfl)
    (hfew : ((backTo cpos (starEach [e] X.env)).all (fun x => !x.1) && (backToKw cpos (keywordEach [] X.env)).all (fun x => x.1.isSome)
      && decide (([e] : List Expr).length + ([] : List Keyword).length + (if ([] : List Keyword).isEmpty then 0 else 1) < 30)) = true := by rfl)
    (hline : (apos.endLine == cpos.line) = true := by rfl) (hs : starEach [e] X.env = [(false, eval e X.env)] := by rfl) : PE X (.Call (.Attribute (.Name x p) "append" apos) [e] [] cpos) (rE X.K (eApp i m)) := by
  refine peImp (pe_bm PySem.F.plainAttrs_list PySem.F.slot_list_append PySem.F.type_list_append mt_append h (pa_cons ha pa_nil hs) hbase hfew hline hs (by rfl)) ?_
  rintro σ H Q ⟨B, F, ε, A, d, ε', R, hm, q⟩
  simp only [eApp, Option.bind_eq_some_iff] at hm
  obtain ⟨ds0, h0, ⟨d1, ε1⟩, h1, ds, h2, h3⟩ := hm
  simp only at h3
  split at h3
  · rename_i hz
    cases h3
    obtain ⟨a, xs0, s1, s2, s3, s4⟩ := R.lstAt (lstOf_at h0)
    refine ⟨_, s1, .inl ⟨rfl, xs0, SqL.of s3⟩, B, F, ε, A, d1, ε1, R, h1, fun v F1 H1 R1 x1 r1 => ?_⟩
    obtain ⟨b, xs, t1, t2, t3, t4⟩ := R1.lstAt (lstOf_at h2)
    rw [s1] at t1
    cases t1
    refine ⟨a, xs, v, rfl, rfl, t3, by rw [← t4.length]; exact szLt_lt hz, ?_⟩
    obtain ⟨R2, x2⟩ := R1.mut (u := .lst (xs ++ [v])) (s' := .lst (ds ++ [d1])) t2 s1 (List.mem_singleton.mpr rfl) ⟨a, _, rfl, rfl, upd_same, t4.append (.cons r1 .nil)⟩
    exact q _ F1 _ R2 (x1.trans x2) rfl
  · cases h3
theorem ie_pop (i : Nat) (h : PE X (.Name x p) (tVar i)) (hbase : attributeBase (.Name x p) "pop" X.env (eval (.Name x p) X.env) = eval (.Name x p) X.env := by rfl) (hline : (apos.endLine == cpos.line) = true := by rfl) :
    PE X (.Call (.Attribute (.Name x p) "pop" apos) [] [] cpos) (rE X.K (ePop i)) := by
  refine peImp (pe_bm0 PySem.F.plainAttrs_list PySem.F.slot_list_pop PySem.F.type_list_pop mt_pop h hbase hline) ?_
  rintro σ H Q ⟨B, F, ε, A, d, ε', R, hm, q⟩
  simp only [ePop, Option.bind_eq_some_iff] at hm
  obtain ⟨ds, h0, d1, h1, h3⟩ := hm
  cases h3
  obtain ⟨a, xs, s1, s2, s3, s4⟩ := R.lstAt (lstOf_at h0)
  obtain ⟨y, hy, ry⟩ := s4.get h1
  refine ⟨_, s1, .inl ⟨rfl, xs, SqL.of s3⟩, a, xs, y, rfl, rfl, s3, by rw [← s4.length]; exact hy, ?_⟩
  obtain ⟨R2, x2⟩ := R.mut (u := .lst xs.dropLast) (s' := .lst ds.dropLast) s2 s1 (List.mem_singleton.mpr rfl) ⟨a, _, rfl, rfl, upd_same, s4.dropLast⟩
  exact q _ F _ R2 x2 ry
theorem ie_popAt (i : Nat) (h : PE X (.Name x p) (tVar i)) (ha : PE X e (rE X.K m)) (hbase : attributeBase (.Name x p) "pop" X.env (eval (.Name x p) X.env) = eval (.Name x p) X.env := by rfl)
    (hfew : ((backTo cpos (starEach [e] X.env)).all (fun x => !x.1) && (backToKw cpos (keywordEach [] X.env)).all (fun x => x.1.isSome)
      && decide (([e] : List Expr).length + ([] : List Keyword).length + (if ([] : List Keyword).isEmpty then 0 else 1) < 30)) = true := by rfl)
    (hline : (apos.endLine == cpos.line) = true := by rfl) (hs : starEach [e] X.env = [(false, eval e X.env)] := by rfl) : PE X (.Call (.Attribute (.Name x p) "pop" apos) [e] [] cpos) (rE X.K (ePopAt i m)) := by
  refine peImp (pe_bm PySem.F.plainAttrs_list PySem.F.slot_list_pop PySem.F.type_list_pop mt_popAt h (pa_cons ha pa_nil hs) hbase hfew hline hs (by rfl)) ?_
  rintro σ H Q ⟨B, F, ε, A, d, ε', R, hm, q⟩
  simp only [ePopAt, Option.bind_eq_some_iff] at hm
  obtain ⟨ds0, h0, ⟨d1, ε1⟩, h1, h2⟩ := hm
  obtain ⟨z, rfl⟩ : ∃ z, d1 = .int z := by cases d1 <;> first | exact ⟨_, rfl⟩ | cases h2
  simp only [Option.bind_eq_some_iff] at h2
  obtain ⟨ds, h3, h4⟩ := h2
  split at h4
  · rename_i hz
    simp only [Option.bind_eq_some_iff] at h4
    obtain ⟨j, h5, d2, h6, h7⟩ := h4
    cases h7
    rw [ix63_eq, Bool.and_eq_true] at hz
    obtain ⟨a, xs0, s1, s2, s3, s4⟩ := R.lstAt (lstOf_at h0)
    refine ⟨_, s1, .inl ⟨rfl, xs0, SqL.of s3⟩, B, F, ε, A, _, ε1, R, h1, fun v F1 H1 R1 x1 r1 => ?_⟩
    obtain ⟨b, xs, t1, t2, t3, t4⟩ := R1.lstAt (lstOf_at h3)
    rw [s1] at t1
    cases t1
    obtain ⟨y, hy, ry⟩ := t4.get h6
    refine ⟨a, xs, z, j, y, rfl, by rw [show v = .int z from r1], t3, of_decide_eq_true hz.1, of_decide_eq_true hz.2, by rw [← t4.length]; exact h5, hy, ?_⟩
    obtain ⟨R2, x2⟩ := R1.mut (u := .lst (xs.eraseIdx j)) (s' := .lst (ds.eraseIdx j)) t2 s1 (List.mem_singleton.mpr rfl) ⟨a, _, rfl, rfl, upd_same, t4.eraseIdx j⟩
    exact q _ F1 _ R2 (x1.trans x2) ry
  · cases h4
theorem is_putL (i : Nat) (h : PE X (.Name x p) (tVar i)) (hk : PE X k (rE X.K mi)) (hv : PE X e (rE X.K m)) (hs : swapsWithSole [.Subscript (.Name x p) k pos'] e pos.line X.env = pure false := by rfl) (hw : swappedStores [.Subscript (.Name x p) k pos'] e X.env = pure none := by rfl)
    (h1 : (assignEach [.Subscript (.Name x p) k pos'] X.env).map (·.2) = [assign (.Subscript (.Name x p) k pos') X.env] := by rfl) (ha : ∀ v, assign (.Subscript (.Name x p) k pos') X.env v = (do
      let ov ← holding [v] (eval (.Name x p) X.env)
      let iv ← holding [v, ov] (eval k X.env)
      standAt pos'
      holding [v, ov, iv] (setItem ov iv v)
      release [v, ov, iv] []) := by intro _; rfl) : PS X (.Assign [.Subscript (.Name x p) k pos'] e pos) (rS X.K np (sPutL i mi m)) := by
  refine psImp (ps_asg hv (pg_sub h hk set_list ha) hs hw h1) ?_
  rintro D' σ H ⟨B, F, ε, A, fl, ε', R, hn, hm, q⟩
  simp only [sPutL, Option.bind_eq_some_iff] at hm
  obtain ⟨⟨d1, ε1⟩, h1, ds0, h0, ⟨d2, ε2⟩, h2, h3⟩ := hm
  obtain ⟨z, rfl⟩ : ∃ z, d2 = .int z := by cases d2 <;> first | exact ⟨_, rfl⟩ | cases h3
  simp only [Option.bind_eq_some_iff] at h3
  obtain ⟨ds, h4, j, h5, h6⟩ := h3
  cases h6
  refine ⟨B, F, ε, A, d1, ε1, R, h1, fun v F1 H1 R1 x1 r1 => ?_⟩
  obtain ⟨a, xs0, s1, s2, s3, s4⟩ := R1.lstAt (lstOf_at h0)
  refine ⟨_, s1, B, F1, ε1, A, _, ε2, R1, h2, fun w F2 H2 R2 x2 r2 => ?_⟩
  obtain ⟨b, xs, t1, t2, t3, t4⟩ := R2.lstAt (lstOf_at h4)
  rw [s1] at t1
  cases t1
  refine ⟨a, xs, z, j, rfl, r2, t3, by rw [← t4.length]; exact h5, ?_⟩
  obtain ⟨R3, x3⟩ := R2.mut (u := .lst (xs.set j v)) (s' := .lst (ds.set j d1)) t2 s1 (List.mem_singleton.mpr rfl) ⟨a, _, rfl, rfl, upd_same, t4.set j (r1.mono' x2.rdx)⟩
  exact q F2 σ _ A R3 (x1.ex.trans x2.ex)
theorem is_putD (i : Nat) (hu : X.A.units + 1 < cLine) (h : PE X (.Name x p) (tVar i)) (hk : PE X k (rE X.K mk)) (hv : PE X e (rE X.K m)) (hs : swapsWith e (some (.Subscript (.Name x p) k pos')) pos.line X.env = pure false := by rfl) :
    PS X (.Assign [.Subscript (.Name x p) k pos'] e pos) (rS X.K np (sPutD i mk m)) := by
  refine psImp (ps_dput hu h hk hv hs) ?_
  rintro D' σ H ⟨B, F, ε, A, fl, ε', R, hn, hm, q⟩
  simp only [sPutD, Option.bind_eq_some_iff] at hm
  obtain ⟨⟨d1, ε1⟩, h1, x0, h0, ⟨d2, ε2⟩, h2, ⟨t, ks, vs⟩, h3, h4⟩ := hm
  simp only at h4
  split at h4
  · rename_i hz
    cases h4
    rw [Bool.and_eq_true] at hz
    refine ⟨B, F, ε, A, d1, ε1, R, h1, fun v F1 H1 R1 x1 r1 => ?_⟩
    obtain ⟨a, xs0, s1, s2, s3, s4⟩ := R1.dicAt (dicOf_at h0)
    refine ⟨_, s1, B, F1, ε1, A, d2, ε2, R1, h2, fun w F2 H2 R2 x2 r2 => ?_⟩
    obtain ⟨b, xs, t1, t2, t3, t4⟩ := R2.dicAt (dicOf_at h3)
    rw [s1] at t1
    cases t1
    obtain ⟨u, xs', p1, p2, p3, p4⟩ := dput_of R2.sub t3 t4 hz.1 r2 (r1.mono' x2.rdx) (szLt_lt hz.2)
    refine ⟨a, upd H2 a u, rfl, p1, ?_⟩
    obtain ⟨R3, x3⟩ := R2.mut (u := u) (s' := .dic t (putKs ks d2) (putVs ks vs d2 d1)) t2 s1 (List.mem_singleton.mpr rfl) ⟨a, xs', rfl, rfl, p3.mono fun w _ e => by rw [e]; exact upd_same, p4⟩
    exact q F2 σ _ A R3 (x1.ex.trans x2.ex)
  · cases h4
/-! new dicts -/
def nDic (t : Bool) : MN := fun ε => some (.dic t [] [], ε)
theorem in_dicK : PE X (.Dict [] [] pos) (rN X.K (nDic false)) := by
  refine peImp pe_dnewK ?_
  rintro σ H Q ⟨B, F, ε, A, d, ε', R, hm, q⟩ pp hp
  cases hm
  exact q _ F _ (R.tmp hp) (ext_tmp hp R.sub).less ⟨pp, rfl, ⟨pp, [], rfl, rfl, ⟨[], upd_same, rfl, rfl⟩, rfl⟩, R.sub.none hp, (R.fresh hp).2.1, hp⟩
theorem in_dicT : PE X (.Dict [] [] pos) (rN X.K (nDic true)) := by
  refine peImp pe_dnewT ?_
  rintro σ H Q ⟨B, F, ε, A, d, ε', R, hm, q⟩ pp hp
  cases hm
  exact q _ F _ (R.tmp hp) (ext_tmp hp R.sub).less ⟨pp, rfl, ⟨pp, [], rfl, rfl, ⟨[], upd_same, rfl, rfl⟩, rfl⟩, R.sub.none hp, (R.fresh hp).2.1, hp⟩
end
end Rl
end

set_option Elab.async false
set_option linter.all false
set_option maxRecDepth 100000
set_option autoImplicit false
set_option maxHeartbeats 1000000
/-! Rl, part 7: operators, subscripts, built-in calls by value. -/
noncomputable section
namespace Rl
open PySem PySem.Spec PyProof.Rows L2
variable [Tabs]

/-! ### data as the library's own -/
mutual
def py : D → PyData
  | .non => .none
  | .bl b => .bool b
  | .int i => .int i
  | .str s => .str ⟨s.toArray⟩
  | .tup ds => .tuple (pys ds)
  | .lst ds => .list (pys ds)
  | .dic _ _ _ => .dict []
  | .scr ds => .list (pys ds)
def pys : List D → List PyData
  | [] => []
  | d :: r => py d :: pys r
end
theorem pys_map : ∀ ds : List D, pys ds = ds.map py
  | [] => rfl
  | d :: r => by rw [pys, pys_map r]; rfl
/-- may it be compared with == -/
def shD (d : D) : Bool := SeqAt.shaped (py d)
section
variable {K : PySem.W.Frag} {F H : Hp}
theorem lay_nodic {t : Bool} {ks vs : List D} (h : (py (.dic t ks vs)).canLay0 = true) : False := by
  simp [py, PyData.canLay0] at h
mutual
theorem dp_of (s : Sub F H) : ∀ (d : D) (v : V), (py d).canLay0 = true → Rep K F d v → Dp K H v (py d)
  | .non, v, _, h => by rw [show v = .non from h]; exact .non
  | .bl b, v, _, h => by rw [show v = .bl b from h]; exact .bl b
  | .int i, v, _, h => by rw [show v = .int i from h]; exact .int i
  | .str x, v, _, h => by rw [show v = .str _ from h]; exact .str _
  | .tup ds, v, hl, h => by
    obtain ⟨a, xs, rfl, h1, h2⟩ := h
    exact .tup (SqT.of (s.tup h1)) (dpAll_of s ds xs (by simpa [py, PyData.canLay0] using hl) h2)
  | .lst ds, v, hl, h => by
    obtain ⟨a, xs, rfl, h1, h2⟩ := h
    exact .lst (.inl (s.rdx.1 a _ trivial h1)) (dpAll_of s ds xs (by simpa [py, PyData.canLay0] using hl) h2)
  | .scr ds, v, hl, h => by
    obtain ⟨a, xs, rfl, h1, h2⟩ := h
    exact .lst (s.rdx.l h1) (dpAll_of s ds xs (by simpa [py, PyData.canLay0] using hl) h2)
  | .dic t ks vs, v, hl, _ => (lay_nodic hl).elim
theorem dpAll_of (s : Sub F H) : ∀ (ds : List D) (xs : List V), PyData.canLayAll0 (pys ds) = true → Reps K F ds xs → DpAll K H xs (pys ds)
  | [], xs, _, h => by rw [show xs = [] from h]; exact .nil
  | d :: ds, xs, hl, h => by
    obtain ⟨x, r, rfl, h1, h2⟩ := h
    rw [pys, PyData.canLayAll0, Bool.and_eq_true] at hl
    exact .cons (dp_of s d x hl.1 h1) (dpAll_of s ds r hl.2 h2)
end
theorem dp_rept {d : D} {v : V} (s : Sub F H) (hl : shD d = true) (r : RepT K F H d v) : Dp K H v (py d) := by
  have hl' := SeqAt.canLay_of_shaped hl
  cases d with
  | lst ds =>
    obtain ⟨a, xs, rfl, h1, h2⟩ := r
    exact .lst (.inl h1) (dpAll_of s ds xs (by simpa [py, PyData.canLay0] using hl') h2)
  | scr ds =>
    obtain ⟨a, xs, rfl, h1, h2⟩ := r
    exact .lst h1 (dpAll_of s ds xs (by simpa [py, PyData.canLay0] using hl') h2)
  | dic t ks vs => exact (lay_nodic hl').elim
  | _ => exact dp_of s _ v hl' r
end

/-! ### arithmetic -/
def addD : D → D → Option D
  | .int i, .int j => some (.int (i + j))
  | .str a, .str b => if szOk (a.length + b.length) then some (.str (a ++ b)) else none
  | .lst a, .lst b => if szOk (a.length + b.length) then some (.lst (a ++ b)) else none
  | .tup a, .tup b => if szOk (a.length + b.length) then some (.tup (a ++ b)) else none
  | _, _ => none
def subD : D → D → Option D
  | .int i, .int j => some (.int (i - j))
  | _, _ => none
def smallI (i : Int) : Bool := opq (fun i : Int => decide (-(2 ^ 64) < i) && decide (i < 2 ^ 64)) i
omit [Tabs] in
theorem smallI_eq (i : Int) : smallI i = (decide (-(2 ^ 64) < i) && decide (i < 2 ^ 64)) := opq_eq _ i
def lt30 (j : Int) : Bool := opq (fun j : Int => decide (0 < j) && decide (j < 1073741824)) j
omit [Tabs] in
theorem lt30_eq (j : Int) : lt30 j = (decide (0 < j) && decide (j < 1073741824)) := opq_eq _ j
def powOk (p : Int × Int) : Bool := opq (fun p : Int × Int => decide (0 ≤ p.2) && decide (p.2 ≤ 1000000) && decide (p.1.natAbs < 2 ^ 64)) p
omit [Tabs] in
theorem powOk_eq (p : Int × Int) : powOk p = (decide (0 ≤ p.2) && decide (p.2 ≤ 1000000) && decide (p.1.natAbs < 2 ^ 64)) := opq_eq _ p
def mulD : D → D → Option D
  | .int i, .int j => if smallI i || smallI j then some (.int (i * j)) else none
  | _, _ => none
def modD : D → D → Option D
  | .int i, .int j => if decide (0 < j) then some (.int (i % j)) else none
  | _, _ => none
def fdivD : D → D → Option D
  | .int i, .int j => if lt30 j then some (.int (i / j)) else none
  | _, _ => none
def powD : D → D → Option D
  | .int i, .int j => if powOk (i, j) then some (.int (i ^ j.toNat)) else none
  | _, _ => none
def negD : D → Option D
  | .int i => some (.int (-i))
  | _ => none
def ltD : D → D → Option D
  | .int i, .int j => some (.bl (decide (i < j)))
  | .str a, .str b => some (.bl (decide (a < b)))
  | _, _ => none
def leD : D → D → Option D
  | .int i, .int j => some (.bl (decide (i ≤ j)))
  | .str a, .str b => some (.bl (!decide (b < a)))
  | _, _ => none
def gtD : D → D → Option D
  | .int i, .int j => some (.bl (decide (j < i)))
  | .str a, .str b => some (.bl (decide (b < a)))
  | _, _ => none
def geD : D → D → Option D
  | .int i, .int j => some (.bl (decide (j ≤ i)))
  | .str a, .str b => some (.bl (!decide (a < b)))
  | _, _ => none
/-- == -/
def eqB : D → D → Option Bool
  | .int i, .int j => some (i == j)
  | .str a, .str b => some (a == b)
  | .bl a, .bl b => some (a == b)
  | x, y => if shD x && shD y then some (PyData.eqv (py x) (py y)) else none
def eqD (x y : D) : Option D := (eqB x y).map .bl
def neD (x y : D) : Option D := (eqB x y).map fun b => .bl (!b)
def nonB : D → Bool
  | .non => true
  | _ => false
def isNonD : D → D → Option D
  | x, .non => some (.bl (nonB x))
  | _, _ => none
def notNonD : D → D → Option D
  | x, .non => some (.bl (!nonB x))
  | _, _ => none
def flatD : D → Bool
  | .non => true
  | .bl _ => true
  | .int _ => true
  | .str _ => true
  | _ => false
/-- == of flat data, the item first -/
def eqF : D → D → Bool
  | .non, .non => true
  | .bl a, .bl b => a == b
  | .bl a, .int b => (if a then 1 else 0) == b
  | .int a, .bl b => a == (if b then 1 else 0)
  | .int a, .int b => a == b
  | .str a, .str b => a == b
  | _, _ => false
def inB (x : D) : D → Option Bool
  | .dic t ks _ => if isKey t x then some (hasD ks x) else none
  | .tup ds => if flatD x && ds.all flatD then some (ds.any fun y => eqF y x) else none
  | .lst ds => if flatD x && ds.all flatD then some (ds.any fun y => eqF y x) else if shD x && shD (.lst ds) then some (ds.any fun z => PyData.eqv (py z) (py x)) else none
  | .str s => match x with
    | .str [c] => some (decide (c ∈ s))
    | _ => none
  | _ => none
def inD (x y : D) : Option D := (inB x y).map .bl
def ninD (x y : D) : Option D := (inB x y).map fun b => .bl (!b)

theorem str_len (s : List Nat) : (⟨s.toArray⟩ : Str).length = s.length := by simp [Str.length]
theorem str_app (a b : List Nat) : (⟨a.toArray⟩ : Str) ++ ⟨b.toArray⟩ = ⟨(a ++ b).toArray⟩ := by
  show Str.mk (a.toArray ++ b.toArray) = _
  simp
section
variable {X : Cx}
theorem OpD.of {f : Value → Value → Sem Value} {g : D → D → Option D} (r : R2) (h : OpR X f r) (q : ∀ (F H : Hp) (dx dy d : D) (x y : V) (Q : VK), g dx dy = some d → Sub F H → RepT X.K F H dx x → RepT X.K F H dy y → Fin X.K F H d Q → r x y H Q) : OpD X f g := ⟨r, h, q⟩
def rCatL (K : PySem.W.Frag) : R2 := fun x y H Q => ∃ l b xs zs, x = .ref l ∧ y = .ref b ∧ Rd H l (.lst xs) ∧ Rd H b (.lst zs) ∧ xs.length + zs.length ≤ sizeLine ∧ ∀ p, H p = none → Q (.ref p) (upd H p (.lst (xs ++ zs)))
theorem op_catL : OpR X (binaryOp .Add) (rCatL X.K) := by
  intro pins s σ H x y v u Q I rx ry h
  obtain ⟨l, b, xs, zs, rfl, rfl, hH, hB, hz, q⟩ := h
  cases rx
  cases ry
  obtain ⟨z, its, n, r, e⟩ := hH.ok I.hok
  obtain ⟨z2, its2, n2, r2, e2⟩ := hB.ok I.hok
  have hl := r.length
  have hl2 := r2.length
  refine PySem.P.add_list e e2 ?_ (by rw [List.size_toArray, List.size_toArray]; omega)
  have ea : its.toArray ++ its2.toArray = (its ++ its2).toArray := by simp
  rw [ea]
  exact ⟨.ref _, _, I.lnew (t' := s.toks) (r.append r2) (by rw [List.length_append]; omega), rfl, q _ I.fresh⟩
theorem od_add : OpD X (binaryOp .Add) addD := by
  refine .of _ (op_add.or (op_add_str.or (op_catL.or op_catA))) fun F H dx dy d x y Q h s rx ry fin => ?_
  cases dx <;> cases dy <;> try cases h
  · exact .inl ⟨_, _, rx, ry, fin.old _ rfl⟩
  · rename_i a b
    simp only [addD] at h
    split at h
    · rename_i hz
      cases h
      exact .inr (.inl ⟨_, _, rx, ry, by rw [str_len, str_len]; exact szOk_le hz, fin.old _ (by rw [str_app]; rfl)⟩)
    · cases h
  · rename_i a b
    simp only [addD] at h
    split at h
    · rename_i hz
      cases h
      obtain ⟨p1, xs, rfl, h1, h2⟩ := rx
      obtain ⟨p2, ys, rfl, h3, h4⟩ := ry
      have hz' := szOk_le hz
      refine .inr (.inr (.inr ⟨p1, p2, xs, ys, rfl, rfl, SqT.of (s.tup h1), SqT.of (s.tup h3), by rw [← h2.length, ← h4.length]; exact hz', fun e => ?_, fun e e2 => ?_, fun e e2 p hp => ?_⟩))
      · subst e
        have : a = [] := List.length_eq_zero_iff.mp h2.length
        subst this
        exact fin.old _ ⟨p2, ys, rfl, h3, h4⟩
      · subst e2
        have : b = [] := List.length_eq_zero_iff.mp h4.length
        subst this
        exact fin.old _ ⟨p1, xs, rfl, h1, by rw [List.append_nil]; exact h2⟩
      · exact fin.new p _ hp ⟨p, _, rfl, upd_same, (h2.append h4).mono' (Ex.new (s.none hp)).rdx⟩
    · cases h
  · rename_i a b
    simp only [addD] at h
    split at h
    · rename_i hz
      cases h
      obtain ⟨p1, xs, rfl, h1, h2⟩ := rx
      obtain ⟨p2, ys, rfl, h3, h4⟩ := ry
      refine .inr (.inr (.inl ⟨p1, p2, xs, ys, rfl, rfl, h1, h3, by rw [← h2.length, ← h4.length]; exact szOk_le hz, fun p hp => ?_⟩))
      exact fin.new p _ hp ⟨p, _, rfl, .inl upd_same, (h2.append h4).mono' (Ex.new (s.none hp)).rdx⟩
    · cases h
theorem od_sub : OpD X (binaryOp .Sub) subD := by
  refine .of _ op_sub fun F H dx dy d x y Q h s rx ry fin => ?_
  cases dx <;> cases dy <;> try cases h
  exact ⟨_, _, rx, ry, fin.old _ rfl⟩
theorem smallI_of {i : Int} (h : smallI i = true) : -(2 ^ 64) < i ∧ i < 2 ^ 64 := by
  rw [smallI_eq, Bool.and_eq_true] at h
  exact ⟨of_decide_eq_true h.1, of_decide_eq_true h.2⟩
theorem od_mul : OpD X (binaryOp .Mult) mulD := by
  refine .of _ op_mul fun F H dx dy d x y Q h s rx ry fin => ?_
  cases dx <;> cases dy <;> try cases h
  simp only [mulD] at h
  split at h
  · rename_i hz
    cases h
    rw [Bool.or_eq_true] at hz
    exact ⟨_, _, rx, ry, hz.imp smallI_of smallI_of, fin.old _ rfl⟩
  · cases h
theorem od_mod : OpD X (binaryOp .Mod) modD := by
  refine .of _ op_mod fun F H dx dy d x y Q h s rx ry fin => ?_
  cases dx <;> cases dy <;> try cases h
  simp only [modD] at h
  split at h
  · rename_i hz
    cases h
    exact ⟨_, _, rx, ry, of_decide_eq_true hz, fin.old _ rfl⟩
  · cases h
theorem od_fdiv : OpD X (binaryOp .FloorDiv) fdivD := by
  refine .of _ op_fdiv fun F H dx dy d x y Q h s rx ry fin => ?_
  cases dx <;> cases dy <;> try cases h
  simp only [fdivD] at h
  split at h
  · rename_i hz
    cases h
    rw [lt30_eq, Bool.and_eq_true] at hz
    exact ⟨_, _, rx, ry, ⟨of_decide_eq_true hz.1, of_decide_eq_true hz.2⟩, fin.old _ rfl⟩
  · cases h
theorem od_pow : OpD X (binaryOp .Pow) powD := by
  refine .of _ op_pow fun F H dx dy d x y Q h s rx ry fin => ?_
  cases dx <;> cases dy <;> try cases h
  simp only [powD] at h
  split at h
  · rename_i hz
    cases h
    rw [powOk_eq, Bool.and_eq_true, Bool.and_eq_true] at hz
    exact ⟨_, _, rx, ry, ⟨of_decide_eq_true hz.1.1, of_decide_eq_true hz.1.2, of_decide_eq_true hz.2⟩, fin.old _ rfl⟩
  · cases h
theorem ud_neg : UnD X (unaryOp .USub) negD := by
  refine ⟨_, un_neg, fun F H dx d x Q h s rx fin => ?_⟩
  cases dx <;> try cases h
  exact ⟨_, rx, fin.old _ rfl⟩
theorem cps_eq (a : List Nat) : (⟨a.toArray⟩ : Str).cps.toList = a := by simp
theorem od_lt : OpD X (compareOp .Lt) ltD := by
  refine .of _ (op_lt.or op_lt_str) fun F H dx dy d x y Q h s rx ry fin => ?_
  cases dx <;> cases dy <;> try cases h
  · exact .inl ⟨_, _, rx, ry, fin.old _ rfl⟩
  · exact .inr ⟨_, _, rx, ry, fin.old _ (by rw [cps_eq, cps_eq]; rfl)⟩
theorem od_le : OpD X (compareOp .LtE) leD := by
  refine .of _ (op_le.or op_le_str) fun F H dx dy d x y Q h s rx ry fin => ?_
  cases dx <;> cases dy <;> try cases h
  · exact .inl ⟨_, _, rx, ry, fin.old _ rfl⟩
  · exact .inr ⟨_, _, rx, ry, fin.old _ (by rw [cps_eq, cps_eq]; rfl)⟩
theorem od_gt : OpD X (compareOp .Gt) gtD := by
  refine .of _ (op_gt.or op_gt_str) fun F H dx dy d x y Q h s rx ry fin => ?_
  cases dx <;> cases dy <;> try cases h
  · exact .inl ⟨_, _, rx, ry, fin.old _ rfl⟩
  · exact .inr ⟨_, _, rx, ry, fin.old _ (by rw [cps_eq, cps_eq]; rfl)⟩
theorem od_ge : OpD X (compareOp .GtE) geD := by
  refine .of _ (op_ge.or op_ge_str) fun F H dx dy d x y Q h s rx ry fin => ?_
  cases dx <;> cases dy <;> try cases h
  · exact .inl ⟨_, _, rx, ry, fin.old _ rfl⟩
  · exact .inr ⟨_, _, rx, ry, fin.old _ (by rw [cps_eq, cps_eq]; rfl)⟩
theorem vstr_dec (a b : List Nat) : decide (V.str ⟨a.toArray⟩ = V.str ⟨b.toArray⟩) = (a == b) := by
  by_cases e : a = b
  · subst e; simp
  · rw [decide_eq_false (fun z => e (by cases z; rfl))]
    simpa using e
theorem eqB_of {F H : Hp} {dx dy : D} {x y : V} {b : Bool} (h : eqB dx dy = some b) (s : Sub F H) (rx : RepT X.K F H dx x) (ry : RepT X.K F H dy y) :
    (scal x y = true ∧ decide (x = y) = b) ∨ (∃ d e, Dp X.K H x d ∧ Dp X.K H y e ∧ SeqAt.shaped d = true ∧ SeqAt.shaped e = true ∧ PyData.eqv d e = b) := by
  have go : (if shD dx && shD dy then some (PyData.eqv (py dx) (py dy)) else none) = some b → (∃ d e, Dp X.K H x d ∧ Dp X.K H y e ∧ SeqAt.shaped d = true ∧ SeqAt.shaped e = true ∧ PyData.eqv d e = b) := by
    intro h
    split at h
    · rename_i hz
      rw [Bool.and_eq_true] at hz
      cases h
      exact ⟨_, _, dp_rept s hz.1 rx, dp_rept s hz.2 ry, hz.1, hz.2, rfl⟩
    · cases h
  unfold eqB at h
  split at h
  · cases h
    rw [show x = .int _ from rx, show y = .int _ from ry]
    exact .inl ⟨rfl, dec_int⟩
  · cases h
    rw [show x = .str _ from rx, show y = .str _ from ry]
    exact .inl ⟨rfl, vstr_dec _ _⟩
  · cases h
    rw [show x = .bl _ from rx, show y = .bl _ from ry]
    exact .inl ⟨rfl, dec_bl⟩
  · exact .inr (go h)
theorem od_eq (hu : X.A.units + 64 < cLine) : OpD X (compareOp .Eq) eqD := by
  refine .of _ (op_eq.or (op_eqD hu)) fun F H dx dy d x y Q h s rx ry fin => ?_
  simp only [eqD, Option.map_eq_some_iff] at h
  obtain ⟨b, h1, rfl⟩ := h
  rcases eqB_of h1 s rx ry with ⟨e1, e2⟩ | ⟨d, e, q1, q2, q3, q4, q5⟩
  · exact .inl ⟨e1, fin.old _ (by rw [e2]; rfl)⟩
  · exact .inr ⟨d, e, q1, q2, q3, q4, fin.old _ (by rw [q5]; rfl)⟩
theorem od_ne (hu : X.A.units + 64 < cLine) : OpD X (compareOp .NotEq) neD := by
  refine .of _ (op_ne.or (op_neD hu)) fun F H dx dy d x y Q h s rx ry fin => ?_
  simp only [neD, Option.map_eq_some_iff] at h
  obtain ⟨b, h1, rfl⟩ := h
  rcases eqB_of h1 s rx ry with ⟨e1, e2⟩ | ⟨d, e, q1, q2, q3, q4, q5⟩
  · exact .inl ⟨e1, fin.old _ (by rw [e2]; rfl)⟩
  · exact .inr ⟨d, e, q1, q2, q3, q4, fin.old _ (by rw [q5]; rfl)⟩
theorem non_dec {K : PySem.W.Frag} {F H : Hp} {dx : D} {x : V} (rx : RepT K F H dx x) : decide (x = .non) = nonB dx := by
  cases dx with
  | non => rw [show x = .non from rx]; rfl
  | bl b => rw [show x = .bl b from rx]; rfl
  | int b => rw [show x = .int b from rx]; rfl
  | str b => rw [show x = .str _ from rx]; rfl
  | tup b => obtain ⟨a, xs, rfl, _⟩ := rx; rfl
  | lst b => obtain ⟨a, xs, rfl, _⟩ := rx; rfl
  | scr b => obtain ⟨a, xs, rfl, _⟩ := rx; rfl
  | dic t ks b => obtain ⟨a, xs, rfl, _⟩ := rx; rfl
theorem od_is : OpD X (compareOp .Is) isNonD := by
  refine .of _ op_isN fun F H dx dy d x y Q h s rx ry fin => ?_
  cases dy <;> try (simp only [isNonD] at h; cases h)
  exact ⟨ry, fin.old _ (by rw [non_dec rx]; rfl)⟩
theorem od_isnt : OpD X (compareOp .IsNot) notNonD := by
  refine .of _ op_notN fun F H dx dy d x y Q h s rx ry fin => ?_
  cases dy <;> try (simp only [notNonD] at h; cases h)
  exact ⟨ry, fin.old _ (by rw [non_dec rx]; rfl)⟩

/-! ### in -/
theorem flat_of {K : PySem.W.Frag} {F : Hp} {d : D} {v : V} (r : Rep K F d v) (h : flatD d = true) : flatV v = true := by
  cases d <;> try cases h
  all_goals (rw [show v = _ from r]; rfl)
theorem str_beq (a b : List Nat) : ((⟨a.toArray⟩ : Str) == ⟨b.toArray⟩) = (a == b) := by
  rw [← dec_str, vstr_dec]
theorem eqF_of {K : PySem.W.Frag} {F : Hp} {d e : D} {v u : V} (r : Rep K F d v) (r' : Rep K F e u) (h : flatD d = true) (h' : flatD e = true) : eqV v u = eqF d e := by
  cases d <;> try cases h
  all_goals cases e <;> try cases h'
  all_goals (rw [show v = _ from r, show u = _ from r']; try rfl)
  exact str_beq _ _
theorem any_of {K : PySem.W.Frag} {F : Hp} {e : D} {u : V} (r' : Rep K F e u) (h' : flatD e = true) : ∀ {ds : List D} {xs : List V}, Reps K F ds xs → ds.all flatD = true → xs.all flatV = true ∧ inV u xs = ds.any fun y => eqF y e
  | [], xs, h, _ => by rw [show xs = [] from h]; exact ⟨rfl, rfl⟩
  | d :: ds, xs, h, hf => by
    obtain ⟨x, t, rfl, h1, h2⟩ := h
    rw [List.all_cons, Bool.and_eq_true] at hf
    obtain ⟨q1, q2⟩ := any_of r' h' h2 hf.2
    refine ⟨by rw [List.all_cons, flat_of h1 hf.1, q1]; rfl, ?_⟩
    show (eqV x u || inV u t) = _
    rw [eqF_of h1 r' hf.1 h', q2]
    rfl
def rInX (X : Cx) (neg : Bool) : R2 := fun x y H Q => (∃ a o, y = .ref a ∧ DGet H a x o ∧ Q (.bl (if neg then !o.isSome else o.isSome)) H) ∨ (rIn X.K neg x y H Q ∨ ((∃ d ds, Dp X.K H x d ∧ Dp X.K H y (.list ds) ∧ SeqAt.shaped d = true ∧ SeqAt.shaped (.list ds) = true ∧ Q (.bl (if neg then !(ds.any fun z => PyData.eqv z d) else ds.any fun z => PyData.eqv z d)) H) ∨
  (∃ (c : Nat) (z : Str), x = .str ⟨#[c]⟩ ∧ y = .str z ∧ Q (.bl (if neg then !decide (c ∈ z.cps.toList) else decide (c ∈ z.cps.toList))) H)))
theorem op_inX (hu : X.A.units + 65 < cLine) : OpR X (compareOp .In) (rInX X false) := by
  intro pins s σ H x y v u Q I rx ry h
  rcases h with ⟨a, o, rfl, g, q⟩ | h | h | h
  · obtain rfl : u = Value.ref a := ry
    exact d_in (by omega) I g rx fun s3 I3 => ⟨.bl o.isSome, H, I3, rfl, q⟩
  · exact op_in_seq pins s σ H x y v u Q I rx ry h
  · exact op_inD hu pins s σ H x y v u Q I rx ry h
  · exact op_in_sign pins s σ H x y v u Q I rx ry h
theorem op_ninX (hu : X.A.units + 65 < cLine) : OpR X (compareOp .NotIn) (rInX X true) := by
  intro pins s σ H x y v u Q I rx ry h
  rcases h with ⟨a, o, rfl, g, q⟩ | h | h | h
  · obtain rfl : u = Value.ref a := ry
    exact d_notIn (by omega) I g rx fun s3 I3 => ⟨.bl (!o.isSome), H, I3, rfl, q⟩
  · exact op_notIn_seq pins s σ H x y v u Q I rx ry h
  · exact op_notInD hu pins s σ H x y v u Q I rx ry h
  · exact op_notIn_sign pins s σ H x y v u Q I rx ry h
/-- what is frozen, or known through and through -/
theorem inX_of {F H : Hp} {dx dy : D} {x y : V} {b neg : Bool} {Q : VK} (h : inB dx dy = some b) (s : Sub F H) (rx : RepT X.K F H dx x) (ry : RepT X.K F H dy y) (q : Q (.bl (if neg then !b else b)) H) : rInX X neg x y H Q := by
  cases dy with
  | dic t ks vs =>
    simp only [inB] at h
    split at h
    · rename_i hk
      cases h
      obtain ⟨a, xs, rfl, h1, h2⟩ := ry
      have hx : Rep X.K F dx x := by
        cases t with
        | false => cases dx <;> first | exact rx | (exact absurd hk (by simp [isKey, keyOf]))
        | true => cases dx <;> first | exact rx | (exact absurd hk (by simp [isKey]))
      have h1' : DicIn (Rd H a) t ks xs := h1
      obtain ⟨o, g1, _, _, g4⟩ := dget_of s h1' h2 hk hx
      exact .inl ⟨a, o, rfl, g1, by rw [← g4]; exact q⟩
    · cases h
  | tup ds =>
    simp only [inB] at h
    split at h
    · rename_i hk
      cases h
      rw [Bool.and_eq_true] at hk
      obtain ⟨a, xs, rfl, h1, h2⟩ := ry
      have hx : Rep X.K F dx x := by cases dx <;> first | exact rx | (exact absurd hk.1 (by simp [flatD]))
      obtain ⟨q1, q2⟩ := any_of hx hk.1 h2 hk.2
      exact .inr (.inl ⟨a, xs, rfl, .inr (SqT.of (s.tup h1)), flat_of hx hk.1, q1, by rw [q2]; exact q⟩)
    · cases h
  | lst ds =>
    simp only [inB] at h
    split at h
    · rename_i hk
      cases h
      rw [Bool.and_eq_true] at hk
      obtain ⟨a, xs, rfl, h1, h2⟩ := ry
      have hx : Rep X.K F dx x := by cases dx <;> first | exact rx | (exact absurd hk.1 (by simp [flatD]))
      obtain ⟨q1, q2⟩ := any_of hx hk.1 h2 hk.2
      exact .inr (.inl ⟨a, xs, rfl, .inl (.inl h1), flat_of hx hk.1, q1, by rw [q2]; exact q⟩)
    · split at h
      · rename_i hk
        cases h
        rw [Bool.and_eq_true] at hk
        refine .inr (.inr (.inl ⟨py dx, pys ds, dp_rept s hk.1 rx, dp_rept s hk.2 ry, hk.1, hk.2, ?_⟩))
        rw [pys_map, List.any_map]
        exact q
      · cases h
  | str z =>
    simp only [inB] at h
    split at h
    · rename_i c
      cases h
      exact .inr (.inr (.inr ⟨c, _, rx, ry, by rw [cps_eq]; exact q⟩))
    · cases h
  | _ => cases h
theorem od_in (hu : X.A.units + 65 < cLine) : OpD X (compareOp .In) inD := by
  refine .of _ (op_inX hu) fun F H dx dy d x y Q h s rx ry fin => ?_
  simp only [inD, Option.map_eq_some_iff] at h
  obtain ⟨b, h1, rfl⟩ := h
  exact inX_of h1 s rx ry (fin.old _ rfl)
theorem od_nin (hu : X.A.units + 65 < cLine) : OpD X (compareOp .NotIn) ninD := by
  refine .of _ (op_ninX hu) fun F H dx dy d x y Q h s rx ry fin => ?_
  simp only [ninD, Option.map_eq_some_iff] at h
  obtain ⟨b, h1, rfl⟩ := h
  exact inX_of h1 s rx ry (fin.old _ rfl)
end
end Rl
end

set_option Elab.async false
set_option linter.all false
set_option maxRecDepth 100000
set_option autoImplicit false
set_option maxHeartbeats 1000000
/-! Rl, part 8: subscripts, slices, built-in calls by value. -/
noncomputable section
namespace Rl
open PySem PySem.Spec PyProof.Rows L2
open PySem.Calls PyProof.V
variable [Tabs]

/-! ### subscripts -/
def ixD : D → D → Option D
  | .lst ds, .int i => atI ds i
  | .tup ds, .int i => atI ds i
  | .scr ds, .int i => atI ds i
  | .str s, .int i => if szOk s.length then (atI s i).map fun c => .str [c] else none
  | .dic t ks vs, k => if isKey t k then lookD ks vs k else none
  | _, _ => none
theorem atI_reps {K : PySem.W.Frag} {F : Hp} {ds : List D} {xs : List V} {i : Int} {d : D} (r : Reps K F ds xs) (h : atI ds i = some d) : ∃ x, atI xs i = some x ∧ Rep K F d x := by
  unfold atI at h ⊢
  rw [← r.length]
  rw [Option.bind_eq_some_iff] at h
  obtain ⟨j, h1, h2⟩ := h
  obtain ⟨x, h3, h4⟩ := r.get h2
  exact ⟨x, by rw [h1]; exact h3, h4⟩
section
variable {X : Cx}
def rIxD : R2 := fun x y H Q => ∃ a v, x = .ref a ∧ DGet H a y (some v) ∧ Q v H
theorem ix_dict (hu : X.A.units + 1 < cLine) : IxR X rIxD := by
  intro value slice pins s σ H x y v u Q I rx ry h hs
  obtain ⟨a, z, rfl, g, q⟩ := h
  obtain rfl : v = Value.ref a := rx
  exact tail_any (dict_typeIs I g) PySem.F.slot_dict_getitem.lookup (d_getItem hu I g ry fun w' s3 I3 rw' => ⟨z, H, I3, rw', q⟩) hs
theorem xd_ix (hu : X.A.units + 1 < cLine) : IxD X ixD := by
  refine ⟨_, ix_seq.or (ix_dict hu), fun F H dx dy d x y Q h s rx ry fin => ?_⟩
  cases dx with
  | lst ds =>
    cases dy <;> try (simp only [ixD] at h; cases h)
    rename_i i
    obtain ⟨a, xs, rfl, h1, h2⟩ := rx
    obtain ⟨v, h3, h4⟩ := atI_reps h2 h
    exact .inl (.inl ⟨a, xs, i, v, rfl, ry, .inl h1, h3, fin.old v h4⟩)
  | scr ds =>
    cases dy <;> try (simp only [ixD] at h; cases h)
    rename_i i
    obtain ⟨a, xs, rfl, h1, h2⟩ := rx
    obtain ⟨v, h3, h4⟩ := atI_reps h2 h
    exact .inl (.inl ⟨a, xs, i, v, rfl, ry, h1, h3, fin.old v h4⟩)
  | tup ds =>
    cases dy <;> try (simp only [ixD] at h; cases h)
    rename_i i
    obtain ⟨a, xs, rfl, h1, h2⟩ := rx
    obtain ⟨v, h3, h4⟩ := atI_reps h2 h
    exact .inl (.inr (.inl ⟨a, xs, i, v, rfl, ry, SqT.of (s.tup h1), h3, fin.old v h4⟩))
  | str z =>
    cases dy <;> try (simp only [ixD] at h; cases h)
    rename_i i
    simp only [ixD] at h
    split at h
    · rename_i hz
      rw [Option.map_eq_some_iff] at h
      obtain ⟨c, h1, rfl⟩ := h
      exact .inl (.inr (.inr ⟨_, i, c, rx, ry, by rw [str_len]; exact szOk_le hz, by rw [cps_eq]; exact h1, fin.old _ rfl⟩))
    · cases h
  | dic t ks vs =>
    have h' : (if isKey t dy then lookD ks vs dy else none) = some d := by cases dy <;> exact h
    split at h'
    · rename_i hk
      obtain ⟨a, xs, rfl, h1, h2⟩ := rx
      have hx : Rep X.K F dy y := by
        cases t with
        | false => cases dy <;> first | exact ry | (exact absurd hk (by simp [isKey, keyOf]))
        | true => cases dy <;> first | exact ry | (exact absurd hk (by simp [isKey]))
      obtain ⟨o, g1, g2, g3, _⟩ := dget_of s h1 h2 hk hx
      cases o with
      | none => rw [g3 rfl] at h'; cases h'
      | some v =>
        obtain ⟨d', q1, q2⟩ := g2 v rfl
        rw [q1] at h'
        cases h'
        exact .inr ⟨a, v, rfl, g1, fin.old v q2⟩
    · cases h'
  | _ => cases dy <;> (simp only [ixD] at h; cases h)
end

/-! ### slices -/
def cutL {α : Type} (xs : List α) (lo hi : Option Int) : List α := (xs.drop (HT.sIx xs.length 0 lo)).take (HT.sIx xs.length xs.length hi - HT.sIx xs.length 0 lo)
def slD (d : D) (lo hi : Option Int) : Option D := match d with
  | .tup ds => some (.tup (cutL ds lo hi))
  | .lst ds => some (.lst (cutL ds lo hi))
  | .str s => if szOk s.length then some (.str (cutL s lo hi)) else none
  | _ => none
abbrev MO := List Sl → Option (Option Int × List Sl)
def oNo : MO := fun ε => some (none, ε)
def oAt (m : ME) : MO := fun ε => (m ε).bind fun p => match p.1 with
  | .int i => some (some i, p.2)
  | _ => none
def eSl (m : MV) (lo hi : MO) : ME := fun ε => (m ε).bind fun p => (lo p.2).bind fun l => (hi l.2).bind fun h => (p.1.get h.2).bind fun x => (slD x l.1 h.1).bind fun d => some (d, h.2)
def rO (K : PySem.W.Frag) (m : MO) : TO := fun σ H Q => ∃ B F ε A o ε', Rel K B F ε σ H A ∧ m ε = some (o, ε') ∧ ∀ F' H', Rel K B F' ε' σ H' A → Ext F H F' H' A → Q o H'
theorem reps_cut {K : PySem.W.Frag} {F : Hp} {ds : List D} {xs : List V} (r : Reps K F ds xs) (lo hi : Option Int) : Reps K F (cutL ds lo hi) (cutV xs lo hi) := by
  unfold cutL cutV
  rw [r.length]
  exact (r.drop _).take _
section
variable {X : Cx} {e : Expr} {lo hi : Option Expr} {pos p2 : Pos} {m : MV} {me : ME} {ml mh : MO}
theorem poImp {e : Option Expr} {t t' : TO} (h : PO X e t) (i : ∀ σ H Q, t' σ H Q → t σ H Q) : PO X e t' := ⟨fun pins s σ H Q I q => h.run pins s σ H Q I (i σ H Q q)⟩
theorem io_no : PO X none (rO X.K oNo) := by
  refine poImp po_none ?_
  rintro σ H Q ⟨B, F, ε, A, d, ε', R, hm, q⟩
  cases hm
  exact q F H R (Ext.refl F H A)
theorem io_at (h : PE X e (rE X.K me)) : PO X (some e) (rO X.K (oAt me)) := by
  refine poImp (po_some h) ?_
  rintro σ H Q ⟨B, F, ε, A, d, ε', R, hm, q⟩
  simp only [oAt, Option.bind_eq_some_iff] at hm
  obtain ⟨⟨d1, ε1⟩, h1, h2⟩ := hm
  cases d1 <;> try cases h2
  exact ⟨B, F, ε, A, _, _, R, h1, fun v F1 H1 R1 x1 r1 => ⟨_, r1, q F1 H1 R1 x1⟩⟩
theorem ie_sl (h : PE X e (rV X.K m)) (hl : PO X lo (rO X.K ml)) (hh : PO X hi (rO X.K mh)) : PE X (.Subscript e (.Slice lo hi none p2) pos) (rE X.K (eSl m ml mh)) := by
  refine peImp (pe_slice (sl_tupA.or (sl_list.or sl_str)) h hl hh) ?_
  rintro σ H Q ⟨B, F, ε, A, d, ε', R, hm, q⟩
  simp only [eSl, Option.bind_eq_some_iff] at hm
  obtain ⟨⟨w, ε1⟩, h1, ⟨l, ε2⟩, h2, ⟨u, ε3⟩, h3, x, h4, d', h5, h6⟩ := hm
  cases h6
  refine ⟨B, F, ε, A, w, ε1, R, h1, fun v F1 H1 R1 x1 r1 => ?_⟩
  refine ⟨B, F1, ε1, A, l, ε2, R1, h2, fun F2 H2 R2 x2 => ?_⟩
  refine ⟨B, F2, ε2, A, u, _, R2, h3, fun F3 H3 R3 x3 => ?_⟩
  have rx := (r1.mono (x2.ex.trans x3.ex).rdx).rept R3 h4
  have fin := Fin.of R3 ((x1.trans x2).trans x3) q
  cases x with
  | tup ds =>
    cases h5
    obtain ⟨a, xs, rfl, t1, t2⟩ := rx
    refine .inl ⟨a, xs, rfl, SqT.of (R3.sub.tup t1), fun ⟨z1, z2⟩ => ?_, fun z p hp => ?_⟩
    · have e1 : cutV xs l u = xs := by unfold cutV; rw [z1, z2, List.drop_zero, Nat.sub_zero, List.take_length]
      refine fin.old _ ⟨a, xs, rfl, t1, ?_⟩
      have := reps_cut t2 l u
      rwa [e1] at this
    · exact fin.new p _ hp ⟨p, _, rfl, upd_same, (reps_cut t2 l u).mono' (Ex.new (R3.sub.none hp)).rdx⟩
  | lst ds =>
    cases h5
    obtain ⟨a, xs, rfl, t1, t2⟩ := rx
    exact .inr (.inl ⟨a, xs, rfl, .inl t1, fun p hp => fin.new p _ hp ⟨p, _, rfl, .inl upd_same, (reps_cut t2 l u).mono' (Ex.new (R3.sub.none hp)).rdx⟩⟩)
  | str z =>
    simp only [slD] at h5
    split at h5
    · rename_i hz
      cases h5
      refine .inr (.inr ⟨_, rx, by rw [str_len]; exact szOk_le hz, fin.old _ ?_⟩)
      show V.str (cutS _ l u) = V.str _
      unfold cutS cutL
      rw [str_len]
    · cases h5
  | _ => cases h5
end

/-! ### built-in calls -/
def lenD : D → Option D
  | .lst ds => some (.int ds.length)
  | .tup ds => some (.int ds.length)
  | .scr ds => some (.int ds.length)
  | .str s => if szOk s.length then some (.int s.length) else none
  | .dic false ks _ => some (.int ks.length)
  | _ => none
def intD : D → Option D
  | .int i => some (.int i)
  | .bl b => some (.int (if b then 1 else 0))
  | _ => none
def absD : D → Option D
  | .int i => some (.int (if i < 0 then -i else i))
  | _ => none
def intsOf : List D → Option (List Int)
  | [] => some []
  | .int i :: r => (intsOf r).map (i :: ·)
  | _ => none
def maxL : List Int → Option Int
  | [] => none
  | [a] => some a
  | a :: r => (maxL r).map fun m => if a ≤ m then m else a
def minL : List Int → Option Int
  | [] => none
  | [a] => some a
  | a :: r => (minL r).map fun m => if m ≤ a then m else a
def maxD : D → Option D
  | .lst ds => (intsOf ds).bind fun ns => (maxL ns).map .int
  | _ => none
def minD : D → Option D
  | .lst ds => (intsOf ds).bind fun ns => (minL ns).map .int
  | _ => none
def sumD : D → Option D
  | .lst ds => (intsOf ds).map fun ns => .int ns.sum
  | _ => none
def max2D : D → D → Option D
  | .int i, .int j => some (.int (if j > i then j else i))
  | _, _ => none
def min2D : D → D → Option D
  | .int i, .int j => some (.int (if j < i then j else i))
  | _, _ => none
def tupD : D → Option D
  | .lst ds => some (.tup ds)
  | .tup ds => some (.tup ds)
  | _ => none
def listL : D → Option (List D)
  | .lst ds => some ds
  | .tup ds => some ds
  | .scr ds => some ds
  | .str s => if szOk s.length then some (s.map fun c => .str [c]) else none
  | _ => none
theorem intsOf_map : ∀ {ds : List D} {ns : List Int}, intsOf ds = some ns → ds = ns.map .int
  | [], ns, h => by cases h; rfl
  | .int i :: r, ns, h => by
    simp only [intsOf, Option.map_eq_some_iff] at h
    obtain ⟨t, h1, rfl⟩ := h
    rw [intsOf_map h1]; rfl
  | .non :: r, _, h => by cases h
  | .bl _ :: r, _, h => by cases h
  | .str _ :: r, _, h => by cases h
  | .tup _ :: r, _, h => by cases h
  | .lst _ :: r, _, h => by cases h
  | .scr _ :: r, _, h => by cases h
  | .dic _ _ _ :: r, _, h => by cases h
theorem reps_ints {K : PySem.W.Frag} {F : Hp} : ∀ {ns : List Int} {xs : List V}, Reps K F (ns.map .int) xs → xs = ns.map V.int
  | [], _, h => h
  | i :: r, xs, h => by
    obtain ⟨x, t, rfl, h1, h2⟩ := h
    rw [reps_ints h2, show x = .int i from h1]; rfl
theorem maxL_spec : ∀ {ns : List Int} {m : Int}, maxL ns = some m → m ∈ ns ∧ ∀ y ∈ ns, y ≤ m
  | [], m, h => by cases h
  | [a], m, h => by cases h; simp
  | a :: b :: r, m, h => by
    simp only [maxL, Option.map_eq_some_iff] at h
    obtain ⟨k, h1, rfl⟩ := h
    obtain ⟨q1, q2⟩ := maxL_spec (ns := b :: r) h1
    split
    · rename_i hak
      exact ⟨List.mem_cons_of_mem _ q1, fun y hy => by
        rcases List.mem_cons.mp hy with rfl | hy
        · exact hak
        · exact q2 y hy⟩
    · rename_i hak
      exact ⟨List.mem_cons_self, fun y hy => by
        rcases List.mem_cons.mp hy with rfl | hy
        · exact Int.le_refl _
        · have := q2 y hy; omega⟩
theorem minL_spec : ∀ {ns : List Int} {m : Int}, minL ns = some m → m ∈ ns ∧ ∀ y ∈ ns, m ≤ y
  | [], m, h => by cases h
  | [a], m, h => by cases h; simp
  | a :: b :: r, m, h => by
    simp only [minL, Option.map_eq_some_iff] at h
    obtain ⟨k, h1, rfl⟩ := h
    obtain ⟨q1, q2⟩ := minL_spec (ns := b :: r) h1
    split
    · rename_i hak
      exact ⟨List.mem_cons_of_mem _ q1, fun y hy => by
        rcases List.mem_cons.mp hy with rfl | hy
        · exact hak
        · exact q2 y hy⟩
    · rename_i hak
      exact ⟨List.mem_cons_self, fun y hy => by
        rcases List.mem_cons.mp hy with rfl | hy
        · exact Int.le_refl _
        · have := q2 y hy; omega⟩
theorem maxL_uniq {ns : List Int} {m k : Int} (h : maxL ns = some m) (h1 : k ∈ ns) (h2 : ∀ y ∈ ns, y ≤ k) : k = m := by
  obtain ⟨q1, q2⟩ := maxL_spec h
  have := h2 m q1
  have := q2 k h1
  omega
theorem minL_uniq {ns : List Int} {m k : Int} (h : minL ns = some m) (h1 : k ∈ ns) (h2 : ∀ y ∈ ns, k ≤ y) : k = m := by
  obtain ⟨q1, q2⟩ := minL_spec h
  have := h2 m q1
  have := q2 k h1
  omega

section
variable {X : Cx}
theorem cd_len : CallD1 X (.builtin "len") lenD := by
  refine ⟨_, CallR.or call_len_seq (CallR.or call_len_str (r' := fun xs H Q => ∃ a kvs, xs = [V.ref a] ∧ Rd H a (.dK kvs) ∧ Q (.int kvs.length) H) ?_), fun F H dx d x Q h s rx fin => ?_⟩
  · intro pins s σ H xs us Q I r h
    obtain ⟨a, kvs, rfl, ha, q⟩ := h
    obtain ⟨u, rfl, ru⟩ := vals1 r
    cases ru
    exact d_len I ha fun t s' I' => ⟨.int kvs.length, H, I', ⟨t, rfl⟩, q⟩
  · cases dx with
    | lst ds => cases h; obtain ⟨a, xs, rfl, h1, h2⟩ := rx; exact .inl ⟨a, xs, rfl, .inl (.inl h1), fin.old _ (by rw [h2.length]; rfl)⟩
    | scr ds => cases h; obtain ⟨a, xs, rfl, h1, h2⟩ := rx; exact .inl ⟨a, xs, rfl, .inl h1, fin.old _ (by rw [h2.length]; rfl)⟩
    | tup ds => cases h; obtain ⟨a, xs, rfl, h1, h2⟩ := rx; exact .inl ⟨a, xs, rfl, .inr (SqT.of (s.tup h1)), fin.old _ (by rw [h2.length]; rfl)⟩
    | str z =>
      simp only [lenD] at h
      split at h
      · rename_i hz
        cases h
        exact .inr (.inl ⟨_, by rw [show x = _ from rx], by rw [str_len]; exact szOk_le hz, fin.old _ (by rw [str_len]; rfl)⟩)
      · cases h
    | dic t ks vs =>
      cases t with
      | true => cases h
      | false =>
        cases h
        obtain ⟨a, xs, rfl, ⟨kvs, h1, rfl, rfl⟩, h2⟩ := rx
        exact .inr (.inr ⟨a, kvs, rfl, h1, fin.old _ (by rw [List.length_map]; rfl)⟩)
    | _ => cases h
theorem cd_int : CallD1 X (.type "int") intD := by
  refine ⟨_, call_int1, fun F H dx d x Q h s rx fin => ?_⟩
  cases dx <;> try cases h
  · exact .inr ⟨_, by rw [show x = _ from rx], fin.old _ rfl⟩
  · exact .inl ⟨_, by rw [show x = _ from rx], fin.old _ rfl⟩
theorem cd_abs : CallD1 X (.builtin "abs") absD := by
  refine ⟨_, call_abs, fun F H dx d x Q h s rx fin => ?_⟩
  cases dx <;> try cases h
  exact ⟨_, by rw [show x = _ from rx], fin.old _ rfl⟩
theorem cd_max (hc : X.calm = true) : CallD1 X (.builtin "max") maxD := by
  refine ⟨_, cr_max hc, fun F H dx d x Q h s rx fin => ?_⟩
  cases dx <;> try cases h
  simp only [maxD, Option.bind_eq_some_iff, Option.map_eq_some_iff] at h
  obtain ⟨ns, h1, m, h2, rfl⟩ := h
  obtain ⟨a, xs, rfl, h3, h4⟩ := rx
  rw [intsOf_map h1] at h4
  rw [reps_ints h4] at h3
  refine ⟨a, ns, rfl, .inl h3, ?_, fun k k1 k2 => ?_⟩
  · cases ns with
    | nil => cases h2
    | cons b r => simp
  · rw [maxL_uniq h2 k1 k2]; exact fin.old _ rfl
theorem cd_min (hc : X.calm = true) : CallD1 X (.builtin "min") minD := by
  refine ⟨_, cr_min hc, fun F H dx d x Q h s rx fin => ?_⟩
  cases dx <;> try cases h
  simp only [minD, Option.bind_eq_some_iff, Option.map_eq_some_iff] at h
  obtain ⟨ns, h1, m, h2, rfl⟩ := h
  obtain ⟨a, xs, rfl, h3, h4⟩ := rx
  rw [intsOf_map h1] at h4
  rw [reps_ints h4] at h3
  refine ⟨a, ns, rfl, .inl h3, ?_, fun k k1 k2 => ?_⟩
  · cases ns with
    | nil => cases h2
    | cons b r => simp
  · rw [minL_uniq h2 k1 k2]; exact fin.old _ rfl
theorem cd_sum (hc : X.calm = true) : CallD1 X (.builtin "sum") sumD := by
  refine ⟨_, cr_sum hc, fun F H dx d x Q h s rx fin => ?_⟩
  cases dx <;> try cases h
  simp only [sumD, Option.map_eq_some_iff] at h
  obtain ⟨ns, h1, rfl⟩ := h
  obtain ⟨a, xs, rfl, h3, h4⟩ := rx
  rw [intsOf_map h1] at h4
  rw [reps_ints h4] at h3
  exact ⟨a, ns, rfl, .inl h3, fin.old _ rfl⟩
theorem cd_max2 (hc : X.calm = true) : CallD2 X (.builtin "max") max2D := by
  refine ⟨_, call_max2 hc, fun F H dx dy d x y Q h s rx ry fin => ?_⟩
  cases dx <;> cases dy <;> try cases h
  exact ⟨_, _, by rw [show x = _ from rx, show y = _ from ry], fin.old _ rfl⟩
theorem cd_min2 (hc : X.calm = true) : CallD2 X (.builtin "min") min2D := by
  refine ⟨_, call_min2 hc, fun F H dx dy d x y Q h s rx ry fin => ?_⟩
  cases dx <;> cases dy <;> try cases h
  exact ⟨_, _, by rw [show x = _ from rx, show y = _ from ry], fin.old _ rfl⟩
theorem cd_tuple : CallD1 X (.type "tuple") tupD := by
  refine ⟨_, call_tuple_of, fun F H dx d x Q h s rx fin => ?_⟩
  cases dx <;> try cases h
  · obtain ⟨a, xs, rfl, h1, h2⟩ := rx
    exact ⟨a, xs, rfl, .inr ⟨SqT.of (s.tup h1), fin.old _ ⟨a, xs, rfl, h1, h2⟩⟩⟩
  · obtain ⟨a, xs, rfl, h1, h2⟩ := rx
    exact ⟨a, xs, rfl, .inl ⟨.inl h1, fun p hp => fin.new p _ hp ⟨p, xs, rfl, upd_same, h2.mono' (Ex.new (s.none hp)).rdx⟩⟩⟩
def rListS : List V → Hp → VK → Prop := fun xs H Q => ∃ z : Str, xs = [.str z] ∧ z.length ≤ sizeLine ∧ ∀ p, H p = none → Q (.ref p) (upd H p (.lst (z.cps.toList.map fun c => V.str ⟨#[c]⟩)))
theorem call_listS (hc : X.calm = true) : CallR X (.type "list") rListS := by
  intro pins s σ H xs us Q I r h
  obtain ⟨z, rfl, hz, q⟩ := h
  obtain ⟨u, rfl, rx⟩ := vals1 r
  obtain ⟨t, rfl⟩ := rx
  refine call_list_str (I.ok.hd hc) z t (fun h' tk acc c kp e it => ?_) hz
  have hl : acc.toList.length = z.cps.toList.length := by simp [it.1]
  have hv : Vals (z.cps.toList.map fun c => V.str ⟨#[c]⟩) acc.toList := by
    refine vals_of_at (by simp [hl]) fun j x u h1 h2 => ?_
    obtain ⟨c', u', h3, h4⟩ := it.2 j u (by rw [← Array.getElem?_toList]; exact h2)
    rw [List.getElem?_map, Array.getElem?_toList, h3] at h1
    cases h1
    exact ⟨u', h4⟩
  refine ⟨.ref s.heap.objs.size, _, I.laid (t' := tk) kp (Nat.le_refl _) (show ObjOk X.prog X.w _ h' _ (.lst (z.cps.toList.map fun c => V.str ⟨#[c]⟩)) from ⟨by rw [List.length_map, Array.length_toList]; exact hz, acc.toList, c, hv, by simpa using e⟩), rfl, q _ (I.hok.fresh (Nat.le_refl _))⟩
theorem reps_signs {K : PySem.W.Frag} {F : Hp} : ∀ s : List Nat, Reps K F (s.map fun c => D.str [c]) (s.map fun c => V.str ⟨#[c]⟩)
  | [] => rfl
  | c :: r => .cons rfl (reps_signs r)
theorem cn_list (hc : X.calm = true) : CallN1 X (.type "list") listL := by
  refine ⟨_, CallR.or call_list_of (call_listS hc), fun F H dx ds x Q h s rx q => ?_⟩
  cases dx <;> try cases h
  · rename_i z
    simp only [listL] at h
    split at h
    · rename_i hz
      cases h
      exact .inr ⟨_, by rw [show x = _ from rx], by rw [str_len]; exact szOk_le hz, fun p hp => q p _ hp (by rw [cps_eq]; exact reps_signs z)⟩
    · cases h
  · obtain ⟨a, xs, rfl, h1, h2⟩ := rx
    exact .inl ⟨a, xs, rfl, .inr (SqT.of (s.tup h1)), fun p hp => q p _ hp h2⟩
  · obtain ⟨a, xs, rfl, h1, h2⟩ := rx
    exact .inl ⟨a, xs, rfl, .inl (.inl h1), fun p hp => q p _ hp h2⟩
  · obtain ⟨a, xs, rfl, h1, h2⟩ := rx
    exact .inl ⟨a, xs, rfl, .inl h1, fun p hp => q p _ hp h2⟩
end

/-! ### sorted -/
def leS (a b : D) : Bool := PySem.W.dataLe false py a b
def sortDs (ds : List D) : List D := ds.mergeSort leS
def tupNe : D → Bool
  | .tup (_ :: _) => true
  | _ => false
def noTup : D → Bool
  | .tup _ => false
  | .non => false
  | _ => true
/-- may these be sorted -/
def sortOk (ds : List D) : Bool := (ds.all fun a => ds.all fun b => PySem.W.alike (py a) (py b)) && (ds.all tupNe || ds.all noTup) && ds.all shD && szOk ds.length
def sortL : D → Option (List D)
  | .lst ds => if sortOk ds then some (sortDs ds) else none
  | .dic false ks _ => if sortOk ks then some (sortDs ks) else none
  | _ => none
theorem sortOk_alike {ds : List D} (h : sortOk ds = true) : PySem.W.AllAlike (ds.map py) := by
  simp only [sortOk, Bool.and_eq_true, List.all_eq_true] at h
  intro d hd d' hd'
  obtain ⟨a, ha, rfl⟩ := List.mem_map.mp hd
  obtain ⟨b, hb, rfl⟩ := List.mem_map.mp hd'
  exact h.1.1.1 a ha b hb
theorem sortOk_kind {ds : List D} (h : sortOk ds = true) : PySem.W.Sortable (ds.map py) := by
  simp only [sortOk, Bool.and_eq_true, Bool.or_eq_true, List.all_eq_true] at h
  rcases h.1.1.2 with q | q
  · refine .inl fun d hd => ?_
    obtain ⟨a, ha, rfl⟩ := List.mem_map.mp hd
    have := q a ha
    cases a <;> try cases this
    rename_i ds
    cases ds with
    | nil => cases this
    | cons x r => exact ⟨py x, pys r, by simp [py, pys]⟩
  · refine .inr fun d hd => ?_
    obtain ⟨a, ha, rfl⟩ := List.mem_map.mp hd
    have := q a ha
    cases a <;> first | (cases this; done) | simp [py]
theorem sortOk_sh {ds : List D} (h : sortOk ds = true) : ∀ d ∈ ds, shD d = true := by
  simp only [sortOk, Bool.and_eq_true, List.all_eq_true] at h
  exact h.1.2
theorem sortOk_sz {ds : List D} (h : sortOk ds = true) : ds.length ≤ sizeLine := by
  simp only [sortOk, Bool.and_eq_true] at h
  exact szOk_le h.2
section
variable {X : Cx}
/-- values and data, and their places in H: what a sort carries along -/
def RvD (K : PySem.W.Frag) (F : Hp) (v : Value) (d : D) : Prop := ∃ x, RelV x v ∧ Rep K F d x
theorem each_rv {K : PySem.W.Frag} {F : Hp} : ∀ {ds : List D} {xs : List V} {us : List Value}, Reps K F ds xs → Vals xs us → PySem.W.EachIs (RvD K F) us ds
  | [], xs, us, h, v => by rw [show xs = [] from h] at v; cases v; exact .nil
  | d :: ds, xs, us, h, v => by
    obtain ⟨x, t, rfl, h1, h2⟩ := h
    cases v with
    | cons r1 r2 => exact .cons ⟨x, r1, h1⟩ (each_rv h2 r2)
theorem rv_each {K : PySem.W.Frag} {F : Hp} : ∀ {us : List Value} {ds : List D}, PySem.W.EachIs (RvD K F) us ds → ∃ xs, Vals xs us ∧ Reps K F ds xs
  | _, _, .nil => ⟨[], .nil, rfl⟩
  | _, _, .cons ⟨x, r1, h1⟩ t => by
    obtain ⟨xs, v, r⟩ := rv_each t
    exact ⟨x :: xs, .cons r1 v, .cons h1 r⟩
theorem reads_each {pins : List (Addr × Obj)} {σ : L2.St} {H F : Hp} {s : Shared} (I : Inv X pins σ H s) (sb : Sub F H) : ∀ {us : List Value} {ds : List D}, PySem.W.EachIs (RvD X.K F) us ds → (∀ d ∈ ds, shD d = true) → PySem.W.EachIs (fun v b => ∃ as, Reads s.heap v (py b) as) us ds
  | _, _, .nil, _ => .nil
  | _, _, .cons ⟨x, r1, h1⟩ t, hs => .cons (Dp.reads I _ x _ (dp_of sb _ x (SeqAt.canLay_of_shaped (hs _ List.mem_cons_self)) h1) r1) (reads_each I sb t fun d hd => hs d (List.mem_cons_of_mem _ hd))
def rSortL (X : Cx) : List V → Hp → VK → Prop := fun vs H Q => ∃ (F : Hp) (ds : List D) (a : Addr) (xs : List V), vs = [V.ref a] ∧ Sub F H ∧ Rd H a (.lst xs) ∧ Reps X.K F ds xs ∧ sortOk ds = true ∧ ∀ p ys, H p = none → Reps X.K F (sortDs ds) ys → Q (.ref p) (upd H p (.lst ys))
theorem call_sortL (hu : X.A.units + 200 < cLine) : CallR X (.builtin "sorted") (rSortL X) := by
  intro pins s σ H vs us Q I r h
  obtain ⟨F, ds, a, xs, rfl, sb, ha, hr, ok, q⟩ := h
  obtain ⟨u, rfl, rx⟩ := vals1 r
  cases rx
  obtain ⟨z, its, n, rv, e⟩ := ha.ok I.hok
  have ev := each_rv hr rv
  refine PySem.W.sorted_data (vs := its) (bs := ds) (enc := py) (R := RvD X.K F) ⟨_, e, rfl, n, by simp⟩ ev (reads_each I sb ev (sortOk_sh ok)) (sortOk_alike ok) (sortOk_kind ok) (sortOk_sz ok) (fun d hd => ?_) fun out ho eo => ?_
  · have := SeqAt.depth_of_shaped (sortOk_sh ok d hd)
    omega
  · obtain ⟨ys, v2, r2⟩ := rv_each eo
    obtain ⟨c, hc⟩ := PyProof.Rows.sortedAll_at s.heap its (List.toArray out)
    refine ⟨.ref (s.heap.objs.size + 1), _, I.laid (t' := s.toks) (fun b o k => PyProof.Rows.sortedAll_old k) (Nat.le_succ _) (show ObjOk X.prog X.w _ _ _ (.lst ys) from ⟨?_, out, c, v2, hc⟩), rfl, q _ ys (I.hok.fresh (Nat.le_succ _)) r2⟩
    rw [v2.length, ho]
    exact sortOk_sz ok
end
section
variable {X : Cx}
theorem keyD_flat {k : Key} {v : Value} (h : keyIs k v = true) (hp : Heap) : Reads hp v (py (keyD k)) [] ∧ RelV (kV k) v := by
  rcases keyIs_shape h with ⟨i, t, ek, ev⟩ | ⟨z, t, ek, ev⟩
  · subst ek; subst ev; exact ⟨.int _ _, ⟨t, rfl⟩⟩
  · subst ek; subst ev; exact ⟨by simpa [keyD, py] using Reads.str (h := hp) z t, ⟨t, rfl⟩⟩
def rSortK : List V → Hp → VK → Prop := fun vs H Q => ∃ (a : Addr) (kvs : List (Key × V)) (ds : List D), vs = [V.ref a] ∧ Rd H a (.dK kvs) ∧ ds = kvs.map (fun p => keyD p.1) ∧ sortOk ds = true ∧
  ∀ p ys, H p = none → (∀ K F, Reps K F (sortDs ds) ys) → Q (.ref p) (upd H p (.lst ys))
def KvIs (v : Value) (d : D) : Prop := ∃ k, keyIs k v = true ∧ d = keyD k
theorem each_kv : ∀ {us : List Value} {vs : List (Key × Value)}, us.length = vs.length → (∀ (j : Nat) (v : Value), us[j]? = some v → ∃ (k : Key) (x : Value), vs[j]? = some (k, x) ∧ keyIs k v = true) → PySem.W.EachIs KvIs us (vs.map fun p => keyD p.1)
  | [], [], _, _ => .nil
  | u :: us, q :: vs, hl, h => by
    obtain ⟨k, x, e1, e2⟩ := h 0 u rfl
    have e1' : q = (k, x) := Option.some.inj e1
    subst e1'
    rw [List.map_cons]
    refine .cons ⟨k, e2, rfl⟩ (each_kv (by simpa using hl) fun j v e => ?_)
    obtain ⟨k, x, a, b⟩ := h (j + 1) v (by simpa using e)
    exact ⟨k, x, by simpa using a, b⟩
  | [], _ :: _, hl, _ => by simp at hl
  | _ :: _, [], hl, _ => by simp at hl
theorem kv_each : ∀ {us : List Value} {ds : List D}, PySem.W.EachIs KvIs us ds → ∃ xs, Vals xs us ∧ ∀ K F, Reps K F ds xs
  | _, _, .nil => ⟨[], .nil, fun _ _ => rfl⟩
  | _, _, .cons ⟨k, r1, h1⟩ t => by
    obtain ⟨xs, v, r⟩ := kv_each t
    refine ⟨kV k :: xs, .cons (keyD_flat r1 {}).2 v, fun K F => .cons ?_ (r K F)⟩
    subst h1
    cases k with
    | inl i => exact rfl
    | inr z => exact show V.str z = V.str ⟨z.cps.toList.toArray⟩ by rw [Array.toArray_toList]
theorem keyD_depth (k : Key) : (py (keyD k)).depth ≤ 1 := by cases k <;> simp [keyD, py, PyData.depth]
theorem call_sortK (hc : X.calm = true) (hu : X.A.units + 200 < cLine) : CallR X (.builtin "sorted") rSortK := by
  intro pins s σ H xs us Q I r q
  obtain ⟨a, kvs, ds, ex, hd, hks, ok, q⟩ := q
  subst ex
  obtain ⟨u, eu, rx⟩ := vals1 r
  subst eu
  cases rx
  obtain ⟨z, lo, vs, rel, dd⟩ := dk_rd I.hok hd
  obtain ⟨ep, hat⟩ := dd.dictAt
  have hkeys : vs.map (fun p => keyD p.1) = ds := by
    have := congrArg (List.map keyD) rel.keys
    rw [List.map_map, List.map_map] at this
    rw [hks]; exact this.symm
  have hl : vs.length = ds.length := by rw [← hkeys, List.length_map]
  have h16 : vs.length ≤ sizeLine := by rw [hl]; exact sortOk_sz ok
  refine Calls.call_function_entry PyProof.Rows.kind_sorted PyProof.Rows.plain_sorted PyProof.Rows.entry_sorted (PyProof.Rows.args_sorted1 _) ?_
  unfold Builtin.«sorted»
  refine wpAny_bind (m := checkCount "sorted" 1 1 _) (wpAny_pure ?_)
  refine wpAny_bind (PySem.W.kdu_collect (A := X.A.in1) (PySem.W.kdl_dict (knd := mixKind X.prog X.w) (kvs := vs) (ep := ep) lo) (I.ok.hd hc) hat h16 fun h' tk acc hk hacc => ?_)
  have hal : acc.toList.length = vs.length := by rw [Array.length_toList, hacc.1]
  have hE : PySem.W.EachIs KvIs acc.toList ds := by
    rw [← hkeys]
    exact each_kv hal fun j v e => hacc.2 j v (by rw [← Array.getElem?_toList]; exact e)
  have I1 : Inv X pins σ H { s with heap := h', toks := tk } := I.kept hk
  refine wpAny_bind (wpAny_newList ?_ (by rw [hal]; exact h16))
  have hoL : (h'.push (seqObj "list" acc.toList.toArray 0)).get? h'.objs.size = some (seqObj "list" acc.toList.toArray 0) := Heap.get?_push_size _ rfl
  show wpAny _ _ _ _ _ { s with heap := h'.push (seqObj "list" acc.toList.toArray 0), toks := tk }
  refine wpAny_bind (wpAny_holding (PySem.W.list_sort_data (A := X.A.in1) (s := { s with heap := h'.push (seqObj "list" acc.toList.toArray 0), toks := tk }) (R := KvIs) (bs := ds) (enc := py) hoL hE
    (hE.mono fun v d ⟨k, h1, h2⟩ => ⟨[], by subst h2; exact (keyD_flat h1 _).1, by simp⟩) (sortOk_alike ok) (sortOk_kind ok) (sortOk_sz ok) (fun d hd => ?_) fun out ho eo => ?_))
  · rw [← hkeys] at hd
    obtain ⟨p, _, rfl⟩ := List.mem_map.mp hd
    have := keyD_depth p.1
    have e : X.A.in1.units = X.A.units + 1 := rfl
    omega
  · obtain ⟨ys, v2, r2⟩ := kv_each eo
    obtain ⟨e', he'⟩ := PyProof.Rows.sortedHeap_at (vs := acc.toList) (out := (List.toArray out)) hoL
    refine wpAny_pure ⟨_, rfl, .ref h'.objs.size, upd H h'.objs.size (.lst ys), I1.laid (t' := tk) (fun b u e => ?_) (Nat.le_refl _)
      (show ObjOk X.prog X.w _ _ _ (.lst ys) from ⟨by rw [v2.length, ho]; exact sortOk_sz ok, out, e', v2, he'⟩), rfl, q _ ys (I1.hok.fresh (Nat.le_refl _)) r2⟩
    have hb : b < h'.objs.size := Heap.lt_size e
    rw [PyProof.Rows.sortedHeap_old (Nat.ne_of_lt hb) (by rw [size_push']; exact Nat.lt_succ_of_lt hb)]
    exact Heap.get?_push_of_some _ e
theorem cn_sorted (hc : X.calm = true) (hu : X.A.units + 200 < cLine) : CallN1 X (.builtin "sorted") sortL := by
  refine ⟨_, CallR.or (call_sortL hu) (call_sortK hc hu), fun F H dx ds x Q h s rx q => ?_⟩
  cases dx <;> try cases h
  · rename_i es
    simp only [sortL] at h
    split at h
    · rename_i ok
      cases h
      obtain ⟨a, xs, rfl, h1, h2⟩ := rx
      exact .inl ⟨F, es, a, xs, rfl, ‹Sub F H›, h1, h2, ok, fun p ys hp r => q p _ hp r⟩
    · cases h
  · rename_i t ks vs
    cases t with
    | true => cases h
    | false =>
      simp only [sortL] at h
      split at h
      · rename_i ok
        cases h
        obtain ⟨a, xs, rfl, ⟨kvs, h1, rfl, rfl⟩, h2⟩ := rx
        exact .inr ⟨a, kvs, _, rfl, h1, rfl, ok, fun p ys hp r => q p _ hp (r _ _)⟩
      · cases h
end
end Rl
end

set_option Elab.async false
set_option linter.all false
set_option maxRecDepth 100000
set_option autoImplicit false
set_option maxHeartbeats 1000000
/-! Rl, part 9: walks over dicts, isinstance, join, get, setdefault, one-line comprehensions, several targets, own concatenations. -/
noncomputable section
namespace Rl
open PySem PySem.Spec PyProof.Rows L2
variable [Tabs]

/-! ### for k in d -/
def iK (m : ME) : MI := fun ε => (m ε).bind fun p => match p.1 with
  | .dic _ ks _ => some (ks, p.2)
  | _ => none
section
variable {X : Cx} {tg e : Expr} {m : ME}
theorem keyD_rep {K : PySem.W.Frag} {F : Hp} (k : Key) : Rep K F (keyD k) (kV k) := by
  cases k with
  | inl i => exact rfl
  | inr z => show V.str z = V.str ⟨z.cps.toList.toArray⟩; rw [Array.toArray_toList]
theorem keysD_rep {K : PySem.W.Frag} {F : Hp} : ∀ ks : List Key, Reps K F (ks.map keyD) (ks.map kV)
  | [] => rfl
  | k :: r => .cons (keyD_rep k) (keysD_rep r)
theorem jit_keys {K : PySem.W.Frag} {F : Hp} {d : Addr} {o : Obj} {kvs : List (Key × V)} (h : F d = some (.frz o (.dK kvs))) : JIt K (Itk d o kvs) F (kvs.map fun p => keyD p.1) := by
  intro F2 H2 e s
  have hd := s.frz (e d _ h)
  refine ⟨fun i hi => ⟨hd, by simpa using hi⟩, fun i x hx => ?_⟩
  rw [List.getElem?_map] at hx
  cases hk : kvs[i]? with
  | none => rw [hk] at hx; cases hx
  | some q =>
    rw [hk] at hx
    cases hx
    refine ⟨⟨hd, (List.getElem?_eq_some_iff.mp hk).1⟩, fun y H3 ⟨e3, k, v, h1, h2⟩ => ⟨F2, ?_, ?_, ?_⟩⟩
    · rw [e3]; exact Ext.refl _ _ _
    · rw [e3]; exact s
    · rw [hk] at h1
      cases h1
      rw [h2]
      exact keyD_rep _
theorem jit_keysT {K : PySem.W.Frag} {F : Hp} {d : Addr} {o : Obj} {kvs : List (List Key × V)} (h : F d = some (.frz o (.dT kvs))) : JIt K (Itkt d o kvs) F (kvs.map fun p => D.tup (p.1.map keyD)) := by
  intro F2 H2 e s
  have hd := s.frz (e d _ h)
  refine ⟨fun i hi => ⟨hd, by simpa using hi⟩, fun i x hx => ?_⟩
  rw [List.getElem?_map] at hx
  cases hk : kvs[i]? with
  | none => rw [hk] at hx; cases hx
  | some q =>
    rw [hk] at hx
    cases hx
    refine ⟨⟨hd, (List.getElem?_eq_some_iff.mp hk).1⟩, fun y H3 ⟨e3, k, v, b, h1, h2, h3⟩ => ?_⟩
    rw [hk] at h1
    cases h1
    subst h2
    subst e3
    cases hF : F2 b with
    | some u =>
      refine ⟨F2, Ext.refl _ _ _, s, b, _, rfl, ?_, keysD_rep _⟩
      rcases s b u hF with z | ⟨z, od, z2⟩
      · rw [h3] at z
        cases z
        exact hF
      · rw [h3] at z2; cases z2
    | none =>
      refine ⟨upd F2 b (.tup (k.map kV)), ⟨Ex.new hF, fun a u h => ?_, fun a o h _ => .inl h, fun a h => h⟩, fun a u h => ?_, b, _, rfl, upd_same, keysD_rep _⟩
      · by_cases z : a = b
        · subst z
          rw [upd_same] at h
          cases h
          exact .inr (.inr trivial)
        · rw [upd_ne z] at h; exact .inl h
      · by_cases z : a = b
        · subst z
          rw [upd_same] at h
          cases h
          exact .inl h3
        · rw [upd_ne z] at h; exact s a u h
theorem ii_k (h : PE X e (rE X.K m)) : PI X tg e (rI X.K (iK m)) := by
  refine piImp (pi_keys h) ?_
  rintro σ H Rr ⟨B, F, ε, A, ds, ε', R, hm, q⟩
  simp only [iK, Option.bind_eq_some_iff] at hm
  obtain ⟨⟨d, ε1⟩, h1, h2⟩ := hm
  cases d <;> try cases h2
  rename_i t vs
  refine ⟨B, F, ε, A, _, _, R, h1, fun v F1 H1 R1 x1 r1 => ?_⟩
  obtain ⟨a, xs, rfl, h4, h5⟩ := r1
  cases t with
  | false =>
    obtain ⟨kvs, ⟨o, h6⟩, rfl, rfl⟩ := h4
    exact ⟨a, o, rfl, .inl ⟨kvs, R1.sub.frz h6, q _ F1 H1 R1 x1 (jit_keys h6)⟩⟩
  | true =>
    obtain ⟨kvs, ⟨o, h6⟩, rfl, rfl⟩ := h4
    exact ⟨a, o, rfl, .inr ⟨kvs, R1.sub.frz h6, q _ F1 H1 R1 x1 (jit_keysT h6)⟩⟩
end

/-! ### isinstance -/
inductive Ty where
  | bool | int | str | tup | lst
def Ty.name : Ty → String
  | .bool => "bool"
  | .int => "int"
  | .str => "str"
  | .tup => "tuple"
  | .lst => "list"
def isiD (t : Ty) : D → Option D
  | .non => some (.bl false)
  | .bl _ => some (.bl (match t with | .bool => true | .int => true | _ => false))
  | .int _ => some (.bl (match t with | .int => true | _ => false))
  | .str _ => some (.bl (match t with | .str => true | _ => false))
  | .tup _ => some (.bl (match t with | .tup => true | _ => false))
  | .lst _ => some (.bl (match t with | .lst => true | _ => false))
  | _ => none
section
variable {X : Cx}
theorem isi_ty {F H : Hp} {t : Ty} {d r : D} {v : V} (h : isiD t d = some r) (s : Sub F H) (rd : RepT X.K F H d v) : ∃ (T : Value) (b : Bool), TyX X.K H v T ∧ PySem.W.kitOne X.K T (.type t.name) = some b ∧ r = .bl b := by
  cases d with
  | non => cases h; rw [show v = .non from rd]; exact ⟨_, _, .base .non, kit_ty (by cases t <;> decide +kernel), rfl⟩
  | bl b => cases h; rw [show v = .bl b from rd]; exact ⟨_, _, .base (.bl b), kit_ty (by cases t <;> decide +kernel), rfl⟩
  | int i => cases h; rw [show v = .int i from rd]; exact ⟨_, _, .base (.int i), kit_ty (by cases t <;> decide +kernel), rfl⟩
  | str z => cases h; rw [show v = .str _ from rd]; exact ⟨_, _, .base (.str _), kit_ty (by cases t <;> decide +kernel), rfl⟩
  | tup ds =>
    cases h
    obtain ⟨a, xs, rfl, h2, h3⟩ := rd
    exact ⟨_, _, .base (.tup (s.tup h2)), kit_ty (by cases t <;> decide +kernel), rfl⟩
  | lst ds =>
    cases h
    obtain ⟨a, xs, rfl, h2, h3⟩ := rd
    rcases h2 with h2 | ⟨o, h2⟩
    · exact ⟨_, _, .base (.lst h2), kit_ty (by cases t <;> decide +kernel), rfl⟩
    · exact ⟨_, _, .base (.frz h2), kit_ty (by cases t <;> decide +kernel), rfl⟩
  | dic t ks vs => cases h
  | scr ds => cases h
theorem ie_isi {a : Expr} {x y : Str} {p p2 pos : Pos} {ma : MV} (t : Ty) (hg : Gl X x) (hm : X.mg x = none) (hv : bootBuiltins x = some (.builtin "isinstance")) (hg2 : Gl X y) (hm2 : X.mg y = none) (hv2 : bootBuiltins y = some (.type t.name)) (ha : PE X a (rV X.K ma))
    (hn : x ≠ "__name__" := by decide) (hdb : (x == ("__debug__" : Str)) = false := by decide) (hn2 : y ≠ "__name__" := by decide) (hdb2 : (y == ("__debug__" : Str)) = false := by decide)
    (he : starEach [a, .Name y p2] X.env = (false, eval a X.env) :: starEach [.Name y p2] X.env := by rfl) (he2 : starEach [.Name y p2] X.env = [(false, eval (.Name y p2) X.env)] := by rfl) (hpl : (backTo pos (starEach [.Name y p2] X.env)).any (·.1) = false := by rfl) :
    PE X (.Call (.Name x p) [a, .Name y p2] [] pos) (rE X.K (eUn (isiD t) ma)) := by
  refine peImp (pe_callB call_isi hg hm hv (pa_cons ha (pa_cons (pe_bltn (v := .ty t.name) hg2 hm2 hv2 rfl hn2 hdb2) pa_nil he2) he) hn hdb he hpl) ?_
  intro σ H Q h
  refine seq1 (g1 := isiD t) (r := fun x H Q => rIsi X.K [x, .ty t.name] H Q) (fun F H dx d x Q h s rx fin => ?_) h
  obtain ⟨T, b, h1, h2, rfl⟩ := isi_ty h s rx
  exact ⟨x, _, T, _, b, rfl, .ty _, h1, h2, fin.old _ rfl⟩
end

/-! ### join -/
def strsOf : List D → Option (List (List Nat))
  | [] => some []
  | .str s :: r => (strsOf r).map (s :: ·)
  | _ => none
def joinL (a : List Nat) (ss : List (List Nat)) : List Nat := (Txt.join ⟨a.toArray⟩ (ss.map fun s => (⟨s.toArray⟩ : Str))).cps.toList
def jnOk (n : Nat) : Bool := opq (fun n : Nat => decide (n ≤ 16777216)) n
omit [Tabs] in
theorem jnOk_eq (n : Nat) : jnOk n = decide (n ≤ 16777216) := opq_eq _ n
def joinD : D → D → Option D
  | .str a, .lst ds => (strsOf ds).bind fun ss => if jnOk ((ss.map (·.length)).sum + ss.length * a.length) then some (.str (joinL a ss)) else none
  | .str a, .tup ds => (strsOf ds).bind fun ss => if jnOk ((ss.map (·.length)).sum + ss.length * a.length) then some (.str (joinL a ss)) else none
  | _, _ => none
theorem strsOf_map : ∀ {ds : List D} {ss : List (List Nat)}, strsOf ds = some ss → ds = ss.map .str
  | [], _, h => by cases h; rfl
  | .str s :: r, _, h => by
    simp only [strsOf, Option.map_eq_some_iff] at h
    obtain ⟨t, h1, rfl⟩ := h
    rw [strsOf_map h1]; rfl
  | .non :: r, _, h => by cases h
  | .bl _ :: r, _, h => by cases h
  | .int _ :: r, _, h => by cases h
  | .tup _ :: r, _, h => by cases h
  | .lst _ :: r, _, h => by cases h
  | .scr _ :: r, _, h => by cases h
  | .dic _ _ _ :: r, _, h => by cases h
theorem reps_strs {K : PySem.W.Frag} {F : Hp} : ∀ {ss : List (List Nat)} {xs : List V}, Reps K F (ss.map .str) xs → xs = (ss.map fun s => (⟨s.toArray⟩ : Str)).map V.str
  | [], _, h => h
  | i :: r, xs, h => by
    obtain ⟨x, t, rfl, h1, h2⟩ := h
    rw [reps_strs h2, show x = .str ⟨i.toArray⟩ from h1]; rfl
section
variable {X : Cx}
theorem ie_join {o e : Expr} {apos pos : Pos} {mo : ME} {me : MV} (ho : PE X o (rE X.K mo)) (he : PE X e (rV X.K me)) (hs : starEach [e] X.env = [(false, eval e X.env)] := by rfl) (hbase : attributeBase o "join" X.env (eval o X.env) = eval o X.env := by rfl) (hline : (apos.endLine == pos.line) = true := by rfl) :
    PE X (.Call (.Attribute o "join" apos) [e] [] pos) (rE X.K (eOp joinD (vE mo) me)) := by
  refine peImp (pe_join ho he hs hbase hline) ?_
  rintro σ H Q ⟨B, F, ε, A, d, ε', R, hm, q⟩
  simp only [eOp, vE, Option.bind_eq_some_iff] at hm
  obtain ⟨⟨w1, ε1⟩, ⟨⟨d1, ε0⟩, h1, h1'⟩, ⟨w2, ε2⟩, h2, dx, h3, dy, h4, dd, h5, h6⟩ := hm
  cases h6
  cases h1'
  cases h3
  refine ⟨B, F, ε, A, d1, _, R, h1, fun v F1 H1 R1 x1 r1 => ?_⟩
  cases d1 <;> try (cases h5; done)
  rename_i a
  refine ⟨⟨_, r1⟩, B, F1, _, A, w2, _, R1, h2, fun u F2 H2 R2 x2 r2 => ?_⟩
  have rx := r2.rept R2 h4
  have go : ∀ ds b xs, (SqL X.K H2 b xs ∨ SqT X.K H2 b xs) → u = .ref b → Reps X.K F2 ds xs → ((strsOf ds).bind fun ss => if jnOk ((ss.map (·.length)).sum + ss.length * a.length) then some (D.str (joinL a ss)) else none) = some d →
      ∃ (a' : Str) (p : Addr) (ys : List Str), v = .str a' ∧ [u] = [.ref p] ∧ (SqL X.K H2 p (ys.map V.str) ∨ SqT X.K H2 p (ys.map V.str)) ∧ (ys.map (·.length)).sum + ys.length * a'.length ≤ 16777216 ∧ Q (.str (Txt.join a' ys)) H2 := by
    intro ds b xs hs hu hr he
    rw [Option.bind_eq_some_iff] at he
    obtain ⟨ss, e1, e2⟩ := he
    split at e2
    · rename_i hz
      cases e2
      rw [strsOf_map e1] at hr
      rw [reps_strs hr] at hs
      refine ⟨_, b, ss.map fun s => (⟨s.toArray⟩ : Str), r1, by rw [hu], hs, ?_, q _ F2 H2 R2 (x1.trans x2) (by show V.str _ = V.str ⟨(joinL a ss).toArray⟩; unfold joinL; rw [Array.toArray_toList])⟩
      rw [jnOk_eq] at hz
      have hz' := of_decide_eq_true hz
      have e3 : ∀ ss : List (List Nat), ((ss.map fun s => (⟨s.toArray⟩ : Str)).map (·.length)).sum = (ss.map (·.length)).sum := fun ss => by
        rw [List.map_map]
        exact congrArg List.sum (List.map_congr_left fun s _ => str_len s)
      rw [e3, List.length_map, str_len]
      exact hz'
    · cases e2
  cases dy <;> try (cases h5; done)
  · rename_i ds
    obtain ⟨b, xs, rfl, z1, z2⟩ := rx
    exact go ds b xs (.inr (SqT.of (R2.sub.tup z1))) rfl z2 h5
  · rename_i ds
    obtain ⟨b, xs, rfl, z1, z2⟩ := rx
    exact go ds b xs (.inl (.inl z1)) rfl z2 h5
end

/-! ### d.get -/
def getD2 (d k x : D) : Option D := match d with
  | .dic t ks vs => if isKey t k then some ((lookD ks vs k).getD x) else none
  | _ => none
def isDicD : D → Bool
  | .dic _ _ _ => true
  | _ => false
def eGet (md : MV) (mk mx : ME) : ME := fun ε => (md ε).bind fun p => (p.1.get p.2).bind fun d0 => if isDicD d0 then (mk p.2).bind fun k => (mx k.2).bind fun x => (p.1.get x.2).bind fun d => (getD2 d k.1 x.1).bind fun r => some (r, x.2) else none
section
variable {X : Cx} {o e f : Expr} {apos cpos : Pos} {md : MV} {mk mx : ME}
theorem isD_of {F H : Hp} {d : D} {v : V} (h : isDicD d = true) (r : RepT X.K F H d v) : ∃ a, v = .ref a ∧ IsD H a := by
  cases d <;> try cases h
  rename_i t ks vs
  obtain ⟨a, xs, rfl, h1, h2⟩ := r
  cases t with
  | false => obtain ⟨kvs, h3, _⟩ := h1; exact ⟨a, rfl, .inl ⟨kvs, h3⟩⟩
  | true => obtain ⟨kvs, h3, _⟩ := h1; exact ⟨a, rfl, .inr ⟨kvs, h3⟩⟩
theorem get2_of {F H : Hp} {d k x r : D} {v y z : V} (h : getD2 d k x = some r) (s : Sub F H) (rd : RepT X.K F H d v) (rk : Rep X.K F k y) (rx : Rep X.K F x z) : ∃ a o, v = .ref a ∧ DGet H a y o ∧ Rep X.K F r (o.getD z) := by
  cases d <;> try cases h
  rename_i t ks vs
  simp only [getD2] at h
  split at h
  · rename_i hk
    cases h
    obtain ⟨a, xs, rfl, h1, h2⟩ := rd
    obtain ⟨o, g1, g2, g3, _⟩ := dget_of s h1 h2 hk rk
    refine ⟨a, o, rfl, g1, ?_⟩
    cases o with
    | none => rw [g3 rfl]; exact rx
    | some w =>
      obtain ⟨d', q1, q2⟩ := g2 w rfl
      rw [q1]
      exact q2
  · cases h
theorem ie_get2 (hu : X.A.units + 1 < cLine) (ho : PE X o (rV X.K md)) (he : PE X e (rE X.K mk)) (hf : PE X f (rE X.K mx)) (m : M2 X o "get" apos e f cpos := by exact ⟨rfl, rfl, rfl, rfl⟩) : PE X (.Call (.Attribute o "get" apos) [e, f] [] cpos) (rE X.K (eGet md mk mx)) := by
  refine peImp (pe_dget2 hu ho he hf m) ?_
  rintro σ H Q ⟨B, F, ε, A, d, ε', R, hm, q⟩
  simp only [eGet, Option.bind_eq_some_iff] at hm
  obtain ⟨⟨w, ε1⟩, h1, d0, h2, h3⟩ := hm
  simp only at h3
  split at h3
  · rename_i hd
    simp only [Option.bind_eq_some_iff] at h3
    obtain ⟨⟨k, ε2⟩, h4, ⟨x, ε3⟩, h5, d1, h6, r, h7, h8⟩ := h3
    cases h8
    refine ⟨B, F, ε, A, w, ε1, R, h1, fun v F1 H1 R1 x1 r1 => ?_⟩
    obtain ⟨a, rfl, hD⟩ := isD_of hd (r1.rept R1 h2)
    refine ⟨a, rfl, hD, B, F1, ε1, A, k, ε2, R1, h4, fun y F2 H2 R2 x2 r2 => ?_⟩
    refine ⟨B, F2, ε2, A, x, _, R2, h5, fun z F3 H3 R3 x3 r3 => ?_⟩
    obtain ⟨b, o', e1, g1, g2⟩ := get2_of h7 R3.sub ((r1.mono (x2.ex.trans x3.ex).rdx).rept R3 h6) (r2.mono' x3.rdx) r3
    cases e1
    exact ⟨o', g1, q _ F3 H3 R3 ((x1.trans x2).trans x3) g2⟩
  · cases h3
theorem ie_get1 (hu : X.A.units + 1 < cLine) (ho : PE X o (rV X.K md)) (he : PE X e (rE X.K mk)) (m : M1 X o "get" apos e cpos := by exact ⟨rfl, rfl, rfl, rfl⟩) : PE X (.Call (.Attribute o "get" apos) [e] [] cpos) (rE X.K (eGet md mk (eC .non))) := by
  refine peImp (pe_dget1 hu ho he m) ?_
  rintro σ H Q ⟨B, F, ε, A, d, ε', R, hm, q⟩
  simp only [eGet, Option.bind_eq_some_iff] at hm
  obtain ⟨⟨w, ε1⟩, h1, d0, h2, h3⟩ := hm
  simp only at h3
  split at h3
  · rename_i hd
    simp only [Option.bind_eq_some_iff, eC] at h3
    obtain ⟨⟨k, ε2⟩, h4, ⟨x, ε3⟩, h5, d1, h6, r, h7, h8⟩ := h3
    cases h8
    cases h5
    refine ⟨B, F, ε, A, w, ε1, R, h1, fun v F1 H1 R1 x1 r1 => ?_⟩
    obtain ⟨a, rfl, hD⟩ := isD_of hd (r1.rept R1 h2)
    refine ⟨a, rfl, hD, B, F1, ε1, A, k, _, R1, h4, fun y F2 H2 R2 x2 r2 => ?_⟩
    obtain ⟨b, o', e1, g1, g2⟩ := get2_of (x := .non) (z := .non) h7 R2.sub ((r1.mono x2.rdx).rept R2 h6) r2 rfl
    cases e1
    exact ⟨o', g1, q _ F2 H2 R2 (x1.trans x2) g2⟩
  · cases h3
end

/-! ### y = [.. for ..] on one line -/
section
variable {X : Cx} {np : Nat} {tg iter elt : Expr} {ifs : List Expr} {scope : Scope} {own : List (Str × Nat)} {pos spos py : Pos} {y : Str} {mi : MI} {t : Tg} {mt : MT} {me : ME}
theorem is_setLcN (i : Nat) (hnp : np ≤ i) (hc : X.calm = true) (hN : X.N.Nodup) (hy : X.N[i]? = some y) (hyl : X.env.scope.names.lookup y = some .local)
    (hsw : swapsWith (.ListComp elt [⟨tg, iter, ifs, 0⟩] scope pos) (some (.Name y py)) spos.line X.env = pure true) (hi : PI X tg iter (rI X.K mi)) (ok : BlkOk X.N X.env.scope scope own)
    (hg : ∀ (s : Shared) (H : Hp) (C : Addr) (cl : List (Str × Addr)) (fp : List Addr), PG (X.blk s H scope (compEnvC scope cl C X.env) fp) tg (gR X.K t)) (ht : ∀ (s : Shared) (H : Hp) (C : Addr) (cl : List (Str × Addr)) (fp : List Addr), PTs (X.blk s H scope (compEnvC scope cl C X.env) fp) ifs (rT X.K mt))
    (he : ∀ (s : Shared) (H : Hp) (C : Addr) (cl : List (Str × Addr)) (fp : List Addr), PE (X.blk s H scope (compEnvC scope cl C X.env) fp) elt (rE X.K me)) (hts : (t.slots.all fun j => decide (j ∈ own.map (·.2))) = true := by rfl) (hs : ∀ x, foldedSetIterable iter X.env x = pure x := by intro _; rfl) :
    PS X (.Assign [.Name y py] (.ListComp elt [⟨tg, iter, ifs, 0⟩] scope pos) spos) (rS X.K np (sSetN i (nLc (own.map (·.2)) mi t mt me))) := by
  refine psImp (ps_setLc hc hN hy hyl hsw hi ok hg ht he hs) ?_
  rintro D' σ H ⟨B, F, ε, A, fl, ε', R, hn, hm, q⟩
  simp only [sSetN, Option.bind_eq_some_iff] at hm
  obtain ⟨⟨s, ε1⟩, h1, h2⟩ := hm
  cases h2
  refine lc_elim (fun j hj => of_decide_eq_true (List.all_eq_true.mp hts j hj)) ⟨B, F, ε, A, s, ε1, R, h1, fun v F1 H1 R1 x1 r1 => ?_⟩
  obtain ⟨p, rfl, q1, q2, q3, q4⟩ := r1
  refine q F1 _ H1 _ (R1.put (As := [p]) (fun _ => q1) (fun a ha => ?_) (np_none hn hnp)) x1.ex
  have e : a = p := by simpa using ha
  subst e
  exact ⟨q3, q2, R.bdom a q4⟩
theorem nLc_lst {vs : List Nat} {ε ε1 : List Sl} {s : Sl} (h : nLc vs mi t mt me ε = some (s, ε1)) : ∃ ds, s = .lst ds := by
  simp only [nLc, Option.bind_eq_some_iff] at h
  obtain ⟨p, h1, h2⟩ := h
  split at h2
  · simp only [Option.bind_eq_some_iff] at h2
    obtain ⟨r, h3, h4⟩ := h2
    split at h4
    · cases h4; exact ⟨_, rfl⟩
    · cases h4
  · cases h2
theorem is_setLc (i : Nat) (hnp : np ≤ i) (hc : X.calm = true) (hN : X.N.Nodup) (hy : X.N[i]? = some y) (hyl : X.env.scope.names.lookup y = some .local)
    (hsw : swapsWith (.ListComp elt [⟨tg, iter, ifs, 0⟩] scope pos) (some (.Name y py)) spos.line X.env = pure true) (hi : PI X tg iter (rI X.K mi)) (ok : BlkOk X.N X.env.scope scope own)
    (hg : ∀ (s : Shared) (H : Hp) (C : Addr) (cl : List (Str × Addr)) (fp : List Addr), PG (X.blk s H scope (compEnvC scope cl C X.env) fp) tg (gR X.K t)) (ht : ∀ (s : Shared) (H : Hp) (C : Addr) (cl : List (Str × Addr)) (fp : List Addr), PTs (X.blk s H scope (compEnvC scope cl C X.env) fp) ifs (rT X.K mt))
    (he : ∀ (s : Shared) (H : Hp) (C : Addr) (cl : List (Str × Addr)) (fp : List Addr), PE (X.blk s H scope (compEnvC scope cl C X.env) fp) elt (rE X.K me)) (hts : (t.slots.all fun j => decide (j ∈ own.map (·.2))) = true := by rfl) (hs : ∀ x, foldedSetIterable iter X.env x = pure x := by intro _; rfl) :
    PS X (.Assign [.Name y py] (.ListComp elt [⟨tg, iter, ifs, 0⟩] scope pos) spos) (rS X.K np (sSetL i (eFr (nLc (own.map (·.2)) mi t mt me)))) := by
  refine psImp (ps_setLc hc hN hy hyl hsw hi ok hg ht he hs) ?_
  rintro D' σ H ⟨B, F, ε, A, fl, ε', R, hn, hm, q⟩
  simp only [sSetL, eFr, Option.bind_eq_some_iff] at hm
  obtain ⟨⟨d, ε1⟩, ⟨⟨s, ε0⟩, h0, d', h1, h1'⟩, h2⟩ := hm
  cases h2
  cases h1'
  obtain ⟨ds, rfl⟩ := nLc_lst h0
  cases h1
  refine lc_elim (fun j hj => of_decide_eq_true (List.all_eq_true.mp hts j hj)) ⟨B, F, ε, A, _, _, R, h0, fun v F1 H1 R1 x1 r1 => ?_⟩
  obtain ⟨p, rfl, ⟨a, xs, z1, z2, z3, z4⟩, q2, q3, q4⟩ := r1
  cases z1
  have R2 := R1.freeze z3 q2 q3 (R.bdom p q4)
  have e2 : Ex F1 (upd F1 p (.lst xs)) := Ex.new q2
  exact q _ _ H1 _ (R2.put (s := .val (.lst ds)) (As := []) (fun _ => ⟨rfl, _, rfl, p, xs, rfl, .inl upd_same, z4.mono' e2.rdx⟩) (fun _ z => nomatch z) (np_none hn hnp)) (x1.ex.trans e2)
end

/-! ### several targets -/
def setsG : List Nat → List Ag → List Sl → Option (List Sl)
  | [], [], ε => some ε
  | i :: is, .e d :: gs, ε => setsG is gs (ε.set i (.val d))
  | i :: is, .nw s :: gs, ε => setsG is gs (ε.set i s)
  | _, _, _ => none
def sPar (is : List Nat) (g : MG) : MS := fun ε => (g ε).bind fun p => (setsG is p.1 p.2).bind fun ε1 => some (.nx, ε1)
def setsV : List Nat → List V → L2.St → L2.St
  | i :: is, v :: vs, σ => setsV is vs (σ.set i (some v))
  | _, _, σ => σ
theorem setsG_len : ∀ {is : List Nat} {gs : List Ag} {ε ε' : List Sl}, setsG is gs ε = some ε' → gs.length = is.length
  | [], [], _, _, _ => rfl
  | [], _ :: _, _, _, h => by cases h
  | _ :: _, [], _, _, h => by cases h
  | i :: is, .e d :: gs, ε, _, h => by rw [List.length_cons, List.length_cons, setsG_len (is := is) (gs := gs) h]
  | i :: is, .nw s :: gs, ε, _, h => by rw [List.length_cons, List.length_cons, setsG_len (is := is) (gs := gs) h]
  | i :: is, .own s :: gs, ε, _, h => by cases h
section
variable {K : PySem.W.Frag} {B : Bs}
theorem AgOk.slots {F H Hs : Hp} {σ σ' : L2.St} {A A' : List (List Addr)} : ∀ {is : List Nat} {gs : List Ag} {vs : List V} {ε ε' : List Sl}, setsG is gs ε = some ε' → AgOk K F H Hs σ A gs vs →
    (∀ (k : Nat) (s : Sl) (q : Addr), gs[k]? = some (.nw s) → vs[k]? = some (.ref q) → ¬ Al A q → ¬ Al A' q) → AgOk K F H Hs σ' A' gs vs
  | [], [], _, _, _, _, h, _ => h
  | [], _ :: _, _, _, _, h, _, _ => by cases h
  | _ :: _, [], _, _, _, h, _, _ => by cases h
  | i :: is, .own s :: gs, _, _, _, h, _, _ => by cases h
  | i :: is, .e d :: gs, _, _, _, h, ok, c => by
    obtain ⟨v, t, rfl, h1, h2⟩ := ok
    exact ⟨v, t, rfl, h1, AgOk.slots (is := is) h h2 fun k s q z1 z2 => c (k + 1) s q (by simpa using z1) (by simpa using z2)⟩
  | i :: is, .nw s :: gs, _, _, _, h, ok, c => by
    obtain ⟨v, t, rfl, ⟨p, rfl, h1, h3, h4, h5⟩, h2⟩ := ok
    exact ⟨_, t, rfl, ⟨p, rfl, h1, h3, c 0 s p rfl rfl h4, h5⟩, AgOk.slots (is := is) h h2 fun k s q z1 z2 => c (k + 1) s q (by simpa using z1) (by simpa using z2)⟩
theorem Rel.sets {np : Nat} (hn : B.A0.length = np) {F H Hs : Hp} (h0 : ∀ p, Hs p = none → B.H0 p = none) : ∀ {is : List Nat} {gs : List Ag} {vs : List V} {ε ε' : List Sl} {σ : L2.St} {A : List (List Addr)}, (is.all fun i => decide (np ≤ i)) = true → Rel K B F ε σ H A → AgOk K F H Hs σ A gs vs → NwD gs vs → setsG is gs ε = some ε' → ∃ A', Rel K B F ε' (setsV is vs σ) H A'
  | [], [], vs, ε, ε', σ, A, _, R, _, _, h => by cases h; exact ⟨A, R⟩
  | [], _ :: _, _, _, _, _, _, _, _, _, _, h => by cases h
  | _ :: _, [], _, _, _, _, _, _, _, _, _, h => by cases h
  | i :: is, .own s :: gs, _, _, _, _, _, _, _, _, _, h => by cases h
  | i :: is, .e d :: gs, vs, ε, ε', σ, A, hi, R, ok, nd, h => by
    obtain ⟨v, t, rfl, h1, h2⟩ := ok
    rw [List.all_cons, Bool.and_eq_true] at hi
    have hnp := np_none hn (of_decide_eq_true hi.1)
    have R1 := R.put (i := i) (s := .val d) (o := some v) (As := []) (fun _ => ⟨rfl, v, rfl, h1⟩) (fun _ z => nomatch z) hnp
    refine R1.sets hn h0 (is := is) (gs := gs) (vs := t) hi.2 ?_ (fun i k s t a z1 z2 z3 z4 => by have := nd (i + 1) (k + 1) s t a (by simpa using z1) (by simpa using z2) (by simpa using z3) (by simpa using z4); omega) h
    refine AgOk.slots (is := is) h h2 fun k s q _ _ hq z => ?_
    rcases al_set z with z | ⟨j, Bs, _, z1, z2⟩
    · cases z
    · exact hq ⟨j, Bs, z1, z2⟩
  | i :: is, .nw s :: gs, vs, ε, ε', σ, A, hi, R, ok, nd, h => by
    obtain ⟨v, t, rfl, ⟨p, rfl, h1, h3, h4, h5⟩, h2⟩ := ok
    rw [List.all_cons, Bool.and_eq_true] at hi
    have hnp := np_none hn (of_decide_eq_true hi.1)
    have R1 := R.put (i := i) (s := s) (o := some (.ref p)) (As := [p]) (fun _ => h1) (fun a ha => by
      have e : a = p := by simpa using ha
      subst e
      exact ⟨h4, h3, h0 a h5⟩) hnp
    refine R1.sets hn h0 (is := is) (gs := gs) (vs := t) hi.2 ?_ (fun i k s t a z1 z2 z3 z4 => by have := nd (i + 1) (k + 1) s t a (by simpa using z1) (by simpa using z2) (by simpa using z3) (by simpa using z4); omega) h
    refine AgOk.slots (is := is) h h2 fun k s' q y1 y2 hq z => ?_
    rcases al_set z with z | ⟨j, Bs, _, z1, z2⟩
    · have e : q = p := by simpa using z
      subst e
      have := nd 0 (k + 1) s s' q rfl (by simpa using y1) rfl (by simpa using y2)
      omega
    · exact hq ⟨j, Bs, z1, z2⟩
theorem AgOk.two {F H Hs : Hp} {σ : L2.St} {A : List (List Addr)} {gs : List Ag} {vs : List V} (ok : AgOk K F H Hs σ A gs vs) (h : gs.length = 2) : ∃ v w, vs = [v, w] := by
  have := ok.len
  match vs with
  | [v, w] => exact ⟨v, w, rfl⟩
  | [] => rw [h] at this; cases this
  | [_] => rw [h] at this; cases this
  | _ :: _ :: _ :: _ => rw [h] at this; simp at this
theorem AgOk.three {F H Hs : Hp} {σ : L2.St} {A : List (List Addr)} {gs : List Ag} {vs : List V} (ok : AgOk K F H Hs σ A gs vs) (h : gs.length = 3) : ∃ u v w, vs = [u, v, w] := by
  have := ok.len
  match vs with
  | [u, v, w] => exact ⟨u, v, w, rfl⟩
  | [] => rw [h] at this; cases this
  | [_] => rw [h] at this; cases this
  | [_, _] => rw [h] at this; cases this
  | _ :: _ :: _ :: _ :: _ => rw [h] at this; simp at this
end
section
variable {X : Cx} {np : Nat} {g : MG} {a b c : Expr} {x y z : Str} {px py pz pt pos : Pos} {kt k2 : Nat} {pt2 : Pos}
theorem is_par2 (i j : Nat) (hnp : ([i, j].all fun i => decide (np ≤ i)) = true) (hc : X.calm = true) (hN : X.N.Nodup) (hi : X.N[i]? = some x) (hj : X.N[j]? = some y) (hij : i ≠ j)
    (hx : X.env.scope.names.lookup x = some .local) (hy : X.env.scope.names.lookup y = some .local) (ha : PA X [a, b] (rG X.K g))
    (hw : swappedStores [.Tuple [.Name x px, .Name y py] kt pt] (.Tuple [a, b] k2 pt2) X.env = pure (some [x, y]))
    (hs : swapsWithSole [.Tuple [.Name x px, .Name y py] kt pt] (.Tuple [a, b] k2 pt2) pos.line X.env = pure false := by rfl) :
    PS X (.Assign [.Tuple [.Name x px, .Name y py] kt pt] (.Tuple [a, b] k2 pt2) pos) (rS X.K np (sPar [i, j] g)) := by
  refine psImp (ps_par hc hN hi hj hij hx hy ha hw hs) ?_
  rintro D' σ H ⟨B, F, ε, A, fl, ε', R, hn, hm, q⟩
  simp only [sPar, Option.bind_eq_some_iff] at hm
  obtain ⟨⟨gs, ε1⟩, h1, ε2, h2, h3⟩ := hm
  cases h3
  refine ⟨B, F, ε, A, gs, ε1, R, h1, fun vs F1 H1 R1 x1 ok nd => ?_⟩
  obtain ⟨v, w, rfl⟩ := ok.two (setsG_len h2)
  obtain ⟨A', R2⟩ := R1.sets hn R.bdom hnp ok nd h2
  exact ⟨v, w, rfl, q F1 _ H1 A' R2 x1.ex⟩
end

/-! ### new lists out of two, slices as new lists -/
def catD : D → D → Option (List D)
  | .lst a, .lst b => if szOk (a.length + b.length) then some (a ++ b) else none
  | _, _ => none
def nCat (a b : MV) : MN := fun ε => (a ε).bind fun p => (b p.2).bind fun q => (p.1.get q.2).bind fun x => (q.1.get q.2).bind fun y => (catD x y).bind fun ds => some (.lst ds, q.2)
section
variable {X : Cx} {a b : Expr} {pos : Pos} {ma mb : MV}
theorem in_cat (ha : PE X a (rV X.K ma)) (hb : PE X b (rV X.K mb)) : PE X (.BinOp a .Add b pos) (rN X.K (nCat ma mb)) := by
  refine peImp (pe_op op_catL ha hb) ?_
  rintro σ H Q ⟨B, F, ε, A, s, ε', R, hm, q⟩
  simp only [nCat, Option.bind_eq_some_iff] at hm
  obtain ⟨⟨w1, ε1⟩, h1, ⟨w2, ε2⟩, h2, dx, h3, dy, h4, ds, h5, h6⟩ := hm
  cases h6
  refine ⟨B, F, ε, A, w1, ε1, R, h1, fun v F1 H1 R1 x1 r1 => ?_⟩
  refine ⟨B, F1, ε1, A, w2, _, R1, h2, fun u F2 H2 R2 x2 r2 => ?_⟩
  have rx := (r1.mono x2.rdx).rept R2 h3
  have ry := r2.rept R2 h4
  cases dx <;> try (simp only [catD] at h5; cases h5; done)
  cases dy <;> try (simp only [catD] at h5; cases h5; done)
  simp only [catD] at h5
  split at h5
  · rename_i xs ys hz
    cases h5
    obtain ⟨l, vs, rfl, h6, h7⟩ := rx
    obtain ⟨k, us, rfl, h8, h9⟩ := ry
    refine ⟨l, k, vs, us, rfl, rfl, h6, h8, by rw [← h7.length, ← h9.length]; exact szOk_le hz, fun p hp => ?_⟩
    have x := x1.trans x2
    exact q _ F2 _ (R2.tmp hp) (x.trans (ext_tmp hp R2.sub).less) ⟨p, rfl, ⟨p, _, rfl, rfl, upd_same, h7.append h9⟩, R2.sub.none hp, (R2.fresh hp).2.1, x.dom p hp⟩
  · cases h5
end
end Rl
end

set_option Elab.async false
set_option linter.all false
set_option maxRecDepth 100000
set_option autoImplicit false
set_option maxHeartbeats 1000000
/-! Rl, part 10: targets in general, lists within a dict. -/
noncomputable section
namespace Rl
open PySem PySem.Spec PyProof.Rows L2
variable [Tabs]

def sAsg (t : Tg) (m : ME) : MS := fun ε => (m ε).bind fun p => (t.bind p.1 p.2).bind fun ε1 => some (.nx, ε1)
section
variable {X : Cx} {np : Nat} {tg e : Expr} {pos : Pos} {t : Tg} {m : ME}
theorem is_asg (he : PE X e (rE X.K m)) (hg : PG X tg (gR X.K t)) (hs : swapsWithSole [tg] e pos.line X.env = pure false := by rfl) (hw : swappedStores [tg] e X.env = pure none := by rfl)
    (h1 : (assignEach [tg] X.env).map (·.2) = [assign tg X.env] := by rfl) : PS X (.Assign [tg] e pos) (rS X.K np (sAsg t m)) := by
  refine psImp (ps_asg he hg hs hw h1) ?_
  rintro D' σ H ⟨B, F, ε, A, fl, ε', R, hn, hm, q⟩
  simp only [sAsg, Option.bind_eq_some_iff] at hm
  obtain ⟨⟨d, ε1⟩, h1, ε2, h2, h3⟩ := hm
  cases h3
  exact ⟨B, F, ε, A, d, ε1, R, h1, fun v F1 H1 R1 x1 r1 => ⟨B, F1, ε1, A, d, _, R1, r1, h2, fun σ' R2 _ => q F1 σ' H1 A R2 x1.ex⟩⟩
end

/-! ### d.setdefault(k, []).append(v) -/
def idxD : List D → D → Option Nat
  | [], _ => none
  | k :: r, x => if kEq k x then some 0 else (idxD r x).map (· + 1)
def sdOf (ε : List Sl) (i : Nat) : Option (List D × List (List D)) := match ε[i]? with
  | some (.dl ks vss) => some (ks, vss)
  | some (.dic false [] []) => some ([], [])
  | _ => none
def addVss (ks : List D) (vss : List (List D)) (k : D) : List (List D) := if hasD ks k then vss else vss ++ [[]]
def sSdApp (i : Nat) (mk mv : ME) : MS := fun ε => (sdOf ε i).bind fun _ => (mk ε).bind fun p => (sdOf p.2 i).bind fun s =>
  if isKey false p.1 && szLt s.1.length then (idxD (putKs s.1 p.1) p.1).bind fun j => (mv (p.2.set i (.dl (putKs s.1 p.1) (addVss s.1 s.2 p.1)))).bind fun q => (sdOf q.2 i).bind fun s2 => (s2.2[j]?).bind fun ds =>
    if szLt ds.length then some (.nx, q.2.set i (.dl s2.1 (s2.2.set j (ds ++ [q.1])))) else none
  else none
section
variable {K : PySem.W.Frag} {B : Bs} {F H : Hp} {ε : List Sl} {σ : L2.St} {A : List (List Addr)}
theorem Rel.sdAt (R : Rel K B F ε σ H A) {i : Nat} {s : List D × List (List D)} (h : sdOf ε i = some s) : ∃ a as kvs, σ[i]? = some (some (.ref a)) ∧ A[i]? = some (a :: as) ∧ H a = some (.dK kvs) ∧ DKs kvs s.1 (as.map V.ref) ∧ OwnLs K F H s.2 as ∧ (a :: as).Nodup := by
  unfold sdOf at h
  split at h
  · rename_i ks vss e
    cases h
    obtain ⟨o, As, h1, h2, a, as, kvs, rfl, rfl, h3⟩ := R.idxE e
    exact ⟨a, as, kvs, h1, h2, h3⟩
  · rename_i e
    cases h
    obtain ⟨o, As, h1, h2, a, xs, rfl, rfl, ⟨kvs, h3, h4, h5⟩, h6⟩ := R.idxE e
    have hk : kvs = [] := by cases kvs <;> first | rfl | cases h4
    subst hk
    exact ⟨a, [], [], h1, h2, h3, ⟨rfl, rfl⟩, ⟨rfl, fun j b ds z => by simp at z⟩, by simp⟩
  · cases h
theorem idx_val (kd : D) (k : Key) (he : ∀ a, kEq (keyD a) kd = decide (a = k)) : ∀ (kvs : List (Key × V)) (j : Nat), idxD (kvs.map fun p => keyD p.1) kd = some j → ∃ v, valV kvs k = some v ∧ (kvs.map (·.2))[j]? = some v
  | [], j, h => by cases h
  | (a, w) :: r, j, h => by
    simp only [List.map_cons, idxD, he] at h
    by_cases e : a = k
    · subst e
      rw [if_pos (by simp)] at h
      cases h
      exact ⟨w, valV_pos (p := (a, w)) rfl, rfl⟩
    · rw [if_neg (by simpa using e)] at h
      rw [Option.map_eq_some_iff] at h
      obtain ⟨j', h1, rfl⟩ := h
      obtain ⟨v, h2, h3⟩ := idx_val kd k he r j' h1
      exact ⟨v, by rw [valV_neg (p := (a, w)) e]; exact h2, by simpa using h3⟩
theorem has_val (kd : D) (k : Key) (he : ∀ a, kEq (keyD a) kd = decide (a = k)) : ∀ (kvs : List (Key × V)), hasD (kvs.map fun p => keyD p.1) kd = (valV kvs k).isSome
  | [] => rfl
  | (a, w) :: r => by
    simp only [List.map_cons, hasD, he]
    by_cases e : a = k
    · subst e
      rw [valV_pos (p := (a, w)) rfl]; simp
    · rw [valV_neg (p := (a, w)) e, has_val kd k he r]; simp [e]
theorem Rel.asDl (R : Rel K B F ε σ H A) {i : Nat} {s : List D × List (List D)} (h : sdOf ε i = some s) : Rel K B F (ε.set i (.dl s.1 s.2)) σ H A := by
  obtain ⟨a, as, kvs, h1, h2, h3⟩ := R.sdAt h
  refine R.step (Ext.refl F H A) R.sub (by simp) (fun j sl o As e1 e2 e3 => ?_) R.dis
  by_cases e : i = j
  · subst e
    have hl : i < ε.length := by
      have := (List.getElem?_eq_some_iff.mp e1).1
      simpa using this
    rw [List.getElem?_set_self hl] at e1
    cases e1
    rw [h1] at e2
    cases e2
    rw [h2] at e3
    cases e3
    exact ⟨a, as, kvs, rfl, rfl, h3⟩
  · rw [List.getElem?_set_ne e] at e1
    exact R.own j sl o As e1 e2 e3
/-- a new list is put into the dict -/
theorem Rel.sdPut {np : Nat} (hn : B.A0.length = np) {i : Nat} (hi : np ≤ i) {s : List D × List (List D)} {k : D} {kk : Key} {p : Addr} {kvs : List (Key × V)} (R : Rel K B F ε σ H A) (h : sdOf ε i = some s) (hp : H p = some (.lst [])) (fp : F p = none) (np' : ¬ Al A p) (p0 : B.H0 p = none)
    (hk : keyOf k = some kk) {a : Addr} {as : List Addr} (h1 : σ[i]? = some (some (.ref a))) (h2 : A[i]? = some (a :: as)) (h3 : H a = some (.dK kvs)) (h4 : DKs kvs s.1 (as.map V.ref)) (h5 : OwnLs K F H s.2 as) (h6 : (a :: as).Nodup) (hv : valV kvs kk = none) :
    Rel K B F (ε.set i (.dl (s.1 ++ [k]) (s.2 ++ [[]]))) σ (upd H a (.dK (putK kvs kk (.ref p)))) (A.set i (a :: (as ++ [p]))) := by
  obtain ⟨R2, g⟩ := R.give hn hi h1 h2
  obtain ⟨g1, g2, g3⟩ := g a (by simp)
  have R3 := R2.tmpSet (u := .dK (putK kvs kk (.ref p))) h3 g1 g2 g3
  have hpa : p ≠ a := fun z => np' ⟨i, a :: as, h2, by rw [z]; simp⟩
  have hpas : p ∉ as := fun z => np' ⟨i, a :: as, h2, List.mem_cons_of_mem _ z⟩
  have nd := List.nodup_cons.mp h6
  have R4 := R3.put (i := i) (s := .dl (s.1 ++ [k]) (s.2 ++ [[]])) (o := some (.ref a)) (As := a :: (as ++ [p])) (fun _ => ?_) (fun b hb => ?_) (np_none hn hi)
  · rw [set_slot h1, List.set_set, List.set_set] at R4
    exact R4
  · refine ⟨a, as ++ [p], putK kvs kk (.ref p), rfl, rfl, upd_same, ?_, ⟨by rw [List.length_append, List.length_append, h5.1]; rfl, fun j b ds z1 z2 => ?_⟩, ?_⟩
    · rw [putK_new _ hv]
      obtain ⟨q1, q2⟩ := h4
      refine ⟨?_, ?_⟩
      · rw [List.map_append, ← q1]
        show _ = s.1 ++ [keyD kk]
        rw [keyOf_kD hk]
      · rw [List.map_append, List.map_append, ← q2]; rfl
    · by_cases hj : j < as.length
      · rw [List.getElem?_append_left hj] at z1
        rw [List.getElem?_append_left (by rw [h5.1]; exact hj)] at z2
        obtain ⟨xs, w1, w2⟩ := h5.2 j b ds z1 z2
        exact ⟨xs, by rw [upd_ne (fun z => nd.1 (by rw [← z]; exact List.mem_of_getElem? z1))]; exact w1, w2⟩
      · rw [List.getElem?_append_right (by omega)] at z1
        rw [List.getElem?_append_right (by rw [h5.1]; omega)] at z2
        have e1 : j - as.length = 0 := by
          have := (List.getElem?_eq_some_iff.mp z1).1
          simpa using this
        rw [h5.1, e1] at z2
        rw [e1] at z1
        cases z1
        cases z2
        exact ⟨[], by rw [upd_ne hpa]; exact hp, rfl⟩
    · rw [List.nodup_cons]
      refine ⟨fun z => ?_, List.nodup_append.mpr ⟨nd.2, by simp, fun x hx y hy => ?_⟩⟩
      · rcases List.mem_append.mp z with z | z
        · exact nd.1 z
        · exact hpa (Eq.symm (show a = p by simpa using z))
      · have : y = p := by simpa using hy
        subst this
        exact fun z => hpas (by rw [← z]; exact hx)
  · rcases List.mem_cons.mp hb with rfl | hb
    · exact ⟨g2, g1, g3⟩
    · rcases List.mem_append.mp hb with hb | hb
      · obtain ⟨w1, w2, w3⟩ := g b (List.mem_cons_of_mem _ hb)
        exact ⟨w2, w1, w3⟩
      · have : b = p := by simpa using hb
        subst this
        refine ⟨fun z => ?_, fp, p0⟩
        rcases al_set z with z | ⟨j, Bs, _, z1, z2⟩
        · cases z
        · exact np' ⟨j, Bs, z1, z2⟩
end
section
variable {X : Cx} {np : Nat} {k v : Expr} {mk mv : ME} {x : Str} {p p0 pos apos bpos cpos dpos : Pos}
theorem is_sdApp (i : Nat) (hi : np ≤ i) (h : PE X (.Name x p) (tVar i)) (hk : PE X k (rE X.K mk)) (hv : PE X v (rE X.K mv))
    (m : M2 X (.Name x p) "setdefault" bpos k (.List [] p0) dpos := by exact ⟨rfl, rfl, rfl, rfl⟩)
    (hbase : attributeBase (.Call (.Attribute (.Name x p) "setdefault" bpos) [k, .List [] p0] [] dpos) "append" X.env (eval (.Call (.Attribute (.Name x p) "setdefault" bpos) [k, .List [] p0] [] dpos) X.env) = eval (.Call (.Attribute (.Name x p) "setdefault" bpos) [k, .List [] p0] [] dpos) X.env := by rfl)
    (hfew : ((backTo cpos (starEach [v] X.env)).all (fun x => !x.1) && (backToKw cpos (keywordEach [] X.env)).all (fun x => x.1.isSome)
      && decide (([v] : List Expr).length + ([] : List Keyword).length + (if ([] : List Keyword).isEmpty then 0 else 1) < 30)) = true := by rfl)
    (hline : (apos.endLine == cpos.line) = true := by rfl) (hs : starEach [v] X.env = [(false, eval v X.env)] := by rfl) (hsw : swapsWith (.Call (.Attribute (.Call (.Attribute (.Name x p) "setdefault" bpos) [k, .List [] p0] [] dpos) "append" apos) [v] [] cpos) none pos.line X.env = pure false := by rfl) :
    PS X (.Expr (.Call (.Attribute (.Call (.Attribute (.Name x p) "setdefault" bpos) [k, .List [] p0] [] dpos) "append" apos) [v] [] cpos) pos) (rS X.K np (sSdApp i mk mv)) := by
  refine psImp (ps_expr (pe_bm PySem.F.plainAttrs_list PySem.F.slot_list_append PySem.F.type_list_append mt_append (pe_dsetd h hk (pe_lst pa_nil) m) (pa_cons hv pa_nil hs) hbase hfew hline hs (by rfl)) hsw) ?_
  rintro D' σ H ⟨B, F, ε, A, fl, ε', R, hn, hm, q⟩
  simp only [sSdApp, Option.bind_eq_some_iff] at hm
  obtain ⟨s0, h0, ⟨kd, ε1⟩, h1, s, h2, h3⟩ := hm
  simp only at h3
  split at h3
  · rename_i hc
    rw [Bool.and_eq_true] at hc
    simp only [Option.bind_eq_some_iff] at h3
    obtain ⟨j, h4, ⟨vd, ε4⟩, h5, s2, h6, ds, h7, h8⟩ := h3
    split at h8
    · rename_i hz
      cases h8
      obtain ⟨a, as0, kvs0, w1, w2, w3, w4⟩ := R.sdAt h0
      refine ⟨_, w1, a, rfl, .inl ⟨kvs0, .inl w3⟩, B, F, ε, A, kd, ε1, R, h1, fun y F1 H1 R1 x1 r1 => ?_⟩
      refine ⟨Nat.zero_le _, fun pn hp => ?_⟩
      obtain ⟨kk, hkk⟩ := Option.isSome_iff_exists.mp (show (keyOf kd).isSome = true from hc.1)
      have R2 := R1.tmp (u := .lst []) hp
      have fr := R1.fresh hp
      obtain ⟨b, as, kvs, v1, v2, v3, v4, v5, v6⟩ := R2.sdAt h2
      rw [w1] at v1
      cases v1
      have he : ∀ c, kEq (keyD c) kd = decide (c = kk) := fun c => by rw [kEq_kD, kEq1_dec hkk]
      have hhas : hasD s.1 kd = (valV kvs kk).isSome := by rw [v4.1]; exact has_val kd kk he kvs
      -- what follows the setdefault: the list at c
      have fin : ∀ (c : Addr) (H3 : Hp) (A3 : List (List Addr)) (as3 : List Addr), Rel X.K B F1 (ε1.set i (.dl (putKs s.1 kd) (addVss s.1 s.2 kd))) σ H3 A3 → A3[i]? = some (a :: as3) → as3[j]? = some c → (∃ xs, H3 c = some (.lst xs)) →
          tyV X.K "list" (.ref c) H3 ∧ tCons (rE X.K mv) tNil σ H3 fun vs H4 => rAppend (.ref c) vs H4 (fun _ H5 => D'.nx σ H5) := by
        intro c H3 A3 as3 R3 g1 g2 ⟨xs0, g3⟩
        refine ⟨.inl ⟨rfl, xs0, SqL.of g3⟩, B, F1, _, A3, vd, ε4, R3, h5, fun u F4 H4 R4 x4 r4 => ?_⟩
        obtain ⟨a', as', kvs', u1, u2, u3, u4, u5, u6⟩ := R4.sdAt h6
        rw [g1] at u2
        cases u2
        obtain ⟨xs, z1, z2⟩ := u5.2 j c ds g2 h7
        have hlen : ds.length = xs.length := z2.length
        refine ⟨c, xs, u, rfl, rfl, z1, by rw [← hlen]; exact szLt_lt hz, ?_⟩
        have nd := List.nodup_cons.mp u6
        have hca : c ≠ a := fun z => nd.1 (by rw [← z]; exact List.mem_of_getElem? g2)
        obtain ⟨R5, x5⟩ := R4.mut (u := .lst (xs ++ [u])) (s' := .dl s2.1 (s2.2.set j (ds ++ [vd]))) (a := c) g1 u1 (List.mem_cons_of_mem _ (List.mem_of_getElem? g2))
          ⟨a, as3, kvs', rfl, rfl, by rw [upd_ne (Ne.symm hca)]; exact u3, u4, ⟨by rw [List.length_set]; exact u5.1, fun l e ds' y1 y2 => by
            by_cases hl : j = l
            · subst hl
              rw [g2] at y1
              cases y1
              rw [List.getElem?_set_self (List.getElem?_eq_some_iff.mp h7).1] at y2
              cases y2
              exact ⟨_, upd_same, z2.append (.cons r4 .nil)⟩
            · rw [List.getElem?_set_ne hl] at y2
              obtain ⟨ys, t1, t2⟩ := u5.2 l e ds' y1 y2
              refine ⟨ys, ?_, t2⟩
              rw [upd_ne (fun z => hl ?_)]
              · exact t1
              · subst z
                exact (List.getElem?_inj (List.getElem?_eq_some_iff.mp g2).1 nd.2).mp (by rw [g2, y1])⟩, u6⟩
        exact q F4 σ _ A3 R5 (x1.ex.trans x4.ex)
      refine ⟨kvs, kk, v3, keyV hkk r1, ?_, fun v hv => ?_, fun hv => ?_⟩
      · have := szLt_lt hc.2
        rw [v4.1, List.length_map] at this
        exact this
      · -- the key is there
        rw [hv] at hhas
        have e1 : putKs s.1 kd = s.1 := by unfold putKs; rw [hhas]; rfl
        have e2 : addVss s.1 s.2 kd = s.2 := by unfold addVss; rw [hhas]; rfl
        rw [e1] at h4
        obtain ⟨v', z1, z2⟩ := idx_val kd kk he kvs j (by rw [← v4.1]; exact h4)
        rw [hv] at z1
        cases z1
        rw [← v4.2, List.getElem?_map, Option.map_eq_some_iff] at z2
        obtain ⟨c, z3, rfl⟩ := z2
        have hj2 : j < s.2.length := by rw [v5.1]; exact (List.getElem?_eq_some_iff.mp z3).1
        obtain ⟨xs, z4, _⟩ := v5.2 j c s.2[j] z3 (List.getElem?_eq_getElem hj2)
        refine fin c _ A as ?_ v2 z3 ⟨xs, z4⟩
        rw [e1, e2]
        exact R2.asDl h2
      · -- the key is new
        rw [hv] at hhas
        have e1 : putKs s.1 kd = s.1 ++ [kd] := by unfold putKs; rw [hhas]; rfl
        have e2 : addVss s.1 s.2 kd = s.2 ++ [[]] := by unfold addVss; rw [hhas]; rfl
        have R3 := R2.sdPut hn hi (p := pn) h2 upd_same fr.1 fr.2.1 fr.2.2 hkk w1 v2 v3 v4 v5 v6 hv
        have hA : i < A.length := (List.getElem?_eq_some_iff.mp v2).1
        have hj : j = as.length := by
          have gen : ∀ (ks : List D), hasD ks kd = false → ∀ j, idxD (ks ++ [kd]) kd = some j → j = ks.length := by
            intro ks
            induction ks with
            | nil =>
              intro _ j z
              simp only [List.nil_append, idxD] at z
              split at z
              · cases z; rfl
              · cases z
            | cons c r ih =>
              intro hh j z
              simp only [hasD, Bool.or_eq_false_iff] at hh
              simp only [List.cons_append, idxD, hh.1, Bool.false_eq_true, if_false, Option.map_eq_some_iff] at z
              obtain ⟨j', z1, rfl⟩ := z
              rw [ih hh.2 j' z1]; rfl
          rw [e1] at h4
          rw [gen s.1 hhas j h4, v4.1, List.length_map]
          have := congrArg List.length v4.2
          simpa using this.symm
        refine fin pn _ _ (as ++ [pn]) ?_ (List.getElem?_set_self hA) ?_ ⟨[], ?_⟩
        · rw [e1, e2]; exact R3
        · rw [hj, List.getElem?_append_right (Nat.le_refl _), Nat.sub_self]; rfl
        · rw [upd_ne]
          · exact upd_same
          · intro z
            exact fr.2.1 ⟨i, a :: as, v2, by rw [z]; simp⟩
    · cases h8
  · cases h3
end
end Rl
end

set_option Elab.async false
set_option linter.all false
set_option maxRecDepth 100000
set_option autoImplicit false
set_option maxHeartbeats 1000000
/-! Rl, part 11: walks and stores whose kind the data decide. -/
noncomputable section
namespace Rl
open PySem PySem.Spec PyProof.Rows L2
variable [Tabs]

theorem Room.hu {k : Nat} {A : Around} (r : L2.Room k A) : A.units + 200 < cLine := by have := r.un; omega
theorem u1 {a L : Nat} (h : a + 200 < L) : a + 1 < L := by omega
theorem u64 {a L : Nat} (h : a + 200 < L) : a + 64 < L := by omega
theorem u65 {a L : Nat} (h : a + 200 < L) : a + 65 < L := by omega
theorem bt_len : bootBuiltins "len" = some (.builtin "len") := by decide +kernel
theorem bt_abs : bootBuiltins "abs" = some (.builtin "abs") := by decide +kernel
theorem bt_max : bootBuiltins "max" = some (.builtin "max") := by decide +kernel
theorem bt_min : bootBuiltins "min" = some (.builtin "min") := by decide +kernel
theorem bt_sum : bootBuiltins "sum" = some (.builtin "sum") := by decide +kernel
theorem bt_sorted : bootBuiltins "sorted" = some (.builtin "sorted") := by decide +kernel
theorem bt_isinstance : bootBuiltins "isinstance" = some (.builtin "isinstance") := by decide +kernel
theorem bt_all : bootBuiltins "all" = some (.builtin "all") := by decide +kernel
theorem bt_any : bootBuiltins "any" = some (.builtin "any") := by decide +kernel
theorem bt_int : bootBuiltins "int" = some (.type "int") := by decide +kernel
theorem bt_str : bootBuiltins "str" = some (.type "str") := by decide +kernel
theorem bt_tuple : bootBuiltins "tuple" = some (.type "tuple") := by decide +kernel
theorem bt_list : bootBuiltins "list" = some (.type "list") := by decide +kernel
theorem bt_bool : bootBuiltins "bool" = some (.type "bool") := by decide +kernel
theorem bt_dict : bootBuiltins "dict" = some (.type "dict") := by decide +kernel
theorem bt_range : bootBuiltins "range" = some (.type "range") := by decide +kernel
theorem bt_enumerate : bootBuiltins "enumerate" = some (.type "enumerate") := by decide +kernel
theorem bt_zip : bootBuiltins "zip" = some (.type "zip") := by decide +kernel
theorem bt_set : bootBuiltins "set" = some (.type "set") := by decide +kernel
theorem fn_none {P : Program} {w : World} {K : PySem.W.Frag} {mg : Str → Option Value} {base : Heap} {k : Nat} {f : Addr} {fd : FuncData} {ps : List Str} : FnOk P w K mg base CX0 k f fd ps (spF K fun _ => none) := by
  have no : ∀ vs H Q E, ¬ spF K (fun _ => none) vs H Q E := fun vs H Q E h => by
    obtain ⟨_, _, _, _, _, _, _, _, _, h, _⟩ := h
    cases h
  exact ⟨fun vs H Q E h => absurd h (no vs H Q E), fun A outer s H args us vs Q E _ _ _ _ h => absurd h (no vs H Q E)⟩
def iAny (m : ME) : MI := fun ε => (m ε).bind fun p => (itsD p.1).bind fun ds => some (ds, p.2)
section
variable {X : Cx} {np : Nat} {tg e k : Expr} {m mi mv : ME} {x : Str} {p pos pos' : Pos}
theorem ii_any (h : PE X e (rE X.K m)) : PI X tg e (rI X.K (iAny m)) := by
  refine ⟨fun pins s σ H R I hh => ?_⟩
  obtain ⟨B, F, ε, A, ds, ε', Rr, hm, q⟩ := hh
  simp only [iAny, Option.bind_eq_some_iff] at hm
  obtain ⟨⟨d, ε1⟩, h1, ds', h2, h3⟩ := hm
  cases h3
  cases d with
  | lst xs => cases h2; exact (ii_l h).run pins s σ H R I ⟨B, F, ε, A, _, _, Rr, by simp only [iL, h1]; rfl, q⟩
  | tup xs => cases h2; exact (ii_t h).run pins s σ H R I ⟨B, F, ε, A, _, _, Rr, by simp only [iT, h1]; rfl, q⟩
  | str xs => cases h2; exact (ii_s h).run pins s σ H R I ⟨B, F, ε, A, _, _, Rr, by simp only [iS, h1]; rfl, q⟩
  | dic t ks vs => cases h2; exact (ii_k h).run pins s σ H R I ⟨B, F, ε, A, _, _, Rr, by simp only [iK, h1]; rfl, q⟩
  | _ => cases h2
def sPut (i : Nat) (mk mv : ME) : MS := fun ε => match ε[i]? with
  | some (.lst _) => sPutL i mk mv ε
  | some (.dic _ _ _) => sPutD i mk mv ε
  | _ => none
theorem is_put (i : Nat) (hu : X.A.units + 1 < cLine) (h : PE X (.Name x p) (tVar i)) (hk : PE X k (rE X.K mi)) (hv : PE X e (rE X.K mv)) (hs : swapsWithSole [.Subscript (.Name x p) k pos'] e pos.line X.env = pure false := by rfl) (hw : swappedStores [.Subscript (.Name x p) k pos'] e X.env = pure none := by rfl)
    (h1 : (assignEach [.Subscript (.Name x p) k pos'] X.env).map (·.2) = [assign (.Subscript (.Name x p) k pos') X.env] := by rfl) (ha : ∀ v, assign (.Subscript (.Name x p) k pos') X.env v = (do
      let ov ← holding [v] (eval (.Name x p) X.env)
      let iv ← holding [v, ov] (eval k X.env)
      standAt pos'
      holding [v, ov, iv] (setItem ov iv v)
      release [v, ov, iv] []) := by intro _; rfl) (hs2 : swapsWith e (some (.Subscript (.Name x p) k pos')) pos.line X.env = pure false := by rfl) : PS X (.Assign [.Subscript (.Name x p) k pos'] e pos) (rS X.K np (sPut i mi mv)) := by
  refine ⟨fun pins s σ H D I hh => ?_⟩
  obtain ⟨B, F, ε, A, fl, ε', R, hn, hm, q⟩ := hh
  unfold sPut at hm
  split at hm
  · exact (is_putL i h hk hv hs hw h1 ha).run pins s σ H D I ⟨B, F, ε, A, fl, ε', R, hn, hm, q⟩
  · exact (is_putD i hu h hk hv hs2).run pins s σ H D I ⟨B, F, ε, A, fl, ε', R, hn, hm, q⟩
  · cases hm
end

/-! ### a def that may be called -/
structure Cal (P : Program) (w : World) (K : PySem.W.Frag) (mg : Str → Option Value) (base : Heap) (x : Str) (k : Nat) (f : Addr) (fd : FuncData) (ps : List Str) (fn : Fn) : Prop where
  ok : FnOk P w K mg base CX0 k f fd ps (spF K fn)
  m : mg x = some (.ref f)
  kp : PySem.W.keepIn K (.ref f) = true
  b : Binds K fd ps []
omit [Tabs] in
theorem kwb {K : PySem.W.Frag} {x qual : Str} {st : Stmt} {f : Addr} {fd : FuncData} {ps : List Str} (ks : List Str) (ix : List Nat) (F : L2.Fun K x qual st f fd)
    (h : ∀ (kV doc pm : Value) (an : Option Addr) (cdv ct : Value) (ws : List Value), ws.length = ks.length → bindArgs (PySem.W.fnOf x qual (defArgs st) (defBody st) (defScope st) .none kV doc pm an cdv ct) ⟨[], ks.zip ws⟩ = pure (ps.zip (pick ix ws))) : KwB K fd ps ks ix := by
  obtain ⟨oc, od, kV, doc, pm, an, cdv, ct, osl, rfl, lk, hcd⟩ := F.ex
  exact fun s ws hl => .of_eq (h kV doc pm an cdv ct ws hl)
section
variable {X : Cx} {k k' : Nat} {f : Addr} {fd : FuncData} {ps : List Str} {fn : Fn} {x : Str} {p pos : Pos} {e : Expr} {es : List Expr} {g : MG}
theorem ie_cl (C : Cal X.prog X.w X.K X.mg X.base x k f fd ps fn) (hr : Room k' X.A) (hk : k ≤ k') (hg : Gl X x) (ha : PA X (e :: es) (rG X.K g))
    (hdb : (x == ("__debug__" : Str)) = false := by decide) (he : starEach (e :: es) X.env = (false, eval e X.env) :: starEach es X.env := by rfl) (hpl : (backTo pos (starEach es X.env)).any (·.1) = false := by rfl) :
    PE X (.Call (.Name x p) (e :: es) [] pos) (rE X.K (eCall fn g)) := ie_call C.ok (hr.mono hk) hg C.m C.kp C.b ha hdb he hpl
theorem in_cl (C : Cal X.prog X.w X.K X.mg X.base x k f fd ps fn) (hr : Room k' X.A) (hk : k ≤ k') (hg : Gl X x) (ha : PA X (e :: es) (rG X.K g))
    (hdb : (x == ("__debug__" : Str)) = false := by decide) (he : starEach (e :: es) X.env = (false, eval e X.env) :: starEach es X.env := by rfl) (hpl : (backTo pos (starEach es X.env)).any (·.1) = false := by rfl) :
    PE X (.Call (.Name x p) (e :: es) [] pos) (rN X.K (nCall fn g)) := in_call C.ok (hr.mono hk) hg C.m C.kp C.b ha hdb he hpl
theorem ie_clK {ks : List Str} {ix : List Nat} {kws : List Keyword} (C : Cal X.prog X.w X.K X.mg X.base x k f fd ps fn) (hb : KwB X.K fd ps ks ix) (hr : Room k' X.A) (hk : k ≤ k') (hg : Gl X x) (hkw : PK X kws (rG X.K g))
    (hix : ix.length = ks.length := by rfl) (hall : (backToKw pos (keywordEach kws X.env)).all (·.1.isSome) = true := by rfl) (hks : (backToKw pos (keywordEach kws X.env)).filterMap (·.1) = ks := by rfl)
    (hdb : (x == ("__debug__" : Str)) = false := by decide) (hpl : ((backTo pos (starEach [] X.env)).any (·.1) || (backToKw pos (keywordEach kws X.env)).any (·.1.isNone)) = false := by rfl) :
    PE X (.Call (.Name x p) [] kws pos) (rE X.K (eCallK fn ix g)) := ie_callK C.ok (hr.mono hk) hg C.m C.kp hb hkw hix hall hks hdb hpl
end
end Rl
end

set_option Elab.async false
set_option linter.all false
set_option maxRecDepth 100000
set_option autoImplicit false
set_option maxHeartbeats 2000000
/-! Rl, generators, part 1: tuple(e for a, b in list), the new tuples' contents told. -/
namespace Rl
open PySem
open Sem (wp)
open AutoSeq1 (wpAny_loadPart')

/-- y is a tuple of these items, laid after C -/
def TupAt (h : Heap) (y : Value) (C : Addr) (E : Array Value) : Prop := ∃ b o n, y = .ref b ∧ C < b ∧ h.get? b = some o ∧ o.cls = .type "tuple" ∧ o.data = .seq E n
theorem TupAt.keep {h h' : Heap} {y : Value} {C : Addr} {E : Array Value} (t : TupAt h y C E) (k : ∀ b o, C < b → o.cls = .type "tuple" → h.get? b = some o → h'.get? b = some o) : TupAt h' y C E := by
  obtain ⟨b, o, n, h1, h2, h3, h4, h5⟩ := t
  exact ⟨b, o, n, h1, h2, k b o h2 h4 h3, h4, h5⟩
def protoH (C : Addr) (fp wr : List Addr) (n : Nat) (E : Nat → Array Value) : Protocol := fun m s₀ v s kap =>
  TupAt s.heap v C (E (n - 1 - m)) ∧ GenSince C wr s₀ s ∧ ∀ s'' : Shared, (∀ b ∈ C :: fp, ∀ o, s.heap.get? b = some o → s''.heap.get? b = some o) → kap (.send .none) s''
section
variable {prog : Program} {w : World} {A : Around}
/-- what the element does: it lays a new tuple of the items E i -/
def EltH (prog : Program) (w : World) (cenv : Env) (xa xb : Str) (elt : Expr) (vals E : Nat → Array Value) (n : Nat) (ok : Heap → Prop) : Prop :=
  ∀ (A' : Around) (E' : Value → Shared → Prop) (i : Nat) (va vb : Value) (s₂ : Shared) (m₂ : Str → Option Value), A'.handled = none → i < n → vals i = #[va, vb] → s₂.heap.Ns cenv.locals m₂ → m₂ xa = some va → m₂ xb = some vb → ok s₂.heap →
    wpAny (model prog w) A' (eval elt cenv) (fun y s₃ => TupAt s₃.heap y cenv.locals (E i) ∧ Keeps s₂ s₃) E' s₂

theorem seg_loopH {elt iter : Expr} {xa xb : Str} {pa pb pt : Pos} {kt : Nat} {scope : Scope} {pos : Pos} {I : Addr} {fp wr : List Addr} {n : Nat} {St₀ : Nat → Heap → Prop} {Mid : Nat → Addr → Heap → Prop} {cenv : Env} {vals E : Nat → Array Value} {ok : Heap → Prop}
    (hh : A.handled = none) (W₀ : ∀ A' : Around, A'.handled = none → WalksU prog w A' I fp wr n (fun j v => v = vals j) St₀ Mid) (hsz : ∀ i, i < n → ∃ va vb, vals i = #[va, vb]) (hab : xa ≠ xb)
    (hxa : cenv.kindOf xa = some .local) (hxb : cenv.kindOf xb = some .local) (hp : (cenv.scope.kind == .class || (cenv.scope.kind == .module && cenv.locals != cenv.globals)) = false)
    (hco : cenv.scope.isCoroutine = false) (hCf : cenv.locals ∉ fp) (hq : EltH prog w cenv xa xb elt vals E n ok)
    (hok : ∀ h h', ok h → (∀ b ∈ fp, b ∉ wr → ∀ o, h.get? b = some o → h'.get? b = some o) → ok h') :
    ∀ (k i : Nat) (s₀ s : Shared) (m : Str → Option Value), n - i = k → i ≤ n → St₀ i s.heap → s.heap.Ns cenv.locals m → GenSince cenv.locals wr s₀ s → ok s.heap →
      Seg (model prog w) A (fun n s₀ r s₁ => r = .ok .next ∧ (n = 0 ∧ GenSince cenv.locals wr s₀ s₁)) (protoH cenv.locals fp wr n E) (n - i) s₀
        (.compLoop (.GeneratorExp elt [⟨.Tuple [.Name xa pa, .Name xb pb] kt pt, iter, [], 0⟩] scope pos) 0 (.ref I) .none cenv)
        ((model prog w).den (.compLoop (.GeneratorExp elt [⟨.Tuple [.Name xa pa, .Name xb pb] kt pt, iter, [], 0⟩] scope pos) 0 (.ref I) .none cenv)) [] s := by
  have hh' : (A.over (.compLoop (.GeneratorExp elt [⟨.Tuple [.Name xa pa, .Name xb pb] kt pt, iter, [], 0⟩] scope pos) 0 (.ref I) .none cenv) []).handled = none := hh
  have hCw : cenv.locals ∉ wr := fun h => hCf ((W₀ A hh).sub _ h)
  intro k
  induction k with
  | zero =>
    intro i s₀ s m hk hi hst hn hsince hkp
    have hin : i = n := by omega
    subst hin
    show Seg _ A _ _ _ s₀ _ ((compTurn (.GeneratorExp elt [⟨.Tuple [.Name xa pa, .Name xb pb] kt pt, iter, [], 0⟩] scope pos) 0 (.ref I) .none cenv).onRaise (leaving cenv)) [] s
    rw [compTurn_gen, Sem.onRaise_eq_wrap]
    refine seg_bind_wrap (wpAny_standAt ?_)
    refine seg_bind_wrap ((W₀ _ hh').done s _ _ hst fun h' tk hk' => ?_)
    exact seg_end (.ok .next) ⟨rfl, by omega, hsince.step fun b o _ hw e => hk' b o hw e⟩
  | succ k ih =>
    intro i s₀ s m hk hi hst hn hsince hkp
    have hlt : i < n := by omega
    show Seg _ A _ _ _ s₀ _ ((compTurn (.GeneratorExp elt [⟨.Tuple [.Name xa pa, .Name xb pb] kt pt, iter, [], 0⟩] scope pos) 0 (.ref I) .none cenv).onRaise (leaving cenv)) [] s
    rw [compTurn_gen, Sem.onRaise_eq_wrap]
    refine seg_bind_wrap (wpAny_standAt ?_)
    refine seg_bind_wrap ((W₀ _ hh').item i s _ _ hlt hst fun T vs h₁ tk₁ hPv hT₁ hmid hk₁ => ?_)
    obtain ⟨va, vb, hv⟩ := hsz i hlt
    have hPv' : vs = #[va, vb] := (show vs = vals i from hPv).trans hv
    subst hPv'
    refine seg_bind_wrap ((W₀ _ hh').go _ _ _ i T _ _ _ hmid fun h₁' hst₁ hk₁' => ?_)
    have hT₁' : h₁'.IsTuple T #[va, vb] := let ⟨o, e, r⟩ := hT₁; ⟨o, hk₁' _ o ((W₀ _ hh').apart i T _ hmid) e, r⟩
    refine seg_bind_wrap (wpAny_assign_Tuple hh' hT₁' rfl rfl fun h₁'' hx₁ => ?_)
    replace hx₁ : Heap.ExtBut h₁'.objs.size h₁' h₁'' := hx₁
    have old₁ : ∀ b o, h₁'.get? b = some o → h₁''.get? b = some o := fun b o e => hx₁ b o (Nat.ne_of_lt (Heap.lt_size e)) e
    show wpAny _ _ (do holding [vb] (assign (.Name xa pa) cenv va); do holding [] (assign (.Name xb pb) cenv vb); pure ()) _ _ _
    refine wpAny_bind (wpAny_holding (wpAny_assign_Name (wpAny_storeName_local hxa (hn.at' fun o e => old₁ _ o (hk₁' _ o hCw (hk₁ _ o hCw e))) (fun h₂a hn₂a hs₂a => ?_) hp)))
    replace hs₂a : Heap.SameBut cenv.locals h₁'' h₂a := hs₂a
    refine wpAny_bind (wpAny_holding (wpAny_assign_Name (wpAny_storeName_local hxb hn₂a (fun h₂ hn₂ hs₂ => wpAny_pure ?_) hp)))
    replace hs₂ : Heap.SameBut cenv.locals h₂a h₂ := hs₂
    have up₂ : ∀ b o, b ≠ cenv.locals → b ∉ wr → s.heap.get? b = some o → h₂.get? b = some o := fun b o hbC hbw e => hs₂.extBut b o hbC (hs₂a.extBut b o hbC (old₁ b o (hk₁' b o hbw (hk₁ b o hbw e))))
    have hst₂ : St₀ (i + 1) h₂ := (W₀ A hh).frame _ _ _ hst₁ fun b hb o e => hs₂.extBut b o (fun h => hCf (h ▸ hb)) (hs₂a.extBut b o (fun h => hCf (h ▸ hb)) (old₁ b o e))
    have hkp₂ : ok h₂ := hok _ _ hkp fun b hb hbw o e => up₂ b o (fun h => hCf (h ▸ hb)) hbw e
    have hsince₂ : GenSince cenv.locals wr s₀ { s with heap := h₂, toks := tk₁ } := hsince.step fun b o hbC hbw e => up₂ b o hbC hbw e
    simp only [List.forIn_nil, pure_bind]
    simp only [if_true]
    have hy : ∀ v, yieldOut cenv v = yieldValue v := fun v => by simp only [yieldOut, hco, Bool.false_eq_true, if_false]
    simp only [hy]
    rw [Sem.bind_eq_wrap', Sem.bind_eq_wrap', Sem.wrap_wrap, Sem.wrap_wrap]
    refine seg_wrap (wpAny_mono (hq _ _ i va vb _ _ hh' hlt hv hn₂ (by simp [hab]) (by simp) hkp₂) (fun y s₄ h₄ => ?_) fun _ _ e => e)
    obtain ⟨hFy, h₄, tk₄, rfl, hk₄⟩ := h₄
    have e1 : n - i = k + 1 := hk
    have e2 : n - 1 - k = i := by omega
    rw [e1]
    refine seg_at (seg_yield rfl rfl rfl ⟨by rw [e2]; exact hFy, hsince₂.step fun b o _ _ e => hk₄ b o e, fun s'' hal => ?_⟩)
    have := ih (i + 1) s'' s'' _ (by omega) hlt ((W₀ A hh).frame _ _ _ hst₂ fun b hb o e => hal b (List.mem_cons_of_mem _ hb) o (hk₄ b o e))
        ((hn₂.keeps hk₄).at' fun o e => hal _ (List.mem_cons_self ..) o e) (GenSince.refl _ _ _) (hok _ _ hkp₂ fun b hb hbw o e => hal b (List.mem_cons_of_mem _ hb) o (hk₄ b o e))
    rw [show n - (i + 1) = k by omega] at this
    exact seg_again rfl this

theorem seg_startH {elt iter : Expr} {xa xb : Str} {pa pb pt : Pos} {kt : Nat} {scope : Scope} {pos : Pos} {I : Addr} {fp wr : List Addr} {n : Nat} {St₀ : Nat → Heap → Prop} {Mid : Nat → Addr → Heap → Prop} {cenv : Env} {vals E : Nat → Array Value} {ok : Heap → Prop}
    (hh : A.handled = none) (W₀ : ∀ A' : Around, A'.handled = none → WalksU prog w A' I fp wr n (fun j v => v = vals j) St₀ Mid) (hsz : ∀ i, i < n → ∃ va vb, vals i = #[va, vb]) (hab : xa ≠ xb)
    (hxa : cenv.kindOf xa = some .local) (hxb : cenv.kindOf xb = some .local) (hp : (cenv.scope.kind == .class || (cenv.scope.kind == .module && cenv.locals != cenv.globals)) = false)
    (hco : cenv.scope.isCoroutine = false) (hCf : cenv.locals ∉ fp) (hq : EltH prog w cenv xa xb elt vals E n ok)
    (hok : ∀ h h', ok h → (∀ b ∈ fp, b ∉ wr → ∀ o, h.get? b = some o → h'.get? b = some o) → ok h')
    (s₀ s : Shared) (m : Str → Option Value) (hst : St₀ 0 s.heap) (hn : s.heap.Ns cenv.locals m) (hsince : GenSince cenv.locals wr s₀ s) (hkp : ok s.heap) :
    Seg (model prog w) A (fun n s₀ r s₁ => r = .ok .next ∧ (n = 0 ∧ GenSince cenv.locals wr s₀ s₁)) (protoH cenv.locals fp wr n E) n s₀
      (.compStart (.GeneratorExp elt [⟨.Tuple [.Name xa pa, .Name xb pb] kt pt, iter, [], 0⟩] scope pos) 0 (.ref I) .none cenv)
      ((model prog w).den (.compStart (.GeneratorExp elt [⟨.Tuple [.Name xa pa, .Name xb pb] kt pt, iter, [], 0⟩] scope pos) 0 (.ref I) .none cenv)) [] s := by
  have hh' : (A.over (.compStart (.GeneratorExp elt [⟨.Tuple [.Name xa pa, .Name xb pb] kt pt, iter, [], 0⟩] scope pos) 0 (.ref I) .none cenv) []).handled = none := hh
  have loop := seg_loopH (iter := iter) (pa := pa) (pb := pb) (pt := pt) (kt := kt) (scope := scope) (pos := pos) hh W₀ hsz hab hxa hxb hp hco hCf hq hok n 0 s₀ s m (Nat.sub_zero _) (Nat.zero_le _) hst hn hsince hkp
  rw [Nat.sub_zero] at loop
  show Seg _ A _ _ _ s₀ _ ((compStart (.GeneratorExp elt [⟨.Tuple [.Name xa pa, .Name xb pb] kt pt, iter, [], 0⟩] scope pos) 0 (.ref I) .none cenv).onRaise (leaving cenv)) [] s
  unfold compStart
  rw [Sem.onRaise_eq_wrap]
  show Seg _ A _ _ _ s₀ _ ((ask >>= _).wrap _ _ _ _) [] s
  refine seg_bind_wrap (wpAny_askSetting ?_)
  split
  · exact seg_again rfl loop
  · first
      | exact seg_bind_wrap (wpAny_rule (seg_bind_wrap (wpAny_standAt (seg_bind_wrap ((W₀ _ hh').self 0 s _ _ hst (seg_again rfl loop))))))
      | (refine seg_bind_wrap (wpAny_rule ?_); show Seg _ A _ _ _ s₀ _ ((standAt iter.pos >>= _).wrap _ _ _ _) [] s; exact seg_bind_wrap (wpAny_standAt (seg_bind_wrap ((W₀ _ hh').self 0 s _ _ hst (seg_again rfl loop)))))

/-- the generator at a has given j items -/
def GenH (prog : Program) (w : World) (A : Around) (a : Addr) (g : Nat) (C : Addr) (fp wr : List Addr) (n : Nat) (E : Nat → Array Value) (j : Nat) (s : Shared) : Prop :=
  s.heap.IsGen a g ∧ s.heap.NoLimit ∧ ∃ gs, s.gens[g]? = some gs ∧ ∀ s'' : Shared, (∀ b ∈ C :: fp, ∀ o, s.heap.get? b = some o → s''.heap.get? b = some o) →
    gs.Goes (model prog w) A.in1 (fun n s₀ r s₁ => r = .ok .next ∧ (n = 0 ∧ GenSince C wr s₀ s₁)) (protoH C fp wr n E) (n - j) (.send .none) s''

structure WalkH (prog : Program) (w : World) (A : Around) (I : Addr) (fp wr : List Addr) (G : Array GenState → Array GenState → Prop) (n : Nat) (C : Addr) (E : Nat → Array Value) (St : Nat → Shared → Prop) : Prop where
  sub : ∀ b ∈ wr, b ∈ fp
  low : ∀ b ∈ wr, b ≤ C
  grefl : ∀ a, G a a
  gtrans : ∀ a b c, G a b → G b c → G a c
  frame : ∀ i (s : Shared) h' tk, St i s → s.toks ≤ tk → (∀ b ∈ fp, ∀ o, s.heap.get? b = some o → h'.get? b = some o) → St i { s with heap := h', toks := tk }
  item : ∀ i (s : Shared) (Q : Option Value → Shared → Prop) (Ex : Value → Shared → Prop), i < n → St i s →
    (∀ v s', TupAt s'.heap v C (E i) → St (i + 1) s' → Moved wr G s s' → Q (some v) s') → wpAny (model prog w) A (pyNext (.ref I)) Q Ex s
  done : ∀ (s : Shared) (Q : Option Value → Shared → Prop) (Ex : Value → Shared → Prop), St n s → (∀ s', Moved wr G s s' → Q none s') → wpAny (model prog w) A (pyNext (.ref I)) Q Ex s
  self : ∀ i (s : Shared) (Q : Value → Shared → Prop) (Ex : Value → Shared → Prop), St i s → Q (.ref I) s → wpAny (model prog w) A (pyIter (.ref I)) Q Ex s
theorem WalkH.of_in1 {I C : Addr} {fp wr : List Addr} {G : Array GenState → Array GenState → Prop} {n : Nat} {E : Nat → Array Value} {St : Nat → Shared → Prop} (W : WalkH prog w A.in1 I fp wr G n C E St) : WalkH prog w A I fp wr G n C E St where
  sub := W.sub
  low := W.low
  grefl := W.grefl
  gtrans := W.gtrans
  frame := W.frame
  item := fun i s Q Ex hi st hQ => wpAny_of_in1 (W.item i s Q Ex hi st hQ)
  done := fun s Q Ex st hQ => wpAny_of_in1 (W.done s Q Ex st hQ)
  self := fun i s Q Ex st hQ => wpAny_of_in1 (W.self i s Q Ex st hQ)

theorem WalkH.gen (hh : A.handled = none) (a : Addr) (g : Nat) (C : Addr) (fp wr : List Addr) (n : Nat) (E : Nat → Array Value) (haC : a ≠ C) (haf : a ∉ fp) (hsub : ∀ b ∈ wr, b ∈ fp) (hlow : ∀ b ∈ wr, b ≤ C)
    (hroom : A.depth < recursionLimit) (hcs : cStatics ∈ fp) (hcC : cStatics ≠ C) (hcw : cStatics ∉ wr) : WalkH prog w A a (a :: C :: fp) (C :: wr) (GenOnlyQ g) n C E (GenH prog w A a g C fp wr n E) where
  sub := fun b hb => by
    rcases List.mem_cons.mp hb with rfl | hb
    · simp
    · exact List.mem_cons_of_mem _ (List.mem_cons_of_mem _ (hsub b hb))
  low := fun b hb => by
    rcases List.mem_cons.mp hb with rfl | hb
    · exact Nat.le_refl _
    · exact hlow b hb
  grefl := fun _ => .inl rfl
  gtrans := fun _ _ _ x y => x.trans y
  frame := fun j s h' tk st _ hk =>
    ⟨let ⟨o, nm, qn, ho, r⟩ := st.1; ⟨o, nm, qn, hk a (List.mem_cons_self ..) o ho, r⟩,
     (let ⟨mc, hns, hnn⟩ := st.2.1; ⟨mc, hns.at' fun o e => hk cStatics (List.mem_cons_of_mem _ (List.mem_cons_of_mem _ hcs)) o e, hnn⟩),
     let ⟨gs, hgs, hgo⟩ := st.2.2; ⟨gs, hgs, fun s'' hal => hgo s'' fun b hb o e => hal b hb o (hk b (List.mem_cons_of_mem _ hb) o e)⟩⟩
  item := fun j s Q Ex hj st hQ => by
    obtain ⟨hg, hl, gs, hgs, hgo⟩ := st
    obtain ⟨m, hm⟩ : ∃ m, n - j = m + 1 := ⟨n - j - 1, by omega⟩
    rw [hm] at hgo
    refine wpAny_with_toks (Nat.le_refl s.toks) ?_
    refine wpAny_pyNext_genexpQ (P := fun n s₀ s₁ => n = 0 ∧ GenSince C wr s₀ s₁) hh hl hroom hg hgs (hgo _ fun _ _ _ e => e) (fun v s₁ gs' hb hv => ?_) (fun s₁ hp h' hk => ?_)
    · obtain ⟨hF, ⟨h₁, tk₁, rfl, hk₁⟩, hkap⟩ := hv
      have hidx : n - 1 - (m + 1 - 1) = j := by omega
      rw [hidx] at hF
      have haw : a ∉ wr := fun h => haf (hsub a h)
      intro htk
      refine hQ v _ hF ⟨let ⟨o, nm, qn, ho, r⟩ := hg; ⟨o, nm, qn, hk₁ a o haC haw ho, r⟩, (let ⟨mc, hns, hnn⟩ := hl; ⟨mc, hns.at' fun o e => hk₁ cStatics o hcC hcw e, hnn⟩), gs', setGen_self (gs := .running) (setGen_self hgs), fun s'' hal => ?_⟩
        ⟨fun b o hb e => hk₁ b o (fun h => hb (h ▸ List.mem_cons_self ..)) (fun h => hb (List.mem_cons_of_mem _ h)) e, GenOnlyQ.of ((GenOnly.setGen s g .running).trans (GenOnly.setGen _ g gs')) (setGen_self (gs := .running) (setGen_self hgs)) hb, rfl, rfl, htk⟩
      have e : n - (j + 1) = m := by omega
      rw [e]
      exact hkap s'' hal
    · exact absurd hp.1 (Nat.succ_ne_zero m)
  done := fun s Q Ex st hQ => by
    obtain ⟨hg, hl, gs, hgs, hgo⟩ := st
    rw [Nat.sub_self] at hgo
    refine wpAny_with_toks (Nat.le_refl s.toks) ?_
    refine wpAny_pyNext_genexpQ (P := fun n s₀ s₁ => n = 0 ∧ GenSince C wr s₀ s₁) hh hl hroom hg hgs (hgo _ fun _ _ _ e => e) (fun v s₁ gs' hb hv => ?_) (fun s₁ hp h' hk => ?_)
    · obtain ⟨_, _, hkap⟩ := hv
      exact False.elim (hkap s₁ fun _ _ _ e => e)
    · obtain ⟨_, h₁, tk₁, rfl, hk₁⟩ := hp
      intro htk
      exact hQ _ ⟨fun b o hb e => hk b o (hk₁ b o (fun h => hb (h ▸ List.mem_cons_self ..)) (fun h => hb (List.mem_cons_of_mem _ h)) e), GenOnlyQ.of ((GenOnly.setGen s g .running).trans (GenOnly.setGen _ g .finished)) (setGen_self (gs := .running) (setGen_self hgs)) rfl, rfl, rfl, htk⟩
  self := fun _ _ _ _ st hQ => wpAny_pyIter_gen st.1 hQ
end

/-! ### the consumer -/
/-- what was taken so far -/
def ItemsH (h : Heap) (C : Addr) (E : Nat → Array Value) (acc : Array Value) (i : Nat) : Prop := acc.size = i ∧ ∀ j v, acc[j]? = some v → TupAt h v C (E j)
theorem ItemsH.keep {h h' : Heap} {C : Addr} {E : Nat → Array Value} {acc : Array Value} {i : Nat} (t : ItemsH h C E acc i) (k : ∀ b o, C < b → o.cls = .type "tuple" → h.get? b = some o → h'.get? b = some o) : ItemsH h' C E acc i := ⟨t.1, fun j v e => (t.2 j v e).keep k⟩
theorem ItemsH.push {h : Heap} {C : Addr} {E : Nat → Array Value} {acc : Array Value} {i : Nat} {x : Value} (t : ItemsH h C E acc i) (hx : TupAt h x C (E i)) : ItemsH h C E (acc.push x) (i + 1) := by
  refine ⟨by rw [Array.size_push, t.1], fun j v hj => ?_⟩
  rw [Array.getElem?_push] at hj
  split at hj
  · rename_i e; rw [t.1] at e; cases hj; rw [e]; exact hx
  · exact t.2 j v hj
section
variable {prog : Program} {w : World} {A : Around} {R : Result → Shared → Prop} {I C : Addr} {fp wr : List Addr} {G : Array GenState → Array GenState → Prop} {n : Nat} {E : Nat → Array Value} {St : Nat → Shared → Prop}
theorem loopH (W : WalkH prog w A.in1 I fp wr G n C E St) (hn : n ≤ sizeLine) (S : Addr) (hSf : S ∉ fp) (res : Value) :
    ∀ (k i : Nat) (s : Shared) (acc : Array Value) (c : Nat), n - i = k → i ≤ n → St i s → s.heap.get? S = some { cls := .type "list", dict := none, data := .seq acc c, slots := #[] } → ItemsH s.heap C E acc i →
    (∀ s' acc' c', Moved (S :: wr) G s s' → s'.heap.get? S = some { cls := .type "list", dict := none, data := .seq acc' c', slots := #[] } → ItemsH s'.heap C E acc' n → R (.ok (.ret res)) s') →
    codeAny (model prog w) A (.builtin "list.extend.loop" ⟨[.ref S, .ref I, res], []⟩) R s := by
  have hSw : S ∉ wr := fun h => hSf (W.sub _ h)
  have hsub : ∀ b ∈ wr, b ∈ S :: wr := fun b hb => List.mem_cons_of_mem _ hb
  have mv : ∀ {s s' : Shared}, Moved wr G s s' → ∀ b o, C < b → o.cls = .type "tuple" → s.heap.get? b = some o → s'.heap.get? b = some o := fun hm b o hb _ e => hm.heap b o (fun z => absurd (W.low b z) (Nat.not_le.mpr hb)) e
  intro k
  induction k with
  | zero =>
    intro i s acc c hk hi hst hS hacc hR
    have hin : i = n := by omega
    subst hin
    refine codeAny_builtin PySem.F.entry_extend_loop ?_
    rw [Around.under_plainId PySem.F.plain_extend_loop _]
    show wpAny _ A.in1 (pyNext (.ref I) >>= _) _ _ s
    refine wpAny_bind (W.done s _ _ hst fun s' hm => ?_)
    exact wpAny_pure (hR s' acc c (hm.mono hsub) (hm.heap S _ hSw hS) (hacc.keep (mv hm)))
  | succ k ih =>
    intro i s acc c hk hi hst hS hacc hR
    have hlt : i < n := by omega
    refine codeAny_builtin PySem.F.entry_extend_loop ?_
    rw [Around.under_plainId PySem.F.plain_extend_loop _]
    show wpAny _ A.in1 (pyNext (.ref I) >>= _) _ _ s
    refine wpAny_bind (W.item i s _ _ hlt hst fun v s' hP hst' hm => ?_)
    have hS' := hm.heap S _ hSw hS
    have hacc' : ItemsH s'.heap C E (acc.push v) (i + 1) := (hacc.keep (mv hm)).push hP
    show wpAny _ A.in1 (updateSeq S (·.push v) >>= _) _ _ _
    refine wpAny_bind ?_
    refine wpAny_updateSeq hS' rfl (wpAny_pure ⟨plainId_quiet PySem.F.plain_extend_loop _, ih (i + 1) _ (acc.push v) _ (by omega) hlt (W.frame _ s' _ s'.toks hst' (Nat.le_refl _) fun b hb o e => ?_) (Heap.get?_update_self _ hS' rfl) (hacc'.keep fun b o _ hcl e => ?_) fun s'' acc' c' hm'' hS'' hacc' => ?_⟩)
      (by rw [hacc.1]; omega) (by show (acc.push v).size ≤ sizeLine + 1; rw [Array.size_push, hacc.1]; omega)
    · exact (Heap.get?_update_other _ _ (fun h : S = b => hSf (by rw [h]; exact hb))).trans e
    · refine (Heap.get?_update_other _ _ (fun h : S = b => ?_)).trans e
      rw [← h, hS'] at e
      cases e
      exact absurd hcl (show ¬ (Value.type "list" = Value.type "tuple") by decide)
    · refine hR s'' acc' c' (Moved.trans W.gtrans ((hm.mono hsub).then_heap (Nat.le_refl _) fun b o hb e => ?_) hm'') hS'' hacc'
      exact (Heap.get?_update_other _ _ (fun h : S = b => hb (by rw [h]; exact List.mem_cons_self))).trans e
end
section
variable {prog : Program} {w : World} {A : Around} {Ex : Value → Shared → Prop} {s : Shared} {I C : Addr} {fp wr : List Addr} {G : Array GenState → Array GenState → Prop} {n : Nat} {E : Nat → Array Value} {St : Nat → Shared → Prop}
theorem collectH {Q : List Value → Shared → Prop} (W : WalkH prog w A.in1 I fp wr G n C E St) (hT : ∀ i s, St i s → s.TypeIs (.ref I) "generator") (hst : St 0 s) (hfp : ∀ b ∈ fp, b < s.heap.objs.size) (hI : I ∈ fp)
    (hQ : ∀ s' acc, Moved wr G s s' → ItemsH s'.heap C E acc n → Q acc.toList s') (hn : n ≤ sizeLine) : wpAny (model prog w) A (collect (.ref I)) Q Ex s := by
  have hSf : s.heap.objs.size ∉ fp := fun hm => Nat.lt_irrefl _ (hfp _ hm)
  have hSI : s.heap.objs.size ≠ I := fun e => hSf (e ▸ hI)
  unfold collect
  refine wpAny_bind (wpAny_runValue (codeAny_builtin PySem.F.entry_proto_collect ?_))
  rw [Around.under_plainId PySem.F.plain_proto_collect _]
  show wpAny _ A.in1 (newList [] >>= fun l => again (.builtin "list.__iadd__" ⟨[l, .ref I], []⟩)) _ _ s
  refine wpAny_bind (wpAny_newObj_type ?_)
  refine wpAny_pure ⟨plainId_quiet PySem.F.plain_list_iadd _, codeAny_builtin PySem.F.entry_list_iadd ?_⟩
  rw [Around.under_plainId PySem.F.plain_list_iadd _]
  have hst₁ := W.frame 0 s (s.heap.push { cls := .type "list", data := .seq ([] : List Value).toArray }) s.toks hst (Nat.le_refl _) fun b _ o e => Heap.get?_push_of_some _ e
  show wpAny _ A.in1 (Builtin.List.listExtendWith (.ref s.heap.objs.size) (.ref I) (.ref s.heap.objs.size)) _ _ _
  unfold Builtin.List.listExtendWith
  refine wpAny_bind (wpAny_typeOf (hT 0 _ hst₁) ?_)
  have h1 : Builtin.List.listSameRef (.ref s.heap.objs.size) (.ref I) = false := by simp [Builtin.List.listSameRef, hSI]
  have h2 : (Value.type "generator" == Value.type "list") = false := by decide
  have h3 : (Value.type "generator" == Value.type "tuple") = false := by decide
  simp only [h1, h2, h3, Bool.or_false, Bool.false_eq_true, if_false]
  refine wpAny_bind (W.self 0 _ _ _ hst₁ ?_)
  refine wpAny_bind (wpAny_holding ?_)
  unfold Builtin.List.listLengthHint
  refine wpAny_bind (wpAny_specialOf (hT 0 _ hst₁) PySem.F.gen_no_len ?_)
  show wpAny _ A.in1 (specialOf (Value.ref I) (Str.ofString "__length_hint__") >>= _) _ _ _
  refine wpAny_bind (wpAny_specialOf (hT 0 _ hst₁) PySem.F.gen_no_hint ?_)
  refine wpAny_pure ?_
  show wpAny _ A.in1 (rule "list.extend.makes-room" >>= fun _ => Builtin.List.listTouch (.ref s.heap.objs.size) >>= fun _ =>
    again (.builtin "list.extend.loop" ⟨[.ref s.heap.objs.size, .ref I, .ref s.heap.objs.size], []⟩)) _ _ _
  refine wpAny_bind (wpAny_rule ?_)
  have hS₁ : (s.heap.push { cls := .type "list", data := .seq ([] : List Value).toArray }).get? s.heap.objs.size = some { cls := .type "list", data := .seq ([] : List Value).toArray } := Heap.get?_push_size _ rfl
  refine wpAny_bind ?_
  show wpAny _ A.in1 (updateSeq s.heap.objs.size (·.push .none) >>= fun _ => updateSeq s.heap.objs.size (·.pop)) _ _ _
  refine wpAny_bind (wpAny_updateSeq hS₁ rfl ?_)
  have hS₂ := Heap.get?_update_self (Obj.mapSeq (·.push Value.none)) hS₁ rfl
  refine wpAny_updateSeq hS₂ rfl ?_
  have hS₃ := Heap.get?_update_self (Obj.mapSeq (·.pop)) hS₂ rfl
  have oth : ∀ b o, b ≠ s.heap.objs.size → (s.heap.push { cls := .type "list", data := .seq ([] : List Value).toArray }).get? b = some o →
      (((s.heap.push { cls := .type "list", data := .seq ([] : List Value).toArray }).update s.heap.objs.size (Obj.mapSeq (·.push Value.none))).update s.heap.objs.size (Obj.mapSeq (·.pop))).get? b = some o :=
    fun b o hb e => (Heap.get?_update_other _ _ (Ne.symm hb)).trans ((Heap.get?_update_other _ _ (Ne.symm hb)).trans e)
  refine wpAny_pure ⟨plainId_quiet PySem.F.plain_extend_loop _, loopH W hn _ hSf _ n 0 _ _ _ rfl (Nat.zero_le _)
    (W.frame 0 ({ s with heap := s.heap.push { cls := .type "list", data := .seq ([] : List Value).toArray } } : Shared) _ s.toks hst₁ (Nat.le_refl _) fun b hb o e => oth b o (fun h => hSf (h ▸ hb)) e) hS₃ ⟨rfl, fun j v h => by simp at h⟩ fun s' acc' c' hm hS' hacc => ?_⟩
  show wpAny _ A (load s.heap.objs.size >>= _) _ _ s'
  refine wpAny_bind (wpAny_load hS' ?_)
  refine wpAny_pure (hQ s' acc' (Moved.drop_new (o := { cls := .type "list", data := .seq ([] : List Value).toArray }) (tk := s.toks) (Moved.trans W.gtrans ((Moved.refl W.grefl).then_heap (Nat.le_refl _) fun b o hb e => ?_) hm) (Nat.le_refl _)) hacc)
  exact oth b o (fun z => hb (by rw [z]; exact List.mem_cons_self)) e
theorem new_tupleH {Q₁ : Value → Shared → Prop} (W : WalkH prog w A.in1.in1 I fp wr G n C E St) (hT : ∀ i s, St i s → s.TypeIs (.ref I) "generator") (hst : St 0 s) (hfp : ∀ b ∈ fp, b < s.heap.objs.size) (hI : I ∈ fp)
    (h : ∀ s' acc, Moved wr G s s' → ItemsH s'.heap C E acc n → Q₁ (.ref s'.heap.objs.size) { s' with heap := s'.heap.push { cls := .type "tuple", data := .seq acc } }) (hsz : n ≤ sizeLine) :
    codeAny (model prog w) A (.call (.builtin "tuple.__new__") ⟨[.type "tuple", .ref I], []⟩) (wants Q₁ Ex) s := by
  refine codeAny_of_tree ?_
  show wpAny _ A.in1 (do checkBuiltinCall "tuple.__new__" ⟨[.type "tuple", .ref I], []⟩; again (.builtin "tuple.__new__" ⟨[.type "tuple", .ref I], []⟩)) _ _ s
  refine wpAny_bind (wpAny_of_eq (PySem.F.newCall_tuple_1 _) (wpAny_pure ⟨plainId_quiet PySem.F.plain_tuple_new _, codeAny_builtin PySem.F.entry_tuple_new ?_⟩))
  rw [Around.under_plainId PySem.F.plain_tuple_new _]
  have hsub := sub_tuple_self
  have hinit := init_tuple_lookup
  have hmh := madeHere_tuple
  have hTI := hT 0 s hst
  wp_walk using wpAny_typeOf hTI, collectH (hn := hsz) W hT hst hfp hI
  intro s' acc hm hacc
  show wpAny _ _ (Builtin.Tuple.tupleExact acc.toList.toArray >>= fun v => ret v) _ _ _
  unfold Builtin.Tuple.tupleExact
  refine wpAny_bind (wpAny_newObj_type ?_ (by show acc.toList.toArray.size ≤ sizeLine; simp only [Array.toArray_toList]; rw [hacc.1]; exact hsz))
  refine wpAny_pure ?_
  have e : acc.toList.toArray = acc := by simp
  rw [e]
  exact h s' acc hm hacc
theorem call_tupleH {Q : Value → Shared → Prop} (W : WalkH prog w A.in1.in1.in1 I fp wr G n C E St) (hT : ∀ i s, St i s → s.TypeIs (.ref I) "generator") (hst : St 0 s) (hfp : ∀ b ∈ fp, b < s.heap.objs.size) (hI : I ∈ fp)
    (hQ : ∀ s' acc, Moved wr G s s' → ItemsH s'.heap C E acc n → Q (.ref s'.heap.objs.size) { s' with heap := s'.heap.push { cls := .type "tuple", data := .seq acc } }) (hsz : n ≤ sizeLine) :
    wpAny (model prog w) A (call (.type "tuple") [.ref I]) Q Ex s := by
  refine callType_codes (Q₁ := fun obj s₁ => s₁.TypeIs obj "tuple" ∧ Q obj s₁) PySem.F.called_tuple (PySem.F.typeCall_tuple_1 _) PySem.F.entry_object_init
    (new_tupleH (hsz := hsz) W hT hst hfp hI fun s' acc hm hacc => ⟨⟨_, Heap.get?_push_size _ rfl, rfl⟩, hQ s' acc hm hacc⟩) fun obj s₁ h₁ => ?_
  exact ⟨h₁.1, PySem.F.args_object_init_2 obj _, object_init_meets PySem.F.called_tuple.init.lookup PySem.F.called_tuple.made (by decide) prog w A.in1 _ s₁ ⟨h₁.1, rfl, h₁.2⟩⟩
end
end Rl

set_option Elab.async false
set_option linter.all false
set_option maxRecDepth 100000
set_option autoImplicit false
set_option maxHeartbeats 2000000
/-! Rl, generators, part 2: tuple((a, b[k]) for a, b in list). -/
noncomputable section
namespace Rl
open PySem PySem.Spec PyProof.Rows L2

/-! ### the mirror -/
def gxPair (k : Nat) : D → Option D
  | .tup [a, .tup bs] => (bs[k]?).map fun c => .tup [a, c]
  | _ => none
def gxL (k : Nat) : List D → Option (List D)
  | [] => some []
  | d :: r => (gxPair k d).bind fun y => (gxL k r).bind fun ys => some (y :: ys)
def eTupGx (m : ME) (k : Nat) : ME := fun ε => (m ε).bind fun p => match p.1 with
  | .lst ds => if szOk ds.length then (gxL k ds).bind fun ys => some (.tup ys, p.2) else none
  | _ => none

/-! ### the element -/
theorem elt2 {prog : Program} {w : World} {cenv : Env} {xa xb : Str} {vals E : Nat → Array Value} {n : Nat} {ok : Heap → Prop} {k : Nat} {p1 p2 p3 p4 p5 : Pos} {j1 j2 : Nat} (hk : cenv.scope.kind = .function) (hla : cenv.scope.names.lookup xa = some .local) (hlb : cenv.scope.names.lookup xb = some .local)
    (hda : (xa == ("__debug__" : Str)) = false) (hdb : (xb == ("__debug__" : Str)) = false) (hk63 : ((k : Nat) : Int) < 2 ^ 63)
    (hok : ∀ h, ok h → ∀ i, i < n → ∀ va vb, vals i = #[va, vb] → ∃ t items x, vb = .ref t ∧ PyProof.Rows.IsTup h t items ∧ items[k]? = some x ∧ E i = #[va, x]) :
    EltH prog w cenv xa xb (.Tuple [.Name xa p1, .Subscript (.Name xb p2) (.Constant (.int (k : Nat)) j1 p3) p4] j2 p5) vals E n ok := by
  intro A' E' i va vb s₂ m₂ hA hi hv hn hma hmb hokh
  obtain ⟨t, items, x, rfl, hT, hx, hE⟩ := hok _ hokh i hi va vb hv
  refine Tuple_ ?_
  show wpAny _ _ (spliced [(false, eval (.Name xa p1) cenv), (false, eval (.Subscript (.Name xb p2) (.Constant (.int (k : Nat)) j1 p3) p4) cenv)]) _ _ s₂
  refine Calls.spliced_cons (wpAny_Name (wpAny_loadName_local hk hla hn hma ?_) hda)
  refine Calls.spliced_cons (Subscript_Constant (wpAny_Name (wpAny_loadName_local hk hlb hn hmb ?_) hdb))
  refine wpAny_Constant_int ?_
  have hlt : k < items.size := (Array.getElem?_eq_some_iff.mp hx).1
  refine ⟨"tuple", _, slot_tuple_getitem.lookup, hT.typeIs, getItem_tuple (j := k) hT (by omega) hk63 (by rw [seqIndex_of (by omega) (by omega)]; simp) hx ?_⟩
  refine Calls.spliced_nil ?_
  refine wpAny_newObj_type ?_ (by show 2 ≤ sizeLine; decide)
  refine ⟨⟨s₂.heap.objs.size, _, 0, rfl, hn.lt, Heap.get?_push_size _ rfl, rfl, by rw [hE]⟩, _, _, rfl, fun b o e => Heap.get?_push_of_some _ e⟩

/-! ### the generator laid -/
theorem GenH.fresh {prog : Program} {w : World} {A : Around} {elt iter : Expr} {xa xb : Str} {pa pb pt : Pos} {kt : Nat} {scope : Scope} {pos : Pos} {I a : Addr} {g : Nat} {fp wr : List Addr} {n : Nat} {St₀ : Nat → Heap → Prop} {Mid : Nat → Addr → Heap → Prop} {cenv : Env} {vals E : Nat → Array Value} {ok : Heap → Prop}
    (hh : A.handled = none) (W₀ : ∀ A' : Around, A'.handled = none → WalksU prog w A' I fp wr n (fun j v => v = vals j) St₀ Mid) (hsz : ∀ i, i < n → ∃ va vb, vals i = #[va, vb]) (hab : xa ≠ xb)
    (hxa : cenv.kindOf xa = some .local) (hxb : cenv.kindOf xb = some .local) (hp : (cenv.scope.kind == .class || (cenv.scope.kind == .module && cenv.locals != cenv.globals)) = false)
    (hco : cenv.scope.isCoroutine = false) (hCf : cenv.locals ∉ fp) (hq : EltH prog w cenv xa xb elt vals E n ok)
    (hok : ∀ h h', ok h → (∀ b ∈ fp, b ∉ wr → ∀ o, h.get? b = some o → h'.get? b = some o) → ok h') {s : Shared} {m : Str → Option Value}
    (hg : s.heap.IsGen a g) (hgs : s.gens[g]? = some (.fresh (.compStart (.GeneratorExp elt [⟨.Tuple [.Name xa pa, .Name xb pb] kt pt, iter, [], 0⟩] scope pos) 0 (.ref I) .none cenv)))
    (hst : St₀ 0 s.heap) (hn : s.heap.Ns cenv.locals m) (hl : s.heap.NoLimit) (hk : ok s.heap) : GenH prog w A a g cenv.locals fp wr n E 0 s :=
  ⟨hg, hl, _, hgs, fun s'' hal => ⟨rfl, by
    rw [Nat.sub_zero]
    exact seg_startH (A := A.in1) hh W₀ hsz hab hxa hxb hp hco hCf hq hok s'' s'' m ((W₀ A hh).frame _ _ _ hst fun b hb o e => hal b (List.mem_cons_of_mem _ hb) o e)
      (hn.at' fun o e => hal _ (List.mem_cons_self ..) o e) (GenSince.refl _ _ _) (hok _ _ hk fun b hb _ o e => hal b (List.mem_cons_of_mem _ hb) o e)⟩⟩
theorem WalkH.in4_3 {prog : Program} {w : World} {A : Around} {I C : Addr} {fp wr : List Addr} {G : Array GenState → Array GenState → Prop} {n : Nat} {E : Nat → Array Value} {St : Nat → Shared → Prop} (W : WalkH prog w A.in4 I fp wr G n C E St) : WalkH prog w A.in1.in1.in1 I fp wr G n C E St := WalkH.of_in1 (A := A.in1.in1.in1) W

/-! ### behind the generator -/
/-- a table grown, new tuples tracked -/
def gxH (H : Hp) (P : Addr) (tb : Array Value) (N : Addr → Option (List V)) : Hp := fun b => match N b with
  | some xs => some (.tup xs)
  | none => if b = P then some (.tbl tb) else H b
theorem gxH_some {H : Hp} {P : Addr} {tb : Array Value} {N : Addr → Option (List V)} {b : Addr} {xs : List V} (h : N b = some xs) : gxH H P tb N b = some (.tup xs) := by unfold gxH; rw [h]
theorem gxH_P {H : Hp} {P : Addr} {tb : Array Value} {N : Addr → Option (List V)} (h : N P = none) : gxH H P tb N P = some (.tbl tb) := by unfold gxH; rw [h]; exact if_pos rfl
theorem gxH_ne {H : Hp} {P : Addr} {tb : Array Value} {N : Addr → Option (List V)} {b : Addr} (h : N b = none) (hb : b ≠ P) : gxH H P tb N b = H b := by unfold gxH; rw [h]; exact if_neg hb
theorem inv_gx {X : Cx} {pins : List (Addr × Obj)} {σ : L2.St} {H : Hp} {s : Shared} {P : Addr} {ps more : Array Value} {h' : Heap} {g' : Array GenState} {d' : Drawn} {t' : Nat} {N : Addr → Option (List V)} (I : Inv X pins σ H s) (hP : H P = some (.tbl ps))
    (hN : ∀ b xs, N b = some xs → s.heap.objs.size ≤ b ∧ xs.length ≤ sizeLine ∧ ∃ (its : List Value) (o : Obj) (n : Nat), Vals xs its ∧ h'.get? b = some o ∧ o.cls = .type "tuple" ∧ o.data = .seq its.toArray n)
    (k : ∀ b o, b ≠ P → s.heap.get? b = some o → h'.get? b = some o) (hm : h'.get? P = some { cls := .none, data := .fields (ps ++ more) }) (hg : AllBare g') :
    Inv X pins σ (gxH H P (ps ++ more) N) { s with heap := h', gens := g', drawn := d', toks := t' } := by
  have hPs : s.heap.get? P = some { cls := .none, data := .fields ps } := I.hok P _ hP
  have old : ∀ {b : Addr} {o : Obj}, s.heap.get? b = some o → N b = none := fun {b o} e => by
    cases q : N b with
    | none => rfl
    | some xs => exact absurd (Heap.lt_size e) (Nat.not_lt.mpr (hN b xs q).1)
  have oldH : ∀ {b : Addr} {u : HO}, H b = some u → N b = none := fun {b u} e => by
    cases q : N b with
    | none => rfl
    | some xs =>
      have := I.hok.fresh (hN b xs q).1
      rw [e] at this
      cases this
  have nP : ∀ b u, H b = some u → (∀ q, u ≠ .tbl q) → b ≠ P := fun b u e q z => by
    rw [z, hP] at e
    exact q ps (Option.some.inj e).symm
  have nN : ∀ b, H b = none → b ≠ P := fun b e z => by
    rw [z, hP] at e
    cases e
  have NP := old hPs
  refine I.step (g' := g') (d' := d') (ch := []) (fun b hb => absurd hb (by simp)) (fun b o _ _ _ e n => k b o (nN b n) e) (fun b o _ _ _ e n => ⟨o.slots, k b o (nN b n) e⟩)
    (fun b o _ e n => by rw [gxH_ne (old e) (nN b n)]; exact n) (fun b o _ e => ?_) (fun b xs e => by rw [gxH_ne (oldH e) (nP b _ e (fun q z => by cases z))]; exact e) (fun b o u e => by rw [gxH_ne (oldH e) (nP b _ e (fun q z => by cases z))]; exact e) (fun b qs e => ?_) (fun m hn => ?_) (fun b u e => ?_) hg
  · by_cases hb : b = P
    · rw [hb]
      exact ⟨_, hm⟩
    · exact ⟨o, k b o hb e⟩
  · by_cases hb : b = P
    · rw [hb, hP] at e
      cases e
      rw [hb, gxH_P NP]
      exact ⟨more, rfl⟩
    · rw [gxH_ne (oldH e) hb, e]
      exact ⟨#[], by simp⟩
  · obtain ⟨ob, es, ep, ho, r⟩ := hn
    exact ⟨ob, es, ep, k _ ob (nN _ I.free) ho, r⟩
  · cases q : N b with
    | some xs =>
      rw [gxH_some q] at e
      cases e
      obtain ⟨_, z1, its, o, n, z2, z3, z4, z5⟩ := hN b xs q
      exact ⟨z1, its, z2, o, z3, z4, n, z5⟩
    | none =>
      by_cases hb2 : b = P
      · rw [hb2, gxH_P NP] at e
        cases e
        rw [hb2]
        exact hm
      · rw [gxH_ne q hb2] at e
        refine (I.hok b u e).stay (fun d v hd q => k d v ?_ q) (fun d q => by rw [gxH_ne (oldH q) (nP d _ q (fun q z => by cases z))]; exact q) fun d xs q => by rw [gxH_ne (oldH q) (nP d _ q (fun q z => by cases z))]; exact q
        rcases hd with z | z
        · rw [z]
          exact hb2
        · exact nP d _ z (fun q z => by cases z)
def gxF (F : Hp) (N : Addr → Option (List V)) : Hp := fun b => match N b with
  | some xs => some (.tup xs)
  | none => F b
variable [Tabs]
theorem Rel.gx {K : PySem.W.Frag} {B : Bs} {F H : Hp} {ε : List Sl} {σ : L2.St} {A : List (List Addr)} {P : Addr} {ps tb : Array Value} {N : Addr → Option (List V)} (R : Rel K B F ε σ H A) (hPT : P ∈ Tabs.T) (hP : H P = some (.tbl ps)) (h1 : TriplesOk ps.toList) (h2 : TriplesOk tb.toList)
    (hN : ∀ b xs, N b = some xs → H b = none) : Rel K B (gxF F N) ε σ (gxH H P tb N) A ∧ Ext F H (gxF F N) (gxH H P tb N) [] := by
  have NP : N P = none := by
    cases q : N P with
    | none => rfl
    | some xs =>
      have := hN P xs q
      rw [hP] at this
      cases this
  have oldF : ∀ {b : Addr} {u : HO}, F b = some u → N b = none := fun {b u} e => by
    cases q : N b with
    | none => rfl
    | some xs =>
      have := R.sub.none (hN b xs q)
      rw [e] at this
      cases this
  have FP : F P = none := (R.tb P hPT).2.1
  have x : Ext F H (gxF F N) (gxH H P tb N) [] := by
    refine ⟨fun a u e => by unfold gxF; rw [oldF e]; exact e, fun a u e => ?_, fun a o e _ => ?_, fun a e => ?_⟩
    · cases q : N a with
      | some xs => exact .inr (.inl (hN a xs q))
      | none => unfold gxF at e; rw [q] at e; exact .inl e
    · cases q : N a with
      | some xs => rw [hN a xs q] at e; cases e
      | none =>
        by_cases z : a = P
        · subst z
          rw [hP] at e
          cases e
          exact .inr (.inr ⟨h1, _, gxH_P NP, h2⟩)
        · exact .inl (by rw [gxH_ne q z]; exact e)
    · cases q : N a with
      | some xs => exact hN a xs q
      | none =>
        by_cases z : a = P
        · subst z; rw [gxH_P NP] at e; cases e
        · rw [gxH_ne q z] at e; exact e
  refine ⟨R.ext x fun a u e => ?_, x⟩
  cases q : N a with
  | some xs => unfold gxF at e; rw [q] at e; cases e; exact .inl (gxH_some q)
  | none =>
    unfold gxF at e
    rw [q] at e
    have z : a ≠ P := fun z => by rw [z, FP] at e; cases e
    rw [gxH_ne q z]
    exact R.sub a u e

/-! ### the rule -/
theorem Reps.of_get {K : PySem.W.Frag} {F : Hp} : ∀ {ds : List D} {xs : List V}, ds.length = xs.length → (∀ (i : Nat) (d : D), ds[i]? = some d → ∃ x, xs[i]? = some x ∧ Rep K F d x) → Reps K F ds xs
  | [], [], _, _ => rfl
  | [], _ :: _, h, _ => by cases h
  | _ :: _, [], h, _ => by cases h
  | d :: ds, x :: xs, hl, h => by
    obtain ⟨y, e, r⟩ := h 0 d rfl
    cases e
    exact .cons r (Reps.of_get (by simpa using hl) fun i d' e => by
      obtain ⟨y, e2, r2⟩ := h (i + 1) d' (by simpa using e)
      exact ⟨y, by simpa using e2, r2⟩)
theorem gxL_at {k : Nat} : ∀ {ds ys : List D}, gxL k ds = some ys → ys.length = ds.length ∧ ∀ (i : Nat) (d : D), ds[i]? = some d → ∃ y, gxPair k d = some y ∧ ys[i]? = some y
  | [], ys, h => by cases h; exact ⟨rfl, fun i d e => by simp at e⟩
  | d :: r, ys, h => by
    simp only [gxL, Option.bind_eq_some_iff] at h
    obtain ⟨y, h1, t, h2, h3⟩ := h
    cases h3
    obtain ⟨q1, q2⟩ := gxL_at h2
    refine ⟨by rw [List.length_cons, List.length_cons, q1], fun i d' e => ?_⟩
    cases i with
    | zero => simp at e; subst e; exact ⟨y, h1, rfl⟩
    | succ i =>
      obtain ⟨y', z1, z2⟩ := q2 i d' (by simpa using e)
      exact ⟨y', z1, by simpa using z2⟩
theorem gx_item {K : PySem.W.Frag} {F : Hp} {k : Nat} {d y : D} {x : V} (h : gxPair k d = some y) (r : Rep K F d x) :
    ∃ t ya u zs z a c, x = .ref t ∧ F t = some (.tup [ya, .ref u]) ∧ F u = some (.tup zs) ∧ zs[k]? = some z ∧ Rep K F a ya ∧ Rep K F c z ∧ y = .tup [a, c] := by
  unfold gxPair at h
  split at h
  · rename_i a bs
    rw [Option.map_eq_some_iff] at h
    obtain ⟨c, h1, rfl⟩ := h
    obtain ⟨t, xs, rfl, h2, ya, r1, rfl, h3, yb, r2, rfl, ⟨u, zs, rfl, h4, h5⟩, h6⟩ := r
    obtain rfl : r2 = [] := h6
    obtain ⟨z, h7, h8⟩ := h5.get h1
    exact ⟨t, ya, u, zs, z, a, c, rfl, h2, h4, h7, h3, h8, rfl⟩
  · cases h
def addrOf : Value → Addr
  | .ref a => a
  | _ => 0
def seqOf (h : Heap) (a : Addr) : Array Value := match h.get? a with
  | some o => match o.data with
    | .seq xs _ => xs
    | _ => #[]
  | none => #[]
theorem seqOf_tup {h : Heap} {a : Addr} {items : Array Value} (t : PyProof.Rows.IsTup h a items) : seqOf h a = items := by
  obtain ⟨o, h1, _, n, h2⟩ := t
  unfold seqOf
  rw [h1]
  simp only [h2]
def vAddr : V → Addr
  | .ref a => a
  | _ => 0
def tupV (H : Hp) (a : Addr) : List V := match H a with
  | some (.tup xs) => xs
  | _ => []
theorem tupV_of {H : Hp} {a : Addr} {xs : List V} (h : H a = some (.tup xs)) : tupV H a = xs := by unfold tupV; rw [h]
/-- the generator expression's own scope: two names -/
structure GenS2 (env : Env) (scope : Scope) (xa xb : Str) : Prop where
  kind : scope.kind = .function
  co : scope.isCoroutine = false
  cell : ∀ y ∈ scope.names, y.2 ≠ .cell
  dot : scope.names.lookup (".0" : Str) = some NameKind.local
  loca : scope.names.lookup xa = some .local
  locb : scope.names.lookup xb = some .local
  free : ∀ y ∈ scope.names, y.2 ≠ .free
section
variable {X : Cx}
theorem ie_tupGx {c P : Addr} {iter : Expr} {xa xb : Str} {pa pb pt gpos p pos p1 p2 p3 p4 p5 : Pos} {kt j1 j2 n0 : Nat} {scope : Scope} {m : ME} (k : Nat) (hr : Room n0 X.A) (hc : X.calm = true) (hg : Gl X "tuple") (hm : X.mg "tuple" = none) (TB : GxR.TabB X.base X.mg c P) (hPT : P ∈ Tabs.T) (hcode : X.env.code = .ref c) (S : GenS2 X.env scope xa xb)
    (hi : PE X iter (rE X.K m)) (hab : xa ≠ xb := by decide) (hda : (xa == ("__debug__" : Str)) = false := by decide) (hdb : (xb == ("__debug__" : Str)) = false := by decide) (hk63 : ((k : Nat) : Int) < 2 ^ 63 := by decide) (hs : ∀ v, genFold iter X.env v = pure v := by intro _; rfl)
    (he : starEach [.GeneratorExp (.Tuple [.Name xa p1, .Subscript (.Name xb p2) (.Constant (.int (k : Nat)) j1 p3) p4] j2 p5) [⟨.Tuple [.Name xa pa, .Name xb pb] kt pt, iter, [], 0⟩] scope gpos] X.env = [(false, eval (.GeneratorExp (.Tuple [.Name xa p1, .Subscript (.Name xb p2) (.Constant (.int (k : Nat)) j1 p3) p4] j2 p5) [⟨.Tuple [.Name xa pa, .Name xb pb] kt pt, iter, [], 0⟩] scope gpos) X.env)] := by rfl) :
    PE X (.Call (.Name "tuple" p) [.GeneratorExp (.Tuple [.Name xa p1, .Subscript (.Name xb p2) (.Constant (.int (k : Nat)) j1 p3) p4] j2 p5) [⟨.Tuple [.Name xa pa, .Name xb pb] kt pt, iter, [], 0⟩] scope gpos] [] pos) (rE X.K (eTupGx m k)) := by
  refine ⟨fun pins s σ H Q I hh => ?_⟩
  obtain ⟨B, F, ε, A, d, ε', R, hmm, q⟩ := hh
  simp only [eTupGx, Option.bind_eq_some_iff] at hmm
  obtain ⟨⟨dl, ε1⟩, h1, h2⟩ := hmm
  cases dl <;> try cases h2
  rename_i ds
  simp only at h2
  split at h2
  case isFalse => cases h2
  rename_i hz
  simp only [Option.bind_eq_some_iff] at h2
  obtain ⟨ys, h3, h4⟩ := h2
  obtain ⟨rfl, rfl⟩ : D.tup ys = d ∧ ε1 = ε' := by cases h4; exact ⟨rfl, rfl⟩
  refine wpAny_Call_Name_kw (ld_blt I hg hm bt_tuple ?_)
  refine PyProof.Rows.callWith_type1 ?_ he (by rfl)
  rw [he]
  show wpAny _ _ (spliced [(false, eval (.GeneratorExp (.Tuple [.Name xa p1, .Subscript (.Name xb p2) (.Constant (.int (k : Nat)) j1 p3) p4] j2 p5) [⟨.Tuple [.Name xa pa, .Name xb pb] kt pt, iter, [], 0⟩] scope gpos) X.env)]) _ _ s
  refine Calls.spliced_cons (wpAny_GeneratorExp_make S.co (closure_ok fun y hy z => absurd z (S.free y hy)) S.cell S.dot S.kind (by have := hr.dp; omega) ?_ hs)
  refine thn (hi.run pins s σ H _ I ⟨B, F, ε, A, .lst ds, _, R, h1, fun v F1 H1 R1 x1 r1 => (⟨F1, R1, x1, r1⟩ : ∃ F1, Rel X.K B F1 ε1 σ H1 A ∧ Ext F H F1 H1 A ∧ Rep X.K F1 (.lst ds) v)⟩) fun xv s1 ⟨v, H1, I1, rv1, F1, R1, x1, r1⟩ => ?_
  obtain ⟨yl, xs, rfl, hyl, hrs⟩ := r1
  obtain rfl : xv = Value.ref yl := rv1
  obtain ⟨⟨tbo, hP, htb⟩, hFP, _⟩ := R1.tb P hPT
  obtain ⟨ps, rfl⟩ : ∃ ps, tbo = .tbl ps := by cases tbo <;> first | exact ⟨_, rfl⟩ | exact htb.elim
  obtain ⟨its, rv, hl, hzl⟩ := I1.list (show SqL X.K H1 yl xs from R1.sub.rdx.l (.inl hyl))
  have hIL := hl.isList
  have hlen : its.length = ds.length := by rw [← rv.length, hrs.length]
  have gl := gxL_at h3
  -- the items
  have item : ∀ i, i < its.toArray.size → ∃ t ya u zs z va items x a b, its.toArray[i]? = some (.ref t) ∧ xs[i]? = some (.ref t) ∧ H1 t = some (.tup [ya, .ref u]) ∧ H1 u = some (.tup zs) ∧ zs[k]? = some z ∧ PyProof.Rows.IsTup s1.heap t #[va, .ref u] ∧ PyProof.Rows.IsTup s1.heap u items ∧ items[k]? = some x ∧ RelV ya va ∧ RelV z x ∧
      ys[i]? = some (.tup [a, b]) ∧ Rep X.K F1 a ya ∧ Rep X.K F1 b z := by
    intro i hi
    have hi2 : i < ds.length := by rw [← hlen]; simpa using hi
    obtain ⟨y, g1, g2⟩ := gl.2 i _ (List.getElem?_eq_getElem hi2)
    obtain ⟨x0, g3, g4⟩ := hrs.get (List.getElem?_eq_getElem hi2)
    obtain ⟨t, ya, u, zs, z, a, b, rfl, g5, g6, g7, g8, g9, rfl⟩ := gx_item g1 g4
    obtain ⟨uv, e1, e2⟩ := rv.get g3
    obtain rfl : uv = Value.ref t := e2
    obtain ⟨it1, r1, t1, _⟩ := I1.tuple (SqT.of (K := X.K) (R1.sub.tup g5))
    obtain ⟨it2, r2, t2, _⟩ := I1.tuple (SqT.of (K := X.K) (R1.sub.tup g6))
    obtain ⟨va, vb, rfl, ra, rb⟩ := r1.two
    obtain rfl : vb = Value.ref u := rb
    obtain ⟨x, e3, e4⟩ := r2.get g7
    exact ⟨t, ya, u, zs, z, va, it2.toArray, x, a, b, by simpa using e1, g3, R1.sub.tup g5, R1.sub.tup g6, g7, t1, t2, by simpa using e3, ra, e4, g2, g8, g9⟩
  let Ts : Nat → Addr := fun i => addrOf (its.toArray.getD i .none)
  let vals : Nat → Array Value := fun i => seqOf s1.heap (Ts i)
  let E : Nat → Array Value := fun i => #[(vals i).getD 0 .none, (seqOf s1.heap (addrOf ((vals i).getD 1 .none))).getD k .none]
  let Y : Nat → List V := fun i => [(tupV H1 (vAddr (xs.getD i .non))).getD 0 .non, (tupV H1 (vAddr ((tupV H1 (vAddr (xs.getD i .non))).getD 1 .non))).getD k .non]
  have item2 : ∀ i, i < its.toArray.size → ∃ t ya u z va items x a b, its.toArray[i]? = some (.ref t) ∧ Ts i = t ∧ vals i = #[va, .ref u] ∧ PyProof.Rows.IsTup s1.heap t (vals i) ∧ PyProof.Rows.IsTup s1.heap u items ∧ items[k]? = some x ∧ E i = #[va, x] ∧ Y i = [ya, z] ∧ RelV ya va ∧ RelV z x ∧
      ys[i]? = some (.tup [a, b]) ∧ Rep X.K F1 a ya ∧ Rep X.K F1 b z := by
    intro i hi
    obtain ⟨t, ya, u, zs, z, va, items, x, a, b, g1, g2, g3, g4, g5, g6, g7, g8, g9, g10, g11, g12, g13⟩ := item i hi
    have e1 : Ts i = t := by show addrOf (its.toArray.getD i .none) = t; rw [Array.getD_eq_getD_getElem?, g1]; rfl
    have e2 : vals i = #[va, .ref u] := by show seqOf s1.heap (Ts i) = _; rw [e1, seqOf_tup g6]
    have e3 : E i = #[va, x] := by
      show #[(vals i).getD 0 .none, (seqOf s1.heap (addrOf ((vals i).getD 1 .none))).getD k .none] = _
      rw [e2]
      show #[va, (seqOf s1.heap u).getD k .none] = _
      rw [seqOf_tup g7, Array.getD_eq_getD_getElem?, g8]
      rfl
    have e4 : Y i = [ya, z] := by
      show [(tupV H1 (vAddr (xs.getD i .non))).getD 0 .non, (tupV H1 (vAddr ((tupV H1 (vAddr (xs.getD i .non))).getD 1 .non))).getD k .non] = _
      have e5 : xs.getD i .non = .ref t := by rw [List.getD_eq_getElem?_getD, g2]; rfl
      rw [e5]
      show [(tupV H1 t).getD 0 .non, (tupV H1 (vAddr ((tupV H1 t).getD 1 .non))).getD k .non] = _
      rw [tupV_of g3]
      show [ya, (tupV H1 u).getD k .non] = _
      rw [tupV_of g4, List.getD_eq_getElem?_getD, g5]
      rfl
    exact ⟨t, ya, u, z, va, items, x, a, b, g1, e1, e2, by rw [e2]; exact g6, g7, g8, e3, e4, g9, g10, g11, g12, g13⟩
  have lenH : ∀ {b : Addr} {o : Obj}, s1.heap.get? b = some o → b < s1.heap.objs.size := fun e => Heap.lt_size e
  have hlt : yl < s1.heap.objs.size := by
    obtain ⟨_, e, _⟩ := _root_.id hIL
    exact Heap.lt_size e
  refine wpAny_pyIter_list hIL ?_
  generalize ho : ({ cls := .type "list_iterator", data := .fields #[.ref yl, .int 0 0] } : Obj) = o
  have hitr : (s1.heap.push o).IsListIter s1.heap.objs.size yl 0 := by
    subst ho
    exact ⟨_, Heap.get?_push_size _ rfl, rfl, rfl⟩
  have hPs : s1.heap.get? P = some { cls := .none, data := .fields ps } := I1.hok P _ hP
  have hPlt : P < s1.heap.objs.size := Heap.lt_size hPs
  have hP2 : (s1.heap.push o).get? P = some { cls := .none, data := .fields ps } := Heap.get?_push_of_some _ hPs
  have cd : PySem.W.CodeHd (s1.heap.push o) c P := TB.code.keeps fun b u e => Heap.get?_push_of_some _ (I1.bk b u e)
  have lim2 : (s1.heap.push o).NoLimit := I1.nolimit.push o
  refine ⟨lim2, ?_⟩
  have cont : ∀ (code : Value) (h3 : Heap) (tk : Nat) (ps' : Array Value), Heap.ExtBut P (s1.heap.push o) h3 → (s1.heap.push o).objs.size ≤ h3.objs.size → h3.get? P = some { cls := .none, data := .fields ps' } → (∃ more, ps' = ps ++ more) → TriplesOk ps'.toList →
      wpAny (model X.prog X.w) X.A (builtinsFor X.env.globals X.env.builtins) (fun bi s₄ => ∀ h', h'.Ns s₄.heap.objs.size (fun y => if y = ".0" then some (Value.ref s1.heap.objs.size) else none) → Heap.SameBut s₄.heap.objs.size (s₄.heap.push { cls := .type "frame", data := .dict #[] }) h' →
        (fun v s₁ => wpAny (model X.prog X.w) X.A (spliced []) (fun vs s₂ => wpAny (model X.prog X.w) X.A (call (.type "tuple") (v :: vs)) (EP X pins σ Q) X.xe s₂) X.xe s₁) (.ref h'.objs.size) { s₄ with
            gens := s₄.gens.push (.fresh (.compStart (.GeneratorExp (.Tuple [.Name xa p1, .Subscript (.Name xb p2) (.Constant (.int (k : Nat)) j1 p3) p4] j2 p5) [⟨.Tuple [.Name xa pa, .Name xb pb] kt pt, iter, [], 0⟩] scope gpos) 0 (Value.ref s1.heap.objs.size) .none (genEnv scope (cloFrom X.env.cells scope.names []) s₄.heap.objs.size code bi X.env))),
            toks := s₄.toks + 1 + 1 + 1,
            heap := h'.push { cls := .type "generator", data := .fields #[.int s₄.gens.size 0, .str "<genexpr>" (s₄.toks + 1), .str (X.env.qual ++ "<genexpr>") (s₄.toks + 1 + 1)] } }) X.xe { s1 with heap := h3, toks := tk } := by
    intro code h3 tk ps' hx hsz3 hP3 hmore ht3
    obtain ⟨bm, ob, e1, e2, e3, e4, e5, e6, e7, e8⟩ := TB.bm
    have hcP : cStatics ≠ P := fun e => by
      obtain ⟨_, hns, _⟩ := I1.nolimit
      obtain ⟨o', es, ep, ho, hd, _⟩ := hns
      rw [e, hPs] at ho
      cases ho
      cases hd
    have hcl : cStatics < s1.heap.objs.size := let ⟨_, hns, _⟩ := I1.nolimit; hns.lt
    have sz2 : (s1.heap.push o).objs.size = s1.heap.objs.size + 1 := Heap.size_push ..
    have keep3 : ∀ b u, b ≠ P → s1.heap.get? b = some u → h3.get? b = some u := fun b u hb e => hx b u hb (Heap.get?_push_of_some _ e)
    refine wpAny_builtinsFor (m := X.mg) (by rw [I1.ok.glob]; exact ((I1.mod.glob.keeps I1.bk).push o).extBut hx TB.gP) e1 e2 (keep3 _ _ e4 (I1.bk _ _ e5)) e6 e7 e8 ?_
    intro h' hns hsb
    refine Calls.spliced_nil ?_
    have C3 : s1.heap.objs.size < h3.objs.size := by omega
    have sz' : h'.objs.size = h3.objs.size + 1 := by rw [hsb.1, Heap.size_push]
    have sz5 : ∀ g : Obj, (h'.push g).objs.size = h3.objs.size + 1 + 1 := fun g => by rw [Heap.size_push, sz']
    have keep4 : ∀ b u, h3.get? b = some u → h'.get? b = some u := fun b u e => hsb.extBut b u (Nat.ne_of_lt (Heap.lt_size e)) (Heap.get?_push_of_some _ e)
    let gob : Obj := { cls := .type "generator", data := .fields #[.int s1.gens.size 0, .str "<genexpr>" (tk + 1), .str (X.env.qual ++ "<genexpr>") (tk + 1 + 1)] }
    have keep5 : ∀ b u, b ≠ P → s1.heap.get? b = some u → (h'.push gob).get? b = some u := fun b u hb e => Heap.get?_push_of_some _ (keep4 b u (keep3 b u hb e))
    have notP : ∀ {t : Addr} {items : Array Value}, PyProof.Rows.IsTup s1.heap t items → t ≠ P := fun {t items} ⟨ob, e, hc1, n1, hd1⟩ z => by
      rw [z, hPs] at e
      cases e
      cases hd1
    have ltT : ∀ {t : Addr} {items : Array Value}, PyProof.Rows.IsTup s1.heap t items → t < s1.heap.objs.size := fun {t items} ⟨ob, e, _⟩ => Heap.lt_size e
    have tupK : ∀ {t : Addr} {items : Array Value}, PyProof.Rows.IsTup s1.heap t items → PyProof.Rows.IsTup (h'.push gob) t items := fun {t items} z => by
      have zp := notP z
      obtain ⟨ob, e, r⟩ := z
      exact ⟨ob, keep5 _ _ zp e, r⟩
    have hylP : yl ≠ P := fun z => by
      obtain ⟨_, e, hc1, _, hd1⟩ := _root_.id hIL
      rw [z, hPs] at e
      cases e
      cases hd1
    let ok : Heap → Prop := fun h => ∀ i, i < its.toArray.size → ∃ va u items x, vals i = #[va, .ref u] ∧ u < s1.heap.objs.size ∧ PyProof.Rows.IsTup h u items ∧ items[k]? = some x ∧ E i = #[va, x]
    have hh4 : X.A.in4.handled = none := hr.hd
    let cenv : Env := genEnv scope (cloFrom X.env.cells scope.names []) h3.objs.size code builtinsNs X.env
    have W₀ : ∀ A' : Around, A'.handled = none → WalksU X.prog X.w A' s1.heap.objs.size (List.range h3.objs.size) [s1.heap.objs.size] its.toArray.size (fun j v => v = vals j)
        (fun j h => h.IsListIter s1.heap.objs.size yl j ∧ h.IsList yl its.toArray ∧ ∀ k, k < its.toArray.size → h.IsTuple (Ts k) (vals k))
        (fun j T h => (j < its.toArray.size ∧ T = Ts j) ∧ h.IsListIter s1.heap.objs.size yl (j + 1) ∧ h.IsList yl its.toArray ∧ ∀ k, k < its.toArray.size → h.IsTuple (Ts k) (vals k)) := fun A' hA =>
      (WalksU.listOfTuples hA s1.heap.objs.size yl (Nat.ne_of_lt hlt) its.toArray Ts vals (fun j hj => by
        obtain ⟨t, _, _, _, _, _, _, _, _, g1, g2, _⟩ := item2 j hj
        rw [g1, g2]) fun j hj => by
        obtain ⟨t, _, _, _, _, _, _, _, _, g1, g2, g3, g4, _⟩ := item2 j hj
        rw [g2]
        exact Nat.ne_of_lt (ltT g4)).mono_fp fun b hb => by
          rcases List.mem_cons.mp hb with rfl | hb
          · exact List.mem_range.mpr C3
          · rcases List.mem_cons.mp hb with rfl | hb
            · exact List.mem_range.mpr (Nat.lt_trans hlt C3)
            · obtain ⟨j, hj, rfl⟩ := List.mem_map.mp hb
              obtain ⟨t, _, _, _, _, _, _, _, _, g1, g2, g3, g4, _⟩ := item2 j (List.mem_range.mp hj)
              rw [g2]
              exact List.mem_range.mpr (Nat.lt_trans (ltT g4) C3)
    have hEl : EltH X.prog X.w cenv xa xb (.Tuple [.Name xa p1, .Subscript (.Name xb p2) (.Constant (.int (k : Nat)) j1 p3) p4] j2 p5) vals E its.toArray.size ok :=
      elt2 (by exact S.kind) (by exact S.loca) (by exact S.locb) hda hdb hk63 fun h hok i hi va vb hv => by
        obtain ⟨va', u, items, x, g1, _, g2, g3, g4⟩ := hok i hi
        rw [g1] at hv
        have e1 : va' = va ∧ Value.ref u = vb := by simpa using hv
        exact ⟨u, items, x, e1.2.symm, g2, g3, by rw [g4, e1.1]⟩
    have hokK : ∀ h h', ok h → (∀ b ∈ List.range h3.objs.size, b ∉ [s1.heap.objs.size] → ∀ o, h.get? b = some o → h'.get? b = some o) → ok h' := fun h h' hok hk i hi => by
      obtain ⟨va', u, items, x, g1, g0, ⟨ob, g2, g2'⟩, g3, g4⟩ := hok i hi
      exact ⟨va', u, items, x, g1, g0, ⟨ob, hk u (List.mem_range.mpr (Nat.lt_trans g0 C3)) (by simpa using Nat.ne_of_lt g0) ob g2, g2'⟩, g3, g4⟩
    have hI3 : h3.IsListIter s1.heap.objs.size yl 0 := hitr.at fun u e => hx _ u (Nat.ne_of_gt hPlt) e
    have hG : GenH X.prog X.w X.A.in4 h'.objs.size s1.gens.size h3.objs.size (List.range h3.objs.size) [s1.heap.objs.size] its.toArray.size E 0 { s1 with
            gens := s1.gens.push (.fresh (.compStart (.GeneratorExp (.Tuple [.Name xa p1, .Subscript (.Name xb p2) (.Constant (.int (k : Nat)) j1 p3) p4] j2 p5) [⟨.Tuple [.Name xa pa, .Name xb pb] kt pt, iter, [], 0⟩] scope gpos) 0 (Value.ref s1.heap.objs.size) .none cenv)),
            toks := tk + 1 + 1 + 1, heap := h'.push gob } := by
      refine GenH.fresh (cenv := cenv) (m := fun y => if y = ".0" then some (.ref s1.heap.objs.size) else none) (ok := ok) hh4 W₀ (fun i hi => ?_) hab (by exact S.loca) (by exact S.locb) (by simp [cenv, genEnv, S.kind]) S.co (fun hm => Nat.lt_irrefl _ (List.mem_range.mp hm)) hEl hokK
        ⟨_, _, _, Heap.get?_push_size _ rfl, rfl, rfl, rfl⟩ (Array.getElem?_push_size ..) ⟨?_, ?_, fun j hj => ?_⟩ (hns.push _) ((lim2.extBut hx hcP).keeps fun b u e => Heap.get?_push_of_some _ (keep4 b u e)) (fun i hi => ?_)
      · obtain ⟨t, ya, u, z, va, items, x, a, b, g1, g2, g3, _⟩ := item2 i hi
        exact ⟨va, .ref u, g3⟩
      · exact hI3.at fun u e => Heap.get?_push_of_some _ (keep4 _ u e)
      · obtain ⟨ob, e, r⟩ := _root_.id hIL
        exact ⟨ob, keep5 _ _ hylP e, r⟩
      · obtain ⟨t, ya, u, z, va, items, x, a, b, g1, g2, g3, g4, _⟩ := item2 j hj
        rw [g2]
        exact tupK g4
      · obtain ⟨t, ya, u, z, va, items, x, a, b, g1, g2, g3, g4, g5, g6, g7, _⟩ := item2 i hi
        exact ⟨va, u, items, x, g3, ltT g5, tupK g5, g6, g7⟩
    have haf : h'.objs.size ∉ List.range h3.objs.size := fun hm => by have := List.mem_range.mp hm; omega
    have W := (WalkH.gen (prog := X.prog) (w := X.w) (A := X.A.in4) hh4 h'.objs.size s1.gens.size h3.objs.size (List.range h3.objs.size) [s1.heap.objs.size] its.toArray.size E (by rw [sz']; exact Nat.succ_ne_self _) haf (fun b hb => by
        have e : b = s1.heap.objs.size := by simpa using hb
        rw [e]; exact List.mem_range.mpr C3) (fun b hb => by
        have e : b = s1.heap.objs.size := by simpa using hb
        rw [e]; exact Nat.le_of_lt C3) (by have := hr.dp; show X.A.depth < recursionLimit; omega) (List.mem_range.mpr (Nat.lt_trans hcl C3)) (Nat.ne_of_lt (Nat.lt_trans hcl C3)) (by simpa using Nat.ne_of_lt hcl)).in4_3
    have hszn : its.toArray.size ≤ sizeLine := by rw [List.size_toArray, hlen]; exact szOk_le hz
    refine call_tupleH W (fun i s9 h9 => h9.1.typeIs) hG (fun b hb => ?_) List.mem_cons_self (fun s' acc hm hacc => ?_) hszn
    · show b < (h'.push gob).objs.size
      rw [sz5]
      rcases List.mem_cons.mp hb with rfl | hb
      · rw [sz']; exact Nat.lt_succ_self _
      · rcases List.mem_cons.mp hb with rfl | hb
        · exact Nat.lt_succ_of_lt (Nat.lt_succ_self _)
        · exact Nat.lt_succ_of_lt (Nat.lt_succ_of_lt (List.mem_range.mp hb))
    · obtain ⟨more, em⟩ := hmore
      have C3' : s1.heap.objs.size ≤ h3.objs.size := Nat.le_of_lt C3
      -- what stood is kept
      have nwr : ∀ b u, s1.heap.get? b = some u → b ∉ h3.objs.size :: [s1.heap.objs.size] := fun b u e hb => by
        have hl := Heap.lt_size e
        rcases List.mem_cons.mp hb with z | z
        · rw [z] at hl
          exact Nat.lt_irrefl _ (Nat.lt_trans hl C3)
        · rcases List.mem_cons.mp z with z | z
          · rw [z] at hl
            exact Nat.lt_irrefl _ hl
          · cases z
      let hf : Heap := s'.heap.push { cls := .type "tuple", data := .seq acc }
      have keepF : ∀ b u, b ≠ P → s1.heap.get? b = some u → hf.get? b = some u := fun b u hb e => Heap.get?_push_of_some _ (hm.heap b u (nwr b u e) (keep5 b u hb e))
      have keepP : hf.get? P = some { cls := .none, data := .fields (ps ++ more) } := by
        rw [← em]
        exact Heap.get?_push_of_some _ (hm.heap P _ (nwr P _ hPs) (Heap.get?_push_of_some _ (keep4 P _ hP3)))
      have sizeF : s1.heap.objs.size ≤ s'.heap.objs.size := by
        have e : s'.heap.get? h3.objs.size = s'.heap.get? h3.objs.size := rfl
        have q := hm.heap h'.objs.size _ (fun z => by
          rcases List.mem_cons.mp z with z | z
          · rw [sz'] at z; exact Nat.succ_ne_self _ z
          · have z2 : h'.objs.size = s1.heap.objs.size := by simpa using z
            rw [sz'] at z2
            have : h3.objs.size < s1.heap.objs.size := by rw [← z2]; exact Nat.lt_succ_self _
            exact Nat.lt_irrefl _ (Nat.lt_trans this C3)) (Heap.get?_push_size h' rfl)
        have q2 := Heap.lt_size q
        have q3 : h3.objs.size < h'.objs.size := by rw [sz']; exact Nat.lt_succ_self _
        exact Nat.le_of_lt (Nat.lt_trans C3 (Nat.lt_trans q3 q2))
      -- the items, where they stand
      let bj : Nat → Addr := fun j => addrOf (acc.getD j .none)
      have hacc2 : ∀ j, j < its.toArray.size → acc[j]? = some (.ref (bj j)) ∧ s1.heap.objs.size ≤ bj j ∧ bj j < s'.heap.objs.size ∧ ∃ o n, s'.heap.get? (bj j) = some o ∧ o.cls = .type "tuple" ∧ o.data = .seq (E j) n := by
        intro j hj
        have hj2 : j < acc.size := by rw [hacc.1]; exact hj
        obtain ⟨b, o, n, g1, g2, g3, g4, g5⟩ := hacc.2 j acc[j] (Array.getElem?_eq_getElem hj2)
        have e : bj j = b := by
          show addrOf (acc.getD j .none) = b
          rw [Array.getD_eq_getD_getElem?, Array.getElem?_eq_getElem hj2, g1]
          rfl
        rw [e]
        exact ⟨by rw [Array.getElem?_eq_getElem hj2, g1], Nat.le_of_lt (Nat.lt_trans C3 g2), Heap.lt_size g3, o, n, g3, g4, g5⟩
      let VT : List V := (List.range its.toArray.size).map fun j => V.ref (bj j)
      let N : Addr → Option (List V) := fun b => if b = s'.heap.objs.size then some VT else ((List.range its.toArray.size).find? fun j => decide (bj j = b)).map Y
      have valsY : ∀ j, j < its.toArray.size → Vals (Y j) (E j).toList := fun j hj => by
        obtain ⟨t, ya, u, z, va, items, x, a, b, g1, g2, g3, g4, g5, g6, g7, g8, g9, g10, _⟩ := item2 j hj
        rw [g7, g8]
        exact .cons g9 (.cons g10 .nil)
      have valsT : Vals VT acc.toList := by
        refine vals_of_at (by simp [VT, hacc.1]) fun j x u e1 e2 => ?_
        have hj : j < its.toArray.size := by
          have := (List.getElem?_eq_some_iff.mp e1).1
          simpa [VT] using this
        obtain ⟨g1, _⟩ := hacc2 j hj
        rw [Array.getElem?_toList, g1] at e2
        cases e2
        have e3 : VT[j]? = some (V.ref (bj j)) := by
          show ((List.range its.toArray.size).map fun j => V.ref (bj j))[j]? = _
          rw [List.getElem?_map, List.getElem?_range hj]; rfl
        rw [e3] at e1
        cases e1
        exact rfl
      have found : ∀ j, j < its.toArray.size → N (bj j) = some (Y j) := fun j hj => by
        obtain ⟨_, _, g2, o, n, g3, _, g4⟩ := hacc2 j hj
        show (if bj j = s'.heap.objs.size then some VT else _) = _
        rw [if_neg (Nat.ne_of_lt g2)]
        cases hfd : (List.range its.toArray.size).find? fun i => decide (bj i = bj j) with
        | none =>
          have := List.find?_eq_none.mp hfd j (List.mem_range.mpr hj)
          simp at this
        | some i =>
          have hi : bj i = bj j := by have := List.find?_some hfd; simpa using this
          have hi2 : i < its.toArray.size := List.mem_range.mp (List.mem_of_find?_eq_some hfd)
          obtain ⟨_, _, _, o', n', g3', _, g4'⟩ := hacc2 i hi2
          rw [hi, g3] at g3'
          cases g3'
          rw [g4] at g4'
          injection g4' with e1 _
          have v1 := valsY i hi2
          rw [← e1] at v1
          show some (Y i) = some (Y j)
          rw [v1.inj (valsY j hj)]
      have hNat : ∀ b xs, N b = some xs → s1.heap.objs.size ≤ b ∧ xs.length ≤ sizeLine ∧ ∃ (its : List Value) (o : Obj) (n : Nat), Vals xs its ∧ hf.get? b = some o ∧ o.cls = .type "tuple" ∧ o.data = .seq its.toArray n := by
        intro b xs e
        by_cases z : b = s'.heap.objs.size
        · subst z
          have e2 : some VT = some xs := by rw [← e]; exact (if_pos rfl).symm
          cases e2
          exact ⟨sizeF, by simpa [VT] using hszn, acc.toList, _, 0, valsT, Heap.get?_push_size _ rfl, rfl, by simp⟩
        · have e2 : ((List.range its.toArray.size).find? fun j => decide (bj j = b)).map Y = some xs := by rw [← e]; exact (if_neg z).symm
          rw [Option.map_eq_some_iff] at e2
          obtain ⟨i, hfd, rfl⟩ := e2
          have hi : bj i = b := by have := List.find?_some hfd; simpa using this
          have hi2 : i < its.toArray.size := List.mem_range.mp (List.mem_of_find?_eq_some hfd)
          obtain ⟨_, g1, g2, o, n, g3, g4, g5⟩ := hacc2 i hi2
          rw [hi] at g1 g3
          exact ⟨g1, by show 2 ≤ sizeLine; decide, (E i).toList, o, n, valsY i hi2, Heap.get?_push_of_some _ g3, g4, by simpa using g5⟩
      have bare5 : AllBare (s1.gens.push (.fresh (.compStart (.GeneratorExp (.Tuple [.Name xa p1, .Subscript (.Name xb p2) (.Constant (.int (k : Nat)) j1 p3) p4] j2 p5) [⟨.Tuple [.Name xa pa, .Name xb pb] kt pt, iter, [], 0⟩] scope gpos) 0 (Value.ref s1.heap.objs.size) .none cenv))) := I1.bare.push rfl
      have J := inv_gx (more := more) (h' := hf) (g' := s'.gens) (d' := s'.drawn) (t' := s'.toks) I1 hP hNat keepF keepP (AllBare.movedS bare5 hm)
      have J2 : Inv X pins σ (gxH H1 P (ps ++ more) N) { s' with heap := hf } := by
        have os : s'.os = s1.os := hm.os
        have e : ({ s1 with heap := hf, gens := s'.gens, drawn := s'.drawn, toks := s'.toks } : Shared) = { s' with heap := hf } := by
          rw [← os]
        rw [← e]
        exact J
      obtain ⟨R2, x2⟩ := R1.gx (tb := ps ++ more) (N := N) hPT hP htb (by rw [← em]; exact ht3) fun b xs e => I1.hok.fresh (hNat b xs e).1
      refine ⟨.ref s'.heap.objs.size, _, J2, rfl, q _ _ _ R2 (x1.trans x2.less) ⟨s'.heap.objs.size, VT, rfl, ?_, Reps.of_get ?_ fun j y hy => ?_⟩⟩
      · have : N s'.heap.objs.size = some VT := if_pos rfl
        unfold gxF
        rw [this]
      · simp [VT, hlen, gl.1]
      · have hj : j < its.toArray.size := by
          have := (List.getElem?_eq_some_iff.mp hy).1
          rw [gl.1, ← hlen] at this
          simpa using this
        obtain ⟨t, ya, u, z, va, items, x, a, b, g1, g2, g3, g4, g5, g6, g7, g8, g9, g10, g11, g12, g13⟩ := item2 j hj
        rw [g11] at hy
        cases hy
        refine ⟨V.ref (bj j), ?_, bj j, Y j, rfl, ?_, ?_⟩
        · show ((List.range its.toArray.size).map fun j => V.ref (bj j))[j]? = _
          rw [List.getElem?_map, List.getElem?_range hj]; rfl
        · have := found j hj
          unfold gxF
          rw [this]
        · rw [g8]
          exact .cons (g12.mono' x2.rdx) (.cons (g13.mono' x2.rdx) .nil)
  cases hf : codeAmong gpos ps.toList with
  | none =>
    refine wpAny_genexprCodeX hcode (cd.code hP2 htb) (cd.tab hP2) hf fun c' h' tk hx hge hlt hco' _ htab' _ => ?_
    obtain ⟨o1, vs, f1, tf, fl, tg, inF, tx, tt, op, _, _, _, _, _, _, _, _, _, htr, _⟩ := hco'
    exact cont _ h' tk _ hx (Nat.le_trans hge (Nat.le_of_lt hlt)) htab'.2 ⟨_, rfl⟩ htr
  | some cv =>
    refine wpAny_genexprCode_hit hcode (cd.code hP2 htb) hf ?_
    exact cont cv (s1.heap.push o) s1.toks ps (Heap.ExtBut.refl _ _) (Nat.le_refl _) hP2 ⟨#[], by simp⟩ htb
end
end Rl
end

set_option Elab.async false
set_option linter.all false
set_option maxRecDepth 100000
set_option autoImplicit false
set_option maxHeartbeats 1000000
/-! Rl, part 13: the end of a law row. -/
namespace Rl
open PySem PySem.Spec PyProof.Rows L2

/-- what the law's def must answer -/
def LawTrue (f : Fn) (n : Nat) : Prop := ∀ ns : List Int, ns.length ≤ n → (∀ z ∈ ns, Builtin.Int.intBits z ≤ 1048576) → ∃ outs, f [.val (.scr (ns.map .int))] = some (.val (.bl true), outs)
def noTb (H : Hp) : Hp := fun b => match H b with
  | some (.tbl _) => none
  | o => o
theorem noTb_some {H : Hp} {b : Addr} {u : HO} (h : noTb H b = some u) : H b = some u := by
  unfold noTb at h
  split at h
  · cases h
  · exact h
theorem noTb_of {H : Hp} {b : Addr} {u : HO} (h : H b = some u) (hu : ∀ ps, u ≠ .tbl ps) : noTb H b = some u := by
  unfold noTb
  rw [h]
  cases u <;> first | rfl | exact absurd rfl (hu _)
theorem reps_of_ints {K : PySem.W.Frag} {F : Hp} : ∀ ns : List Int, Reps K F (ns.map .int) (ns.map V.int)
  | [] => rfl
  | n :: r => .cons rfl (reps_of_ints r)
theorem sp_law {K : PySem.W.Frag} {f : Fn} {n : Nat} (h : LawTrue f n) (Ps : List Addr) {H : Hp} {a : Addr} {ns : List Int} (hl : ns.length ≤ n) (hb : ∀ z ∈ ns, Builtin.Int.intBits z ≤ 1048576) (hH : ∀ P ∈ Ps, H P = some (.tbl #[])) (hS : SqL K H a (ns.map V.int)) {E : XK} :
    @spF ⟨Ps⟩ K f [.ref a] H (fun v _ => v = .bl true) E := by
  obtain ⟨outs, hf⟩ := h ns hl hb
  refine ⟨noTb H, [.val (.scr (ns.map .int))], [[]], _, outs, ⟨rfl, rfl, fun i s v As e1 e2 e3 => ?_⟩, ⟨fun b u e => .inl (noTb_some e), fun P hP => ⟨⟨_, hH P hP, (show TriplesOk [] from trivial)⟩, ?_⟩⟩, fun i j As Bs b e1 e2 e3 => ?_, fun b ⟨i, As, e, z⟩ => ?_, hf, fun v F' H' post => post.res⟩
  · cases i with
    | succ i => simp at e1
    | zero =>
      simp at e1 e2 e3
      subst e1 e2 e3
      refine ⟨rfl, _, rfl, a, ns.map V.int, rfl, ?_, reps_of_ints ns⟩
      rcases hS with (q | ⟨o, q⟩) | q
      · exact .inl (.inl (noTb_of q fun _ z => nomatch z))
      · exact .inl (.inr ⟨o, noTb_of q fun _ z => nomatch z⟩)
      · exact .inr q
  · show (match H P with | some (.tbl _) => none | o => o) = none
    rw [hH P hP]
  · cases i with
    | zero => simp at e1; subst e1; cases e3
    | succ i => simp at e1
  · cases i with
    | zero => simp at e; subst e; cases z
    | succ i => simp at e
/-- the end of a law row; cs: the defs with a generator expression -/
theorem walk_rl {l : PySem.W.OpenLaw} {n k : Nat} {q : Program} {loose : List Str} {XP : (Str → Option Value) → Heap → Prop} {YP : World → Heap → Prop} {d : DefRec} {K : Params → PySem.W.Frag} {f : Fn} (nms : List Str)
    (hn : l.most = some n) (hn2 : n ≤ sizeLine) (hdf : d.params.defaults = []) (hr : Room k callerA) (hrec : (nms.all fun nm => ((recsOf q).find? fun e => e.name == nm).isSome) = true) (hY : ∀ (w : World) (h : Heap), YP w h → (K w.params).In h) (hf : LawTrue f n)
    (F : ∀ (w : World) (mg : Str → Option Value) (fa : Addr) (h : Heap), (K w.params).In h → h.Ns mainGlobals mg → mg d.name = some (.ref fa) →
      ∃ (fd : FuncData) (cs : List (Addr × Addr)), (∀ (s : Shared) (u : Value), BindsTo s fd ⟨[u], []⟩ [("script", u)]) ∧ (∀ p ∈ cs, ∃ nm ∈ nms, PySem.W.tabIn (K w.params) nm = some p) ∧ (∀ p ∈ cs, (K w.params).lookup p.2 = none) ∧
        ∀ base : Heap, (K w.params).In base → base.Ns mainGlobals mg → (∀ p ∈ cs, GxR.TabB base mg p.1 p.2) → FnOk l.prog w (K w.params) mg base CX0 k fa fd ["script"] (@spF ⟨cs.map (·.2)⟩ (K w.params) f)) :
    PySem.W.WalkO q loose XP YP l.row.toRowW d [] (fun f vs => PySem.call f vs) := by
  refine Att.attach_callB hn hdf fun w s₀ s₁ mg mb fa o pm cd doc a vs ns G Y ho hd hcd hmg hobj hints hlen hbits hg => ?_
  have KX := hY w _ Y
  obtain ⟨fd, cs, hb, ht, nT, hF⟩ := F w mg fa _ KX G.T.g hmg
  have tab : ∀ p ∈ cs, PySem.W.CodeHd s₁.heap p.1 p.2 ∧ s₁.heap.get? p.2 = some { cls := .none, data := .fields #[] } := fun p hp => by
    obtain ⟨nm, hnm, e⟩ := ht p hp
    obtain ⟨dd, hdd⟩ := Option.isSome_iff_exists.mp (List.all_eq_true.mp hrec nm hnm)
    exact PySem.W.tab_of G.T KX hdd e
  exact LamX.law_callTs KX G.T.g G.T.b G.T.builtins G.T.nolimit hg (fun p hp => (tab p hp).2) nT (fun p hp => (tab p hp).1) G.T.bmain hobj hints (Nat.le_trans hlen hn2) hr (fun base h1 h2 h3 => hF base h1 h2 fun p hp => ⟨(h3 p hp).code, (h3 p hp).bm, (h3 p hp).gP⟩) hb
    (fun H hH hS => sp_law hf _ hlen hbits (fun P hP => by
      obtain ⟨p, hp, rfl⟩ := List.mem_map.mp hP
      exact hH p hp) hS) fun H e s' h => h
theorem tab_mk {K : PySem.W.Frag} {x : Str} {f c P : Addr} {oc e : Value} {od dd : Option Addr} {osl sl : Array (Option Value)} {fd : FuncData} {vs : Array Value} (a : PySem.W.nsIn K mainGlobals x = some (some (.ref f))) (l : K.lookup f = some ⟨oc, od, .func fd, osl⟩) (hc : fd.code = .ref c)
    (lc : K.lookup c = some ⟨e, dd, .fields vs, sl⟩) (lv : (vs[11]? : Option Value) = some (.ref P)) : PySem.W.tabIn K x = some (c, P) := by
  unfold PySem.W.tabIn
  simp only [a, l, hc, lc, lv]
end Rl

set_option linter.all false
set_option maxRecDepth 100000
set_option autoImplicit false
/-! Rl, mathematics, part 1: how mirrors run, step by step (printed by mkev.py; the state is a written list). -/
noncomputable section
namespace Rl
open PySem PySem.Spec PyProof.Rows L2
theorem c_sSeq (m n : MS) (s : Sl) (r : List Sl) : sSeq m n (s :: r) = (m (s :: r)).bind fun p => match p.1 with | .nx => n p.2 | f => some (f, p.2) := Eq.trans rfl rfl
theorem c_sIf (c : MT) (m n : MS) (s : Sl) (r : List Sl) : sIf c m n (s :: r) = (c (s :: r)).bind fun p => if p.1 then m p.2 else n p.2 := Eq.trans rfl rfl
theorem c_sDrop (m : ME) (s : Sl) (r : List Sl) : sDrop m (s :: r) = (m (s :: r)).bind fun p => some (.nx, p.2) := Eq.trans rfl rfl
theorem c_sRet (m : ME) (s : Sl) (r : List Sl) : sRet m (s :: r) = (m (s :: r)).bind fun p => some (.rt (.val p.1), p.2) := Eq.trans rfl rfl
theorem c_sRetN (m : MN) (s : Sl) (r : List Sl) : sRetN m (s :: r) = (m (s :: r)).bind fun p => some (.rt p.1, p.2) := Eq.trans rfl rfl
theorem c_sRet0  (s : Sl) (r : List Sl) : sRet0 (s :: r) = some (.rt (.val .non), (s :: r)) := Eq.trans rfl rfl
theorem c_sRetV (i : Nat) (s : Sl) (r : List Sl) : sRetV i (s :: r) = match ((s :: r))[i]? with | some (.lst ds) => some (.rt (.lst ds), ((s :: r)).set i .un) | some (.dic t ks vs) => some (.rt (.dic t ks vs), ((s :: r)).set i .un) | _ => none := Eq.trans rfl rfl
theorem c_sFrz (i : Nat) (m : MS) (s : Sl) (r : List Sl) : sFrz i m (s :: r) = (frzE (s :: r) i).bind m := Eq.trans rfl rfl
theorem c_sSet (i : Nat) (m : ME) (s : Sl) (r : List Sl) : sSet i m (s :: r) = (m (s :: r)).bind fun p => if plainAt p.2 i then some (.nx, p.2.set i (.val p.1)) else none := Eq.trans rfl rfl
theorem c_sSetL (i : Nat) (m : ME) (s : Sl) (r : List Sl) : sSetL i m (s :: r) = (m (s :: r)).bind fun p => some (.nx, p.2.set i (.val p.1)) := Eq.trans rfl rfl
theorem c_sSetN (i : Nat) (m : MN) (s : Sl) (r : List Sl) : sSetN i m (s :: r) = (m (s :: r)).bind fun p => some (.nx, p.2.set i p.1) := Eq.trans rfl rfl
theorem c_sPar (is : List Nat) (g : MG) (s : Sl) (r : List Sl) : sPar is g (s :: r) = (g (s :: r)).bind fun p => (setsG is p.1 p.2).bind fun ε1 => some (.nx, ε1) := Eq.trans rfl rfl
theorem c_sAsg (t : Tg) (m : ME) (s : Sl) (r : List Sl) : sAsg t m (s :: r) = (m (s :: r)).bind fun p => (t.bind p.1 p.2).bind fun ε1 => some (.nx, ε1) := Eq.trans rfl rfl
theorem c_sFor (i : MI) (t : Tg) (b : MS) (s : Sl) (r : List Sl) : sFor i t b (s :: r) = (i (s :: r)).bind fun p => forL t b p.1 p.2 := Eq.trans rfl rfl
theorem c_sPut (i : Nat) (a b : ME) (s : Sl) (r : List Sl) : sPut i a b (s :: r) = match ((s :: r))[i]? with | some (.lst _) => sPutL i a b (s :: r) | some (.dic _ _ _) => sPutD i a b (s :: r) | _ => none := Eq.trans rfl rfl
theorem c_sPutL (i : Nat) (mi mv : ME) (s : Sl) (r : List Sl) : sPutL i mi mv (s :: r) = (mv (s :: r)).bind fun p => (lstOf p.2 i).bind fun _ => (mi p.2).bind fun q => match q.1 with | .int k => (lstOf q.2 i).bind fun ds => (ixN ds.length k).bind fun j => some (.nx, q.2.set i (.lst (ds.set j p.1))) | _ => none := Eq.trans rfl rfl
theorem c_sPutD (i : Nat) (mk mv : ME) (s : Sl) (r : List Sl) : sPutD i mk mv (s :: r) = (mv (s :: r)).bind fun p => (dicOf p.2 i).bind fun _ => (mk p.2).bind fun q => (dicOf q.2 i).bind fun x => if isKey x.1 q.1 && szLt x.2.1.length then some (.nx, q.2.set i (.dic x.1 (putKs x.2.1 q.1) (putVs x.2.1 x.2.2 q.1 p.1))) else none := Eq.trans rfl rfl
theorem c_sSdApp (i : Nat) (mk mv : ME) (s : Sl) (r : List Sl) : sSdApp i mk mv (s :: r) = (sdOf (s :: r) i).bind fun _ => (mk (s :: r)).bind fun p => (sdOf p.2 i).bind fun s => if isKey false p.1 && szLt s.1.length then (idxD (putKs s.1 p.1) p.1).bind fun j => (mv (p.2.set i (.dl (putKs s.1 p.1) (addVss s.1 s.2 p.1)))).bind fun q => (sdOf q.2 i).bind fun s2 => (s2.2[j]?).bind fun ds => if szLt ds.length then some (.nx, q.2.set i (.dl s2.1 (s2.2.set j (ds ++ [q.1])))) else none else none := Eq.trans rfl rfl
theorem c_sNx  (s : Sl) (r : List Sl) : sNx (s :: r) = some (.nx, (s :: r)) := Eq.trans rfl rfl
theorem c_sBk  (s : Sl) (r : List Sl) : sBk (s :: r) = some (.bk, (s :: r)) := Eq.trans rfl rfl
theorem c_sCt  (s : Sl) (r : List Sl) : sCt (s :: r) = some (.ct, (s :: r)) := Eq.trans rfl rfl
theorem c_eFr (m : MN) (s : Sl) (r : List Sl) : eFr m (s :: r) = (m (s :: r)).bind fun p => (p.1.toD).bind fun d => some (d, p.2) := Eq.trans rfl rfl
theorem c_vE (m : ME) (s : Sl) (r : List Sl) : vE m (s :: r) = (m (s :: r)).bind fun p => some (.d p.1, p.2) := Eq.trans rfl rfl
theorem c_eC (d : D) (s : Sl) (r : List Sl) : eC d (s :: r) = some (d, (s :: r)) := Eq.trans rfl rfl
theorem c_eVar (i : Nat) (s : Sl) (r : List Sl) : eVar i (s :: r) = match ((s :: r))[i]? with | some (.val d) => some (d, (s :: r)) | _ => none := Eq.trans rfl rfl
theorem c_vVar (i : Nat) (s : Sl) (r : List Sl) : vVar i (s :: r) = match ((s :: r))[i]? with | some (.val d) => some (.d d, (s :: r)) | some (.lst _) => some (.sl i, (s :: r)) | some (.dic _ _ _) => some (.sl i, (s :: r)) | _ => none := Eq.trans rfl rfl
theorem c_aNil  (s : Sl) (r : List Sl) : aNil (s :: r) = some ([], (s :: r)) := Eq.trans rfl rfl
theorem c_aCons (m : ME) (q : MA) (s : Sl) (r : List Sl) : aCons m q (s :: r) = (m (s :: r)).bind fun p => (q p.2).bind fun z => some (p.1 :: z.1, z.2) := Eq.trans rfl rfl
theorem c_eTup (m : MA) (s : Sl) (r : List Sl) : eTup m (s :: r) = (m (s :: r)).bind fun p => if szOk p.1.length then some (.tup p.1, p.2) else none := Eq.trans rfl rfl
theorem c_nLst (m : MA) (s : Sl) (r : List Sl) : nLst m (s :: r) = (m (s :: r)).bind fun p => if szOk p.1.length then some (.lst p.1, p.2) else none := Eq.trans rfl rfl
theorem c_eOp (g : D → D → Option D) (a b : MV) (s : Sl) (r : List Sl) : eOp g a b (s :: r) = (a (s :: r)).bind fun p => (b p.2).bind fun q => (p.1.get q.2).bind fun x => (q.1.get q.2).bind fun y => (g x y).bind fun d => some (d, q.2) := Eq.trans rfl rfl
theorem c_eUn (g : D → Option D) (a : MV) (s : Sl) (r : List Sl) : eUn g a (s :: r) = (a (s :: r)).bind fun p => (p.1.get p.2).bind fun x => (g x).bind fun d => some (d, p.2) := Eq.trans rfl rfl
theorem c_nUn (g : D → Option (List D)) (a : MV) (s : Sl) (r : List Sl) : nUn g a (s :: r) = (a (s :: r)).bind fun p => (p.1.get p.2).bind fun x => (g x).bind fun ds => some (.lst ds, p.2) := Eq.trans rfl rfl
theorem c_nCat (a b : MV) (s : Sl) (r : List Sl) : nCat a b (s :: r) = (a (s :: r)).bind fun p => (b p.2).bind fun q => (p.1.get q.2).bind fun x => (q.1.get q.2).bind fun y => (catD x y).bind fun ds => some (.lst ds, q.2) := Eq.trans rfl rfl
theorem c_nDic (t : Bool) (s : Sl) (r : List Sl) : nDic t (s :: r) = some (.dic t [] [], (s :: r)) := Eq.trans rfl rfl
theorem c_nLc (vs : List Nat) (i : MI) (t : Tg) (c : MT) (e : ME) (s : Sl) (r : List Sl) : nLc vs i t c e (s :: r) = (i (s :: r)).bind fun p => if vs.all (plainAt p.2) then (lcL vs t c e p.1 p.2).bind fun r => if szOk r.1.length then some (.lst r.1, backE vs p.2 r.2) else none else none := Eq.trans rfl rfl
theorem c_tOf (m : ME) (s : Sl) (r : List Sl) : tOf m (s :: r) = (m (s :: r)).bind fun p => match p.1 with | .bl b => some (b, p.2) | _ => none := Eq.trans rfl rfl
theorem c_tTru (m : MV) (s : Sl) (r : List Sl) : tTru m (s :: r) = (m (s :: r)).bind fun p => (p.1.get p.2).bind fun x => (truD x).bind fun b => some (b, p.2) := Eq.trans rfl rfl
theorem c_tNot (m : MT) (s : Sl) (r : List Sl) : tNot m (s :: r) = (m (s :: r)).bind fun p => some (!p.1, p.2) := Eq.trans rfl rfl
theorem c_tAnd (m n : MT) (s : Sl) (r : List Sl) : Rl.tAnd m n (s :: r) = (m (s :: r)).bind fun p => if p.1 then n p.2 else some (false, p.2) := Eq.trans rfl rfl
theorem c_tOr (m n : MT) (s : Sl) (r : List Sl) : Rl.tOr m n (s :: r) = (m (s :: r)).bind fun p => if p.1 then some (true, p.2) else n p.2 := Eq.trans rfl rfl
theorem c_eIf (c : MT) (a b : ME) (s : Sl) (r : List Sl) : eIf c a b (s :: r) = (c (s :: r)).bind fun p => if p.1 then a p.2 else b p.2 := Eq.trans rfl rfl
theorem c_nIf (c : MT) (a b : MN) (s : Sl) (r : List Sl) : nIf c a b (s :: r) = (c (s :: r)).bind fun p => if p.1 then a p.2 else b p.2 := Eq.trans rfl rfl
theorem c_eAnd (a b : ME) (s : Sl) (r : List Sl) : eAnd a b (s :: r) = (a (s :: r)).bind fun p => (truD p.1).bind fun k => if k then b p.2 else some p := Eq.trans rfl rfl
theorem c_eOr (a b : ME) (s : Sl) (r : List Sl) : eOr a b (s :: r) = (a (s :: r)).bind fun p => (truD p.1).bind fun k => if k then some p else b p.2 := Eq.trans rfl rfl
theorem c_eNot (m : MV) (s : Sl) (r : List Sl) : eNot m (s :: r) = (m (s :: r)).bind fun p => (p.1.get p.2).bind fun x => (truD x).bind fun b => some (.bl (!b), p.2) := Eq.trans rfl rfl
theorem c_tYes  (s : Sl) (r : List Sl) : tYes' (s :: r) = some (true, (s :: r)) := Eq.trans rfl rfl
theorem c_eApp (i : Nat) (m : ME) (s : Sl) (r : List Sl) : eApp i m (s :: r) = (lstOf (s :: r) i).bind fun _ => (m (s :: r)).bind fun p => (lstOf p.2 i).bind fun ds => if szLt ds.length then some (.non, p.2.set i (.lst (ds ++ [p.1]))) else none := Eq.trans rfl rfl
theorem c_ePop (i : Nat) (s : Sl) (r : List Sl) : ePop i (s :: r) = (lstOf (s :: r) i).bind fun ds => (ds[ds.length - 1]?).bind fun d => some (d, ((s :: r)).set i (.lst ds.dropLast)) := Eq.trans rfl rfl
theorem c_ePopAt (i : Nat) (m : ME) (s : Sl) (r : List Sl) : ePopAt i m (s :: r) = (lstOf (s :: r) i).bind fun _ => (m (s :: r)).bind fun p => match p.1 with | .int k => (lstOf p.2 i).bind fun ds => if ix63 k then (seqIndex? k ds.length).bind fun j => (ds[j]?).bind fun d => some (d, p.2.set i (.lst (ds.eraseIdx j))) else none | _ => none := Eq.trans rfl rfl
theorem c_eGet (md : MV) (mk mx : ME) (s : Sl) (r : List Sl) : eGet md mk mx (s :: r) = (md (s :: r)).bind fun p => (p.1.get p.2).bind fun d0 => if isDicD d0 then (mk p.2).bind fun k => (mx k.2).bind fun x => (p.1.get x.2).bind fun d => (getD2 d k.1 x.1).bind fun r => some (r, x.2) else none := Eq.trans rfl rfl
theorem c_eSl (m : MV) (lo hi : MO) (s : Sl) (r : List Sl) : eSl m lo hi (s :: r) = (m (s :: r)).bind fun p => (lo p.2).bind fun l => (hi l.2).bind fun h => (p.1.get h.2).bind fun x => (slD x l.1 h.1).bind fun d => some (d, h.2) := Eq.trans rfl rfl
theorem c_oNo  (s : Sl) (r : List Sl) : oNo (s :: r) = some (none, (s :: r)) := Eq.trans rfl rfl
theorem c_oAt (m : ME) (s : Sl) (r : List Sl) : oAt m (s :: r) = (m (s :: r)).bind fun p => match p.1 with | .int i => some (some i, p.2) | _ => none := Eq.trans rfl rfl
theorem c_eCall (f : Fn) (g : MG) (s : Sl) (r : List Sl) : eCall f g (s :: r) = (runCall f g (s :: r)).bind valR := Eq.trans rfl rfl
theorem c_nCall (f : Fn) (g : MG) (s : Sl) (r : List Sl) : nCall f g (s :: r) = (runCall f g (s :: r)).bind ownR := Eq.trans rfl rfl
theorem c_eCallK (f : Fn) (ix : List Nat) (g : MG) (s : Sl) (r : List Sl) : eCallK f ix g (s :: r) = (runCallK f ix g (s :: r)).bind valR := Eq.trans rfl rfl
theorem c_runCall (f : Fn) (g : MG) (s : Sl) (r : List Sl) : runCall f g (s :: r) = (g (s :: r)).bind fun p => runGs f p.1 p.2 := Eq.trans rfl rfl
theorem c_runCallK (f : Fn) (ix : List Nat) (g : MG) (s : Sl) (r : List Sl) : runCallK f ix g (s :: r) = (g (s :: r)).bind fun p => if decide (ix.length = p.1.length) && decide (nwsOf (pick ix p.1) ≤ 1) then runGs f (pick ix p.1) p.2 else none := Eq.trans rfl rfl
theorem c_gNil  (s : Sl) (r : List Sl) : gNil (s :: r) = some ([], (s :: r)) := Eq.trans rfl rfl
theorem c_gCons (m : ME) (q : MG) (s : Sl) (r : List Sl) : gCons m q (s :: r) = (m (s :: r)).bind fun p => (q p.2).bind fun z => some (.e p.1 :: z.1, z.2) := Eq.trans rfl rfl
theorem c_gOwn (i : Nat) (q : MG) (s : Sl) (r : List Sl) : gOwn i q (s :: r) = if isOwn (s :: r) i then (q (s :: r)).bind fun z => some (.own i :: z.1, z.2) else none := Eq.trans rfl rfl
theorem c_gNwc (m : MN) (q : MG) (s : Sl) (r : List Sl) : gNwc m q (s :: r) = (m (s :: r)).bind fun p => (q p.2).bind fun z => some (.nw p.1 :: z.1, z.2) := Eq.trans rfl rfl
theorem c_iAny (m : ME) (s : Sl) (r : List Sl) : iAny m (s :: r) = (m (s :: r)).bind fun p => (itsD p.1).bind fun ds => some (ds, p.2) := Eq.trans rfl rfl
theorem c_iRange1 (m : ME) (s : Sl) (r : List Sl) : iRange1 m (s :: r) = (m (s :: r)).bind fun p => match p.1 with | .int j => if rngOk j then some (rngD 0 j, p.2) else none | _ => none := Eq.trans rfl rfl
theorem c_iRange2 (m n : ME) (s : Sl) (r : List Sl) : iRange2 m n (s :: r) = (m (s :: r)).bind fun p => (n p.2).bind fun q => match p.1, q.1 with | .int i, .int j => if rngOk i && rngOk j then some (rngD i j, q.2) else none | _, _ => none := Eq.trans rfl rfl
theorem c_eTupGx (m : ME) (k : Nat) (s : Sl) (r : List Sl) : eTupGx m k (s :: r) = (m (s :: r)).bind fun p => match p.1 with | .lst ds => if szOk ds.length then (gxL k ds).bind fun ys => some (.tup ys, p.2) else none | _ => none := Eq.trans rfl rfl
/-- may a loop's name stand in this slot -/
def plB : Sl → Bool
  | .un => true
  | .val _ => true
  | _ => false
theorem plainAt_b (ε : List Sl) (i : Nat) : plainAt ε i = (ε[i]?).any plB := by
  unfold plainAt
  cases h : ε[i]? with
  | none => rfl
  | some s => cases s <;> rfl
theorem plB_un : plB .un = true := rfl
theorem plB_val (d : D) : plB (.val d) = true := rfl
/-- a call whose arguments are values alone changes nothing here -/
theorem back_e1 (a : D) (o ε : List Sl) : backArgs [.e a] o ε = ε := by cases o <;> rfl
theorem back_e2 (a b : D) (o ε : List Sl) : backArgs [.e a, .e b] o ε = ε := by rcases o with _ | ⟨_, o⟩; rfl; exact back_e1 b o ε
theorem back_e3 (a b c : D) (o ε : List Sl) : backArgs [.e a, .e b, .e c] o ε = ε := by rcases o with _ | ⟨_, o⟩; rfl; exact back_e2 b c o ε
theorem back_e4 (a b c d : D) (o ε : List Sl) : backArgs [.e a, .e b, .e c, .e d] o ε = ε := by rcases o with _ | ⟨_, o⟩; rfl; exact back_e3 b c d o ε
theorem back_e5 (a b c d e : D) (o ε : List Sl) : backArgs [.e a, .e b, .e c, .e d, .e e] o ε = ε := by rcases o with _ | ⟨_, o⟩; rfl; exact back_e4 b c d e o ε
theorem pick_nil {α : Type} (xs : List α) : pick [] xs = [] := rfl
theorem pick_cons {α : Type} (i : Nat) (is : List Nat) (xs : List α) : pick (i :: is) xs = match xs[i]? with | some a => a :: pick is xs | none => pick is xs := by
  unfold pick
  rw [List.filterMap_cons]
  cases xs[i]? <;> rfl
theorem ixD_lst (ds : List D) (i : Int) : ixD (.lst ds) (.int i) = atI ds i := rfl
theorem ixD_tup (ds : List D) (i : Int) : ixD (.tup ds) (.int i) = atI ds i := rfl
theorem ixD_scr (ds : List D) (i : Int) : ixD (.scr ds) (.int i) = atI ds i := rfl
theorem ixD_str (s : List Nat) (i : Int) : ixD (.str s) (.int i) = if szOk s.length then (atI s i).map fun c => .str [c] else none := rfl
theorem ixD_dic (t : Bool) (ks vs : List D) (k : D) : ixD (.dic t ks vs) k = if isKey t k then lookD ks vs k else none := by cases t <;> cases k <;> rfl
theorem lenD_lst (ds : List D) : lenD (.lst ds) = some (.int ds.length) := rfl
theorem lenD_tup (ds : List D) : lenD (.tup ds) = some (.int ds.length) := rfl
theorem lenD_scr (ds : List D) : lenD (.scr ds) = some (.int ds.length) := rfl
theorem lenD_str (s : List Nat) : lenD (.str s) = if szOk s.length then some (.int s.length) else none := rfl
theorem lenD_dic (ks vs : List D) : lenD (.dic false ks vs) = some (.int ks.length) := rfl
theorem itsD_lst (ds : List D) : itsD (.lst ds) = some ds := rfl
theorem itsD_tup (ds : List D) : itsD (.tup ds) = some ds := rfl
theorem itsD_str (s : List Nat) : itsD (.str s) = some (s.map fun c => .str [c]) := rfl
theorem itsD_dic (t : Bool) (ks vs : List D) : itsD (.dic t ks vs) = some ks := rfl
theorem getD2_dic (t : Bool) (ks vs : List D) (k x : D) : getD2 (.dic t ks vs) k x = if isKey t k then some ((lookD ks vs k).getD x) else none := by first | rfl | (cases t <;> rfl)
theorem isDicD_dic (t : Bool) (ks vs : List D) : isDicD (.dic t ks vs) = true := rfl
theorem g_d (ε : List Sl) (x : D) : Vw.get ε (.d x) = some x := rfl
theorem g_sl (ε : List Sl) (i : Nat) : Vw.get ε (.sl i) = slotD ε i := rfl
/-- reading and writing by written places -/
theorem atI_0 {α : Type} (x : α) (r : List α) : atI (x :: r) 0 = some x := by simp [atI, ixN]
theorem atI_1 {α : Type} (x y : α) (r : List α) : atI (x :: y :: r) 1 = some y := by
  simp only [atI, ixN, List.length_cons]
  rw [if_pos (by omega), if_pos (by omega)]; rfl
theorem atI_2 {α : Type} (x y z : α) (r : List α) : atI (x :: y :: z :: r) 2 = some z := by
  simp only [atI, ixN, List.length_cons]
  rw [if_pos (by omega), if_pos (by omega)]; rfl
theorem ixN_0 (n : Nat) : ixN (n + 1) 0 = some 0 := by simp [ixN]
theorem ixN_1 (n : Nat) : ixN (n + 1 + 1) 1 = some 1 := by
  unfold ixN
  rw [if_pos (by omega), if_pos (by omega)]; rfl
theorem ixN_2 (n : Nat) : ixN (n + 1 + 1 + 1) 2 = some 2 := by
  unfold ixN
  rw [if_pos (by omega), if_pos (by omega)]; rfl
theorem atI_in {α : Type} {xs : List α} {i : Nat} (h : i < xs.length) : atI xs (i : Int) = some xs[i] := by
  unfold atI ixN
  rw [if_pos (by omega), if_pos (by omega)]
  simp [List.getElem?_eq_getElem h]
theorem atI_mem {α : Type} {xs : List α} {i : Int} (h0 : 0 ≤ i) (h : i < xs.length) : ∃ x ∈ xs, atI xs i = some x := by
  obtain ⟨k, rfl⟩ := Int.eq_ofNat_of_zero_le h0
  have hk : k < xs.length := by omega
  exact ⟨xs[k], List.getElem_mem hk, atI_in hk⟩
theorem pow_1018 : powD (.int 10) (.int 18) = some (.int 1000000000000000000) := by
  have e : powOk (10, 18) = true := by rw [powOk_eq]; decide
  simp only [powD]
  rw [if_pos e]
  rfl
theorem szOk_of {n : Nat} (h : n ≤ 16777216) : szOk n = true := (szOk_eq n).trans (decide_eq_true (by rw [sizeLine_eq]; exact h))
theorem szLt_of {n : Nat} (h : n < 16777216) : szLt n = true := (szLt_eq n).trans (decide_eq_true (by rw [sizeLine_eq]; exact h))
theorem lt30_of {i : Int} (h0 : 0 < i) (h : i < 1073741824) : lt30 i = true := by
  rw [lt30_eq, Bool.and_eq_true]; exact ⟨decide_eq_true h0, decide_eq_true h⟩
theorem rngOk_in {i : Int} (h0 : 0 ≤ i) (h : i < 1073741824) : rngOk i = true := by
  rw [rngOk_eq, Bool.and_eq_true]; exact ⟨decide_eq_true (by omega), decide_eq_true (by omega)⟩
theorem ix63_of {i : Int} (h0 : 0 ≤ i) (h : i < 1073741824) : ix63 i = true := by
  rw [ix63_eq, Bool.and_eq_true]; exact ⟨decide_eq_true (by omega), decide_eq_true (by omega)⟩
theorem smallI_69621 : smallI 69621 = true := by rw [smallI_eq]; decide
theorem smallI_16 : smallI 16 = true := by rw [smallI_eq]; decide
theorem smallI_17 : smallI 17 = true := by rw [smallI_eq]; decide
theorem smallI_31 : smallI 31 = true := by rw [smallI_eq]; decide
theorem lt30_65536 : lt30 65536 = true := by rw [lt30_eq]; decide
theorem lt30_2 : lt30 2 = true := by rw [lt30_eq]; decide
theorem lt30_16 : lt30 16 = true := by rw [lt30_eq]; decide
theorem lt30_10 : lt30 10 = true := by rw [lt30_eq]; decide
theorem smallI_7 : smallI 7 = true := by rw [smallI_eq]; decide
theorem smallI_48271 : smallI 48271 = true := by rw [smallI_eq]; decide
end Rl
end

set_option linter.all false
set_option maxRecDepth 100000
set_option autoImplicit false
/-! Rl, mathematics, part 2: loops by invariants, comprehensions that change nothing, sums of the order. -/
noncomputable section
namespace Rl
open PySem PySem.Spec PyProof.Rows L2

/-- what one turn of a for does -/
def turnL (t : Tg) (b : MS) (d : D) (σ : List Sl) : Option (Fl × List Sl) := (t.bind d σ).bind b
def goesOn : Fl → Bool
  | .nx => true
  | .ct => true
  | _ => false
theorem forL_nil (t : Tg) (b : MS) (σ : List Sl) : forL t b [] σ = some (.nx, σ) := rfl
theorem forL_cons_go {t : Tg} {b : MS} {d : D} {ds : List D} {σ σ1 : List Sl} {fl : Fl} (h : turnL t b d σ = some (fl, σ1)) (g : goesOn fl = true) : forL t b (d :: ds) σ = forL t b ds σ1 := by
  unfold turnL at h
  rw [Option.bind_eq_some_iff] at h
  obtain ⟨x, h1, h2⟩ := h
  rw [forL, h1, Option.bind_some, h2, Option.bind_some]
  cases fl <;> first | rfl | cases g
theorem forL_cons_bk {t : Tg} {b : MS} {d : D} {ds : List D} {σ σ1 : List Sl} (h : turnL t b d σ = some (.bk, σ1)) : forL t b (d :: ds) σ = some (.nx, σ1) := by
  unfold turnL at h
  rw [Option.bind_eq_some_iff] at h
  obtain ⟨x, h1, h2⟩ := h
  rw [forL, h1, Option.bind_some, h2, Option.bind_some]
theorem forL_cons_rt {t : Tg} {b : MS} {d : D} {ds : List D} {σ σ1 : List Sl} {s : Sl} (h : turnL t b d σ = some (.rt s, σ1)) : forL t b (d :: ds) σ = some (.rt s, σ1) := by
  unfold turnL at h
  rw [Option.bind_eq_some_iff] at h
  obtain ⟨x, h1, h2⟩ := h
  rw [forL, h1, Option.bind_some, h2, Option.bind_some]
/-- a for that runs to its end: S says what holds ahead of the items that are left -/
theorem forL_inv {t : Tg} {b : MS} (S : List D → List Sl → Prop)
    (step : ∀ (d : D) (r : List D) (σ : List Sl), S (d :: r) σ → ∃ fl σ1, turnL t b d σ = some (fl, σ1) ∧ goesOn fl = true ∧ S r σ1) :
    ∀ (ds : List D) (σ : List Sl), S ds σ → ∃ σ1, forL t b ds σ = some (.nx, σ1) ∧ S [] σ1
  | [], σ, h => ⟨σ, rfl, h⟩
  | d :: ds, σ, h => by
    obtain ⟨fl, σ1, h1, h2, h3⟩ := step d ds σ h
    obtain ⟨σ2, h4, h5⟩ := forL_inv S step ds σ1 h3
    exact ⟨σ2, (forL_cons_go h1 h2).trans h4, h5⟩
/-- the same, with the items made of things of a type -/
theorem forL_invT {α : Type} (f : α → D) {t : Tg} {b : MS} (S : List α → List α → List Sl → Prop)
    (step : ∀ (done : List α) (a : α) (r : List α) (σ : List Sl), S done (a :: r) σ → ∃ fl σ1, turnL t b (f a) σ = some (fl, σ1) ∧ goesOn fl = true ∧ S (done ++ [a]) r σ1) :
    ∀ (xs done : List α) (σ : List Sl), S done xs σ → ∃ σ1, forL t b (xs.map f) σ = some (.nx, σ1) ∧ S (done ++ xs) [] σ1
  | [], done, σ, h => ⟨σ, rfl, by rw [List.append_nil]; exact h⟩
  | a :: xs, done, σ, h => by
    obtain ⟨fl, σ1, h1, h2, h3⟩ := step done a xs σ h
    obtain ⟨σ2, h4, h5⟩ := forL_invT f S step xs (done ++ [a]) σ1 h3
    rw [List.append_assoc, List.singleton_append] at h5
    exact ⟨σ2, (forL_cons_go h1 h2).trans h4, h5⟩

theorem wipeE_len (ε : List Sl) : ∀ vs, (wipeE vs ε).length = ε.length
  | [] => rfl
  | v :: vs => by show ((wipeE vs ε).set v .un).length = _; rw [List.length_set, wipeE_len ε vs]
theorem backE_len (ε0 ε : List Sl) : ∀ vs, (backE vs ε0 ε).length = ε.length
  | [] => rfl
  | v :: vs => by show ((backE vs ε0 ε).set v _).length = _; rw [List.length_set, backE_len ε0 ε vs]
theorem wipeE_get {vs : List Nat} : ∀ {σ : List Sl} {j : Nat}, j ∉ vs → (wipeE vs σ)[j]? = σ[j]? := by
  induction vs with
  | nil => intros; rfl
  | cons v vs ih =>
    intro σ j h
    rw [wipeE, List.getElem?_set_ne (fun e => h (by rw [e]; exact List.mem_cons_self)), ih (fun q => h (List.mem_cons_of_mem _ q))]
theorem backE_get {vs : List Nat} : ∀ {σ0 σ : List Sl} {j : Nat}, j ∉ vs → (backE vs σ0 σ)[j]? = σ[j]? := by
  induction vs with
  | nil => intros; rfl
  | cons v vs ih =>
    intro σ0 σ j h
    rw [backE, List.getElem?_set_ne (fun e => h (by rw [e]; exact List.mem_cons_self)), ih (fun q => h (List.mem_cons_of_mem _ q))]
theorem back_in {vs : List Nat} : ∀ {σ0 σ : List Sl} {j : Nat}, σ.length = σ0.length → j ∈ vs → (backE vs σ0 σ)[j]? = σ0[j]? := by
  induction vs with
  | nil => intro _ _ _ _ h; cases h
  | cons v vs ih =>
    intro σ0 σ j hl h
    rw [backE]
    by_cases e : v = j
    · subst e
      rw [List.getElem?_set]
      by_cases hv : v < σ0.length
      · rw [if_pos rfl, if_pos (by rw [backE_len, hl]; exact hv), List.getD_eq_getElem?_getD, List.getElem?_eq_getElem hv]; rfl
      · rw [if_pos rfl, if_neg (by rw [backE_len, hl]; exact hv), List.getElem?_eq_none (by omega)]
    · rw [List.getElem?_set_ne e]
      exact ih hl (by rcases List.mem_cons.mp h with q | q; exact absurd q.symm e; exact q)
theorem back_wipe {vs : List Nat} {σ σ2 : List Sl} (h : wipeE vs σ2 = wipeE vs σ) : backE vs σ σ2 = σ := by
  have hl : σ2.length = σ.length := by rw [← wipeE_len σ2 vs, h, wipeE_len]
  refine List.ext_getElem? fun j => ?_
  by_cases hj : j ∈ vs
  · exact back_in hl hj
  · rw [backE_get hj, ← wipeE_get hj (σ := σ2), h, wipeE_get hj]
/-- a comprehension that leaves all names but its own as they were -/
theorem lcL_pure {α : Type} (f : α → D) {vs : List Nat} {t : Tg} {c : MT} {e : ME} {σ : List Sl} (keep : α → Bool) (g : α → D) : ∀ (xs : List α) (σ1 : List Sl),
    wipeE vs σ1 = wipeE vs σ →
    (∀ x ∈ xs, ∃ σ2 σ3, t.bind (f x) (wipeE vs σ) = some σ2 ∧ c σ2 = some (keep x, σ3) ∧ wipeE vs σ3 = wipeE vs σ ∧ (keep x = true → ∃ σ4, e σ3 = some (g x, σ4) ∧ wipeE vs σ4 = wipeE vs σ)) →
    ∃ σ5, lcL vs t c e (xs.map f) σ1 = some ((xs.filter keep).map g, σ5) ∧ wipeE vs σ5 = wipeE vs σ
  | [], σ1, h, _ => ⟨σ1, rfl, h⟩
  | x :: xs, σ1, h, hs => by
    obtain ⟨σ2, σ3, h1, h2, h3, h4⟩ := hs x List.mem_cons_self
    rw [List.map_cons, lcL, h, h1, Option.bind_some, h2, Option.bind_some]
    cases hk : keep x with
    | true =>
      obtain ⟨σ4, h5, h6⟩ := h4 hk
      obtain ⟨σ5, h7, h8⟩ := lcL_pure f keep g xs σ4 h6 fun y hy => hs y (List.mem_cons_of_mem _ hy)
      exact ⟨σ5, by simp only [if_true, h5, Option.bind_some, h7, List.filter_cons_of_pos hk, List.map_cons], h8⟩
    | false =>
      obtain ⟨σ5, h7, h8⟩ := lcL_pure f keep g xs σ3 h3 fun y hy => hs y (List.mem_cons_of_mem _ hy)
      exact ⟨σ5, by simp only [Bool.false_eq_true, if_false, h7, List.filter_cons_of_neg (by rw [hk]; simp : ¬ keep x = true)], h8⟩
theorem nLc_pure {α : Type} (f : α → D) {vs : List Nat} {i : MI} {t : Tg} {c : MT} {e : ME} {σ0 σ : List Sl} (keep : α → Bool) (g : α → D) (xs : List α) (hi : i σ0 = some (xs.map f, σ)) (hp : vs.all (plainAt σ) = true)
    (hs : ∀ x ∈ xs, ∃ σ2 σ3, t.bind (f x) (wipeE vs σ) = some σ2 ∧ c σ2 = some (keep x, σ3) ∧ wipeE vs σ3 = wipeE vs σ ∧ (keep x = true → ∃ σ4, e σ3 = some (g x, σ4) ∧ wipeE vs σ4 = wipeE vs σ))
    (hz : (xs.filter keep).length ≤ 16777216) : nLc vs i t c e σ0 = some (.lst ((xs.filter keep).map g), σ) := by
  obtain ⟨σ5, h7, h8⟩ := lcL_pure f keep g xs σ rfl hs
  unfold nLc
  rw [hi, Option.bind_some]
  simp only [hp, if_true, h7, Option.bind_some, List.length_map, szOk_of hz, back_wipe h8]
/-- .. without a test -/
theorem nLc_map {α : Type} (f : α → D) {vs : List Nat} {i : MI} {t : Tg} {e : ME} {σ0 σ : List Sl} (g : α → D) (xs : List α) (hi : i σ0 = some (xs.map f, σ)) (hp : vs.all (plainAt σ) = true)
    (hs : ∀ x ∈ xs, ∃ σ2 σ4, t.bind (f x) (wipeE vs σ) = some σ2 ∧ e σ2 = some (g x, σ4) ∧ wipeE vs σ4 = wipeE vs σ)
    (hw : ∀ x ∈ xs, ∀ σ2, t.bind (f x) (wipeE vs σ) = some σ2 → wipeE vs σ2 = wipeE vs σ)
    (hz : xs.length ≤ 16777216) : nLc vs i t tYes' e σ0 = some (.lst (xs.map g), σ) := by
  have := nLc_pure f (c := tYes') (e := e) (fun _ => true) g xs hi hp (fun x hx => by
    obtain ⟨σ2, σ4, h1, h2, h3⟩ := hs x hx
    exact ⟨σ2, σ2, h1, rfl, hw x hx σ2 h1, fun _ => ⟨σ4, h2, h3⟩⟩) (by rw [List.filter_eq_self.mpr (fun _ _ => rfl)]; exact hz)
  rw [List.filter_eq_self.mpr (fun _ _ => rfl)] at this
  exact this
/-- .. with one name -/
theorem nLc_pure1 {α : Type} (f : α → D) {v : Nat} {i : MI} {c : MT} {e : ME} {σ0 σ : List Sl} (keep : α → Bool) (g : α → D) (xs : List α) (hi : i σ0 = some (xs.map f, σ)) (hp : (σ[v]?).any plB = true)
    (hc : ∀ x ∈ xs, c (σ.set v (.val (f x))) = some (keep x, σ.set v (.val (f x))))
    (hs : ∀ x ∈ xs, keep x = true → e (σ.set v (.val (f x))) = some (g x, σ.set v (.val (f x)))) (hz : xs.length ≤ 16777216) :
    nLc [v] i (.nm v) c e σ0 = some (.lst ((xs.filter keep).map g), σ) := by
  have hv : v < σ.length := by
    cases h : σ[v]? with
    | none => rw [h] at hp; cases hp
    | some s => exact (List.getElem?_eq_some_iff.mp h).1
  have w1 : ∀ d : D, wipeE [v] (σ.set v (.val d)) = wipeE [v] σ := fun d => by simp [wipeE]
  refine nLc_pure f keep g xs hi (by simp [plainAt_b, hp]) (fun x hx => ⟨σ.set v (.val (f x)), σ.set v (.val (f x)), ?_, hc x hx, w1 _, fun k => ⟨_, hs x hx k, w1 _⟩⟩) (Nat.le_trans (List.length_filter_le _ _) hz)
  simp [wipeE, Tg.bind, plainAt_b, List.getElem?_set, hv, plB]
theorem nLc_map1 {α : Type} (f : α → D) {v : Nat} {i : MI} {e : ME} {σ0 σ : List Sl} (g : α → D) (xs : List α) (hi : i σ0 = some (xs.map f, σ)) (hp : (σ[v]?).any plB = true)
    (hs : ∀ x ∈ xs, e (σ.set v (.val (f x))) = some (g x, σ.set v (.val (f x)))) (hz : xs.length ≤ 16777216) :
    nLc [v] i (.nm v) tYes' e σ0 = some (.lst (xs.map g), σ) := by
  have := nLc_pure1 f (c := tYes') (fun _ => true) g xs hi hp (fun _ _ => rfl) (fun x hx _ => hs x hx) hz
  rw [List.filter_eq_self.mpr (fun _ _ => rfl)] at this
  exact this
/-- .. with two names -/
theorem set_two {σ : List Sl} {v u : Nat} (h : v ≠ u) (a b : Sl) : (((σ.set u .un).set v .un).set v a).set u b = (σ.set v a).set u b := by
  refine List.ext_getElem? fun j => ?_
  simp only [List.getElem?_set, List.length_set]
  by_cases h1 : u = j
  · subst h1; simp
  · by_cases h2 : v = j
    · subst h2; simp [h1]
    · simp [h1, h2]
theorem wipe_two {σ : List Sl} {v u : Nat} (h : v ≠ u) (a b : Sl) : wipeE [v, u] ((σ.set v a).set u b) = wipeE [v, u] σ := by
  refine List.ext_getElem? fun j => ?_
  simp only [wipeE, List.getElem?_set, List.length_set]
  by_cases h1 : u = j
  · subst h1; simp [h]
  · by_cases h2 : v = j
    · subst h2; simp [h1]
    · simp [h1, h2]
theorem nLc_map2 {α : Type} (a b : α → D) {v u : Nat} {i : MI} {e : ME} {σ0 σ : List Sl} (g : α → D) (xs : List α) (hvu : v ≠ u) (hi : i σ0 = some (xs.map fun x => .tup [a x, b x], σ)) (hp : (σ[v]?).any plB = true) (hq : (σ[u]?).any plB = true)
    (hs : ∀ x ∈ xs, e ((σ.set v (.val (a x))).set u (.val (b x))) = some (g x, (σ.set v (.val (a x))).set u (.val (b x)))) (hz : xs.length ≤ 16777216) :
    nLc [v, u] i (.tp [.nm v, .nm u]) tYes' e σ0 = some (.lst (xs.map g), σ) := by
  have hv : v < σ.length := by
    cases h : σ[v]? with
    | none => rw [h] at hp; cases hp
    | some s => exact (List.getElem?_eq_some_iff.mp h).1
  have hu : u < σ.length := by
    cases h : σ[u]? with
    | none => rw [h] at hq; cases hq
    | some s => exact (List.getElem?_eq_some_iff.mp h).1
  have bd : ∀ x, (Tg.tp [.nm v, .nm u]).bind (.tup [a x, b x]) (wipeE [v, u] σ) = some ((σ.set v (.val (a x))).set u (.val (b x))) := fun x => by
    rw [← set_two hvu]
    simp [wipeE, Tg.bind, Tg.binds, plainAt_b, List.getElem?_set, hv, hu, plB, hvu, Ne.symm hvu]
  refine nLc_map _ g xs hi (by simp [plainAt_b, hp, hq]) (fun x hx => ⟨_, _, bd x, hs x hx, wipe_two hvu _ _⟩) (fun x hx σ2 h => ?_) hz
  rw [bd x] at h
  cases h
  exact wipe_two hvu _ _
/-- a comprehension whose items change other names -/
theorem lcL_invT {α : Type} (f g : α → D) {vs : List Nat} {t : Tg} {e : ME} (S : List α → List α → List Sl → Prop)
    (step : ∀ (done : List α) (x : α) (r : List α) (σ : List Sl), S done (x :: r) σ → ∃ σ1 σ2, t.bind (f x) (wipeE vs σ) = some σ1 ∧ e σ1 = some (g x, σ2) ∧ S (done ++ [x]) r σ2) :
    ∀ (xs done : List α) (σ : List Sl), S done xs σ → ∃ σ1, lcL vs t tYes' e (xs.map f) σ = some (xs.map g, σ1) ∧ S (done ++ xs) [] σ1
  | [], done, σ, h => ⟨σ, rfl, by rw [List.append_nil]; exact h⟩
  | x :: xs, done, σ, h => by
    obtain ⟨σ1, σ2, h1, h2, h3⟩ := step done x xs σ h
    obtain ⟨σ3, h4, h5⟩ := lcL_invT f g S step xs (done ++ [x]) σ2 h3
    rw [List.append_assoc, List.singleton_append] at h5
    refine ⟨σ3, ?_, h5⟩
    have ht : ∀ ε, tYes' ε = some (true, ε) := fun _ => rfl
    rw [List.map_cons, lcL, h1, Option.bind_some, ht, Option.bind_some]
    simp only [if_true, h2, Option.bind_some, h4, List.map_cons]
theorem rngD_nat (n : Nat) : rngD 0 (n : Int) = (List.range n).map fun p : Nat => .int (p : Int) := by
  unfold rngD
  simp
/-! greatest and least -/
def maxN : List Nat → Nat
  | [] => 0
  | a :: r => Nat.max a (maxN r)
def minN : List Nat → Nat
  | [] => 0
  | [a] => a
  | a :: r => Nat.min a (minN r)
theorem maxN_le {l : List Nat} {m : Nat} (h : ∀ x ∈ l, x ≤ m) : maxN l ≤ m := by
  induction l with
  | nil => exact Nat.zero_le _
  | cons a r ih =>
    rw [maxN]
    exact Nat.max_le.mpr ⟨h a List.mem_cons_self, ih fun x hx => h x (List.mem_cons_of_mem _ hx)⟩
theorem le_maxN {l : List Nat} {x : Nat} (h : x ∈ l) : x ≤ maxN l := by
  induction l with
  | nil => cases h
  | cons a r ih =>
    rw [maxN]
    rcases List.mem_cons.mp h with rfl | h
    · exact Nat.le_max_left _ _
    · exact Nat.le_trans (ih h) (Nat.le_max_right _ _)
theorem maxN_mem {l : List Nat} (h : l ≠ []) : maxN l ∈ l := by
  induction l with
  | nil => exact absurd rfl h
  | cons a r ih =>
    rw [maxN]
    by_cases hr : r = []
    · subst hr; simp [maxN]
    · rcases Nat.le_total a (maxN r) with q | q
      · rw [show Nat.max a (maxN r) = maxN r from Nat.max_eq_right q]; exact List.mem_cons_of_mem _ (ih hr)
      · rw [show Nat.max a (maxN r) = a from Nat.max_eq_left q]; exact List.mem_cons_self
theorem maxN_perm {l m : List Nat} (h : l.Perm m) : maxN l = maxN m :=
  Nat.le_antisymm (maxN_le fun x hx => le_maxN (h.mem_iff.mp hx)) (maxN_le fun x hx => le_maxN (h.mem_iff.mpr hx))
theorem minN_le {l : List Nat} {x : Nat} (h : x ∈ l) : minN l ≤ x := by
  induction l with
  | nil => cases h
  | cons a r ih =>
    cases r with
    | nil => rcases List.mem_cons.mp h with rfl | h; exact Nat.le_refl _; cases h
    | cons b r =>
      rw [minN]
      rcases List.mem_cons.mp h with rfl | h
      · exact Nat.min_le_left _ _
      · exact Nat.le_trans (Nat.min_le_right _ _) (ih h)
      · simp
theorem minN_mem {l : List Nat} (h : l ≠ []) : minN l ∈ l := by
  induction l with
  | nil => exact absurd rfl h
  | cons a r ih =>
    cases r with
    | nil => simp [minN]
    | cons b r =>
      rw [minN]
      · rcases Nat.le_total a (minN (b :: r)) with q | q
        · rw [show Nat.min a (minN (b :: r)) = a from Nat.min_eq_left q]; exact List.mem_cons_self
        · rw [show Nat.min a (minN (b :: r)) = minN (b :: r) from Nat.min_eq_right q]; exact List.mem_cons_of_mem _ (ih (by simp))
      · simp
theorem intsOf_nat (l : List Nat) : intsOf (l.map fun n : Nat => .int (n : Int)) = some (l.map fun n : Nat => (n : Int)) := by
  induction l with
  | nil => rfl
  | cons a r ih => rw [List.map_cons, intsOf, ih]; rfl
theorem maxL_nat : ∀ (l : List Nat), l ≠ [] → maxL (l.map fun n : Nat => (n : Int)) = some (maxN l : Int)
  | [], h => absurd rfl h
  | [a], _ => by simp [maxL, maxN]
  | a :: b :: r, _ => by
    have ih := maxL_nat (b :: r) (by simp)
    have : maxL ((a :: b :: r).map fun n : Nat => (n : Int)) = (maxL ((b :: r).map fun n : Nat => (n : Int))).map fun m => if (a : Int) ≤ m then m else a := rfl
    have hx : maxN (a :: b :: r) = Nat.max a (maxN (b :: r)) := rfl
    rw [this, ih, Option.map_some, hx]
    rcases Nat.le_total a (maxN (b :: r)) with q | q
    · rw [show Nat.max a (maxN (b :: r)) = maxN (b :: r) from Nat.max_eq_right q, if_pos (by omega)]
    · rw [show Nat.max a (maxN (b :: r)) = a from Nat.max_eq_left q]
      by_cases e : a = maxN (b :: r)
      · rw [if_pos (by omega), ← e]
      · rw [if_neg (by omega)]
theorem minL_nat : ∀ (l : List Nat), l ≠ [] → minL (l.map fun n : Nat => (n : Int)) = some (minN l : Int)
  | [], h => absurd rfl h
  | [a], _ => by simp [minL, minN]
  | a :: b :: r, _ => by
    have ih := minL_nat (b :: r) (by simp)
    have : minL ((a :: b :: r).map fun n : Nat => (n : Int)) = (minL ((b :: r).map fun n : Nat => (n : Int))).map fun m => if m ≤ (a : Int) then m else a := rfl
    have hx : minN (a :: b :: r) = Nat.min a (minN (b :: r)) := rfl
    rw [this, ih, Option.map_some, hx]
    rcases Nat.le_total a (minN (b :: r)) with q | q
    · rw [show Nat.min a (minN (b :: r)) = a from Nat.min_eq_left q]
      by_cases e : a = minN (b :: r)
      · rw [if_pos (by omega), ← e]
      · rw [if_neg (by omega)]
    · rw [show Nat.min a (minN (b :: r)) = minN (b :: r) from Nat.min_eq_right q, if_pos (by omega)]
theorem maxD_nat {l : List Nat} (h : l ≠ []) : maxD (.lst (l.map fun n : Nat => .int (n : Int))) = some (.int (maxN l : Int)) := by
  unfold maxD
  simp only [intsOf_nat, Option.bind_some, maxL_nat l h, Option.map_some]
theorem minD_nat {l : List Nat} (h : l ≠ []) : minD (.lst (l.map fun n : Nat => .int (n : Int))) = some (.int (minN l : Int)) := by
  unfold minD
  simp only [intsOf_nat, Option.bind_some, minL_nat l h, Option.map_some]
/-! the order of sorted -/
theorem leS_total : PySem.W.TotalLe leS := PySem.W.sortLe_total _ false _
theorem sortDs_pw (ds : List D) : (sortDs ds).Pairwise (fun a b => leS a b = true) := PySem.W.sort_pairwise leS_total ds
theorem leS_fst {a b : Int} {x y : List D} (h : leS (.tup (.int a :: x)) (.tup (.int b :: y)) = true) : a ≤ b := by
  have e : leS (.tup (.int a :: x)) (.tup (.int b :: y)) = !PySem.W.dataLt (.tuple (.int b :: pys y)) (.tuple (.int a :: pys x)) := rfl
  rw [e, PySem.W.dataLt_tuple, PySem.W.dataLt_cons (by simp [PySem.W.alike]), PySem.W.dataLt_int] at h
  by_cases q : b = a
  · omega
  · have q2 : PyData.eqv (.int b) (.int a) = false := by simp [PyData.eqv, q]
    rw [q2] at h
    simp at h
    exact h
theorem sortDs_perm (ds : List D) : (sortDs ds).Perm ds := List.mergeSort_perm _ _
end Rl
end

set_option linter.all false
set_option maxRecDepth 100000
set_option autoImplicit false
/-! Rl, mathematics, part 3: which data may be compared, == of plain data, dicts by a function. -/
noncomputable section
namespace Rl
open PySem PySem.Spec PyProof.Rows L2

/-- comparable data of at most this depth -/
def ShN (n : Nat) (d : D) : Prop := (py d).canLay0 = true ∧ (py d).depth ≤ n
def ShNs (n : Nat) (ds : List D) : Prop := ∀ d ∈ ds, ShN n d
theorem canLay_all {ds : List D} (h : ∀ d ∈ ds, (py d).canLay0 = true) : PyData.canLayAll0 (pys ds) = true := by
  induction ds with
  | nil => rfl
  | cons a r ih => rw [pys, PyData.canLayAll0, h a List.mem_cons_self, ih fun d hd => h d (List.mem_cons_of_mem _ hd)]; rfl
theorem depth_all {ds : List D} {n : Nat} (h : ∀ d ∈ ds, (py d).depth ≤ n) : PyData.depthAll (pys ds) ≤ n := by
  induction ds with
  | nil => exact Nat.zero_le _
  | cons a r ih => rw [pys, PyData.depthAll]; exact Nat.max_le.mpr ⟨h a List.mem_cons_self, ih fun d hd => h d (List.mem_cons_of_mem _ hd)⟩
theorem ShN.tup {n : Nat} {ds : List D} (h : ShNs n ds) : ShN (n + 1) (.tup ds) := by
  refine ⟨?_, ?_⟩
  · rw [py, PyData.canLay0]; exact canLay_all fun d hd => (h d hd).1
  · rw [py, PyData.depth]; exact Nat.succ_le_succ (depth_all fun d hd => (h d hd).2)
theorem ShN.lst {n : Nat} {ds : List D} (h : ShNs n ds) : ShN (n + 1) (.lst ds) := by
  refine ⟨?_, ?_⟩
  · rw [py, PyData.canLay0]; exact canLay_all fun d hd => (h d hd).1
  · rw [py, PyData.depth]; exact Nat.succ_le_succ (depth_all fun d hd => (h d hd).2)
theorem ShN.int (i : Int) : ShN 0 (.int i) := ⟨by simp [py, PyData.canLay0], by simp [py, PyData.depth]⟩
theorem ShN.bl (b : Bool) : ShN 0 (.bl b) := ⟨by simp [py, PyData.canLay0], by simp [py, PyData.depth]⟩
theorem ShN.non : ShN 0 .non := ⟨by simp [py, PyData.canLay0], by simp [py, PyData.depth]⟩
/-- texts are made of signs -/
def Cps (w : List Nat) : Prop := ∀ c ∈ w, c < 1114112
theorem ShN.str {w : List Nat} (h : Cps w) : ShN 0 (.str w) := by
  refine ⟨?_, by simp [py, PyData.depth]⟩
  simp only [py, PyData.canLay0, PyData.strOk, Array.all_eq_true_iff_forall_mem, decide_eq_true_eq]
  intro c hc
  exact h c (by simpa using hc)
theorem ShN.mono {n m : Nat} {d : D} (h : ShN n d) (l : n ≤ m) : ShN m d := ⟨h.1, Nat.le_trans h.2 l⟩
theorem ShN.sh {n : Nat} {d : D} (h : ShN n d) (l : n ≤ 64) : shD d = true := by
  unfold shD SeqAt.shaped
  rw [h.1]
  simp
  exact Nat.le_trans h.2 l
theorem shNs_nil (n : Nat) : ShNs n [] := fun _ h => nomatch h
theorem ShNs.cons {n : Nat} {d : D} {ds : List D} (h : ShN n d) (t : ShNs n ds) : ShNs n (d :: ds) := fun x hx => by
  rcases List.mem_cons.mp hx with rfl | hx
  · exact h
  · exact t x hx
theorem shNs_map {α : Type} {n : Nat} {f : α → D} {xs : List α} (h : ∀ x ∈ xs, ShN n (f x)) : ShNs n (xs.map f) := fun d hd => by
  obtain ⟨x, hx, rfl⟩ := List.mem_map.mp hd
  exact h x hx
/-! == of data made of whole numbers, texts and tuples -/
mutual
def pureB : D → Bool
  | .int _ => true
  | .str _ => true
  | .tup ds => pureBs ds
  | _ => false
def pureBs : List D → Bool
  | [] => true
  | d :: ds => pureB d && pureBs ds
end
theorem pureBs_iff {ds : List D} : pureBs ds = true ↔ ∀ d ∈ ds, pureB d = true := by
  induction ds with
  | nil => simp [pureBs]
  | cons a r ih => simp [pureBs, ih]
mutual
theorem eqv_pure : ∀ (a b : D), pureB a = true → pureB b = true → (PyData.eqv (py a) (py b) = true ↔ a = b)
  | .int i, b, _, hb => by
    cases b <;> first | (cases hb; done) | simp [py, PyData.eqv]
  | .str s, b, _, hb => by
    cases b <;> first | (cases hb; done) | simp [py, PyData.eqv]
  | .tup ds, b, ha, hb => by
    cases b with
    | tup es =>
      have := eqvs_pure ds es (by simpa [pureB] using ha) (by simpa [pureB] using hb)
      simp [py, PyData.eqv, this]
    | int i => simp [py, PyData.eqv]
    | str i => simp [py, PyData.eqv]
    | _ => cases hb
  | .non, _, h, _ => by cases h
  | .bl _, _, h, _ => by cases h
  | .lst _, _, h, _ => by cases h
  | .dic _ _ _, _, h, _ => by cases h
  | .scr _, _, h, _ => by cases h
theorem eqvs_pure : ∀ (a b : List D), pureBs a = true → pureBs b = true → (PyData.eqvAll (pys a) (pys b) = true ↔ a = b)
  | [], [], _, _ => by simp [pys, PyData.eqvAll]
  | [], _ :: _, _, _ => by simp [pys, PyData.eqvAll]
  | _ :: _, [], _, _ => by simp [pys, PyData.eqvAll]
  | x :: a, y :: b, ha, hb => by
    simp only [pureBs, Bool.and_eq_true] at ha hb
    have h1 := eqv_pure x y ha.1 hb.1
    have h2 := eqvs_pure a b ha.2 hb.2
    simp only [pys, PyData.eqvAll, Bool.and_eq_true, h1, h2, List.cons.injEq]
end
/-- x in [f a, ..], for plain data -/
theorem inB_lst {α : Type} [BEq α] [LawfulBEq α] {f : α → D} (inj : ∀ a b, f a = f b → a = b) (hf : ∀ a, flatD (f a) = false) (hp : ∀ a, pureB (f a) = true) {x : α} {xs : List α} {n : Nat} (hs : ∀ a ∈ x :: xs, ShN n (f a)) (hn : n ≤ 63) :
    inB (f x) (.lst (xs.map f)) = some (decide (x ∈ xs)) := by
  have h1 : shD (f x) = true := (hs x List.mem_cons_self).sh (by omega)
  have h2 : shD (.lst (xs.map f)) = true := (ShN.lst (shNs_map fun a ha => hs a (List.mem_cons_of_mem _ ha))).sh (by omega)
  simp only [inB, hf, Bool.false_and, Bool.false_eq_true, if_false, h1, h2, Bool.and_self, if_true]
  congr 1
  rw [Bool.eq_iff_iff]
  simp only [List.any_eq_true, List.mem_map, decide_eq_true_eq]
  constructor
  · rintro ⟨_, ⟨a, ha, rfl⟩, e⟩
    have := inj _ _ ((eqv_pure _ _ (hp a) (hp x)).mp e)
    exact this ▸ ha
  · intro h
    exact ⟨f x, ⟨x, h, rfl⟩, (eqv_pure _ _ (hp x) (hp x)).mpr rfl⟩
/-! dicts whose values are told by a function of the key -/
section
variable {α : Type} [BEq α] [LawfulBEq α] [DecidableEq α] {f : α → D} (hk : ∀ a b, kEq (f a) (f b) = decide (a = b))
include hk
theorem has_fn (ks : List α) (k : α) : hasD (ks.map f) (f k) = decide (k ∈ ks) := by
  induction ks with
  | nil => simp [hasD]
  | cons a r ih =>
    simp only [List.map_cons, hasD, hk, ih]
    by_cases h : a = k
    · subst h; simp
    · have h2 : ¬ k = a := fun e => h e.symm
      simp [h, h2]
theorem look_fn (g : α → D) (ks : List α) (k : α) : lookD (ks.map f) (ks.map g) (f k) = if k ∈ ks then some (g k) else none := by
  induction ks with
  | nil => simp [lookD]
  | cons a r ih =>
    simp only [List.map_cons, lookD, hk, ih]
    by_cases h : a = k
    · subst h; simp
    · have h2 : ¬ k = a := fun e => h e.symm
      simp [h, h2]
theorem set_fn (g : α → D) (ks : List α) (k : α) (v : D) : setD (ks.map f) (ks.map g) (f k) v = ks.map fun j => if j = k then v else g j := by
  induction ks with
  | nil => simp [setD]
  | cons a r ih =>
    simp only [List.map_cons, setD, hk, ih]
    by_cases h : a = k <;> simp [h]
theorem putKs_fn (ks : List α) (k : α) : putKs (ks.map f) (f k) = (if k ∈ ks then ks else ks ++ [k]).map f := by
  unfold putKs
  rw [has_fn hk]
  by_cases h : k ∈ ks <;> simp [h]
theorem putVs_fn (g : α → D) (ks : List α) (k : α) (v : D) : putVs (ks.map f) (ks.map g) (f k) v = (if k ∈ ks then ks else ks ++ [k]).map fun j => if j = k then v else g j := by
  unfold putVs
  rw [has_fn hk, set_fn hk]
  by_cases h : k ∈ ks
  · simp [h]
  · simp only [h, decide_false, Bool.false_eq_true, if_false, List.map_append, List.map_cons, List.map_nil, if_true]
    congr 1
    refine List.map_congr_left fun j hj => ?_
    have : ¬ j = k := fun e => h (e ▸ hj)
    simp [this]
/-- a new key: its value stands at the end -/
theorem putKs_new {ks : List α} {k : α} (h : k ∉ ks) : putKs (ks.map f) (f k) = (ks ++ [k]).map f := by rw [putKs_fn hk]; simp [h]
theorem putVs_new (g : α → D) {ks : List α} {k : α} (h : k ∉ ks) : putVs (ks.map f) (ks.map g) (f k) (g k) = (ks ++ [k]).map g := by
  rw [putVs_fn hk]
  simp only [h, if_false]
  refine List.map_congr_left fun j hj => ?_
  by_cases e : j = k
  · simp [e]
  · simp [e]
end
theorem kEq_str (a b : List Nat) : kEq (.str a) (.str b) = decide (a = b) := by
  show (a == b) = _
  by_cases h : a = b <;> simp [h]
theorem kEqs_strs : ∀ a b : List (List Nat), kEqs (a.map .str) (b.map .str) = decide (a = b)
  | [], [] => by simp [kEqs]
  | [], _ :: _ => by simp [kEqs]
  | _ :: _, [] => by simp [kEqs]
  | x :: a, y :: b => by
    have h : kEq1 (.str x) (.str y) = (x == y) := rfl
    simp only [List.map_cons, kEqs, kEqs_strs a b, h]
    by_cases e : x = y <;> by_cases e2 : a = b <;> simp [e, e2]
theorem keys_strs : ∀ a : List (List Nat), (keysOf (a.map .str)).isSome = true
  | [] => rfl
  | x :: a => by
    have := keys_strs a
    cases h : keysOf (a.map D.str) with
    | none => rw [h] at this; cases this
    | some t => simp [keysOf, keyOf, h]
/-! counting -/
theorem nodup_le {α : Type} [DecidableEq α] : ∀ {l m : List α}, l.Nodup → (∀ x ∈ l, x ∈ m) → l.length ≤ m.length
  | [], _, _, _ => Nat.zero_le _
  | a :: l, m, hn, h => by
    have ha : a ∈ m := h a List.mem_cons_self
    have := nodup_le (l := l) (m := m.erase a) (List.nodup_cons.mp hn).2 fun x hx => by
      exact (List.mem_erase_of_ne (show x ≠ a from fun e => (List.nodup_cons.mp hn).1 (e ▸ hx))).mpr (h x (List.mem_cons_of_mem _ hx))
    rw [List.length_erase_of_mem ha] at this
    have hp : 0 < m.length := List.length_pos_of_mem ha
    simp only [List.length_cons]
    omega
/-- all parts of a list -/
def subs {α : Type} : List α → List (List α)
  | [] => [[]]
  | a :: r => subs r ++ (subs r).map (a :: ·)
theorem subs_len {α : Type} (l : List α) : (subs l).length = 2 ^ l.length := by
  induction l with
  | nil => rfl
  | cons a r ih => simp only [subs, List.length_append, List.length_map, ih, List.length_cons, Nat.pow_succ]; omega
theorem mem_subs {α : Type} {s l : List α} (h : s.Sublist l) : s ∈ subs l := by
  induction h with
  | slnil => simp [subs]
  | cons a h ih => exact List.mem_append.mpr (.inl ih)
  | cons_cons a h ih => exact List.mem_append.mpr (.inr (List.mem_map.mpr ⟨_, ih, rfl⟩))
end Rl
end

set_option linter.all false
set_option maxRecDepth 100000
set_option autoImplicit false
/-! Rl, mathematics, part 4: join without a separator, beginnings. -/
noncomputable section
namespace Rl
open PySem PySem.Spec PyProof.Rows L2
theorem joinL_nil : ∀ ss : List (List Nat), TL.joinL [] ss = ss.flatten
  | [] => rfl
  | [p] => by simp [TL.joinL]
  | p :: q :: r => by
    have := joinL_nil (q :: r)
    simp only [TL.joinL, List.nil_append, this, List.flatten_cons]
theorem strsOf_strs (ss : List (List Nat)) : strsOf (ss.map .str) = some ss := by
  induction ss with
  | nil => rfl
  | cons a r ih => rw [List.map_cons, strsOf, ih]; rfl
theorem sum_len (ss : List (List Nat)) : (ss.map (·.length)).sum = ss.flatten.length := by
  induction ss with
  | nil => rfl
  | cons a r ih => simp only [List.map_cons, List.sum_cons, ih, List.flatten_cons, List.length_append]
theorem jnOk_of {n : Nat} (h : n ≤ 16777216) : jnOk n = true := (jnOk_eq n).trans (decide_eq_true h)
theorem join_nil {ss : List (List Nat)} (h : ss.flatten.length ≤ 16777216) : joinD (.str []) (.lst (ss.map .str)) = some (.str ss.flatten) := by
  have e : Rl.joinL [] ss = ss.flatten := by
    unfold Rl.joinL
    have := SX.join_S [] ss
    rw [show (ss.map fun s => (⟨s.toArray⟩ : Str)) = ss.map SX.S from rfl, show (⟨([] : List Nat).toArray⟩ : Str) = SX.S [] from rfl, this, joinL_nil]
  unfold joinD
  simp only [strsOf_strs, Option.bind_some, List.length_nil, Nat.mul_zero, Nat.add_zero, sum_len, jnOk_of h, if_true, e]
theorem flat_ones (cs : List Nat) : (cs.map fun c => [c]).flatten = cs := by
  induction cs with
  | nil => rfl
  | cons a r ih => simp [ih]
theorem join_ones {cs : List Nat} (h : cs.length ≤ 16777216) : joinD (.str []) (.lst (cs.map fun c => .str [c])) = some (.str cs) := by
  have := join_nil (ss := cs.map fun c => [c]) (by rw [flat_ones]; exact h)
  rw [flat_ones, List.map_map] at this
  exact this
theorem cut_to {α : Type} (xs : List α) (k : Nat) : cutL xs none (some (k : Int)) = xs.take k := by
  unfold cutL
  rw [HT.sIx_none, HT.sIx_nat]
  simp only [List.drop_zero, Nat.sub_zero]
  rw [List.take_eq_take_iff]
  omega
theorem cut_from {α : Type} (xs : List α) (k : Nat) : cutL xs (some (k : Int)) none = xs.drop k := by
  unfold cutL
  rw [HT.sIx_none, HT.sIx_nat]
  by_cases h : k ≤ xs.length
  · rw [Nat.min_eq_left h, List.take_of_length_le]
    rw [List.length_drop]; omega
  · rw [Nat.min_eq_right (by omega), List.drop_eq_nil_of_le (by omega), List.drop_eq_nil_of_le (by omega)]
    simp
end Rl
end

set_option Elab.async false
set_option linter.all false
set_option maxRecDepth 100000
set_option autoImplicit false
/-! printed by gen.py: the mirrors of the defs -/
noncomputable section
namespace P82
open PySem PySem.Spec PyProof.Rows L2 Rl
/-! _law_pool: 0 script; own: [] -/
def b__law_pool : MS := (sRetN (nCat (vE (eFr (nLst (aCons (eC (.int 0)) (aCons (eC (.int 7)) (aCons (eC (.int 3)) aNil)))))) (vE (eFr (nUn listL (vVar 0))))))
def F__law_pool : Fn := fnOf 1 1 b__law_pool
/-! _law_draw: 0 pool, 1 many, 2 cell, 3 digit, 4 mixed; own: ['pool'] -/
def b__law_draw : MS := (sSeq (sIf (Rl.tAnd (tOf (eOp eqD (vE (eOp ixD (vVar 0) (vE (eC (.int 0))))) (vE (eC (.int 0))))) (tOf (eOp ltD (vE (eOp ixD (vVar 0) (vE (eC (.int 2))))) (vE (eUn lenD (vVar 0)))))) (sSeq (sSetL 2 (eOp ixD (vVar 0) (vE (eOp ixD (vVar 0) (vE (eC (.int 2))))))) (sSeq (sPut 0 (eC (.int 2)) (eOp addD (vE (eOp ixD (vVar 0) (vE (eC (.int 2))))) (vE (eC (.int 1))))) (sSeq (sPut 0 (eC (.int 1)) (eOp modD (vE (eUn intD (vE (eOp addD (vE (eOp mulD (vE (eOp ixD (vVar 0) (vE (eC (.int 1))))) (vE (eC (.int 31))))) (vVar 2))))) (vE (eC (.int 2147483647))))) (sIf (tOf (eOp geD (vE (eUn absD (vVar 2))) (vE (eOp powD (vE (eC (.int 10))) (vE (eC (.int 18))))))) (sPut 0 (eC (.int 0)) (eUn absD (vVar 2))) sNx)))) sNx) (sSeq (sIf (tOf (eOp gtD (vE (eOp ixD (vVar 0) (vE (eC (.int 0))))) (vE (eC (.int 0))))) (sSeq (sSetL 3 (eOp modD (vE (eUn intD (vE (eOp ixD (vVar 0) (vE (eC (.int 0))))))) (vVar 1))) (sSeq (sPut 0 (eC (.int 0)) (eOp fdivD (vE (eOp ixD (vVar 0) (vE (eC (.int 0))))) (vVar 1))) (sRet (eVar 3)))) sNx) (sSeq (sPut 0 (eC (.int 1)) (eOp modD (vE (eUn intD (vE (eOp addD (vE (eOp mulD (vE (eOp ixD (vVar 0) (vE (eC (.int 1))))) (vE (eC (.int 48271))))) (vE (eC (.int 12345))))))) (vE (eC (.int 2147483647))))) (sSeq (sSetL 4 (eOp modD (vE (eUn intD (vE (eOp addD (vE (eOp addD (vE (eOp mulD (vE (eOp ixD (vVar 0) (vE (eC (.int 1))))) (vE (eC (.int 69621))))) (vE (eOp fdivD (vE (eOp ixD (vVar 0) (vE (eC (.int 1))))) (vE (eC (.int 65536))))))) (vE (eC (.int 17))))))) (vE (eC (.int 2147483629))))) (sRet (eOp modD (vE (eUn intD (vE (eOp fdivD (vVar 4) (vE (eC (.int 16))))))) (vVar 1)))))))
def F__law_draw : Fn := fnOf 2 5 b__law_draw
/-! _law_pick: 0 pool, 1 things; own: ['pool'] -/
def b__law_pick : MS := (sRet (eOp ixD (vVar 1) (vE (eCall F__law_draw (gOwn 0 (gCons (eUn lenD (vVar 1)) gNil))))))
def F__law_pick : Fn := fnOf 2 2 b__law_pick
/-! _law_shuffled: 0 pool, 1 things, 2 left, 3 k; own: ['left', 'pool'] -/
def e1__law_shuffled : ME := (ePopAt 2 (eCall F__law_draw (gOwn 0 (gCons (eUn lenD (vVar 2)) gNil))))
theorem u_e1__law_shuffled (s : Sl) (r : List Sl) : e1__law_shuffled (s :: r) = (ePopAt 2 (eCall F__law_draw (gOwn 0 (gCons (eUn lenD (vVar 2)) gNil)))) (s :: r) := rfl
def b__law_shuffled : MS := (sSeq (sSetN 2 (nUn listL (vVar 1))) (sRet (eFr (nLc [3] (iRange1 (eUn lenD (vVar 2))) (.nm 3) tYes' e1__law_shuffled))))
def F__law_shuffled : Fn := fnOf 2 4 b__law_shuffled
/-! _law_drawn_words: 0 pool, 1 kind, 2 letters, 3 found, 4 k, 5 word, 6 j; own: ['pool'] -/
def e1__law_drawn_words : ME := (eCall F__law_pick (gOwn 0 (gCons (eVar 2) gNil)))
theorem u_e1__law_drawn_words (s : Sl) (r : List Sl) : e1__law_drawn_words (s :: r) = (eCall F__law_pick (gOwn 0 (gCons (eVar 2) gNil))) (s :: r) := rfl
def l2__law_drawn_words : MS := (sSeq (sSetL 5 (eOp joinD (vE (eC (.str []))) (vE (eFr (nLc [6] (iRange1 (eIf (tOf (eOp eqD (vVar 1) (vE (eC (.int 1))))) (eC (.int 3)) (eCall F__law_draw (gOwn 0 (gCons (eC (.int 5)) gNil))))) (.nm 6) tYes' e1__law_drawn_words))))) (sSetL 3 (eOp addD (vVar 3) (vE (eIf (tOf (eOp ninD (vVar 5) (vVar 3))) (eFr (nLst (aCons (eVar 5) aNil))) (eFr (nLst aNil)))))))
theorem u_l2__law_drawn_words (s : Sl) (r : List Sl) : l2__law_drawn_words (s :: r) = (sSeq (sSetL 5 (eOp joinD (vE (eC (.str []))) (vE (eFr (nLc [6] (iRange1 (eIf (tOf (eOp eqD (vVar 1) (vE (eC (.int 1))))) (eC (.int 3)) (eCall F__law_draw (gOwn 0 (gCons (eC (.int 5)) gNil))))) (.nm 6) tYes' e1__law_drawn_words))))) (sSetL 3 (eOp addD (vVar 3) (vE (eIf (tOf (eOp ninD (vVar 5) (vVar 3))) (eFr (nLst (aCons (eVar 5) aNil))) (eFr (nLst aNil))))))) (s :: r) := rfl
def b__law_drawn_words : MS := (sSeq (sAsg (.tp [(.nm 1), (.nm 2)]) (eTup (aCons (eCall F__law_draw (gOwn 0 (gCons (eC (.int 5)) gNil))) (aCons (eCall F__law_pick (gOwn 0 (gCons (eFr (nLst (aCons (eC (.str [97, 98])) (aCons (eC (.str [97, 98])) (aCons (eC (.str [97, 98, 99])) (aCons (eC (.str [95, 97, 122])) aNil)))))) gNil))) aNil)))) (sSeq (sIf (tOf (eOp eqD (vVar 1) (vE (eC (.int 0))))) (sRet (eUn tupD (vE (eSl (vE (eCall F__law_shuffled (gOwn 0 (gCons (eFr (nUn listL (vE (eC (.str [97, 98, 99, 100, 101, 102, 103, 104, 105, 106, 107, 108]))))) gNil)))) oNo (oAt (eOp addD (vE (eC (.int 1))) (vE (eCall F__law_draw (gOwn 0 (gCons (eC (.int 12)) gNil)))))))))) sNx) (sSeq (sSetL 3 (eFr (nLst aNil))) (sSeq (sFor (iRange1 (eOp addD (vE (eC (.int 1))) (vE (eCall F__law_draw (gOwn 0 (gCons (eC (.int 6)) gNil)))))) (.nm 4) l2__law_drawn_words) (sRet (eUn tupD (vVar 3)))))))
def F__law_drawn_words : Fn := fnOf 1 7 b__law_drawn_words
/-! _law_answer: 0 word, 1 side, 2 place; own: [] -/
def b__law_answer : MS := (sSeq (sIf (tOf (eOp geD (vVar 2) (vE (eUn lenD (vVar 0))))) (sRet (eC (.str []))) sNx) (sRet (eIf (tOf (eOp eqD (vVar 1) (vE (eC (.str [108, 101, 102, 116]))))) (eOp ixD (vVar 0) (vVar 2)) (eOp ixD (vVar 0) (vE (eOp subD (vE (eOp subD (vE (eUn lenD (vVar 0))) (vE (eC (.int 1))))) (vVar 2)))))))
def F__law_answer : Fn := fnOf 3 3 b__law_answer
/-! _law_parts: 0 words, 1 side, 2 place, 3 found, 4 word, 5 letter; own: ['found'] -/
def l1__law_parts : MS := (sSeq (sSetL 5 (eCall F__law_answer (gCons (eVar 4) (gCons (eVar 1) (gCons (eVar 2) gNil))))) (sPut 3 (eVar 5) (eOp addD (vE (eGet (vVar 3) (eVar 5) (eTup aNil))) (vE (eTup (aCons (eVar 4) aNil))))))
theorem u_l1__law_parts (s : Sl) (r : List Sl) : l1__law_parts (s :: r) = (sSeq (sSetL 5 (eCall F__law_answer (gCons (eVar 4) (gCons (eVar 1) (gCons (eVar 2) gNil))))) (sPut 3 (eVar 5) (eOp addD (vE (eGet (vVar 3) (eVar 5) (eTup aNil))) (vE (eTup (aCons (eVar 4) aNil)))))) (s :: r) := rfl
def b__law_parts : MS := (sSeq (sSetN 3 (nDic false)) (sSeq (sFor (iAny (eVar 0)) (.nm 4) l1__law_parts) (sFrz 3 (sRet (eVar 3)))))
def F__law_parts : Fn := fnOf 3 6 b__law_parts
/-! _law_questions: 0 words, 1 found, 2 side, 3 place, 4 word; own: ['found'] -/
def l1__law_questions : MS := (sIf (tOf (eOp gtD (vE (eUn lenD (vE (eCall F__law_parts (gCons (eVar 0) (gCons (eVar 2) (gCons (eVar 3) gNil))))))) (vE (eC (.int 1))))) (sDrop (eApp 1 (eTup (aCons (eVar 2) (aCons (eVar 3) aNil))))) sNx)
theorem u_l1__law_questions (s : Sl) (r : List Sl) : l1__law_questions (s :: r) = (sIf (tOf (eOp gtD (vE (eUn lenD (vE (eCall F__law_parts (gCons (eVar 0) (gCons (eVar 2) (gCons (eVar 3) gNil))))))) (vE (eC (.int 1))))) (sDrop (eApp 1 (eTup (aCons (eVar 2) (aCons (eVar 3) aNil))))) sNx) (s :: r) := rfl
def l2__law_questions : MS := (sFor (iRange1 (eUn maxD (vE (eFr (nLc [4] (iAny (eVar 0)) (.nm 4) tYes' (eUn lenD (vVar 4))))))) (.nm 3) l1__law_questions)
theorem u_l2__law_questions (s : Sl) (r : List Sl) : l2__law_questions (s :: r) = (sFor (iRange1 (eUn maxD (vE (eFr (nLc [4] (iAny (eVar 0)) (.nm 4) tYes' (eUn lenD (vVar 4))))))) (.nm 3) l1__law_questions) (s :: r) := rfl
def b__law_questions : MS := (sSeq (sSetN 1 (nLst aNil)) (sSeq (sFor (iAny (eFr (nLst (aCons (eC (.str [108, 101, 102, 116])) (aCons (eC (.str [114, 105, 103, 104, 116])) aNil))))) (.nm 2) l2__law_questions) (sFrz 1 (sRet (eVar 1)))))
def F__law_questions : Fn := fnOf 1 5 b__law_questions
/-! _law_least_numbers: 0 words, 1 lots, 2 at, 3 turn, 4 side, 5 place, 6 parts, 7 found, 8 size, 9 lot, 10 numbers, 11 letter; own: ['found', 'numbers'] -/
def t1__law_least_numbers : MT := (tOf (eOp ninD (vE (eOp ixD (vVar 6) (vVar 11))) (vVar 1)))
theorem u_t1__law_least_numbers (s : Sl) (r : List Sl) : t1__law_least_numbers (s :: r) = (tOf (eOp ninD (vE (eOp ixD (vVar 6) (vVar 11))) (vVar 1))) (s :: r) := rfl
def l2__law_least_numbers : MS := (sSeq (sSetL 6 (eCall F__law_parts (gCons (eOp ixD (vVar 1) (vVar 2)) (gCons (eVar 4) (gCons (eVar 5) gNil))))) (sSetL 1 (eOp addD (vVar 1) (vE (eFr (nLc [11] (iAny (eVar 6)) (.nm 11) t1__law_least_numbers (eOp ixD (vVar 6) (vVar 11))))))))
theorem u_l2__law_least_numbers (s : Sl) (r : List Sl) : l2__law_least_numbers (s :: r) = (sSeq (sSetL 6 (eCall F__law_parts (gCons (eOp ixD (vVar 1) (vVar 2)) (gCons (eVar 4) (gCons (eVar 5) gNil))))) (sSetL 1 (eOp addD (vVar 1) (vE (eFr (nLc [11] (iAny (eVar 6)) (.nm 11) t1__law_least_numbers (eOp ixD (vVar 6) (vVar 11)))))))) (s :: r) := rfl
def l3__law_least_numbers : MS := (sSeq (sIf (tOf (eOp geD (vVar 2) (vE (eUn lenD (vVar 1))))) sBk sNx) (sSeq (sFor (iAny (eCall F__law_questions (gCons (eOp ixD (vVar 1) (vVar 2)) gNil))) (.tp [(.nm 4), (.nm 5)]) l2__law_least_numbers) (sSetL 2 (eOp addD (vVar 2) (vE (eC (.int 1)))))))
theorem u_l3__law_least_numbers (s : Sl) (r : List Sl) : l3__law_least_numbers (s :: r) = (sSeq (sIf (tOf (eOp geD (vVar 2) (vE (eUn lenD (vVar 1))))) sBk sNx) (sSeq (sFor (iAny (eCall F__law_questions (gCons (eOp ixD (vVar 1) (vVar 2)) gNil))) (.tp [(.nm 4), (.nm 5)]) l2__law_least_numbers) (sSetL 2 (eOp addD (vVar 2) (vE (eC (.int 1))))))) (s :: r) := rfl
def e4__law_least_numbers : ME := (eTup (aCons (eUn lenD (vVar 9)) (aCons (eVar 9) aNil)))
theorem u_e4__law_least_numbers (s : Sl) (r : List Sl) : e4__law_least_numbers (s :: r) = (eTup (aCons (eUn lenD (vVar 9)) (aCons (eVar 9) aNil))) (s :: r) := rfl
def e5__law_least_numbers : ME := (eOp ixD (vVar 7) (vE (eOp ixD (vVar 6) (vVar 11))))
theorem u_e5__law_least_numbers (s : Sl) (r : List Sl) : e5__law_least_numbers (s :: r) = (eOp ixD (vVar 7) (vE (eOp ixD (vVar 6) (vVar 11)))) (s :: r) := rfl
def l6__law_least_numbers : MS := (sSeq (sSetL 6 (eCall F__law_parts (gCons (eVar 9) (gCons (eVar 4) (gCons (eVar 5) gNil))))) (sDrop (eApp 10 (eOp addD (vE (eC (.int 1))) (vE (eUn maxD (vE (eFr (nLc [11] (iAny (eVar 6)) (.nm 11) tYes' e5__law_least_numbers)))))))))
theorem u_l6__law_least_numbers (s : Sl) (r : List Sl) : l6__law_least_numbers (s :: r) = (sSeq (sSetL 6 (eCall F__law_parts (gCons (eVar 9) (gCons (eVar 4) (gCons (eVar 5) gNil))))) (sDrop (eApp 10 (eOp addD (vE (eC (.int 1))) (vE (eUn maxD (vE (eFr (nLc [11] (iAny (eVar 6)) (.nm 11) tYes' e5__law_least_numbers))))))))) (s :: r) := rfl
def l7__law_least_numbers : MS := (sSeq (sSetN 10 (nLst aNil)) (sSeq (sFor (iAny (eCall F__law_questions (gCons (eVar 9) gNil))) (.tp [(.nm 4), (.nm 5)]) l6__law_least_numbers) (sPut 7 (eVar 9) (eIf (tOf (eOp gtD (vVar 8) (vE (eC (.int 1))))) (eUn minD (vVar 10)) (eC (.int 0))))))
theorem u_l7__law_least_numbers (s : Sl) (r : List Sl) : l7__law_least_numbers (s :: r) = (sSeq (sSetN 10 (nLst aNil)) (sSeq (sFor (iAny (eCall F__law_questions (gCons (eVar 9) gNil))) (.tp [(.nm 4), (.nm 5)]) l6__law_least_numbers) (sPut 7 (eVar 9) (eIf (tOf (eOp gtD (vVar 8) (vE (eC (.int 1))))) (eUn minD (vVar 10)) (eC (.int 0)))))) (s :: r) := rfl
def b__law_least_numbers : MS := (sSeq (sAsg (.tp [(.nm 1), (.nm 2)]) (eTup (aCons (eFr (nLst (aCons (eVar 0) aNil))) (aCons (eC (.int 0)) aNil)))) (sSeq (sFor (iRange1 (eC (.int 5000))) (.nm 3) l3__law_least_numbers) (sSeq (sSetN 7 (nDic true)) (sSeq (sFor (iAny (eFr (nUn sortL (vE (eFr (nLc [9] (iAny (eVar 1)) (.nm 9) tYes' e4__law_least_numbers)))))) (.tp [(.nm 8), (.nm 9)]) l7__law_least_numbers) (sFrz 7 (sRet (eVar 7)))))))
def F__law_least_numbers : Fn := fnOf 1 12 b__law_least_numbers
/-! _law_drawn_plan: 0 pool, 1 plan, 2 depth, 3 turn, 4 other; own: ['pool'] -/
def l1__law_drawn_plan : MS := (sSeq (sSetL 4 (eIf (tOf (eOp gtD (vVar 3) (vE (eC (.int 0))))) (eCall F__law_pick (gOwn 0 (gCons (eFr (nLst (aCons (eC (.str [])) (aCons (eC (.str [97])) (aCons (eTup (aCons (eC (.str [114, 105, 103, 104, 116])) (aCons (eC (.int 0)) (aCons (eTup (aCons (eTup (aCons (eC (.str [])) (aCons (eC (.str [98])) aNil))) (aCons (eTup (aCons (eC (.str [99])) (aCons (eC (.str [97, 99])) aNil))) aNil))) aNil)))) aNil))))) gNil))) (eC (.str [120])))) (sSetL 1 (eTup (aCons (eCall F__law_pick (gOwn 0 (gCons (eFr (nLst (aCons (eC (.str [108, 101, 102, 116])) (aCons (eC (.str [114, 105, 103, 104, 116])) aNil)))) gNil))) (aCons (eCall F__law_draw (gOwn 0 (gCons (eC (.int 4)) gNil))) (aCons (eTup (aCons (eTup (aCons (eCall F__law_pick (gOwn 0 (gCons (eFr (nLst (aCons (eC (.str [])) (aCons (eC (.str [95])) (aCons (eC (.str [97])) aNil))))) gNil))) (aCons (eVar 1) aNil))) (aCons (eTup (aCons (eC (.str [98])) (aCons (eVar 4) aNil))) aNil))) aNil))))))
theorem u_l1__law_drawn_plan (s : Sl) (r : List Sl) : l1__law_drawn_plan (s :: r) = (sSeq (sSetL 4 (eIf (tOf (eOp gtD (vVar 3) (vE (eC (.int 0))))) (eCall F__law_pick (gOwn 0 (gCons (eFr (nLst (aCons (eC (.str [])) (aCons (eC (.str [97])) (aCons (eTup (aCons (eC (.str [114, 105, 103, 104, 116])) (aCons (eC (.int 0)) (aCons (eTup (aCons (eTup (aCons (eC (.str [])) (aCons (eC (.str [98])) aNil))) (aCons (eTup (aCons (eC (.str [99])) (aCons (eC (.str [97, 99])) aNil))) aNil))) aNil)))) aNil))))) gNil))) (eC (.str [120])))) (sSetL 1 (eTup (aCons (eCall F__law_pick (gOwn 0 (gCons (eFr (nLst (aCons (eC (.str [108, 101, 102, 116])) (aCons (eC (.str [114, 105, 103, 104, 116])) aNil)))) gNil))) (aCons (eCall F__law_draw (gOwn 0 (gCons (eC (.int 4)) gNil))) (aCons (eTup (aCons (eTup (aCons (eCall F__law_pick (gOwn 0 (gCons (eFr (nLst (aCons (eC (.str [])) (aCons (eC (.str [95])) (aCons (eC (.str [97])) aNil))))) gNil))) (aCons (eVar 1) aNil))) (aCons (eTup (aCons (eC (.str [98])) (aCons (eVar 4) aNil))) aNil))) aNil)))))) (s :: r) := rfl
def b__law_drawn_plan : MS := (sSeq (sPar [1, 2] (gCons (eC (.str [97, 98])) (gCons (eCall F__law_draw (gOwn 0 (gCons (eC (.int 5)) gNil))) gNil))) (sSeq (sFor (iRange1 (eVar 2)) (.nm 3) l1__law_drawn_plan) (sRet (eTup (aCons (eVar 1) (aCons (eVar 2) aNil))))))
def F__law_drawn_plan : Fn := fnOf 1 5 b__law_drawn_plan
/-! _law_same: 0 told, 1 due, 2 k; own: [] -/
def t1__law_same (rec : Fn) : MT := (tNot (tOf (eCall rec (gCons (eOp ixD (vVar 0) (vVar 2)) (gCons (eOp ixD (vVar 1) (vVar 2)) gNil)))))
theorem u_t1__law_same (rec : Fn) (s : Sl) (r : List Sl) : t1__law_same rec (s :: r) = (tNot (tOf (eCall rec (gCons (eOp ixD (vVar 0) (vVar 2)) (gCons (eOp ixD (vVar 1) (vVar 2)) gNil))))) (s :: r) := rfl
def b__law_same (rec : Fn) : MS := (sSeq (sIf (tOf (eUn (isiD .tup) (vVar 1))) (sSeq (sIf (Rl.tOr (tNot (tOf (eUn (isiD .tup) (vVar 0)))) (tOf (eOp neD (vE (eUn lenD (vVar 0))) (vE (eUn lenD (vVar 1)))))) (sRet (eC (.bl false))) sNx) (sRet (eOp eqD (vE (eFr (nLc [2] (iRange1 (eUn lenD (vVar 1))) (.nm 2) (t1__law_same rec) (eVar 2)))) (vE (eFr (nLst aNil)))))) sNx) (sSeq (sIf (tOf (eUn (isiD .str) (vVar 1))) (sRet (eAnd (eUn (isiD .str) (vVar 0)) (eOp eqD (vVar 0) (vVar 1)))) sNx) (sSeq (sIf (tOf (eOp isNonD (vVar 1) (vE (eC .non)))) (sRet (eOp isNonD (vVar 0) (vE (eC .non)))) sNx) (sRet (eAnd (eUn (isiD .int) (vVar 0)) (eAnd (eOp eqD (vE (eUn (isiD .bool) (vVar 0))) (vE (eUn (isiD .bool) (vVar 1)))) (eOp eqD (vVar 0) (vVar 1))))))))
def F__law_same : Nat → Fn
  | 0 => fun _ => none
  | n + 1 => fnOf 2 3 (b__law_same (F__law_same n))
/-! _law_plan: 0 least, 1 plans, 2 size, 3 lot, 4 side, 5 place, 6 parts, 7 letter; own: ['plans'] -/
def e1__law_plan : ME := (eTup (aCons (eUn lenD (vVar 3)) (aCons (eVar 3) aNil)))
theorem u_e1__law_plan (s : Sl) (r : List Sl) : e1__law_plan (s :: r) = (eTup (aCons (eUn lenD (vVar 3)) (aCons (eVar 3) aNil))) (s :: r) := rfl
def e2__law_plan : ME := (eOp ixD (vVar 0) (vE (eOp ixD (vVar 6) (vVar 7))))
theorem u_e2__law_plan (s : Sl) (r : List Sl) : e2__law_plan (s :: r) = (eOp ixD (vVar 0) (vE (eOp ixD (vVar 6) (vVar 7)))) (s :: r) := rfl
def e3__law_plan : ME := (eTup (aCons (eVar 7) (aCons (eOp ixD (vVar 1) (vE (eOp ixD (vVar 6) (vVar 7)))) aNil)))
theorem u_e3__law_plan (s : Sl) (r : List Sl) : e3__law_plan (s :: r) = (eTup (aCons (eVar 7) (aCons (eOp ixD (vVar 1) (vE (eOp ixD (vVar 6) (vVar 7)))) aNil))) (s :: r) := rfl
def l4__law_plan : MS := (sSeq (sSetL 6 (eCall F__law_parts (gCons (eVar 3) (gCons (eVar 4) (gCons (eVar 5) gNil))))) (sIf (Rl.tAnd (tOf (eOp ninD (vVar 3) (vVar 1))) (tOf (eOp eqD (vE (eOp addD (vE (eC (.int 1))) (vE (eUn maxD (vE (eFr (nLc [7] (iAny (eVar 6)) (.nm 7) tYes' e2__law_plan))))))) (vE (eOp ixD (vVar 0) (vVar 3)))))) (sPut 1 (eVar 3) (eTup (aCons (eVar 4) (aCons (eVar 5) (aCons (eUn tupD (vE (eFr (nLc [7] (iAny (eFr (nUn sortL (vVar 6)))) (.nm 7) tYes' e3__law_plan)))) aNil))))) sNx))
theorem u_l4__law_plan (s : Sl) (r : List Sl) : l4__law_plan (s :: r) = (sSeq (sSetL 6 (eCall F__law_parts (gCons (eVar 3) (gCons (eVar 4) (gCons (eVar 5) gNil))))) (sIf (Rl.tAnd (tOf (eOp ninD (vVar 3) (vVar 1))) (tOf (eOp eqD (vE (eOp addD (vE (eC (.int 1))) (vE (eUn maxD (vE (eFr (nLc [7] (iAny (eVar 6)) (.nm 7) tYes' e2__law_plan))))))) (vE (eOp ixD (vVar 0) (vVar 3)))))) (sPut 1 (eVar 3) (eTup (aCons (eVar 4) (aCons (eVar 5) (aCons (eUn tupD (vE (eFr (nLc [7] (iAny (eFr (nUn sortL (vVar 6)))) (.nm 7) tYes' e3__law_plan)))) aNil))))) sNx)) (s :: r) := rfl
def l5__law_plan : MS := (sSeq (sIf (tOf (eOp eqD (vVar 2) (vE (eC (.int 1))))) (sSeq (sPut 1 (eVar 3) (eOp ixD (vVar 3) (vE (eC (.int 0))))) sCt) sNx) (sFor (iAny (eCall F__law_questions (gCons (eVar 3) gNil))) (.tp [(.nm 4), (.nm 5)]) l4__law_plan))
theorem u_l5__law_plan (s : Sl) (r : List Sl) : l5__law_plan (s :: r) = (sSeq (sIf (tOf (eOp eqD (vVar 2) (vE (eC (.int 1))))) (sSeq (sPut 1 (eVar 3) (eOp ixD (vVar 3) (vE (eC (.int 0))))) sCt) sNx) (sFor (iAny (eCall F__law_questions (gCons (eVar 3) gNil))) (.tp [(.nm 4), (.nm 5)]) l4__law_plan)) (s :: r) := rfl
def b__law_plan : MS := (sSeq (sSetN 1 (nDic true)) (sSeq (sFor (iAny (eFr (nUn sortL (vE (eFr (nLc [3] (iAny (eVar 0)) (.nm 3) tYes' e1__law_plan)))))) (.tp [(.nm 2), (.nm 3)]) l5__law_plan) (sFrz 1 (sRet (eVar 1)))))
def F__law_plan : Fn := fnOf 1 8 b__law_plan
/-! plan_depth: 0 plan, 1 letter, 2 later; own: [] -/
def b_plan_depth (rec : Fn) : MS := (sSeq (sIf (tOf (eUn (isiD .str) (vVar 0))) (sRet (eC (.int 0))) sNx) (sRet (eOp addD (vE (eC (.int 1))) (vE (eUn maxD (vE (eFr (nLc [1, 2] (iAny (eOp ixD (vVar 0) (vE (eC (.int 2))))) (.tp [(.nm 1), (.nm 2)]) tYes' (eCall rec (gCons (eVar 2) gNil))))))))))
def F_plan_depth : Nat → Fn
  | 0 => fun _ => none
  | n + 1 => fnOf 1 3 (b_plan_depth (F_plan_depth n))
/-! answer_of: 0 word, 1 side, 2 place; own: [] -/
def b_answer_of : MS := (sSeq (sIf (tOf (eOp geD (vVar 2) (vE (eUn lenD (vVar 0))))) (sRet (eC (.str []))) sNx) (sSeq (sIf (tOf (eOp eqD (vVar 1) (vE (eC (.str [108, 101, 102, 116]))))) (sRet (eOp ixD (vVar 0) (vVar 2))) sNx) (sRet (eOp ixD (vVar 0) (vE (eOp subD (vE (eOp subD (vE (eUn lenD (vVar 0))) (vE (eC (.int 1))))) (vVar 2)))))))
def F_answer_of : Fn := fnOf 3 3 b_answer_of
/-! parts_of: 0 lot, 1 side, 2 place, 3 rows, 4 word, 5 letter; own: ['rows'] -/
def l1_parts_of : MS := (sSdApp 3 (eCall F_answer_of (gCons (eVar 4) (gCons (eVar 1) (gCons (eVar 2) gNil)))) (eVar 4))
theorem u_l1_parts_of (s : Sl) (r : List Sl) : l1_parts_of (s :: r) = (sSdApp 3 (eCall F_answer_of (gCons (eVar 4) (gCons (eVar 1) (gCons (eVar 2) gNil)))) (eVar 4)) (s :: r) := rfl
def e2_parts_of : ME := (eTup (aCons (eVar 5) (aCons (eUn tupD (vE (eOp ixD (vVar 3) (vVar 5)))) aNil)))
theorem u_e2_parts_of (s : Sl) (r : List Sl) : e2_parts_of (s :: r) = (eTup (aCons (eVar 5) (aCons (eUn tupD (vE (eOp ixD (vVar 3) (vVar 5)))) aNil))) (s :: r) := rfl
def b_parts_of : MS := (sSeq (sSetN 3 (nDic false)) (sSeq (sFor (iAny (eVar 0)) (.nm 4) l1_parts_of) (sFrz 3 (sRet (eFr (nLc [5] (iAny (eFr (nUn sortL (vVar 3)))) (.nm 5) tYes' e2_parts_of))))))
def F_parts_of : Fn := fnOf 3 6 b_parts_of
/-! best_plan: 0 lot, 1 known, 2 best, 3 side, 4 place, 5 parts, 6 plans, 7 number, 8 letter, 9 part, 10 word, 11 found; own: ['known'] -/
def e1_best_plan (rec : Fn) : ME := (eTup (aCons (eVar 8) (aCons (eCall rec (gCons (eVar 9) (gOwn 1 gNil))) aNil)))
theorem u_e1_best_plan (rec : Fn) (s : Sl) (r : List Sl) : e1_best_plan rec (s :: r) = (eTup (aCons (eVar 8) (aCons (eCall rec (gCons (eVar 9) (gOwn 1 gNil))) aNil))) (s :: r) := rfl
def l2_best_plan (rec : Fn) : MS := (sSeq (sSetL 5 (eCall F_parts_of (gCons (eVar 0) (gCons (eVar 3) (gCons (eVar 4) gNil))))) (sSeq (sIf (Rl.tOr (tOf (eOp eqD (vE (eUn lenD (vVar 5))) (vE (eC (.int 1))))) (tOf (eOp eqD (vE (eOp ixD (vVar 2) (vE (eC (.int 0))))) (vE (eC (.int 1)))))) sCt sNx) (sSeq (sSetL 6 (eFr (nLc [8, 9] (iAny (eVar 5)) (.tp [(.nm 8), (.nm 9)]) tYes' (e1_best_plan rec)))) (sSeq (sSetL 7 (eOp addD (vE (eC (.int 1))) (vE (eUn maxD (vE (eFr (nLc [8, 11] (iAny (eVar 6)) (.tp [(.nm 8), (.nm 11)]) tYes' (eOp ixD (vVar 11) (vE (eC (.int 0))))))))))) (sIf (tOf (eOp ltD (vVar 7) (vE (eOp ixD (vVar 2) (vE (eC (.int 0))))))) (sSetL 2 (eTup (aCons (eVar 7) (aCons (eTup (aCons (eVar 3) (aCons (eVar 4) (aCons (eTupGx (eVar 6) 1) aNil)))) aNil)))) sNx)))))
theorem u_l2_best_plan (rec : Fn) (s : Sl) (r : List Sl) : l2_best_plan rec (s :: r) = (sSeq (sSetL 5 (eCall F_parts_of (gCons (eVar 0) (gCons (eVar 3) (gCons (eVar 4) gNil))))) (sSeq (sIf (Rl.tOr (tOf (eOp eqD (vE (eUn lenD (vVar 5))) (vE (eC (.int 1))))) (tOf (eOp eqD (vE (eOp ixD (vVar 2) (vE (eC (.int 0))))) (vE (eC (.int 1)))))) sCt sNx) (sSeq (sSetL 6 (eFr (nLc [8, 9] (iAny (eVar 5)) (.tp [(.nm 8), (.nm 9)]) tYes' (e1_best_plan rec)))) (sSeq (sSetL 7 (eOp addD (vE (eC (.int 1))) (vE (eUn maxD (vE (eFr (nLc [8, 11] (iAny (eVar 6)) (.tp [(.nm 8), (.nm 11)]) tYes' (eOp ixD (vVar 11) (vE (eC (.int 0))))))))))) (sIf (tOf (eOp ltD (vVar 7) (vE (eOp ixD (vVar 2) (vE (eC (.int 0))))))) (sSetL 2 (eTup (aCons (eVar 7) (aCons (eTup (aCons (eVar 3) (aCons (eVar 4) (aCons (eTupGx (eVar 6) 1) aNil)))) aNil)))) sNx))))) (s :: r) := rfl
def l3_best_plan (rec : Fn) : MS := (sFor (iRange1 (eUn maxD (vE (eFr (nLc [10] (iAny (eVar 0)) (.nm 10) tYes' (eUn lenD (vVar 10))))))) (.nm 4) (l2_best_plan rec))
theorem u_l3_best_plan (rec : Fn) (s : Sl) (r : List Sl) : l3_best_plan rec (s :: r) = (sFor (iRange1 (eUn maxD (vE (eFr (nLc [10] (iAny (eVar 0)) (.nm 10) tYes' (eUn lenD (vVar 10))))))) (.nm 4) (l2_best_plan rec)) (s :: r) := rfl
def b_best_plan (rec : Fn) : MS := (sSeq (sIf (tOf (eOp eqD (vE (eUn lenD (vVar 0))) (vE (eC (.int 1))))) (sRet (eTup (aCons (eC (.int 0)) (aCons (eOp ixD (vVar 0) (vE (eC (.int 0)))) aNil)))) sNx) (sSeq (sIf (tOf (eOp inD (vVar 0) (vVar 1))) (sRet (eOp ixD (vVar 1) (vVar 0))) sNx) (sSeq (sSetL 2 (eTup (aCons (eUn lenD (vVar 0)) (aCons (eTup aNil) aNil)))) (sSeq (sFor (iAny (eTup (aCons (eC (.str [108, 101, 102, 116])) (aCons (eC (.str [114, 105, 103, 104, 116])) aNil)))) (.nm 3) (l3_best_plan rec)) (sSeq (sPut 1 (eVar 0) (eVar 2)) (sRet (eVar 2)))))))
def F_best_plan : Nat → Fn
  | 0 => fun _ => none
  | n + 1 => fnOf 2 12 (b_best_plan (F_best_plan n))
/-! ask_plan: 0 words; own: [] -/
def b_ask_plan : MS := (sRet (eCall (F_best_plan 13) (gCons (eVar 0) (gNwc (nDic true) gNil))))
def F_ask_plan : Fn := fnOf 1 1 b_ask_plan
/-! law: 0 script, 1 pool, 2 turn, 3 words, 4 least, 5 due, 6 plan, 7 depth; own: ['pool'] -/
def l1_law : MS := (sSeq (sSetL 3 (eCall F__law_drawn_words (gOwn 1 gNil))) (sSeq (sSetL 4 (eCall F__law_least_numbers (gCons (eVar 3) gNil))) (sSeq (sSetL 5 (eTup (aCons (eOp ixD (vVar 4) (vVar 3)) (aCons (eOp ixD (vE (eCall F__law_plan (gCons (eVar 4) gNil))) (vVar 3)) aNil)))) (sSeq (sIf (Rl.tOr (tNot (tOf (eCall (F__law_same 60) (gCons (eCall F_ask_plan (gCons (eVar 3) gNil)) (gCons (eVar 5) gNil))))) (tNot (tOf (eCall (F__law_same 60) (gCons (eCallK F_ask_plan [0] (gCons (eVar 3) gNil)) (gCons (eVar 5) gNil)))))) (sRet (eC (.bl false))) sNx) (sSeq (sIf (tNot (tOf (eCall (F__law_same 60) (gCons (eCall (F_plan_depth 13) (gCons (eOp ixD (vVar 5) (vE (eC (.int 1)))) gNil)) (gCons (eOp ixD (vVar 5) (vE (eC (.int 0)))) gNil))))) (sRet (eC (.bl false))) sNx) (sSeq (sAsg (.tp [(.nm 6), (.nm 7)]) (eCall F__law_drawn_plan (gOwn 1 gNil))) (sIf (Rl.tOr (tNot (tOf (eCall (F__law_same 60) (gCons (eCall (F_plan_depth 13) (gCons (eVar 6) gNil)) (gCons (eVar 7) gNil))))) (tNot (tOf (eCall (F__law_same 60) (gCons (eCallK (F_plan_depth 13) [0] (gCons (eVar 6) gNil)) (gCons (eVar 7) gNil)))))) (sRet (eC (.bl false))) sNx)))))))
theorem u_l1_law (s : Sl) (r : List Sl) : l1_law (s :: r) = (sSeq (sSetL 3 (eCall F__law_drawn_words (gOwn 1 gNil))) (sSeq (sSetL 4 (eCall F__law_least_numbers (gCons (eVar 3) gNil))) (sSeq (sSetL 5 (eTup (aCons (eOp ixD (vVar 4) (vVar 3)) (aCons (eOp ixD (vE (eCall F__law_plan (gCons (eVar 4) gNil))) (vVar 3)) aNil)))) (sSeq (sIf (Rl.tOr (tNot (tOf (eCall (F__law_same 60) (gCons (eCall F_ask_plan (gCons (eVar 3) gNil)) (gCons (eVar 5) gNil))))) (tNot (tOf (eCall (F__law_same 60) (gCons (eCallK F_ask_plan [0] (gCons (eVar 3) gNil)) (gCons (eVar 5) gNil)))))) (sRet (eC (.bl false))) sNx) (sSeq (sIf (tNot (tOf (eCall (F__law_same 60) (gCons (eCall (F_plan_depth 13) (gCons (eOp ixD (vVar 5) (vE (eC (.int 1)))) gNil)) (gCons (eOp ixD (vVar 5) (vE (eC (.int 0)))) gNil))))) (sRet (eC (.bl false))) sNx) (sSeq (sAsg (.tp [(.nm 6), (.nm 7)]) (eCall F__law_drawn_plan (gOwn 1 gNil))) (sIf (Rl.tOr (tNot (tOf (eCall (F__law_same 60) (gCons (eCall (F_plan_depth 13) (gCons (eVar 6) gNil)) (gCons (eVar 7) gNil))))) (tNot (tOf (eCall (F__law_same 60) (gCons (eCallK (F_plan_depth 13) [0] (gCons (eVar 6) gNil)) (gCons (eVar 7) gNil)))))) (sRet (eC (.bl false))) sNx))))))) (s :: r) := rfl
def b_law : MS := (sSeq (sSetN 1 (nCall F__law_pool (gCons (eVar 0) gNil))) (sSeq (sFor (iRange1 (eC (.int 3))) (.nm 2) l1_law) (sRet (eC (.bl true)))))
def F_law : Fn := fnOf 1 8 b_law
end P82
end

set_option Elab.async false
set_option linter.all false
set_option maxRecDepth 100000
set_option autoImplicit false
set_option maxHeartbeats 4000000
/-! printed by gen.py: the mirrors of the defs, and that each def does what its mirror says -/
noncomputable section
namespace P82
open PySem PySem.Spec PyProof.Rows L2 Rl
def top (i : Nat) : Stmt := PySem.Challenge.pw_fewoffers_k82_plans_of_questions.main.body.getD i (.Pass ⟨0, 0, 0, 0⟩)
section
variable [Tabs] {P : Program} {w : World} {K : PySem.W.Frag} {mg : Str → Option Value} {base : Heap} {f : Addr} {fd : FuncData}
/-! _law_pool -/
abbrev st__law_pool : Stmt := top 7
theorem sc__law_pool : FnScope ["script"] ["script"] (defScope st__law_pool) := ⟨rfl, rfl, rfl, by decide +kernel, rfl, by decide +kernel, by decide +kernel⟩
theorem ok__law_pool (Fu : L2.Fun K "_law_pool" "_law_pool" st__law_pool f fd) (z_list : mg "list" = none) : FnOk P w K mg base CX0 1 f fd ["script"] (spF K F__law_pool) :=
  fn_ok (N := ["script"]) (k := 0) Fu sc__law_pool fun cdv A outer s H E hr => have hc : (cxOf CX0 P w K mg base ["script"] "_law_pool" (defScope st__law_pool) f cdv A outer s H E).nox.calm = true := rfl
    have hu := Rl.Room.hu hr
    (is_one (is_retN (in_cat (iv_e (ie_fr (in_lst (ia_cons ie_int (ia_cons ie_int (ia_cons ie_int ia_nil)))))) (iv_e (ie_fr (in_callT1 (cn_list hc) rfl z_list bt_list (iv_var 0 (pv 0))))))))

/-! _law_draw -/
abbrev st__law_draw : Stmt := top 8
theorem sc__law_draw : FnScope ["pool", "many", "cell", "digit", "mixed"] ["pool", "many"] (defScope st__law_draw) := ⟨rfl, rfl, rfl, by decide +kernel, rfl, by decide +kernel, by decide +kernel⟩
theorem ok__law_draw (Fu : L2.Fun K "_law_draw" "_law_draw" st__law_draw f fd) (z_len : mg "len" = none) (z_int : mg "int" = none) (z_abs : mg "abs" = none) : FnOk P w K mg base CX0 1 f fd ["pool", "many"] (spF K F__law_draw) :=
  fn_ok (N := ["pool", "many", "cell", "digit", "mixed"]) (k := 0) Fu sc__law_draw fun cdv A outer s H E hr => have hc : (cxOf CX0 P w K mg base ["pool", "many", "cell", "digit", "mixed"] "_law_draw" (defScope st__law_draw) f cdv A outer s H E).nox.calm = true := rfl
    have hu := Rl.Room.hu hr
    (is_seq (is_if (PW.pt (iw_and (it_cmp (od_eq (u64 hu)) (iv_e (ie_ix (xd_ix (u1 hu)) (iv_var 0 (pv 0)) (iv_e ie_int))) (iv_e ie_int) rfl) (iw_and1 (it_cmp od_lt (iv_e (ie_ix (xd_ix (u1 hu)) (iv_var 0 (pv 0)) (iv_e ie_int))) (iv_e (ie_callB1 cd_len rfl z_len bt_len (iv_var 0 (pv 0)))) rfl)))) (is_seq (is_setL 2 (by decide) sc__law_draw.nd rfl (.inl rfl) (ie_ix (xd_ix (u1 hu)) (iv_var 0 (pv 0)) (iv_e (ie_ix (xd_ix (u1 hu)) (iv_var 0 (pv 0)) (iv_e ie_int))))) (is_seq (is_put 0 (u1 hu) (pv 0) ie_int (ie_op od_add (iv_e (ie_ix (xd_ix (u1 hu)) (iv_var 0 (pv 0)) (iv_e ie_int))) (iv_e ie_int))) (is_seq (is_put 0 (u1 hu) (pv 0) ie_int (ie_op od_mod (iv_e (ie_callT1 cd_int rfl z_int bt_int (iv_e (ie_op od_add (iv_e (ie_op od_mul (iv_e (ie_ix (xd_ix (u1 hu)) (iv_var 0 (pv 0)) (iv_e ie_int))) (iv_e ie_int))) (iv_var 2 (pv 2)))))) (iv_e ie_int))) (is_one (is_if (it_cmp od_ge (iv_e (ie_callB1 cd_abs rfl z_abs bt_abs (iv_var 2 (pv 2)))) (iv_e (ie_op od_pow (iv_e ie_int) (iv_e ie_int))) rfl) (is_one (is_put 0 (u1 hu) (pv 0) ie_int (ie_callB1 cd_abs rfl z_abs bt_abs (iv_var 2 (pv 2))))) is_nil))))) is_nil) (is_seq (is_if (it_cmp od_gt (iv_e (ie_ix (xd_ix (u1 hu)) (iv_var 0 (pv 0)) (iv_e ie_int))) (iv_e ie_int) rfl) (is_seq (is_setL 3 (by decide) sc__law_draw.nd rfl (.inl rfl) (ie_op od_mod (iv_e (ie_callT1 cd_int rfl z_int bt_int (iv_e (ie_ix (xd_ix (u1 hu)) (iv_var 0 (pv 0)) (iv_e ie_int))))) (iv_var 1 (pv 1)))) (is_seq (is_put 0 (u1 hu) (pv 0) ie_int (ie_op od_fdiv (iv_e (ie_ix (xd_ix (u1 hu)) (iv_var 0 (pv 0)) (iv_e ie_int))) (iv_var 1 (pv 1)))) (is_one (is_ret (ie_var 3 (pv 3)))))) is_nil) (is_seq (is_put 0 (u1 hu) (pv 0) ie_int (ie_op od_mod (iv_e (ie_callT1 cd_int rfl z_int bt_int (iv_e (ie_op od_add (iv_e (ie_op od_mul (iv_e (ie_ix (xd_ix (u1 hu)) (iv_var 0 (pv 0)) (iv_e ie_int))) (iv_e ie_int))) (iv_e ie_int))))) (iv_e ie_int))) (is_seq (is_setL 4 (by decide) sc__law_draw.nd rfl (.inl rfl) (ie_op od_mod (iv_e (ie_callT1 cd_int rfl z_int bt_int (iv_e (ie_op od_add (iv_e (ie_op od_add (iv_e (ie_op od_mul (iv_e (ie_ix (xd_ix (u1 hu)) (iv_var 0 (pv 0)) (iv_e ie_int))) (iv_e ie_int))) (iv_e (ie_op od_fdiv (iv_e (ie_ix (xd_ix (u1 hu)) (iv_var 0 (pv 0)) (iv_e ie_int))) (iv_e ie_int))))) (iv_e ie_int))))) (iv_e ie_int))) (is_one (is_ret (ie_op od_mod (iv_e (ie_callT1 cd_int rfl z_int bt_int (iv_e (ie_op od_fdiv (iv_var 4 (pv 4)) (iv_e ie_int))))) (iv_var 1 (pv 1)))))))))

/-! _law_pick -/
abbrev st__law_pick : Stmt := top 9
theorem sc__law_pick : FnScope ["pool", "things"] ["pool", "things"] (defScope st__law_pick) := ⟨rfl, rfl, rfl, by decide +kernel, rfl, by decide +kernel, by decide +kernel⟩
theorem ok__law_pick (Fu : L2.Fun K "_law_pick" "_law_pick" st__law_pick f fd) {f__law_draw : Addr} {fd__law_draw : FuncData} (c__law_draw : Rl.Cal P w K mg base "_law_draw" 1 f__law_draw fd__law_draw ["pool", "many"] F__law_draw) (z_len : mg "len" = none) : FnOk P w K mg base CX0 2 f fd ["pool", "things"] (spF K F__law_pick) :=
  fn_ok (N := ["pool", "things"]) (k := 1) Fu sc__law_pick fun cdv A outer s H E hr => have hc : (cxOf CX0 P w K mg base ["pool", "things"] "_law_pick" (defScope st__law_pick) f cdv A outer s H E).nox.calm = true := rfl
    have hu := Rl.Room.hu hr
    (is_one (is_ret (ie_ix (xd_ix (u1 hu)) (iv_var 1 (pv 1)) (iv_e (ie_cl c__law_draw hr (by decide) rfl (iga_own 0 (pv 0) (iga_cons (ie_callB1 cd_len rfl z_len bt_len (iv_var 1 (pv 1))) iga_nil)))))))

/-! _law_shuffled -/
abbrev st__law_shuffled : Stmt := top 10
theorem sc__law_shuffled : FnScope ["pool", "things", "left", "k"] ["pool", "things"] (defScope st__law_shuffled) := ⟨rfl, rfl, rfl, by decide +kernel, rfl, by decide +kernel, by decide +kernel⟩
theorem ok__law_shuffled (Fu : L2.Fun K "_law_shuffled" "_law_shuffled" st__law_shuffled f fd) {f__law_draw : Addr} {fd__law_draw : FuncData} (c__law_draw : Rl.Cal P w K mg base "_law_draw" 1 f__law_draw fd__law_draw ["pool", "many"] F__law_draw) (z_list : mg "list" = none) (z_range : mg "range" = none) (z_len : mg "len" = none) : FnOk P w K mg base CX0 2 f fd ["pool", "things"] (spF K F__law_shuffled) :=
  fn_ok (N := ["pool", "things", "left", "k"]) (k := 1) Fu sc__law_shuffled fun cdv A outer s H E hr => have hc : (cxOf CX0 P w K mg base ["pool", "things", "left", "k"] "_law_shuffled" (defScope st__law_shuffled) f cdv A outer s H E).nox.calm = true := rfl
    have hu := Rl.Room.hu hr
    (is_seq (is_setN 2 (by decide) sc__law_shuffled.nd rfl (.inr rfl) (in_callT1 (cn_list hc) rfl z_list bt_list (iv_var 1 (pv 1)))) (is_one (is_ret (ie_fr (in_lc (own := [("k", 3)]) (t := (.nm 3)) hc sc__law_shuffled.nd (ii_range1 rfl z_range (ie_callB1 cd_len rfl z_len bt_len (iv_var 2 (pv 2)))) (blkOk_by (N := ["pool", "things", "left", "k"]) (sc := defScope st__law_shuffled) (own := [("k", 3)]) (by decide +kernel)) (fun _ _ _ _ _ => (ig_nm 3 (pg_name (i := 3) sc__law_shuffled.nd rfl (.inl rfl)))) (fun _ _ _ _ _ => its_nil) (fun _ _ _ _ _ => (ie_popAt 2 (pv 2) (ie_cl c__law_draw hr (by decide) rfl (iga_own 0 (pv 0) (iga_cons (ie_callB1 cd_len rfl z_len bt_len (iv_var 2 (pv 2))) iga_nil))))))))))

/-! _law_drawn_words -/
abbrev st__law_drawn_words : Stmt := top 16
theorem sc__law_drawn_words : FnScope ["pool", "kind", "letters", "found", "k", "word", "j"] ["pool"] (defScope st__law_drawn_words) := ⟨rfl, rfl, rfl, by decide +kernel, rfl, by decide +kernel, by decide +kernel⟩
theorem ok__law_drawn_words (Fu : L2.Fun K "_law_drawn_words" "_law_drawn_words" st__law_drawn_words f fd) {f__law_pick : Addr} {fd__law_pick : FuncData} (c__law_pick : Rl.Cal P w K mg base "_law_pick" 2 f__law_pick fd__law_pick ["pool", "things"] F__law_pick) {f__law_draw : Addr} {fd__law_draw : FuncData} (c__law_draw : Rl.Cal P w K mg base "_law_draw" 1 f__law_draw fd__law_draw ["pool", "many"] F__law_draw) {f__law_shuffled : Addr} {fd__law_shuffled : FuncData} (c__law_shuffled : Rl.Cal P w K mg base "_law_shuffled" 2 f__law_shuffled fd__law_shuffled ["pool", "things"] F__law_shuffled) (z_list : mg "list" = none) (z_tuple : mg "tuple" = none) (z_range : mg "range" = none) : FnOk P w K mg base CX0 3 f fd ["pool"] (spF K F__law_drawn_words) :=
  fn_ok (N := ["pool", "kind", "letters", "found", "k", "word", "j"]) (k := 2) Fu sc__law_drawn_words fun cdv A outer s H E hr => have hc : (cxOf CX0 P w K mg base ["pool", "kind", "letters", "found", "k", "word", "j"] "_law_drawn_words" (defScope st__law_drawn_words) f cdv A outer s H E).nox.calm = true := rfl
    have hu := Rl.Room.hu hr
    (is_seq (is_asg (ie_tup (ia_cons (ie_cl c__law_draw hr (by decide) rfl (iga_own 0 (pv 0) (iga_cons ie_int iga_nil))) (ia_cons (ie_cl c__law_pick hr (by decide) rfl (iga_own 0 (pv 0) (iga_cons (ie_fr (in_lst (ia_cons (ie_str) (ia_cons (ie_str) (ia_cons (ie_str) (ia_cons (ie_str) ia_nil)))))) iga_nil))) ia_nil))) (ig_tp hc (igs_cons (ig_nm 1 (pg_name (i := 1) sc__law_drawn_words.nd rfl (.inl rfl))) (igs_cons (ig_nm 2 (pg_name (i := 2) sc__law_drawn_words.nd rfl (.inr rfl))) igs_nil)))) (is_seq (is_if (it_cmp (od_eq (u64 hu)) (iv_var 1 (pv 1)) (iv_e ie_int) rfl) (is_one (is_ret (ie_callT1 cd_tuple rfl z_tuple bt_tuple (iv_e (ie_sl (iv_e (ie_cl c__law_shuffled hr (by decide) rfl (iga_own 0 (pv 0) (iga_cons (ie_fr (in_callT1 (cn_list hc) rfl z_list bt_list (iv_e (ie_str)))) iga_nil)))) io_no (io_at (ie_op od_add (iv_e ie_int) (iv_e (ie_cl c__law_draw hr (by decide) rfl (iga_own 0 (pv 0) (iga_cons ie_int iga_nil))))))))))) is_nil) (is_seq (is_setL 3 (by decide) sc__law_drawn_words.nd rfl (.inl rfl) (ie_fr (in_lst ia_nil))) (is_seq (is_for PassesOwn.never hc (ii_range1 rfl z_range (ie_op od_add (iv_e ie_int) (iv_e (ie_cl c__law_draw hr (by decide) rfl (iga_own 0 (pv 0) (iga_cons ie_int iga_nil)))))) (ig_nm 4 (pg_name (i := 4) sc__law_drawn_words.nd rfl (.inl rfl))) (is_seq (is_setL 5 (by decide) sc__law_drawn_words.nd rfl (.inl rfl) (ie_join (ie_str) (iv_e (ie_fr (in_lc (own := [("j", 6)]) (t := (.nm 6)) hc sc__law_drawn_words.nd (ii_range1 rfl z_range (ie_if (it_cmp (od_eq (u64 hu)) (iv_var 1 (pv 1)) (iv_e ie_int) rfl) ie_int (ie_cl c__law_draw hr (by decide) rfl (iga_own 0 (pv 0) (iga_cons ie_int iga_nil))))) (blkOk_by (N := ["pool", "kind", "letters", "found", "k", "word", "j"]) (sc := defScope st__law_drawn_words) (own := [("j", 6)]) (by decide +kernel)) (fun _ _ _ _ _ => (ig_nm 6 (pg_name (i := 6) sc__law_drawn_words.nd rfl (.inl rfl)))) (fun _ _ _ _ _ => its_nil) (fun _ _ _ _ _ => (ie_cl c__law_pick hr (by decide) rfl (iga_own 0 (pv 0) (iga_cons (ie_var 2 (pv 2)) iga_nil))))))))) (is_one (is_setL 3 (by decide) sc__law_drawn_words.nd rfl (.inl rfl) (ie_op od_add (iv_var 3 (pv 3)) (iv_e (ie_if (it_cmp (od_nin (u65 hu)) (iv_var 5 (pv 5)) (iv_var 3 (pv 3)) rfl) (ie_fr (in_lst (ia_cons (ie_var 5 (pv 5)) ia_nil))) (ie_fr (in_lst ia_nil))))))))) (is_one (is_ret (ie_callT1 cd_tuple rfl z_tuple bt_tuple (iv_var 3 (pv 3)))))))))

/-! _law_answer -/
abbrev st__law_answer : Stmt := top 12
theorem sc__law_answer : FnScope ["word", "side", "place"] ["word", "side", "place"] (defScope st__law_answer) := ⟨rfl, rfl, rfl, by decide +kernel, rfl, by decide +kernel, by decide +kernel⟩
theorem ok__law_answer (Fu : L2.Fun K "_law_answer" "_law_answer" st__law_answer f fd) (z_len : mg "len" = none) : FnOk P w K mg base CX0 1 f fd ["word", "side", "place"] (spF K F__law_answer) :=
  fn_ok (N := ["word", "side", "place"]) (k := 0) Fu sc__law_answer fun cdv A outer s H E hr => have hc : (cxOf CX0 P w K mg base ["word", "side", "place"] "_law_answer" (defScope st__law_answer) f cdv A outer s H E).nox.calm = true := rfl
    have hu := Rl.Room.hu hr
    (is_seq (is_if (it_cmp od_ge (iv_var 2 (pv 2)) (iv_e (ie_callB1 cd_len rfl z_len bt_len (iv_var 0 (pv 0)))) rfl) (is_one (is_ret (ie_str))) is_nil) (is_one (is_ret (ie_if (it_cmp (od_eq (u64 hu)) (iv_var 1 (pv 1)) (iv_e (ie_str)) rfl) (ie_ix (xd_ix (u1 hu)) (iv_var 0 (pv 0)) (iv_var 2 (pv 2))) (ie_ix (xd_ix (u1 hu)) (iv_var 0 (pv 0)) (iv_e (ie_op od_sub (iv_e (ie_op od_sub (iv_e (ie_callB1 cd_len rfl z_len bt_len (iv_var 0 (pv 0)))) (iv_e ie_int))) (iv_var 2 (pv 2)))))))))

/-! _law_parts -/
abbrev st__law_parts : Stmt := top 13
theorem sc__law_parts : FnScope ["words", "side", "place", "found", "word", "letter"] ["words", "side", "place"] (defScope st__law_parts) := ⟨rfl, rfl, rfl, by decide +kernel, rfl, by decide +kernel, by decide +kernel⟩
theorem ok__law_parts (Fu : L2.Fun K "_law_parts" "_law_parts" st__law_parts f fd) {f__law_answer : Addr} {fd__law_answer : FuncData} (c__law_answer : Rl.Cal P w K mg base "_law_answer" 1 f__law_answer fd__law_answer ["word", "side", "place"] F__law_answer) : FnOk P w K mg base CX0 2 f fd ["words", "side", "place"] (spF K F__law_parts) :=
  fn_ok (N := ["words", "side", "place", "found", "word", "letter"]) (k := 1) Fu sc__law_parts fun cdv A outer s H E hr => have hc : (cxOf CX0 P w K mg base ["words", "side", "place", "found", "word", "letter"] "_law_parts" (defScope st__law_parts) f cdv A outer s H E).nox.calm = true := rfl
    have hu := Rl.Room.hu hr
    (is_seq (is_setN 3 (by decide) sc__law_parts.nd rfl (.inl rfl) in_dicK) (is_seq (is_for PassesOwn.never hc (ii_any (ie_var 0 (pv 0))) (ig_nm 4 (pg_name (i := 4) sc__law_parts.nd rfl (.inl rfl))) (is_seq (is_setL 5 (by decide) sc__law_parts.nd rfl (.inl rfl) (ie_cl c__law_answer hr (by decide) rfl (iga_cons (ie_var 4 (pv 4)) (iga_cons (ie_var 1 (pv 1)) (iga_cons (ie_var 2 (pv 2)) iga_nil))))) (is_one (is_put 3 (u1 hu) (pv 3) (ie_var 5 (pv 5)) (ie_op od_add (iv_e (ie_get2 (u1 hu) (iv_var 3 (pv 3)) (ie_var 5 (pv 5)) (ie_tup ia_nil))) (iv_e (ie_tup (ia_cons (ie_var 4 (pv 4)) ia_nil)))))))) (is_frz 3 (by decide) (is_one (is_ret (ie_var 3 (pv 3)))))))

/-! _law_questions -/
abbrev st__law_questions : Stmt := top 14
theorem sc__law_questions : FnScope ["words", "found", "side", "place", "word"] ["words"] (defScope st__law_questions) := ⟨rfl, rfl, rfl, by decide +kernel, rfl, by decide +kernel, by decide +kernel⟩
theorem ok__law_questions (Fu : L2.Fun K "_law_questions" "_law_questions" st__law_questions f fd) {f__law_parts : Addr} {fd__law_parts : FuncData} (c__law_parts : Rl.Cal P w K mg base "_law_parts" 2 f__law_parts fd__law_parts ["words", "side", "place"] F__law_parts) (z_range : mg "range" = none) (z_len : mg "len" = none) (z_max : mg "max" = none) : FnOk P w K mg base CX0 3 f fd ["words"] (spF K F__law_questions) :=
  fn_ok (N := ["words", "found", "side", "place", "word"]) (k := 2) Fu sc__law_questions fun cdv A outer s H E hr => have hc : (cxOf CX0 P w K mg base ["words", "found", "side", "place", "word"] "_law_questions" (defScope st__law_questions) f cdv A outer s H E).nox.calm = true := rfl
    have hu := Rl.Room.hu hr
    (is_seq (is_setN 1 (by decide) sc__law_questions.nd rfl (.inl rfl) (in_lst ia_nil)) (is_seq (is_for PassesOwn.never hc (ii_any (ie_fr (in_lst (ia_cons (ie_str) (ia_cons (ie_str) ia_nil))))) (ig_nm 2 (pg_name (i := 2) sc__law_questions.nd rfl (.inl rfl))) (is_one (is_for PassesOwn.never hc (ii_range1 rfl z_range (ie_callB1 (cd_max hc) rfl z_max bt_max (iv_e (ie_fr (in_lc (own := [("word", 4)]) (t := (.nm 4)) hc sc__law_questions.nd (ii_any (ie_var 0 (pv 0))) (blkOk_by (N := ["words", "found", "side", "place", "word"]) (sc := defScope st__law_questions) (own := [("word", 4)]) (by decide +kernel)) (fun _ _ _ _ _ => (ig_nm 4 (pg_name (i := 4) sc__law_questions.nd rfl (.inl rfl)))) (fun _ _ _ _ _ => its_nil) (fun _ _ _ _ _ => (ie_callB1 cd_len rfl z_len bt_len (iv_var 4 (pv 4))))))))) (ig_nm 3 (pg_name (i := 3) sc__law_questions.nd rfl (.inl rfl))) (is_one (is_if (it_cmp od_gt (iv_e (ie_callB1 cd_len rfl z_len bt_len (iv_e (ie_cl c__law_parts hr (by decide) rfl (iga_cons (ie_var 0 (pv 0)) (iga_cons (ie_var 2 (pv 2)) (iga_cons (ie_var 3 (pv 3)) iga_nil))))))) (iv_e ie_int) rfl) (is_one (is_expr (ie_app 1 (pv 1) (ie_tup (ia_cons (ie_var 2 (pv 2)) (ia_cons (ie_var 3 (pv 3)) ia_nil)))))) is_nil))))) (is_frz 1 (by decide) (is_one (is_ret (ie_var 1 (pv 1)))))))

/-! _law_least_numbers -/
abbrev st__law_least_numbers : Stmt := top 15
theorem sc__law_least_numbers : FnScope ["words", "lots", "at", "turn", "side", "place", "parts", "found", "size", "lot", "numbers", "letter"] ["words"] (defScope st__law_least_numbers) := ⟨rfl, rfl, rfl, by decide +kernel, rfl, by decide +kernel, by decide +kernel⟩
theorem ok__law_least_numbers (Fu : L2.Fun K "_law_least_numbers" "_law_least_numbers" st__law_least_numbers f fd) {f__law_questions : Addr} {fd__law_questions : FuncData} (c__law_questions : Rl.Cal P w K mg base "_law_questions" 3 f__law_questions fd__law_questions ["words"] F__law_questions) {f__law_parts : Addr} {fd__law_parts : FuncData} (c__law_parts : Rl.Cal P w K mg base "_law_parts" 2 f__law_parts fd__law_parts ["words", "side", "place"] F__law_parts) (z_range : mg "range" = none) (z_len : mg "len" = none) (z_sorted : mg "sorted" = none) (z_max : mg "max" = none) (z_min : mg "min" = none) : FnOk P w K mg base CX0 4 f fd ["words"] (spF K F__law_least_numbers) :=
  fn_ok (N := ["words", "lots", "at", "turn", "side", "place", "parts", "found", "size", "lot", "numbers", "letter"]) (k := 3) Fu sc__law_least_numbers fun cdv A outer s H E hr => have hc : (cxOf CX0 P w K mg base ["words", "lots", "at", "turn", "side", "place", "parts", "found", "size", "lot", "numbers", "letter"] "_law_least_numbers" (defScope st__law_least_numbers) f cdv A outer s H E).nox.calm = true := rfl
    have hu := Rl.Room.hu hr
    (is_seq (is_asg (ie_tup (ia_cons (ie_fr (in_lst (ia_cons (ie_var 0 (pv 0)) ia_nil))) (ia_cons ie_int ia_nil))) (ig_tp hc (igs_cons (ig_nm 1 (pg_name (i := 1) sc__law_least_numbers.nd rfl (.inr rfl))) (igs_cons (ig_nm 2 (pg_name (i := 2) sc__law_least_numbers.nd rfl (.inl rfl))) igs_nil)))) (is_seq (is_for PassesOwn.never hc (ii_range1 rfl z_range ie_int) (ig_nm 3 (pg_name (i := 3) sc__law_least_numbers.nd rfl (.inl rfl))) (is_seq (is_if (it_cmp od_ge (iv_var 2 (pv 2)) (iv_e (ie_callB1 cd_len rfl z_len bt_len (iv_var 1 (pv 1)))) rfl) (is_one is_break) is_nil) (is_seq (is_for PassesOwn.never hc (ii_any (ie_cl c__law_questions hr (by decide) rfl (iga_cons (ie_ix (xd_ix (u1 hu)) (iv_var 1 (pv 1)) (iv_var 2 (pv 2))) iga_nil))) (ig_tp hc (igs_cons (ig_nm 4 (pg_name (i := 4) sc__law_least_numbers.nd rfl (.inl rfl))) (igs_cons (ig_nm 5 (pg_name (i := 5) sc__law_least_numbers.nd rfl (.inl rfl))) igs_nil))) (is_seq (is_setL 6 (by decide) sc__law_least_numbers.nd rfl (.inr rfl) (ie_cl c__law_parts hr (by decide) rfl (iga_cons (ie_ix (xd_ix (u1 hu)) (iv_var 1 (pv 1)) (iv_var 2 (pv 2))) (iga_cons (ie_var 4 (pv 4)) (iga_cons (ie_var 5 (pv 5)) iga_nil))))) (is_one (is_setL 1 (by decide) sc__law_least_numbers.nd rfl (.inr rfl) (ie_op od_add (iv_var 1 (pv 1)) (iv_e (ie_fr (in_lc (own := [("letter", 11)]) (t := (.nm 11)) hc sc__law_least_numbers.nd (ii_any (ie_var 6 (pv 6))) (blkOk_by (N := ["words", "lots", "at", "turn", "side", "place", "parts", "found", "size", "lot", "numbers", "letter"]) (sc := defScope st__law_least_numbers) (own := [("letter", 11)]) (by decide +kernel)) (fun _ _ _ _ _ => (ig_nm 11 (pg_name (i := 11) sc__law_least_numbers.nd rfl (.inl rfl)))) (fun _ _ _ _ _ => (its_one (it_cmp (od_nin (u65 hu)) (iv_e (ie_ix (xd_ix (u1 hu)) (iv_var 6 (pv 6)) (iv_var 11 (pv 11)))) (iv_var 1 (pv 1)) rfl))) (fun _ _ _ _ _ => (ie_ix (xd_ix (u1 hu)) (iv_var 6 (pv 6)) (iv_var 11 (pv 11)))))))))))) (is_one (is_setL 2 (by decide) sc__law_least_numbers.nd rfl (.inl rfl) (ie_op od_add (iv_var 2 (pv 2)) (iv_e ie_int))))))) (is_seq (is_setN 7 (by decide) sc__law_least_numbers.nd rfl (.inr rfl) in_dicT) (is_seq (is_for PassesOwn.never hc (ii_any (ie_fr (in_callB1 (cn_sorted hc hu) rfl z_sorted bt_sorted (iv_e (ie_fr (in_lc (own := [("lot", 9)]) (t := (.nm 9)) hc sc__law_least_numbers.nd (ii_any (ie_var 1 (pv 1))) (blkOk_by (N := ["words", "lots", "at", "turn", "side", "place", "parts", "found", "size", "lot", "numbers", "letter"]) (sc := defScope st__law_least_numbers) (own := [("lot", 9)]) (by decide +kernel)) (fun _ _ _ _ _ => (ig_nm 9 (pg_name (i := 9) sc__law_least_numbers.nd rfl (.inl rfl)))) (fun _ _ _ _ _ => its_nil) (fun _ _ _ _ _ => (ie_tup (ia_cons (ie_callB1 cd_len rfl z_len bt_len (iv_var 9 (pv 9))) (ia_cons (ie_var 9 (pv 9)) ia_nil)))))))))) (ig_tp hc (igs_cons (ig_nm 8 (pg_name (i := 8) sc__law_least_numbers.nd rfl (.inl rfl))) (igs_cons (ig_nm 9 (pg_name (i := 9) sc__law_least_numbers.nd rfl (.inl rfl))) igs_nil))) (is_seq (is_setN 10 (by decide) sc__law_least_numbers.nd rfl (.inl rfl) (in_lst ia_nil)) (is_seq (is_for PassesOwn.never hc (ii_any (ie_cl c__law_questions hr (by decide) rfl (iga_cons (ie_var 9 (pv 9)) iga_nil))) (ig_tp hc (igs_cons (ig_nm 4 (pg_name (i := 4) sc__law_least_numbers.nd rfl (.inl rfl))) (igs_cons (ig_nm 5 (pg_name (i := 5) sc__law_least_numbers.nd rfl (.inl rfl))) igs_nil))) (is_seq (is_setL 6 (by decide) sc__law_least_numbers.nd rfl (.inr rfl) (ie_cl c__law_parts hr (by decide) rfl (iga_cons (ie_var 9 (pv 9)) (iga_cons (ie_var 4 (pv 4)) (iga_cons (ie_var 5 (pv 5)) iga_nil))))) (is_one (is_expr (ie_app 10 (pv 10) (ie_op od_add (iv_e ie_int) (iv_e (ie_callB1 (cd_max hc) rfl z_max bt_max (iv_e (ie_fr (in_lc (own := [("letter", 11)]) (t := (.nm 11)) hc sc__law_least_numbers.nd (ii_any (ie_var 6 (pv 6))) (blkOk_by (N := ["words", "lots", "at", "turn", "side", "place", "parts", "found", "size", "lot", "numbers", "letter"]) (sc := defScope st__law_least_numbers) (own := [("letter", 11)]) (by decide +kernel)) (fun _ _ _ _ _ => (ig_nm 11 (pg_name (i := 11) sc__law_least_numbers.nd rfl (.inl rfl)))) (fun _ _ _ _ _ => its_nil) (fun _ _ _ _ _ => (ie_ix (xd_ix (u1 hu)) (iv_var 7 (pv 7)) (iv_e (ie_ix (xd_ix (u1 hu)) (iv_var 6 (pv 6)) (iv_var 11 (pv 11))))))))))))))))) (is_one (is_put 7 (u1 hu) (pv 7) (ie_var 9 (pv 9)) (ie_if (it_cmp od_gt (iv_var 8 (pv 8)) (iv_e ie_int) rfl) (ie_callB1 (cd_min hc) rfl z_min bt_min (iv_var 10 (pv 10))) ie_int)))))) (is_frz 7 (by decide) (is_one (is_ret (ie_var 7 (pv 7)))))))))

/-! _law_drawn_plan -/
abbrev st__law_drawn_plan : Stmt := top 18
theorem sc__law_drawn_plan : FnScope ["pool", "plan", "depth", "turn", "other"] ["pool"] (defScope st__law_drawn_plan) := ⟨rfl, rfl, rfl, by decide +kernel, rfl, by decide +kernel, by decide +kernel⟩
theorem ok__law_drawn_plan (Fu : L2.Fun K "_law_drawn_plan" "_law_drawn_plan" st__law_drawn_plan f fd) {f__law_draw : Addr} {fd__law_draw : FuncData} (c__law_draw : Rl.Cal P w K mg base "_law_draw" 1 f__law_draw fd__law_draw ["pool", "many"] F__law_draw) {f__law_pick : Addr} {fd__law_pick : FuncData} (c__law_pick : Rl.Cal P w K mg base "_law_pick" 2 f__law_pick fd__law_pick ["pool", "things"] F__law_pick) (z_range : mg "range" = none) : FnOk P w K mg base CX0 3 f fd ["pool"] (spF K F__law_drawn_plan) :=
  fn_ok (N := ["pool", "plan", "depth", "turn", "other"]) (k := 2) Fu sc__law_drawn_plan fun cdv A outer s H E hr => have hc : (cxOf CX0 P w K mg base ["pool", "plan", "depth", "turn", "other"] "_law_drawn_plan" (defScope st__law_drawn_plan) f cdv A outer s H E).nox.calm = true := rfl
    have hu := Rl.Room.hu hr
    (is_seq (is_par2 1 2 (by decide) hc sc__law_drawn_plan.nd rfl rfl (by decide) rfl rfl (iga_cons (ie_str) (iga_cons (ie_cl c__law_draw hr (by decide) rfl (iga_own 0 (pv 0) (iga_cons ie_int iga_nil))) iga_nil)) rfl) (is_seq (is_for PassesOwn.never hc (ii_range1 rfl z_range (ie_var 2 (pv 2))) (ig_nm 3 (pg_name (i := 3) sc__law_drawn_plan.nd rfl (.inl rfl))) (is_seq (is_setL 4 (by decide) sc__law_drawn_plan.nd rfl (.inl rfl) (ie_if (it_cmp od_gt (iv_var 3 (pv 3)) (iv_e ie_int) rfl) (ie_cl c__law_pick hr (by decide) rfl (iga_own 0 (pv 0) (iga_cons (ie_fr (in_lst (ia_cons (ie_str) (ia_cons (ie_str) (ia_cons (ie_tup (ia_cons (ie_str) (ia_cons ie_int (ia_cons (ie_tup (ia_cons (ie_tup (ia_cons (ie_str) (ia_cons (ie_str) ia_nil))) (ia_cons (ie_tup (ia_cons (ie_str) (ia_cons (ie_str) ia_nil))) ia_nil))) ia_nil)))) ia_nil))))) iga_nil))) (ie_str))) (is_one (is_setL 1 (by decide) sc__law_drawn_plan.nd rfl (.inl rfl) (ie_tup (ia_cons (ie_cl c__law_pick hr (by decide) rfl (iga_own 0 (pv 0) (iga_cons (ie_fr (in_lst (ia_cons (ie_str) (ia_cons (ie_str) ia_nil)))) iga_nil))) (ia_cons (ie_cl c__law_draw hr (by decide) rfl (iga_own 0 (pv 0) (iga_cons ie_int iga_nil))) (ia_cons (ie_tup (ia_cons (ie_tup (ia_cons (ie_cl c__law_pick hr (by decide) rfl (iga_own 0 (pv 0) (iga_cons (ie_fr (in_lst (ia_cons (ie_str) (ia_cons (ie_str) (ia_cons (ie_str) ia_nil))))) iga_nil))) (ia_cons (ie_var 1 (pv 1)) ia_nil))) (ia_cons (ie_tup (ia_cons (ie_str) (ia_cons (ie_var 4 (pv 4)) ia_nil))) ia_nil))) ia_nil)))))))) (is_one (is_ret (ie_tup (ia_cons (ie_var 1 (pv 1)) (ia_cons (ie_var 2 (pv 2)) ia_nil)))))))

/-! _law_same -/
abbrev st__law_same : Stmt := top 11
theorem sc__law_same : FnScope ["told", "due", "k"] ["told", "due"] (defScope st__law_same) := ⟨rfl, rfl, rfl, by decide +kernel, rfl, by decide +kernel, by decide +kernel⟩
theorem ok__law_same (Fu : L2.Fun K "_law_same" "_law_same" st__law_same f fd) (z_isinstance : mg "isinstance" = none) (z_tuple : mg "tuple" = none) (z_len : mg "len" = none) (z_range : mg "range" = none) (z_str : mg "str" = none) (z_int : mg "int" = none) (z_bool : mg "bool" = none) (m_ : mg "_law_same" = some (.ref f)) (b_ : Binds K fd ["told", "due"] []) : ∀ n : Nat, FnOk P w K mg base CX0 (0 + n) f fd ["told", "due"] (spF K (F__law_same n))
  | 0 => Rl.fn_none
  | n + 1 =>
    have c__law_same : Rl.Cal P w K mg base "_law_same" (0 + n) f fd ["told", "due"] (F__law_same n) := ⟨ok__law_same Fu   z_isinstance z_tuple z_len z_range z_str z_int z_bool m_ b_ n, m_, Fu.kp, b_⟩
    fn_ok (N := ["told", "due", "k"]) (k := 0 + n) Fu sc__law_same (m := b__law_same (F__law_same n)) fun cdv A outer s H E hr => have hc : (cxOf CX0 P w K mg base ["told", "due", "k"] "_law_same" (defScope st__law_same) f cdv A outer s H E).nox.calm = true := rfl
    have hu := Rl.Room.hu hr
    (is_seq (is_if (it_val (ie_isi .tup rfl z_isinstance bt_isinstance rfl z_tuple bt_tuple (iv_var 1 (pv 1)))) (is_seq (is_if (PW.pt (iw_or (it_not (it_val (ie_isi .tup rfl z_isinstance bt_isinstance rfl z_tuple bt_tuple (iv_var 0 (pv 0))))) (iw_or1 (it_cmp (od_ne (u64 hu)) (iv_e (ie_callB1 cd_len rfl z_len bt_len (iv_var 0 (pv 0)))) (iv_e (ie_callB1 cd_len rfl z_len bt_len (iv_var 1 (pv 1)))) rfl)))) (is_one (is_ret ie_bl)) is_nil) (is_one (is_ret (ie_cmp (od_eq (u64 hu)) (iv_e (ie_fr (in_lc (own := [("k", 2)]) (t := (.nm 2)) hc sc__law_same.nd (ii_range1 rfl z_range (ie_callB1 cd_len rfl z_len bt_len (iv_var 1 (pv 1)))) (blkOk_by (N := ["told", "due", "k"]) (sc := defScope st__law_same) (own := [("k", 2)]) (by decide +kernel)) (fun _ _ _ _ _ => (ig_nm 2 (pg_name (i := 2) sc__law_same.nd rfl (.inl rfl)))) (fun _ _ _ _ _ => (its_one (it_not (it_val (ie_cl c__law_same hr (by omega) rfl (iga_cons (ie_ix (xd_ix (u1 hu)) (iv_var 0 (pv 0)) (iv_var 2 (pv 2))) (iga_cons (ie_ix (xd_ix (u1 hu)) (iv_var 1 (pv 1)) (iv_var 2 (pv 2))) iga_nil))))))) (fun _ _ _ _ _ => (ie_var 2 (pv 2)))))) (iv_e (ie_fr (in_lst ia_nil))) rfl)))) is_nil) (is_seq (is_if (it_val (ie_isi .str rfl z_isinstance bt_isinstance rfl z_str bt_str (iv_var 1 (pv 1)))) (is_one (is_ret (ie_and (ie_isi .str rfl z_isinstance bt_isinstance rfl z_str bt_str (iv_var 0 (pv 0))) (ie_one (ie_cmp (od_eq (u64 hu)) (iv_var 0 (pv 0)) (iv_var 1 (pv 1)) rfl))))) is_nil) (is_seq (is_if (it_cmp od_is (iv_var 1 (pv 1)) (iv_e ie_non) rfl) (is_one (is_ret (ie_cmp od_is (iv_var 0 (pv 0)) (iv_e ie_non) rfl))) is_nil) (is_one (is_ret (ie_and (ie_isi .int rfl z_isinstance bt_isinstance rfl z_int bt_int (iv_var 0 (pv 0))) (ie_and (ie_cmp (od_eq (u64 hu)) (iv_e (ie_isi .bool rfl z_isinstance bt_isinstance rfl z_bool bt_bool (iv_var 0 (pv 0)))) (iv_e (ie_isi .bool rfl z_isinstance bt_isinstance rfl z_bool bt_bool (iv_var 1 (pv 1)))) rfl) (ie_one (ie_cmp (od_eq (u64 hu)) (iv_var 0 (pv 0)) (iv_var 1 (pv 1)) rfl)))))))))

/-! _law_plan -/
abbrev st__law_plan : Stmt := top 17
theorem sc__law_plan : FnScope ["least", "plans", "size", "lot", "side", "place", "parts", "letter"] ["least"] (defScope st__law_plan) := ⟨rfl, rfl, rfl, by decide +kernel, rfl, by decide +kernel, by decide +kernel⟩
theorem ok__law_plan (Fu : L2.Fun K "_law_plan" "_law_plan" st__law_plan f fd) {f__law_questions : Addr} {fd__law_questions : FuncData} (c__law_questions : Rl.Cal P w K mg base "_law_questions" 3 f__law_questions fd__law_questions ["words"] F__law_questions) {f__law_parts : Addr} {fd__law_parts : FuncData} (c__law_parts : Rl.Cal P w K mg base "_law_parts" 2 f__law_parts fd__law_parts ["words", "side", "place"] F__law_parts) (z_len : mg "len" = none) (z_sorted : mg "sorted" = none) (z_max : mg "max" = none) (z_tuple : mg "tuple" = none) : FnOk P w K mg base CX0 4 f fd ["least"] (spF K F__law_plan) :=
  fn_ok (N := ["least", "plans", "size", "lot", "side", "place", "parts", "letter"]) (k := 3) Fu sc__law_plan fun cdv A outer s H E hr => have hc : (cxOf CX0 P w K mg base ["least", "plans", "size", "lot", "side", "place", "parts", "letter"] "_law_plan" (defScope st__law_plan) f cdv A outer s H E).nox.calm = true := rfl
    have hu := Rl.Room.hu hr
    (is_seq (is_setN 1 (by decide) sc__law_plan.nd rfl (.inr rfl) in_dicT) (is_seq (is_for PassesOwn.never hc (ii_any (ie_fr (in_callB1 (cn_sorted hc hu) rfl z_sorted bt_sorted (iv_e (ie_fr (in_lc (own := [("lot", 3)]) (t := (.nm 3)) hc sc__law_plan.nd (ii_any (ie_var 0 (pv 0))) (blkOk_by (N := ["least", "plans", "size", "lot", "side", "place", "parts", "letter"]) (sc := defScope st__law_plan) (own := [("lot", 3)]) (by decide +kernel)) (fun _ _ _ _ _ => (ig_nm 3 (pg_name (i := 3) sc__law_plan.nd rfl (.inl rfl)))) (fun _ _ _ _ _ => its_nil) (fun _ _ _ _ _ => (ie_tup (ia_cons (ie_callB1 cd_len rfl z_len bt_len (iv_var 3 (pv 3))) (ia_cons (ie_var 3 (pv 3)) ia_nil)))))))))) (ig_tp hc (igs_cons (ig_nm 2 (pg_name (i := 2) sc__law_plan.nd rfl (.inl rfl))) (igs_cons (ig_nm 3 (pg_name (i := 3) sc__law_plan.nd rfl (.inl rfl))) igs_nil))) (is_seq (is_if (it_cmp (od_eq (u64 hu)) (iv_var 2 (pv 2)) (iv_e ie_int) rfl) (is_seq (is_put 1 (u1 hu) (pv 1) (ie_var 3 (pv 3)) (ie_ix (xd_ix (u1 hu)) (iv_var 3 (pv 3)) (iv_e ie_int))) (is_one is_cont)) is_nil) (is_one (is_for PassesOwn.never hc (ii_any (ie_cl c__law_questions hr (by decide) rfl (iga_cons (ie_var 3 (pv 3)) iga_nil))) (ig_tp hc (igs_cons (ig_nm 4 (pg_name (i := 4) sc__law_plan.nd rfl (.inl rfl))) (igs_cons (ig_nm 5 (pg_name (i := 5) sc__law_plan.nd rfl (.inl rfl))) igs_nil))) (is_seq (is_setL 6 (by decide) sc__law_plan.nd rfl (.inr rfl) (ie_cl c__law_parts hr (by decide) rfl (iga_cons (ie_var 3 (pv 3)) (iga_cons (ie_var 4 (pv 4)) (iga_cons (ie_var 5 (pv 5)) iga_nil))))) (is_one (is_if (PW.pt (iw_and (it_cmp (od_nin (u65 hu)) (iv_var 3 (pv 3)) (iv_var 1 (pv 1)) rfl) (iw_and1 (it_cmp (od_eq (u64 hu)) (iv_e (ie_op od_add (iv_e ie_int) (iv_e (ie_callB1 (cd_max hc) rfl z_max bt_max (iv_e (ie_fr (in_lc (own := [("letter", 7)]) (t := (.nm 7)) hc sc__law_plan.nd (ii_any (ie_var 6 (pv 6))) (blkOk_by (N := ["least", "plans", "size", "lot", "side", "place", "parts", "letter"]) (sc := defScope st__law_plan) (own := [("letter", 7)]) (by decide +kernel)) (fun _ _ _ _ _ => (ig_nm 7 (pg_name (i := 7) sc__law_plan.nd rfl (.inl rfl)))) (fun _ _ _ _ _ => its_nil) (fun _ _ _ _ _ => (ie_ix (xd_ix (u1 hu)) (iv_var 0 (pv 0)) (iv_e (ie_ix (xd_ix (u1 hu)) (iv_var 6 (pv 6)) (iv_var 7 (pv 7))))))))))))) (iv_e (ie_ix (xd_ix (u1 hu)) (iv_var 0 (pv 0)) (iv_var 3 (pv 3)))) rfl)))) (is_one (is_put 1 (u1 hu) (pv 1) (ie_var 3 (pv 3)) (ie_tup (ia_cons (ie_var 4 (pv 4)) (ia_cons (ie_var 5 (pv 5)) (ia_cons (ie_callT1 cd_tuple rfl z_tuple bt_tuple (iv_e (ie_fr (in_lc (own := [("letter", 7)]) (t := (.nm 7)) hc sc__law_plan.nd (ii_any (ie_fr (in_callB1 (cn_sorted hc hu) rfl z_sorted bt_sorted (iv_var 6 (pv 6))))) (blkOk_by (N := ["least", "plans", "size", "lot", "side", "place", "parts", "letter"]) (sc := defScope st__law_plan) (own := [("letter", 7)]) (by decide +kernel)) (fun _ _ _ _ _ => (ig_nm 7 (pg_name (i := 7) sc__law_plan.nd rfl (.inl rfl)))) (fun _ _ _ _ _ => its_nil) (fun _ _ _ _ _ => (ie_tup (ia_cons (ie_var 7 (pv 7)) (ia_cons (ie_ix (xd_ix (u1 hu)) (iv_var 1 (pv 1)) (iv_e (ie_ix (xd_ix (u1 hu)) (iv_var 6 (pv 6)) (iv_var 7 (pv 7))))) ia_nil)))))))) ia_nil)))))) is_nil))))))) (is_frz 1 (by decide) (is_one (is_ret (ie_var 1 (pv 1)))))))

/-! plan_depth -/
abbrev st_plan_depth : Stmt := top 5
theorem sc_plan_depth : FnScope ["plan", "letter", "later"] ["plan"] (defScope st_plan_depth) := ⟨rfl, rfl, rfl, by decide +kernel, rfl, by decide +kernel, by decide +kernel⟩
theorem ok_plan_depth (Fu : L2.Fun K "plan_depth" "plan_depth" st_plan_depth f fd) (z_isinstance : mg "isinstance" = none) (z_str : mg "str" = none) (z_max : mg "max" = none) (m_ : mg "plan_depth" = some (.ref f)) (b_ : Binds K fd ["plan"] []) : ∀ n : Nat, FnOk P w K mg base CX0 (0 + n) f fd ["plan"] (spF K (F_plan_depth n))
  | 0 => Rl.fn_none
  | n + 1 =>
    have c_plan_depth : Rl.Cal P w K mg base "plan_depth" (0 + n) f fd ["plan"] (F_plan_depth n) := ⟨ok_plan_depth Fu   z_isinstance z_str z_max m_ b_ n, m_, Fu.kp, b_⟩
    fn_ok (N := ["plan", "letter", "later"]) (k := 0 + n) Fu sc_plan_depth (m := b_plan_depth (F_plan_depth n)) fun cdv A outer s H E hr => have hc : (cxOf CX0 P w K mg base ["plan", "letter", "later"] "plan_depth" (defScope st_plan_depth) f cdv A outer s H E).nox.calm = true := rfl
    have hu := Rl.Room.hu hr
    (is_seq (is_if (it_val (ie_isi .str rfl z_isinstance bt_isinstance rfl z_str bt_str (iv_var 0 (pv 0)))) (is_one (is_ret ie_int)) is_nil) (is_one (is_ret (ie_op od_add (iv_e ie_int) (iv_e (ie_callB1 (cd_max hc) rfl z_max bt_max (iv_e (ie_fr (in_lc (own := [("letter", 1), ("later", 2)]) (t := (.tp [(.nm 1), (.nm 2)])) hc sc_plan_depth.nd (ii_any (ie_ix (xd_ix (u1 hu)) (iv_var 0 (pv 0)) (iv_e ie_int))) (blkOk_by (N := ["plan", "letter", "later"]) (sc := defScope st_plan_depth) (own := [("letter", 1), ("later", 2)]) (by decide +kernel)) (fun _ _ _ _ _ => (ig_tp hc (igs_cons (ig_nm 1 (pg_name (i := 1) sc_plan_depth.nd rfl (.inl rfl))) (igs_cons (ig_nm 2 (pg_name (i := 2) sc_plan_depth.nd rfl (.inl rfl))) igs_nil)))) (fun _ _ _ _ _ => its_nil) (fun _ _ _ _ _ => (ie_cl c_plan_depth hr (by omega) rfl (iga_cons (ie_var 2 (pv 2)) iga_nil))))))))))))

/-! answer_of -/
abbrev st_answer_of : Stmt := top 1
theorem sc_answer_of : FnScope ["word", "side", "place"] ["word", "side", "place"] (defScope st_answer_of) := ⟨rfl, rfl, rfl, by decide +kernel, rfl, by decide +kernel, by decide +kernel⟩
theorem ok_answer_of (Fu : L2.Fun K "answer_of" "answer_of" st_answer_of f fd) (z_len : mg "len" = none) : FnOk P w K mg base CX0 1 f fd ["word", "side", "place"] (spF K F_answer_of) :=
  fn_ok (N := ["word", "side", "place"]) (k := 0) Fu sc_answer_of fun cdv A outer s H E hr => have hc : (cxOf CX0 P w K mg base ["word", "side", "place"] "answer_of" (defScope st_answer_of) f cdv A outer s H E).nox.calm = true := rfl
    have hu := Rl.Room.hu hr
    (is_seq (is_if (it_cmp od_ge (iv_var 2 (pv 2)) (iv_e (ie_callB1 cd_len rfl z_len bt_len (iv_var 0 (pv 0)))) rfl) (is_one (is_ret (ie_str))) is_nil) (is_seq (is_if (it_cmp (od_eq (u64 hu)) (iv_var 1 (pv 1)) (iv_e (ie_str)) rfl) (is_one (is_ret (ie_ix (xd_ix (u1 hu)) (iv_var 0 (pv 0)) (iv_var 2 (pv 2))))) is_nil) (is_one (is_ret (ie_ix (xd_ix (u1 hu)) (iv_var 0 (pv 0)) (iv_e (ie_op od_sub (iv_e (ie_op od_sub (iv_e (ie_callB1 cd_len rfl z_len bt_len (iv_var 0 (pv 0)))) (iv_e ie_int))) (iv_var 2 (pv 2)))))))))

/-! parts_of -/
abbrev st_parts_of : Stmt := top 2
theorem sc_parts_of : FnScope ["lot", "side", "place", "rows", "word", "letter"] ["lot", "side", "place"] (defScope st_parts_of) := ⟨rfl, rfl, rfl, by decide +kernel, rfl, by decide +kernel, by decide +kernel⟩
theorem ok_parts_of (Fu : L2.Fun K "parts_of" "parts_of" st_parts_of f fd) {f_answer_of : Addr} {fd_answer_of : FuncData} (c_answer_of : Rl.Cal P w K mg base "answer_of" 1 f_answer_of fd_answer_of ["word", "side", "place"] F_answer_of) (z_sorted : mg "sorted" = none) (z_tuple : mg "tuple" = none) : FnOk P w K mg base CX0 2 f fd ["lot", "side", "place"] (spF K F_parts_of) :=
  fn_ok (N := ["lot", "side", "place", "rows", "word", "letter"]) (k := 1) Fu sc_parts_of fun cdv A outer s H E hr => have hc : (cxOf CX0 P w K mg base ["lot", "side", "place", "rows", "word", "letter"] "parts_of" (defScope st_parts_of) f cdv A outer s H E).nox.calm = true := rfl
    have hu := Rl.Room.hu hr
    (is_seq (is_setN 3 (by decide) sc_parts_of.nd rfl (.inr rfl) in_dicK) (is_seq (is_for PassesOwn.never hc (ii_any (ie_var 0 (pv 0))) (ig_nm 4 (pg_name (i := 4) sc_parts_of.nd rfl (.inl rfl))) (is_one (is_sdApp 3 (by decide) (pv 3) (ie_cl c_answer_of hr (by decide) rfl (iga_cons (ie_var 4 (pv 4)) (iga_cons (ie_var 1 (pv 1)) (iga_cons (ie_var 2 (pv 2)) iga_nil)))) (ie_var 4 (pv 4))))) (is_frz 3 (by decide) (is_one (is_ret (ie_fr (in_lc (own := [("letter", 5)]) (t := (.nm 5)) hc sc_parts_of.nd (ii_any (ie_fr (in_callB1 (cn_sorted hc hu) rfl z_sorted bt_sorted (iv_var 3 (pv 3))))) (blkOk_by (N := ["lot", "side", "place", "rows", "word", "letter"]) (sc := defScope st_parts_of) (own := [("letter", 5)]) (by decide +kernel)) (fun _ _ _ _ _ => (ig_nm 5 (pg_name (i := 5) sc_parts_of.nd rfl (.inl rfl)))) (fun _ _ _ _ _ => its_nil) (fun _ _ _ _ _ => (ie_tup (ia_cons (ie_var 5 (pv 5)) (ia_cons (ie_callT1 cd_tuple rfl z_tuple bt_tuple (iv_e (ie_ix (xd_ix (u1 hu)) (iv_var 3 (pv 3)) (iv_var 5 (pv 5))))) ia_nil)))))))))))

/-! best_plan -/
abbrev st_best_plan : Stmt := top 3
theorem sc_best_plan : FnScope ["lot", "known", "best", "side", "place", "parts", "plans", "number", "letter", "part", "word", "found"] ["lot", "known"] (defScope st_best_plan) := ⟨rfl, rfl, rfl, by decide +kernel, rfl, by decide +kernel, by decide +kernel⟩
theorem ok_best_plan {c Pt : Addr} (Fu : Rl.FunC K "best_plan" "best_plan" st_best_plan f fd c) (TB : GxR.TabB base mg c Pt) (hPT : Pt ∈ Tabs.T) {f_parts_of : Addr} {fd_parts_of : FuncData} (c_parts_of : Rl.Cal P w K mg base "parts_of" 2 f_parts_of fd_parts_of ["lot", "side", "place"] F_parts_of) (z_len : mg "len" = none) (z_range : mg "range" = none) (z_max : mg "max" = none) (z_tuple : mg "tuple" = none) (m_ : mg "best_plan" = some (.ref f)) (b_ : Binds K fd ["lot", "known"] []) : ∀ n : Nat, FnOk P w K mg base CX0 (2 + n) f fd ["lot", "known"] (spF K (F_best_plan n))
  | 0 => Rl.fn_none
  | n + 1 =>
    have c_best_plan : Rl.Cal P w K mg base "best_plan" (2 + n) f fd ["lot", "known"] (F_best_plan n) := ⟨ok_best_plan Fu TB hPT c_parts_of  z_len z_range z_max z_tuple m_ b_ n, m_, Fu.fn.kp, b_⟩
    fn_okC (N := ["lot", "known", "best", "side", "place", "parts", "plans", "number", "letter", "part", "word", "found"]) (k := 2 + n) Fu sc_best_plan (m := b_best_plan (F_best_plan n)) fun A outer s H E hr => have hc : (cxOf CX0 P w K mg base ["lot", "known", "best", "side", "place", "parts", "plans", "number", "letter", "part", "word", "found"] "best_plan" (defScope st_best_plan) f (.ref c) A outer s H E).nox.calm = true := rfl
    have hu := Rl.Room.hu hr
    (is_seq (is_if (it_cmp (od_eq (u64 hu)) (iv_e (ie_callB1 cd_len rfl z_len bt_len (iv_var 0 (pv 0)))) (iv_e ie_int) rfl) (is_one (is_ret (ie_tup (ia_cons ie_int (ia_cons (ie_ix (xd_ix (u1 hu)) (iv_var 0 (pv 0)) (iv_e ie_int)) ia_nil))))) is_nil) (is_seq (is_if (it_cmp (od_in (u65 hu)) (iv_var 0 (pv 0)) (iv_var 1 (pv 1)) rfl) (is_one (is_ret (ie_ix (xd_ix (u1 hu)) (iv_var 1 (pv 1)) (iv_var 0 (pv 0))))) is_nil) (is_seq (is_setL 2 (by decide) sc_best_plan.nd rfl (.inl rfl) (ie_tup (ia_cons (ie_callB1 cd_len rfl z_len bt_len (iv_var 0 (pv 0))) (ia_cons (ie_tup ia_nil) ia_nil)))) (is_seq (is_for PassesOwn.never hc (ii_any (ie_tup (ia_cons (ie_str) (ia_cons (ie_str) ia_nil)))) (ig_nm 3 (pg_name (i := 3) sc_best_plan.nd rfl (.inl rfl))) (is_one (is_for PassesOwn.never hc (ii_range1 rfl z_range (ie_callB1 (cd_max hc) rfl z_max bt_max (iv_e (ie_fr (in_lc (own := [("word", 10)]) (t := (.nm 10)) hc sc_best_plan.nd (ii_any (ie_var 0 (pv 0))) (blkOk_by (N := ["lot", "known", "best", "side", "place", "parts", "plans", "number", "letter", "part", "word", "found"]) (sc := defScope st_best_plan) (own := [("word", 10)]) (by decide +kernel)) (fun _ _ _ _ _ => (ig_nm 10 (pg_name (i := 10) sc_best_plan.nd rfl (.inl rfl)))) (fun _ _ _ _ _ => its_nil) (fun _ _ _ _ _ => (ie_callB1 cd_len rfl z_len bt_len (iv_var 10 (pv 10))))))))) (ig_nm 4 (pg_name (i := 4) sc_best_plan.nd rfl (.inl rfl))) (is_seq (is_setL 5 (by decide) sc_best_plan.nd rfl (.inl rfl) (ie_cl c_parts_of hr (by omega) rfl (iga_cons (ie_var 0 (pv 0)) (iga_cons (ie_var 3 (pv 3)) (iga_cons (ie_var 4 (pv 4)) iga_nil))))) (is_seq (is_if (PW.pt (iw_or (it_cmp (od_eq (u64 hu)) (iv_e (ie_callB1 cd_len rfl z_len bt_len (iv_var 5 (pv 5)))) (iv_e ie_int) rfl) (iw_or1 (it_cmp (od_eq (u64 hu)) (iv_e (ie_ix (xd_ix (u1 hu)) (iv_var 2 (pv 2)) (iv_e ie_int))) (iv_e ie_int) rfl)))) (is_one is_cont) is_nil) (is_seq (is_setLc (own := [("letter", 8), ("part", 9)]) (t := (.tp [(.nm 8), (.nm 9)])) 6 (by decide) hc sc_best_plan.nd rfl rfl (sw_true rfl rfl rfl (by decide +kernel)) (ii_any (ie_var 5 (pv 5))) (blkOk_by (N := ["lot", "known", "best", "side", "place", "parts", "plans", "number", "letter", "part", "word", "found"]) (sc := defScope st_best_plan) (own := [("letter", 8), ("part", 9)]) (by decide +kernel)) (fun _ _ _ _ _ => (ig_tp hc (igs_cons (ig_nm 8 (pg_name (i := 8) sc_best_plan.nd rfl (.inl rfl))) (igs_cons (ig_nm 9 (pg_name (i := 9) sc_best_plan.nd rfl (.inl rfl))) igs_nil)))) (fun _ _ _ _ _ => its_nil) (fun _ _ _ _ _ => (ie_tup (ia_cons (ie_var 8 (pv 8)) (ia_cons (ie_cl c_best_plan hr (by omega) rfl (iga_cons (ie_var 9 (pv 9)) (iga_own 1 (pv 1) iga_nil))) ia_nil))))) (is_seq (is_setL 7 (by decide) sc_best_plan.nd rfl (.inl rfl) (ie_op od_add (iv_e ie_int) (iv_e (ie_callB1 (cd_max hc) rfl z_max bt_max (iv_e (ie_fr (in_lc (own := [("letter", 8), ("found", 11)]) (t := (.tp [(.nm 8), (.nm 11)])) hc sc_best_plan.nd (ii_any (ie_var 6 (pv 6))) (blkOk_by (N := ["lot", "known", "best", "side", "place", "parts", "plans", "number", "letter", "part", "word", "found"]) (sc := defScope st_best_plan) (own := [("letter", 8), ("found", 11)]) (by decide +kernel)) (fun _ _ _ _ _ => (ig_tp hc (igs_cons (ig_nm 8 (pg_name (i := 8) sc_best_plan.nd rfl (.inl rfl))) (igs_cons (ig_nm 11 (pg_name (i := 11) sc_best_plan.nd rfl (.inl rfl))) igs_nil)))) (fun _ _ _ _ _ => its_nil) (fun _ _ _ _ _ => (ie_ix (xd_ix (u1 hu)) (iv_var 11 (pv 11)) (iv_e ie_int)))))))))) (is_one (is_if (it_cmp od_lt (iv_var 7 (pv 7)) (iv_e (ie_ix (xd_ix (u1 hu)) (iv_var 2 (pv 2)) (iv_e ie_int))) rfl) (is_one (is_setL 2 (by decide) sc_best_plan.nd rfl (.inl rfl) (ie_tup (ia_cons (ie_var 7 (pv 7)) (ia_cons (ie_tup (ia_cons (ie_var 3 (pv 3)) (ia_cons (ie_var 4 (pv 4)) (ia_cons (ie_tupGx 1 hr hc rfl z_tuple TB hPT rfl ⟨rfl, rfl, by decide +kernel, rfl, rfl, rfl, by decide +kernel⟩ (ie_var 6 (pv 6))) ia_nil)))) ia_nil))))) is_nil))))))))) (is_seq (is_put 1 (u1 hu) (pv 1) (ie_var 0 (pv 0)) (ie_var 2 (pv 2))) (is_one (is_ret (ie_var 2 (pv 2)))))))))

/-! ask_plan -/
abbrev st_ask_plan : Stmt := top 4
theorem sc_ask_plan : FnScope ["words"] ["words"] (defScope st_ask_plan) := ⟨rfl, rfl, rfl, by decide +kernel, rfl, by decide +kernel, by decide +kernel⟩
theorem ok_ask_plan (Fu : L2.Fun K "ask_plan" "ask_plan" st_ask_plan f fd) {f_best_plan : Addr} {fd_best_plan : FuncData} (c_best_plan : Rl.Cal P w K mg base "best_plan" 15 f_best_plan fd_best_plan ["lot", "known"] (F_best_plan 13)) : FnOk P w K mg base CX0 16 f fd ["words"] (spF K F_ask_plan) :=
  fn_ok (N := ["words"]) (k := 15) Fu sc_ask_plan fun cdv A outer s H E hr => have hc : (cxOf CX0 P w K mg base ["words"] "ask_plan" (defScope st_ask_plan) f cdv A outer s H E).nox.calm = true := rfl
    have hu := Rl.Room.hu hr
    (is_one (is_ret (ie_cl c_best_plan hr (by decide) rfl (iga_cons (ie_var 0 (pv 0)) (iga_nwc in_dicT iga_nil)))))

/-! law -/
abbrev st_law : Stmt := top 19
theorem sc_law : FnScope ["script", "pool", "turn", "words", "least", "due", "plan", "depth"] ["script"] (defScope st_law) := ⟨rfl, rfl, rfl, by decide +kernel, rfl, by decide +kernel, by decide +kernel⟩
theorem ok_law (Fu : L2.Fun K "law" "law" st_law f fd) {f__law_pool : Addr} {fd__law_pool : FuncData} (c__law_pool : Rl.Cal P w K mg base "_law_pool" 1 f__law_pool fd__law_pool ["script"] F__law_pool) {f__law_drawn_words : Addr} {fd__law_drawn_words : FuncData} (c__law_drawn_words : Rl.Cal P w K mg base "_law_drawn_words" 3 f__law_drawn_words fd__law_drawn_words ["pool"] F__law_drawn_words) {f__law_least_numbers : Addr} {fd__law_least_numbers : FuncData} (c__law_least_numbers : Rl.Cal P w K mg base "_law_least_numbers" 4 f__law_least_numbers fd__law_least_numbers ["words"] F__law_least_numbers) {f__law_plan : Addr} {fd__law_plan : FuncData} (c__law_plan : Rl.Cal P w K mg base "_law_plan" 4 f__law_plan fd__law_plan ["least"] F__law_plan) {f__law_same : Addr} {fd__law_same : FuncData} (c__law_same : Rl.Cal P w K mg base "_law_same" 60 f__law_same fd__law_same ["told", "due"] (F__law_same 60)) {f_ask_plan : Addr} {fd_ask_plan : FuncData} (c_ask_plan : Rl.Cal P w K mg base "ask_plan" 16 f_ask_plan fd_ask_plan ["words"] F_ask_plan) {f_plan_depth : Addr} {fd_plan_depth : FuncData} (c_plan_depth : Rl.Cal P w K mg base "plan_depth" 13 f_plan_depth fd_plan_depth ["plan"] (F_plan_depth 13)) {f__law_drawn_plan : Addr} {fd__law_drawn_plan : FuncData} (c__law_drawn_plan : Rl.Cal P w K mg base "_law_drawn_plan" 3 f__law_drawn_plan fd__law_drawn_plan ["pool"] F__law_drawn_plan) (kw_ask_plan_words : KwB K fd_ask_plan ["words"] ["words"] [0]) (kw_plan_depth_plan : KwB K fd_plan_depth ["plan"] ["plan"] [0]) (z_range : mg "range" = none) : FnOk P w K mg base CX0 61 f fd ["script"] (spF K F_law) :=
  fn_ok (N := ["script", "pool", "turn", "words", "least", "due", "plan", "depth"]) (k := 60) Fu sc_law fun cdv A outer s H E hr => have hc : (cxOf CX0 P w K mg base ["script", "pool", "turn", "words", "least", "due", "plan", "depth"] "law" (defScope st_law) f cdv A outer s H E).nox.calm = true := rfl
    have hu := Rl.Room.hu hr
    (is_seq (is_setN 1 (by decide) sc_law.nd rfl (.inl rfl) (in_cl c__law_pool hr (by decide) rfl (iga_cons (ie_var 0 (pv 0)) iga_nil))) (is_seq (is_for PassesOwn.never hc (ii_range1 rfl z_range ie_int) (ig_nm 2 (pg_name (i := 2) sc_law.nd rfl (.inl rfl))) (is_seq (is_setL 3 (by decide) sc_law.nd rfl (.inl rfl) (ie_cl c__law_drawn_words hr (by decide) rfl (iga_own 1 (pv 1) iga_nil))) (is_seq (is_setL 4 (by decide) sc_law.nd rfl (.inl rfl) (ie_cl c__law_least_numbers hr (by decide) rfl (iga_cons (ie_var 3 (pv 3)) iga_nil))) (is_seq (is_setL 5 (by decide) sc_law.nd rfl (.inl rfl) (ie_tup (ia_cons (ie_ix (xd_ix (u1 hu)) (iv_var 4 (pv 4)) (iv_var 3 (pv 3))) (ia_cons (ie_ix (xd_ix (u1 hu)) (iv_e (ie_cl c__law_plan hr (by decide) rfl (iga_cons (ie_var 4 (pv 4)) iga_nil))) (iv_var 3 (pv 3))) ia_nil)))) (is_seq (is_if (PW.pt (iw_or (it_not (it_val (ie_cl c__law_same hr (by decide) rfl (iga_cons (ie_cl c_ask_plan hr (by decide) rfl (iga_cons (ie_var 3 (pv 3)) iga_nil)) (iga_cons (ie_var 5 (pv 5)) iga_nil))))) (iw_or1 (it_not (it_val (ie_cl c__law_same hr (by decide) rfl (iga_cons (ie_clK c_ask_plan kw_ask_plan_words hr (by decide) rfl (igk_cons (ie_var 3 (pv 3)) igk_nil)) (iga_cons (ie_var 5 (pv 5)) iga_nil)))))))) (is_one (is_ret ie_bl)) is_nil) (is_seq (is_if (it_not (it_val (ie_cl c__law_same hr (by decide) rfl (iga_cons (ie_cl c_plan_depth hr (by decide) rfl (iga_cons (ie_ix (xd_ix (u1 hu)) (iv_var 5 (pv 5)) (iv_e ie_int)) iga_nil)) (iga_cons (ie_ix (xd_ix (u1 hu)) (iv_var 5 (pv 5)) (iv_e ie_int)) iga_nil))))) (is_one (is_ret ie_bl)) is_nil) (is_seq (is_asg (ie_cl c__law_drawn_plan hr (by decide) rfl (iga_own 1 (pv 1) iga_nil)) (ig_tp hc (igs_cons (ig_nm 6 (pg_name (i := 6) sc_law.nd rfl (.inl rfl))) (igs_cons (ig_nm 7 (pg_name (i := 7) sc_law.nd rfl (.inl rfl))) igs_nil)))) (is_one (is_if (PW.pt (iw_or (it_not (it_val (ie_cl c__law_same hr (by decide) rfl (iga_cons (ie_cl c_plan_depth hr (by decide) rfl (iga_cons (ie_var 6 (pv 6)) iga_nil)) (iga_cons (ie_var 7 (pv 7)) iga_nil))))) (iw_or1 (it_not (it_val (ie_cl c__law_same hr (by decide) rfl (iga_cons (ie_clK c_plan_depth kw_plan_depth_plan hr (by decide) rfl (igk_cons (ie_var 6 (pv 6)) igk_nil)) (iga_cons (ie_var 7 (pv 7)) iga_nil)))))))) (is_one (is_ret ie_bl)) is_nil))))))))) (is_one (is_ret ie_bl))))

end
theorem all_mk {l : PySem.W.OpenLaw} {w : World} {K : PySem.W.Frag} {h : Heap} {mg : Str → Option Value} {fa f__law_pool f__law_draw f__law_pick f__law_shuffled f__law_drawn_words f__law_answer f__law_parts f__law_questions f__law_least_numbers f__law_drawn_plan f__law_same f__law_plan f_plan_depth f_answer_of f_parts_of f_best_plan f_ask_plan f_law : Addr} (X : K.In h) (G : h.Ns mainGlobals mg) (hfa : mg "law" = some (.ref fa))
    {od__law_pool an__law_pool : Option Addr} {sl__law_pool : Array (Option Value)} {oc__law_pool kV__law_pool dc__law_pool pm__law_pool cd__law_pool ct__law_pool : Value}
    {od__law_draw an__law_draw : Option Addr} {sl__law_draw : Array (Option Value)} {oc__law_draw kV__law_draw dc__law_draw pm__law_draw cd__law_draw ct__law_draw : Value}
    {od__law_pick an__law_pick : Option Addr} {sl__law_pick : Array (Option Value)} {oc__law_pick kV__law_pick dc__law_pick pm__law_pick cd__law_pick ct__law_pick : Value}
    {od__law_shuffled an__law_shuffled : Option Addr} {sl__law_shuffled : Array (Option Value)} {oc__law_shuffled kV__law_shuffled dc__law_shuffled pm__law_shuffled cd__law_shuffled ct__law_shuffled : Value}
    {od__law_drawn_words an__law_drawn_words : Option Addr} {sl__law_drawn_words : Array (Option Value)} {oc__law_drawn_words kV__law_drawn_words dc__law_drawn_words pm__law_drawn_words cd__law_drawn_words ct__law_drawn_words : Value}
    {od__law_answer an__law_answer : Option Addr} {sl__law_answer : Array (Option Value)} {oc__law_answer kV__law_answer dc__law_answer pm__law_answer cd__law_answer ct__law_answer : Value}
    {od__law_parts an__law_parts : Option Addr} {sl__law_parts : Array (Option Value)} {oc__law_parts kV__law_parts dc__law_parts pm__law_parts cd__law_parts ct__law_parts : Value}
    {od__law_questions an__law_questions : Option Addr} {sl__law_questions : Array (Option Value)} {oc__law_questions kV__law_questions dc__law_questions pm__law_questions cd__law_questions ct__law_questions : Value}
    {od__law_least_numbers an__law_least_numbers : Option Addr} {sl__law_least_numbers : Array (Option Value)} {oc__law_least_numbers kV__law_least_numbers dc__law_least_numbers pm__law_least_numbers cd__law_least_numbers ct__law_least_numbers : Value}
    {od__law_drawn_plan an__law_drawn_plan : Option Addr} {sl__law_drawn_plan : Array (Option Value)} {oc__law_drawn_plan kV__law_drawn_plan dc__law_drawn_plan pm__law_drawn_plan cd__law_drawn_plan ct__law_drawn_plan : Value}
    {od__law_same an__law_same : Option Addr} {sl__law_same : Array (Option Value)} {oc__law_same kV__law_same dc__law_same pm__law_same cd__law_same ct__law_same : Value}
    {od__law_plan an__law_plan : Option Addr} {sl__law_plan : Array (Option Value)} {oc__law_plan kV__law_plan dc__law_plan pm__law_plan cd__law_plan ct__law_plan : Value}
    {od_plan_depth an_plan_depth : Option Addr} {sl_plan_depth : Array (Option Value)} {oc_plan_depth kV_plan_depth dc_plan_depth pm_plan_depth cd_plan_depth ct_plan_depth : Value}
    {od_answer_of an_answer_of : Option Addr} {sl_answer_of : Array (Option Value)} {oc_answer_of kV_answer_of dc_answer_of pm_answer_of cd_answer_of ct_answer_of : Value}
    {od_parts_of an_parts_of : Option Addr} {sl_parts_of : Array (Option Value)} {oc_parts_of kV_parts_of dc_parts_of pm_parts_of cd_parts_of ct_parts_of : Value}
    {od_best_plan an_best_plan : Option Addr} {sl_best_plan : Array (Option Value)} {oc_best_plan kV_best_plan dc_best_plan pm_best_plan ct_best_plan : Value} {cd_best_plan Pt_best_plan : Addr} {te_best_plan : Value} {td_best_plan : Option Addr} {tv_best_plan : Array Value} {ts_best_plan : Array (Option Value)}
    {od_ask_plan an_ask_plan : Option Addr} {sl_ask_plan : Array (Option Value)} {oc_ask_plan kV_ask_plan dc_ask_plan pm_ask_plan cd_ask_plan ct_ask_plan : Value}
    {od_law an_law : Option Addr} {sl_law : Array (Option Value)} {oc_law kV_law dc_law pm_law cd_law ct_law : Value}
    (a__law_pool : PySem.W.nsIn K mainGlobals "_law_pool" = some (some (.ref f__law_pool)))
    (l__law_pool : K.lookup f__law_pool = some ⟨oc__law_pool, od__law_pool, .func (PySem.W.fnOf "_law_pool" "_law_pool" (defArgs st__law_pool) (defBody st__law_pool) (defScope st__law_pool) .none kV__law_pool dc__law_pool pm__law_pool an__law_pool cd__law_pool ct__law_pool), sl__law_pool⟩)
    (c__law_pool : PySem.W.codeIn K cd__law_pool "_law_pool" = true)
    (k__law_pool : PySem.W.keepIn K (.ref f__law_pool) = true)
    (a__law_draw : PySem.W.nsIn K mainGlobals "_law_draw" = some (some (.ref f__law_draw)))
    (l__law_draw : K.lookup f__law_draw = some ⟨oc__law_draw, od__law_draw, .func (PySem.W.fnOf "_law_draw" "_law_draw" (defArgs st__law_draw) (defBody st__law_draw) (defScope st__law_draw) .none kV__law_draw dc__law_draw pm__law_draw an__law_draw cd__law_draw ct__law_draw), sl__law_draw⟩)
    (c__law_draw : PySem.W.codeIn K cd__law_draw "_law_draw" = true)
    (k__law_draw : PySem.W.keepIn K (.ref f__law_draw) = true)
    (a__law_pick : PySem.W.nsIn K mainGlobals "_law_pick" = some (some (.ref f__law_pick)))
    (l__law_pick : K.lookup f__law_pick = some ⟨oc__law_pick, od__law_pick, .func (PySem.W.fnOf "_law_pick" "_law_pick" (defArgs st__law_pick) (defBody st__law_pick) (defScope st__law_pick) .none kV__law_pick dc__law_pick pm__law_pick an__law_pick cd__law_pick ct__law_pick), sl__law_pick⟩)
    (c__law_pick : PySem.W.codeIn K cd__law_pick "_law_pick" = true)
    (k__law_pick : PySem.W.keepIn K (.ref f__law_pick) = true)
    (a__law_shuffled : PySem.W.nsIn K mainGlobals "_law_shuffled" = some (some (.ref f__law_shuffled)))
    (l__law_shuffled : K.lookup f__law_shuffled = some ⟨oc__law_shuffled, od__law_shuffled, .func (PySem.W.fnOf "_law_shuffled" "_law_shuffled" (defArgs st__law_shuffled) (defBody st__law_shuffled) (defScope st__law_shuffled) .none kV__law_shuffled dc__law_shuffled pm__law_shuffled an__law_shuffled cd__law_shuffled ct__law_shuffled), sl__law_shuffled⟩)
    (c__law_shuffled : PySem.W.codeIn K cd__law_shuffled "_law_shuffled" = true)
    (k__law_shuffled : PySem.W.keepIn K (.ref f__law_shuffled) = true)
    (a__law_drawn_words : PySem.W.nsIn K mainGlobals "_law_drawn_words" = some (some (.ref f__law_drawn_words)))
    (l__law_drawn_words : K.lookup f__law_drawn_words = some ⟨oc__law_drawn_words, od__law_drawn_words, .func (PySem.W.fnOf "_law_drawn_words" "_law_drawn_words" (defArgs st__law_drawn_words) (defBody st__law_drawn_words) (defScope st__law_drawn_words) .none kV__law_drawn_words dc__law_drawn_words pm__law_drawn_words an__law_drawn_words cd__law_drawn_words ct__law_drawn_words), sl__law_drawn_words⟩)
    (c__law_drawn_words : PySem.W.codeIn K cd__law_drawn_words "_law_drawn_words" = true)
    (k__law_drawn_words : PySem.W.keepIn K (.ref f__law_drawn_words) = true)
    (a__law_answer : PySem.W.nsIn K mainGlobals "_law_answer" = some (some (.ref f__law_answer)))
    (l__law_answer : K.lookup f__law_answer = some ⟨oc__law_answer, od__law_answer, .func (PySem.W.fnOf "_law_answer" "_law_answer" (defArgs st__law_answer) (defBody st__law_answer) (defScope st__law_answer) .none kV__law_answer dc__law_answer pm__law_answer an__law_answer cd__law_answer ct__law_answer), sl__law_answer⟩)
    (c__law_answer : PySem.W.codeIn K cd__law_answer "_law_answer" = true)
    (k__law_answer : PySem.W.keepIn K (.ref f__law_answer) = true)
    (a__law_parts : PySem.W.nsIn K mainGlobals "_law_parts" = some (some (.ref f__law_parts)))
    (l__law_parts : K.lookup f__law_parts = some ⟨oc__law_parts, od__law_parts, .func (PySem.W.fnOf "_law_parts" "_law_parts" (defArgs st__law_parts) (defBody st__law_parts) (defScope st__law_parts) .none kV__law_parts dc__law_parts pm__law_parts an__law_parts cd__law_parts ct__law_parts), sl__law_parts⟩)
    (c__law_parts : PySem.W.codeIn K cd__law_parts "_law_parts" = true)
    (k__law_parts : PySem.W.keepIn K (.ref f__law_parts) = true)
    (a__law_questions : PySem.W.nsIn K mainGlobals "_law_questions" = some (some (.ref f__law_questions)))
    (l__law_questions : K.lookup f__law_questions = some ⟨oc__law_questions, od__law_questions, .func (PySem.W.fnOf "_law_questions" "_law_questions" (defArgs st__law_questions) (defBody st__law_questions) (defScope st__law_questions) .none kV__law_questions dc__law_questions pm__law_questions an__law_questions cd__law_questions ct__law_questions), sl__law_questions⟩)
    (c__law_questions : PySem.W.codeIn K cd__law_questions "_law_questions" = true)
    (k__law_questions : PySem.W.keepIn K (.ref f__law_questions) = true)
    (a__law_least_numbers : PySem.W.nsIn K mainGlobals "_law_least_numbers" = some (some (.ref f__law_least_numbers)))
    (l__law_least_numbers : K.lookup f__law_least_numbers = some ⟨oc__law_least_numbers, od__law_least_numbers, .func (PySem.W.fnOf "_law_least_numbers" "_law_least_numbers" (defArgs st__law_least_numbers) (defBody st__law_least_numbers) (defScope st__law_least_numbers) .none kV__law_least_numbers dc__law_least_numbers pm__law_least_numbers an__law_least_numbers cd__law_least_numbers ct__law_least_numbers), sl__law_least_numbers⟩)
    (c__law_least_numbers : PySem.W.codeIn K cd__law_least_numbers "_law_least_numbers" = true)
    (k__law_least_numbers : PySem.W.keepIn K (.ref f__law_least_numbers) = true)
    (a__law_drawn_plan : PySem.W.nsIn K mainGlobals "_law_drawn_plan" = some (some (.ref f__law_drawn_plan)))
    (l__law_drawn_plan : K.lookup f__law_drawn_plan = some ⟨oc__law_drawn_plan, od__law_drawn_plan, .func (PySem.W.fnOf "_law_drawn_plan" "_law_drawn_plan" (defArgs st__law_drawn_plan) (defBody st__law_drawn_plan) (defScope st__law_drawn_plan) .none kV__law_drawn_plan dc__law_drawn_plan pm__law_drawn_plan an__law_drawn_plan cd__law_drawn_plan ct__law_drawn_plan), sl__law_drawn_plan⟩)
    (c__law_drawn_plan : PySem.W.codeIn K cd__law_drawn_plan "_law_drawn_plan" = true)
    (k__law_drawn_plan : PySem.W.keepIn K (.ref f__law_drawn_plan) = true)
    (a__law_same : PySem.W.nsIn K mainGlobals "_law_same" = some (some (.ref f__law_same)))
    (l__law_same : K.lookup f__law_same = some ⟨oc__law_same, od__law_same, .func (PySem.W.fnOf "_law_same" "_law_same" (defArgs st__law_same) (defBody st__law_same) (defScope st__law_same) .none kV__law_same dc__law_same pm__law_same an__law_same cd__law_same ct__law_same), sl__law_same⟩)
    (c__law_same : PySem.W.codeIn K cd__law_same "_law_same" = true)
    (k__law_same : PySem.W.keepIn K (.ref f__law_same) = true)
    (a__law_plan : PySem.W.nsIn K mainGlobals "_law_plan" = some (some (.ref f__law_plan)))
    (l__law_plan : K.lookup f__law_plan = some ⟨oc__law_plan, od__law_plan, .func (PySem.W.fnOf "_law_plan" "_law_plan" (defArgs st__law_plan) (defBody st__law_plan) (defScope st__law_plan) .none kV__law_plan dc__law_plan pm__law_plan an__law_plan cd__law_plan ct__law_plan), sl__law_plan⟩)
    (c__law_plan : PySem.W.codeIn K cd__law_plan "_law_plan" = true)
    (k__law_plan : PySem.W.keepIn K (.ref f__law_plan) = true)
    (a_plan_depth : PySem.W.nsIn K mainGlobals "plan_depth" = some (some (.ref f_plan_depth)))
    (l_plan_depth : K.lookup f_plan_depth = some ⟨oc_plan_depth, od_plan_depth, .func (PySem.W.fnOf "plan_depth" "plan_depth" (defArgs st_plan_depth) (defBody st_plan_depth) (defScope st_plan_depth) .none kV_plan_depth dc_plan_depth pm_plan_depth an_plan_depth cd_plan_depth ct_plan_depth), sl_plan_depth⟩)
    (c_plan_depth : PySem.W.codeIn K cd_plan_depth "plan_depth" = true)
    (k_plan_depth : PySem.W.keepIn K (.ref f_plan_depth) = true)
    (a_answer_of : PySem.W.nsIn K mainGlobals "answer_of" = some (some (.ref f_answer_of)))
    (l_answer_of : K.lookup f_answer_of = some ⟨oc_answer_of, od_answer_of, .func (PySem.W.fnOf "answer_of" "answer_of" (defArgs st_answer_of) (defBody st_answer_of) (defScope st_answer_of) .none kV_answer_of dc_answer_of pm_answer_of an_answer_of cd_answer_of ct_answer_of), sl_answer_of⟩)
    (c_answer_of : PySem.W.codeIn K cd_answer_of "answer_of" = true)
    (k_answer_of : PySem.W.keepIn K (.ref f_answer_of) = true)
    (a_parts_of : PySem.W.nsIn K mainGlobals "parts_of" = some (some (.ref f_parts_of)))
    (l_parts_of : K.lookup f_parts_of = some ⟨oc_parts_of, od_parts_of, .func (PySem.W.fnOf "parts_of" "parts_of" (defArgs st_parts_of) (defBody st_parts_of) (defScope st_parts_of) .none kV_parts_of dc_parts_of pm_parts_of an_parts_of cd_parts_of ct_parts_of), sl_parts_of⟩)
    (c_parts_of : PySem.W.codeIn K cd_parts_of "parts_of" = true)
    (k_parts_of : PySem.W.keepIn K (.ref f_parts_of) = true)
    (a_best_plan : PySem.W.nsIn K mainGlobals "best_plan" = some (some (.ref f_best_plan)))
    (l_best_plan : K.lookup f_best_plan = some ⟨oc_best_plan, od_best_plan, .func (PySem.W.fnOf "best_plan" "best_plan" (defArgs st_best_plan) (defBody st_best_plan) (defScope st_best_plan) .none kV_best_plan dc_best_plan pm_best_plan an_best_plan (.ref cd_best_plan) ct_best_plan), sl_best_plan⟩)
    (c_best_plan : PySem.W.codeIn K (.ref cd_best_plan) "best_plan" = true)
    (k_best_plan : PySem.W.keepIn K (.ref f_best_plan) = true)
    (t_best_plan : K.lookup cd_best_plan = some ⟨te_best_plan, td_best_plan, .fields tv_best_plan, ts_best_plan⟩)
    (u_best_plan : (tv_best_plan[11]? : Option Value) = some (.ref Pt_best_plan))
    (n_best_plan : K.lookup Pt_best_plan = none)
    (a_ask_plan : PySem.W.nsIn K mainGlobals "ask_plan" = some (some (.ref f_ask_plan)))
    (l_ask_plan : K.lookup f_ask_plan = some ⟨oc_ask_plan, od_ask_plan, .func (PySem.W.fnOf "ask_plan" "ask_plan" (defArgs st_ask_plan) (defBody st_ask_plan) (defScope st_ask_plan) .none kV_ask_plan dc_ask_plan pm_ask_plan an_ask_plan cd_ask_plan ct_ask_plan), sl_ask_plan⟩)
    (c_ask_plan : PySem.W.codeIn K cd_ask_plan "ask_plan" = true)
    (k_ask_plan : PySem.W.keepIn K (.ref f_ask_plan) = true)
    (a_law : PySem.W.nsIn K mainGlobals "law" = some (some (.ref f_law)))
    (l_law : K.lookup f_law = some ⟨oc_law, od_law, .func (PySem.W.fnOf "law" "law" (defArgs st_law) (defBody st_law) (defScope st_law) .none kV_law dc_law pm_law an_law cd_law ct_law), sl_law⟩)
    (c_law : PySem.W.codeIn K cd_law "law" = true)
    (k_law : PySem.W.keepIn K (.ref f_law) = true)
    (z_list : PySem.W.nsIn K mainGlobals "list" = some none)
    (z_len : PySem.W.nsIn K mainGlobals "len" = some none)
    (z_int : PySem.W.nsIn K mainGlobals "int" = some none)
    (z_abs : PySem.W.nsIn K mainGlobals "abs" = some none)
    (z_range : PySem.W.nsIn K mainGlobals "range" = some none)
    (z_tuple : PySem.W.nsIn K mainGlobals "tuple" = some none)
    (z_max : PySem.W.nsIn K mainGlobals "max" = some none)
    (z_sorted : PySem.W.nsIn K mainGlobals "sorted" = some none)
    (z_min : PySem.W.nsIn K mainGlobals "min" = some none)
    (z_isinstance : PySem.W.nsIn K mainGlobals "isinstance" = some none)
    (z_str : PySem.W.nsIn K mainGlobals "str" = some none)
    (z_bool : PySem.W.nsIn K mainGlobals "bool" = some none)
    : ∃ (fd : FuncData) (cs : List (Addr × Addr)), (∀ (s : Shared) (u : Value), BindsTo s fd ⟨[u], []⟩ [("script", u)]) ∧ (∀ p ∈ cs, ∃ nm ∈ (["best_plan"] : List Str), PySem.W.tabIn K nm = some p) ∧ (∀ p ∈ cs, K.lookup p.2 = none) ∧
        ∀ base : Heap, K.In base → base.Ns mainGlobals mg → (∀ p ∈ cs, GxR.TabB base mg p.1 p.2) → FnOk l.prog w K mg base CX0 61 fa fd ["script"] (@spF ⟨cs.map (·.2)⟩ K F_law) := by
  have e := hfa.symm.trans (PySem.W.mg_of X G a_law)
  cases e
  have F_law_pool := fun_mk (st := st__law_pool) l__law_pool c__law_pool k__law_pool
  have b_law_pool := F_law_pool.binds (ps := ["script"]) fun _ _ _ _ _ _ us hl => match us, hl with | [_], _ => rfl
  have F_law_draw := fun_mk (st := st__law_draw) l__law_draw c__law_draw k__law_draw
  have b_law_draw := F_law_draw.binds (ps := ["pool", "many"]) fun _ _ _ _ _ _ us hl => match us, hl with | [_, _], _ => rfl
  have F_law_pick := fun_mk (st := st__law_pick) l__law_pick c__law_pick k__law_pick
  have b_law_pick := F_law_pick.binds (ps := ["pool", "things"]) fun _ _ _ _ _ _ us hl => match us, hl with | [_, _], _ => rfl
  have F_law_shuffled := fun_mk (st := st__law_shuffled) l__law_shuffled c__law_shuffled k__law_shuffled
  have b_law_shuffled := F_law_shuffled.binds (ps := ["pool", "things"]) fun _ _ _ _ _ _ us hl => match us, hl with | [_, _], _ => rfl
  have F_law_drawn_words := fun_mk (st := st__law_drawn_words) l__law_drawn_words c__law_drawn_words k__law_drawn_words
  have b_law_drawn_words := F_law_drawn_words.binds (ps := ["pool"]) fun _ _ _ _ _ _ us hl => match us, hl with | [_], _ => rfl
  have F_law_answer := fun_mk (st := st__law_answer) l__law_answer c__law_answer k__law_answer
  have b_law_answer := F_law_answer.binds (ps := ["word", "side", "place"]) fun _ _ _ _ _ _ us hl => match us, hl with | [_, _, _], _ => rfl
  have F_law_parts := fun_mk (st := st__law_parts) l__law_parts c__law_parts k__law_parts
  have b_law_parts := F_law_parts.binds (ps := ["words", "side", "place"]) fun _ _ _ _ _ _ us hl => match us, hl with | [_, _, _], _ => rfl
  have F_law_questions := fun_mk (st := st__law_questions) l__law_questions c__law_questions k__law_questions
  have b_law_questions := F_law_questions.binds (ps := ["words"]) fun _ _ _ _ _ _ us hl => match us, hl with | [_], _ => rfl
  have F_law_least_numbers := fun_mk (st := st__law_least_numbers) l__law_least_numbers c__law_least_numbers k__law_least_numbers
  have b_law_least_numbers := F_law_least_numbers.binds (ps := ["words"]) fun _ _ _ _ _ _ us hl => match us, hl with | [_], _ => rfl
  have F_law_drawn_plan := fun_mk (st := st__law_drawn_plan) l__law_drawn_plan c__law_drawn_plan k__law_drawn_plan
  have b_law_drawn_plan := F_law_drawn_plan.binds (ps := ["pool"]) fun _ _ _ _ _ _ us hl => match us, hl with | [_], _ => rfl
  have F_law_same := fun_mk (st := st__law_same) l__law_same c__law_same k__law_same
  have b_law_same := F_law_same.binds (ps := ["told", "due"]) fun _ _ _ _ _ _ us hl => match us, hl with | [_, _], _ => rfl
  have F_law_plan := fun_mk (st := st__law_plan) l__law_plan c__law_plan k__law_plan
  have b_law_plan := F_law_plan.binds (ps := ["least"]) fun _ _ _ _ _ _ us hl => match us, hl with | [_], _ => rfl
  have Fplan_depth := fun_mk (st := st_plan_depth) l_plan_depth c_plan_depth k_plan_depth
  have bplan_depth := Fplan_depth.binds (ps := ["plan"]) fun _ _ _ _ _ _ us hl => match us, hl with | [_], _ => rfl
  have Fanswer_of := fun_mk (st := st_answer_of) l_answer_of c_answer_of k_answer_of
  have banswer_of := Fanswer_of.binds (ps := ["word", "side", "place"]) fun _ _ _ _ _ _ us hl => match us, hl with | [_, _, _], _ => rfl
  have Fparts_of := fun_mk (st := st_parts_of) l_parts_of c_parts_of k_parts_of
  have bparts_of := Fparts_of.binds (ps := ["lot", "side", "place"]) fun _ _ _ _ _ _ us hl => match us, hl with | [_, _, _], _ => rfl
  have Fbest_plan := fun_mk (st := st_best_plan) l_best_plan c_best_plan k_best_plan
  have Gbest_plan : Rl.FunC K "best_plan" "best_plan" st_best_plan f_best_plan _ cd_best_plan := ⟨⟨_, _, _, _, _, _, _, _, rfl, l_best_plan, c_best_plan⟩, Fbest_plan⟩
  have bbest_plan := Fbest_plan.binds (ps := ["lot", "known"]) fun _ _ _ _ _ _ us hl => match us, hl with | [_, _], _ => rfl
  have Fask_plan := fun_mk (st := st_ask_plan) l_ask_plan c_ask_plan k_ask_plan
  have bask_plan := Fask_plan.binds (ps := ["words"]) fun _ _ _ _ _ _ us hl => match us, hl with | [_], _ => rfl
  have Flaw := fun_mk (st := st_law) l_law c_law k_law
  have blaw := Flaw.binds (ps := ["script"]) fun _ _ _ _ _ _ us hl => match us, hl with | [_], _ => rfl
  have kw_ask_plan_words := kwb (ps := ["words"]) ["words"] [0] Fask_plan fun _ _ _ _ _ _ ws hl => match ws, hl with | [_], _ => rfl
  have kw_plan_depth_plan := kwb (ps := ["plan"]) ["plan"] [0] Fplan_depth fun _ _ _ _ _ _ ws hl => match ws, hl with | [_], _ => rfl
  have y_list := PySem.W.mg_none_of X G z_list
  have y_len := PySem.W.mg_none_of X G z_len
  have y_int := PySem.W.mg_none_of X G z_int
  have y_abs := PySem.W.mg_none_of X G z_abs
  have y_range := PySem.W.mg_none_of X G z_range
  have y_tuple := PySem.W.mg_none_of X G z_tuple
  have y_max := PySem.W.mg_none_of X G z_max
  have y_sorted := PySem.W.mg_none_of X G z_sorted
  have y_min := PySem.W.mg_none_of X G z_min
  have y_isinstance := PySem.W.mg_none_of X G z_isinstance
  have y_str := PySem.W.mg_none_of X G z_str
  have y_bool := PySem.W.mg_none_of X G z_bool
  refine ⟨PySem.W.fnOf "law" "law" (defArgs st_law) (defBody st_law) (defScope st_law) .none kV_law dc_law pm_law an_law cd_law ct_law, [(cd_best_plan, Pt_best_plan)], fun s v => .of_eq rfl, ?ht, ?hn, fun base _ _ TBs => ?_⟩
  case ht =>
    exact fun p hp => by
      simp only [List.mem_cons, List.not_mem_nil, or_false] at hp
      rcases hp with rfl
      · exact ⟨"best_plan", by decide, Rl.tab_mk a_best_plan l_best_plan rfl t_best_plan u_best_plan⟩

  case hn =>
    exact fun p hp => by
      simp only [List.mem_cons, List.not_mem_nil, or_false] at hp
      rcases hp with rfl
      · exact n_best_plan

  letI : Tabs := ⟨([(cd_best_plan, Pt_best_plan)] : List (Addr × Addr)).map (·.2)⟩
  have d_law_pool : Rl.Cal l.prog w K mg base "_law_pool" 1 f__law_pool _ ["script"] F__law_pool := ⟨ok__law_pool (base := base) F_law_pool   y_list, PySem.W.mg_of X G a__law_pool, k__law_pool, b_law_pool⟩
  have d_law_draw : Rl.Cal l.prog w K mg base "_law_draw" 1 f__law_draw _ ["pool", "many"] F__law_draw := ⟨ok__law_draw (base := base) F_law_draw   y_len y_int y_abs, PySem.W.mg_of X G a__law_draw, k__law_draw, b_law_draw⟩
  have d_law_pick : Rl.Cal l.prog w K mg base "_law_pick" 2 f__law_pick _ ["pool", "things"] F__law_pick := ⟨ok__law_pick (base := base) F_law_pick d_law_draw  y_len, PySem.W.mg_of X G a__law_pick, k__law_pick, b_law_pick⟩
  have d_law_shuffled : Rl.Cal l.prog w K mg base "_law_shuffled" 2 f__law_shuffled _ ["pool", "things"] F__law_shuffled := ⟨ok__law_shuffled (base := base) F_law_shuffled d_law_draw  y_list y_range y_len, PySem.W.mg_of X G a__law_shuffled, k__law_shuffled, b_law_shuffled⟩
  have d_law_drawn_words : Rl.Cal l.prog w K mg base "_law_drawn_words" 3 f__law_drawn_words _ ["pool"] F__law_drawn_words := ⟨ok__law_drawn_words (base := base) F_law_drawn_words d_law_pick d_law_draw d_law_shuffled  y_list y_tuple y_range, PySem.W.mg_of X G a__law_drawn_words, k__law_drawn_words, b_law_drawn_words⟩
  have d_law_answer : Rl.Cal l.prog w K mg base "_law_answer" 1 f__law_answer _ ["word", "side", "place"] F__law_answer := ⟨ok__law_answer (base := base) F_law_answer   y_len, PySem.W.mg_of X G a__law_answer, k__law_answer, b_law_answer⟩
  have d_law_parts : Rl.Cal l.prog w K mg base "_law_parts" 2 f__law_parts _ ["words", "side", "place"] F__law_parts := ⟨ok__law_parts (base := base) F_law_parts d_law_answer  , PySem.W.mg_of X G a__law_parts, k__law_parts, b_law_parts⟩
  have d_law_questions : Rl.Cal l.prog w K mg base "_law_questions" 3 f__law_questions _ ["words"] F__law_questions := ⟨ok__law_questions (base := base) F_law_questions d_law_parts  y_range y_len y_max, PySem.W.mg_of X G a__law_questions, k__law_questions, b_law_questions⟩
  have d_law_least_numbers : Rl.Cal l.prog w K mg base "_law_least_numbers" 4 f__law_least_numbers _ ["words"] F__law_least_numbers := ⟨ok__law_least_numbers (base := base) F_law_least_numbers d_law_questions d_law_parts  y_range y_len y_sorted y_max y_min, PySem.W.mg_of X G a__law_least_numbers, k__law_least_numbers, b_law_least_numbers⟩
  have d_law_drawn_plan : Rl.Cal l.prog w K mg base "_law_drawn_plan" 3 f__law_drawn_plan _ ["pool"] F__law_drawn_plan := ⟨ok__law_drawn_plan (base := base) F_law_drawn_plan d_law_draw d_law_pick  y_range, PySem.W.mg_of X G a__law_drawn_plan, k__law_drawn_plan, b_law_drawn_plan⟩
  have d_law_same : Rl.Cal l.prog w K mg base "_law_same" 60 f__law_same _ ["told", "due"] (F__law_same 60) := ⟨ok__law_same (base := base) F_law_same   y_isinstance y_tuple y_len y_range y_str y_int y_bool (PySem.W.mg_of X G a__law_same) b_law_same 60, PySem.W.mg_of X G a__law_same, k__law_same, b_law_same⟩
  have d_law_plan : Rl.Cal l.prog w K mg base "_law_plan" 4 f__law_plan _ ["least"] F__law_plan := ⟨ok__law_plan (base := base) F_law_plan d_law_questions d_law_parts  y_len y_sorted y_max y_tuple, PySem.W.mg_of X G a__law_plan, k__law_plan, b_law_plan⟩
  have dplan_depth : Rl.Cal l.prog w K mg base "plan_depth" 13 f_plan_depth _ ["plan"] (F_plan_depth 13) := ⟨ok_plan_depth (base := base) Fplan_depth   y_isinstance y_str y_max (PySem.W.mg_of X G a_plan_depth) bplan_depth 13, PySem.W.mg_of X G a_plan_depth, k_plan_depth, bplan_depth⟩
  have danswer_of : Rl.Cal l.prog w K mg base "answer_of" 1 f_answer_of _ ["word", "side", "place"] F_answer_of := ⟨ok_answer_of (base := base) Fanswer_of   y_len, PySem.W.mg_of X G a_answer_of, k_answer_of, banswer_of⟩
  have dparts_of : Rl.Cal l.prog w K mg base "parts_of" 2 f_parts_of _ ["lot", "side", "place"] F_parts_of := ⟨ok_parts_of (base := base) Fparts_of danswer_of  y_sorted y_tuple, PySem.W.mg_of X G a_parts_of, k_parts_of, bparts_of⟩
  have dbest_plan : Rl.Cal l.prog w K mg base "best_plan" 15 f_best_plan _ ["lot", "known"] (F_best_plan 13) := ⟨ok_best_plan (base := base) Gbest_plan (TBs (cd_best_plan, Pt_best_plan) (by simp)) (show Pt_best_plan ∈ ([(cd_best_plan, Pt_best_plan)] : List (Addr × Addr)).map (·.2) by simp) dparts_of  y_len y_range y_max y_tuple (PySem.W.mg_of X G a_best_plan) bbest_plan 13, PySem.W.mg_of X G a_best_plan, k_best_plan, bbest_plan⟩
  have dask_plan : Rl.Cal l.prog w K mg base "ask_plan" 16 f_ask_plan _ ["words"] F_ask_plan := ⟨ok_ask_plan (base := base) Fask_plan dbest_plan  , PySem.W.mg_of X G a_ask_plan, k_ask_plan, bask_plan⟩
  have dlaw : Rl.Cal l.prog w K mg base "law" 61 _ _ ["script"] F_law := ⟨ok_law (base := base) Flaw d_law_pool d_law_drawn_words d_law_least_numbers d_law_plan d_law_same dask_plan dplan_depth d_law_drawn_plan kw_ask_plan_words kw_plan_depth_plan y_range, PySem.W.mg_of X G a_law, k_law, blaw⟩
  exact dlaw.ok
end P82
end

set_option linter.all false
set_option maxRecDepth 100000
set_option autoImplicit false
set_option maxHeartbeats 1000000
noncomputable section
namespace P82
open PySem L2 Rl
/-! ### the pool -/
def pD (P : List Int) : List D := P.map .int
structure PoolOk (P : List Int) : Prop where
  c : ∃ a b c r, P = a :: b :: c :: r ∧ 0 ≤ c
  len : P.length ≤ 66
theorem draw_ok {P : List Int} (h : PoolOk P) {many : Int} (h1 : 0 < many) (h2 : many < 1073741824) : ∃ P' r, F__law_draw [.lst (pD P), .val (.int many)] = some (.val (.int r), [.lst (pD P'), .val (.int many)]) ∧ PoolOk P' ∧ 0 ≤ r ∧ r < many := by
  obtain ⟨⟨a, b, c, r, rfl, hc⟩, hl⟩ := h
  unfold F__law_draw fnOf b__law_draw pD
  simp only [List.map_cons]
  have m0 : decide (0 < many) = true := by simpa using h1
  have m1 : lt30 many = true := lt30_of h1 h2
  cases ha : (a == 0) with
  | false =>
    cases hp : decide (0 < a) with
    | true =>
      simp only [c_sSeq, c_sIf, c_sDrop, c_sRet, c_sRetN, c_sRet0, c_sRetV, c_sFrz, c_sSet, c_sSetL, c_sSetN, c_sPar, c_sAsg, c_sFor, c_sPut, c_sPutL, c_sPutD, c_sSdApp, c_sNx, c_sBk, c_sCt, c_eFr, c_vE, c_eC, c_eVar, c_vVar, c_aNil, c_aCons, c_eTup, c_nLst, c_eOp, c_eUn, c_nUn, c_nCat, c_nDic, c_tOf, c_tTru, c_tNot, c_tAnd, c_tOr, c_eIf, c_nIf, c_eAnd, c_eOr, c_eNot, c_tYes, c_eApp, c_ePop, c_ePopAt, c_eGet, c_eSl, c_oNo, c_oAt, c_eCall, c_nCall, c_eCallK, c_runCall, c_runCallK, c_gNil, c_gCons, c_gOwn, c_gNwc, c_iAny, c_iRange1, c_iRange2, c_eTupGx, g_d, g_sl, runGs, valR, ownR, slotD, Sl.toD, Tg.bind, Tg.binds, plainAt_b, Option.any_some, plB_un, plB_val, frzE, lstOf, dicOf, setsG, isOwn, Rl.ownsOf, nodupB, nwsOf, argSl, back_e1, back_e2, back_e3, back_e4, back_e5, backArgs, pick, itsD_lst, itsD_tup, itsD_str, itsD_dic, getD2_dic, isDicD_dic, truD, catD, eqD, eqB, neD, ltD, leD, gtD, geD, addD, subD, mulD, modD, fdivD, pow_1018, negD, isNonD, notNonD, nonB, isiD, ixD_lst, ixD_tup, ixD_scr, ixD_str, ixD_dic, lenD_lst, lenD_tup, lenD_scr, lenD_str, lenD_dic, Rl.intD, Rl.absD, tupD, listL, slD, smallI_7, smallI_48271, smallI_69621, smallI_16, smallI_17, smallI_31, lt30_65536, lt30_2, lt30_16, lt30_10, atI_0, atI_1, atI_2, ixN_0, ixN_1, ixN_2, Option.bind_some, Option.bind_none, Option.map_some, Option.map_none, List.getElem?_cons_zero, List.getElem?_cons_succ, List.set_cons_zero, List.set_cons_succ, List.replicate_succ, List.replicate_zero, List.cons_append, List.nil_append, List.append_nil, List.length_cons, List.length_nil, List.take_succ_cons, List.take_zero, List.contains_nil, Bool.not_false, Bool.not_true, Bool.and_self, Bool.true_and, Bool.and_true, Bool.false_and, Bool.and_false, Bool.true_or, Bool.or_true, Bool.false_or, Bool.or_false, Bool.false_eq_true, if_true, if_false, reduceIte, Nat.reduceAdd, Nat.reduceSub, Nat.reduceEqDiff, Nat.reduceLeDiff, Int.reduceNeg, Int.reduceLT, Int.reduceLE, Int.reducePow, Nat.reducePow, Int.reduceToNat, Nat.reduceLT, decide_true, decide_false, List.all_cons, List.all_nil, beq_self_eq_true, Option.isSome_some, List.filterMap_cons_some, List.filterMap_nil, ha, hp, m0, m1]
      refine ⟨a / many :: b :: c :: r, _, rfl, ⟨⟨_, _, _, _, rfl, hc⟩, hl⟩, Int.emod_nonneg _ (by omega), Int.emod_lt_of_pos _ h1⟩
    | false =>
      simp only [c_sSeq, c_sIf, c_sDrop, c_sRet, c_sRetN, c_sRet0, c_sRetV, c_sFrz, c_sSet, c_sSetL, c_sSetN, c_sPar, c_sAsg, c_sFor, c_sPut, c_sPutL, c_sPutD, c_sSdApp, c_sNx, c_sBk, c_sCt, c_eFr, c_vE, c_eC, c_eVar, c_vVar, c_aNil, c_aCons, c_eTup, c_nLst, c_eOp, c_eUn, c_nUn, c_nCat, c_nDic, c_tOf, c_tTru, c_tNot, c_tAnd, c_tOr, c_eIf, c_nIf, c_eAnd, c_eOr, c_eNot, c_tYes, c_eApp, c_ePop, c_ePopAt, c_eGet, c_eSl, c_oNo, c_oAt, c_eCall, c_nCall, c_eCallK, c_runCall, c_runCallK, c_gNil, c_gCons, c_gOwn, c_gNwc, c_iAny, c_iRange1, c_iRange2, c_eTupGx, g_d, g_sl, runGs, valR, ownR, slotD, Sl.toD, Tg.bind, Tg.binds, plainAt_b, Option.any_some, plB_un, plB_val, frzE, lstOf, dicOf, setsG, isOwn, Rl.ownsOf, nodupB, nwsOf, argSl, back_e1, back_e2, back_e3, back_e4, back_e5, backArgs, pick, itsD_lst, itsD_tup, itsD_str, itsD_dic, getD2_dic, isDicD_dic, truD, catD, eqD, eqB, neD, ltD, leD, gtD, geD, addD, subD, mulD, modD, fdivD, pow_1018, negD, isNonD, notNonD, nonB, isiD, ixD_lst, ixD_tup, ixD_scr, ixD_str, ixD_dic, lenD_lst, lenD_tup, lenD_scr, lenD_str, lenD_dic, Rl.intD, Rl.absD, tupD, listL, slD, smallI_7, smallI_48271, smallI_69621, smallI_16, smallI_17, smallI_31, lt30_65536, lt30_2, lt30_16, lt30_10, atI_0, atI_1, atI_2, ixN_0, ixN_1, ixN_2, Option.bind_some, Option.bind_none, Option.map_some, Option.map_none, List.getElem?_cons_zero, List.getElem?_cons_succ, List.set_cons_zero, List.set_cons_succ, List.replicate_succ, List.replicate_zero, List.cons_append, List.nil_append, List.append_nil, List.length_cons, List.length_nil, List.take_succ_cons, List.take_zero, List.contains_nil, Bool.not_false, Bool.not_true, Bool.and_self, Bool.true_and, Bool.and_true, Bool.false_and, Bool.and_false, Bool.true_or, Bool.or_true, Bool.false_or, Bool.or_false, Bool.false_eq_true, if_true, if_false, reduceIte, Nat.reduceAdd, Nat.reduceSub, Nat.reduceEqDiff, Nat.reduceLeDiff, Int.reduceNeg, Int.reduceLT, Int.reduceLE, Int.reducePow, Nat.reducePow, Int.reduceToNat, Nat.reduceLT, decide_true, decide_false, List.all_cons, List.all_nil, beq_self_eq_true, Option.isSome_some, List.filterMap_cons_some, List.filterMap_nil, ha, hp, m0, m1]
      refine ⟨a :: _ :: c :: r, _, rfl, ⟨⟨_, _, _, _, rfl, hc⟩, hl⟩, Int.emod_nonneg _ (by omega), Int.emod_lt_of_pos _ h1⟩
  | true =>
    have a0 : a = 0 := by simpa using ha
    subst a0
    cases hcl : decide (c < ((((r.map D.int).length + 1 + 1 + 1 : Nat)) : Int)) with
    | false =>
      simp only [c_sSeq, c_sIf, c_sDrop, c_sRet, c_sRetN, c_sRet0, c_sRetV, c_sFrz, c_sSet, c_sSetL, c_sSetN, c_sPar, c_sAsg, c_sFor, c_sPut, c_sPutL, c_sPutD, c_sSdApp, c_sNx, c_sBk, c_sCt, c_eFr, c_vE, c_eC, c_eVar, c_vVar, c_aNil, c_aCons, c_eTup, c_nLst, c_eOp, c_eUn, c_nUn, c_nCat, c_nDic, c_tOf, c_tTru, c_tNot, c_tAnd, c_tOr, c_eIf, c_nIf, c_eAnd, c_eOr, c_eNot, c_tYes, c_eApp, c_ePop, c_ePopAt, c_eGet, c_eSl, c_oNo, c_oAt, c_eCall, c_nCall, c_eCallK, c_runCall, c_runCallK, c_gNil, c_gCons, c_gOwn, c_gNwc, c_iAny, c_iRange1, c_iRange2, c_eTupGx, g_d, g_sl, runGs, valR, ownR, slotD, Sl.toD, Tg.bind, Tg.binds, plainAt_b, Option.any_some, plB_un, plB_val, frzE, lstOf, dicOf, setsG, isOwn, Rl.ownsOf, nodupB, nwsOf, argSl, back_e1, back_e2, back_e3, back_e4, back_e5, backArgs, pick, itsD_lst, itsD_tup, itsD_str, itsD_dic, getD2_dic, isDicD_dic, truD, catD, eqD, eqB, neD, ltD, leD, gtD, geD, addD, subD, mulD, modD, fdivD, pow_1018, negD, isNonD, notNonD, nonB, isiD, ixD_lst, ixD_tup, ixD_scr, ixD_str, ixD_dic, lenD_lst, lenD_tup, lenD_scr, lenD_str, lenD_dic, Rl.intD, Rl.absD, tupD, listL, slD, smallI_7, smallI_48271, smallI_69621, smallI_16, smallI_17, smallI_31, lt30_65536, lt30_2, lt30_16, lt30_10, atI_0, atI_1, atI_2, ixN_0, ixN_1, ixN_2, Option.bind_some, Option.bind_none, Option.map_some, Option.map_none, List.getElem?_cons_zero, List.getElem?_cons_succ, List.set_cons_zero, List.set_cons_succ, List.replicate_succ, List.replicate_zero, List.cons_append, List.nil_append, List.append_nil, List.length_cons, List.length_nil, List.take_succ_cons, List.take_zero, List.contains_nil, Bool.not_false, Bool.not_true, Bool.and_self, Bool.true_and, Bool.and_true, Bool.false_and, Bool.and_false, Bool.true_or, Bool.or_true, Bool.false_or, Bool.or_false, Bool.false_eq_true, if_true, if_false, reduceIte, Nat.reduceAdd, Nat.reduceSub, Nat.reduceEqDiff, Nat.reduceLeDiff, Int.reduceNeg, Int.reduceLT, Int.reduceLE, Int.reducePow, Nat.reducePow, Int.reduceToNat, Nat.reduceLT, decide_true, decide_false, List.all_cons, List.all_nil, beq_self_eq_true, Option.isSome_some, List.filterMap_cons_some, List.filterMap_nil, ha, hcl, m0, m1]
      refine ⟨0 :: _ :: c :: r, _, rfl, ⟨⟨_, _, _, _, rfl, hc⟩, hl⟩, Int.emod_nonneg _ (by omega), Int.emod_lt_of_pos _ h1⟩
    | true =>
      obtain ⟨x, hx, hx2⟩ : ∃ x ∈ (.int 0 :: .int b :: .int c :: r.map D.int : List D), atI (.int 0 :: .int b :: .int c :: r.map D.int) c = some x := atI_mem hc (by simpa using hcl)
      obtain ⟨z, rfl⟩ : ∃ z, x = .int z := by
        simp only [List.mem_cons, List.mem_map] at hx
        rcases hx with rfl | rfl | rfl | ⟨z, _, rfl⟩ <;> exact ⟨_, rfl⟩
      cases hb : decide (1000000000000000000 ≤ if z < 0 then -z else z) with
      | false =>
        simp only [c_sSeq, c_sIf, c_sDrop, c_sRet, c_sRetN, c_sRet0, c_sRetV, c_sFrz, c_sSet, c_sSetL, c_sSetN, c_sPar, c_sAsg, c_sFor, c_sPut, c_sPutL, c_sPutD, c_sSdApp, c_sNx, c_sBk, c_sCt, c_eFr, c_vE, c_eC, c_eVar, c_vVar, c_aNil, c_aCons, c_eTup, c_nLst, c_eOp, c_eUn, c_nUn, c_nCat, c_nDic, c_tOf, c_tTru, c_tNot, c_tAnd, c_tOr, c_eIf, c_nIf, c_eAnd, c_eOr, c_eNot, c_tYes, c_eApp, c_ePop, c_ePopAt, c_eGet, c_eSl, c_oNo, c_oAt, c_eCall, c_nCall, c_eCallK, c_runCall, c_runCallK, c_gNil, c_gCons, c_gOwn, c_gNwc, c_iAny, c_iRange1, c_iRange2, c_eTupGx, g_d, g_sl, runGs, valR, ownR, slotD, Sl.toD, Tg.bind, Tg.binds, plainAt_b, Option.any_some, plB_un, plB_val, frzE, lstOf, dicOf, setsG, isOwn, Rl.ownsOf, nodupB, nwsOf, argSl, back_e1, back_e2, back_e3, back_e4, back_e5, backArgs, pick, itsD_lst, itsD_tup, itsD_str, itsD_dic, getD2_dic, isDicD_dic, truD, catD, eqD, eqB, neD, ltD, leD, gtD, geD, addD, subD, mulD, modD, fdivD, pow_1018, negD, isNonD, notNonD, nonB, isiD, ixD_lst, ixD_tup, ixD_scr, ixD_str, ixD_dic, lenD_lst, lenD_tup, lenD_scr, lenD_str, lenD_dic, Rl.intD, Rl.absD, tupD, listL, slD, smallI_7, smallI_48271, smallI_69621, smallI_16, smallI_17, smallI_31, lt30_65536, lt30_2, lt30_16, lt30_10, atI_0, atI_1, atI_2, ixN_0, ixN_1, ixN_2, Option.bind_some, Option.bind_none, Option.map_some, Option.map_none, List.getElem?_cons_zero, List.getElem?_cons_succ, List.set_cons_zero, List.set_cons_succ, List.replicate_succ, List.replicate_zero, List.cons_append, List.nil_append, List.append_nil, List.length_cons, List.length_nil, List.take_succ_cons, List.take_zero, List.contains_nil, Bool.not_false, Bool.not_true, Bool.and_self, Bool.true_and, Bool.and_true, Bool.false_and, Bool.and_false, Bool.true_or, Bool.or_true, Bool.false_or, Bool.or_false, Bool.false_eq_true, if_true, if_false, reduceIte, Nat.reduceAdd, Nat.reduceSub, Nat.reduceEqDiff, Nat.reduceLeDiff, Int.reduceNeg, Int.reduceLT, Int.reduceLE, Int.reducePow, Nat.reducePow, Int.reduceToNat, Nat.reduceLT, decide_true, decide_false, List.all_cons, List.all_nil, beq_self_eq_true, Option.isSome_some, List.filterMap_cons_some, List.filterMap_nil, ha, hcl, hx2, hb, m0, m1]
        refine ⟨0 :: _ :: (c + 1) :: r, _, rfl, ⟨⟨_, _, _, _, rfl, by omega⟩, hl⟩, Int.emod_nonneg _ (by omega), Int.emod_lt_of_pos _ h1⟩
      | true =>
        have hp : decide (0 < if z < 0 then -z else z) = true := by
          have := of_decide_eq_true hb
          exact decide_eq_true (by omega)
        simp only [c_sSeq, c_sIf, c_sDrop, c_sRet, c_sRetN, c_sRet0, c_sRetV, c_sFrz, c_sSet, c_sSetL, c_sSetN, c_sPar, c_sAsg, c_sFor, c_sPut, c_sPutL, c_sPutD, c_sSdApp, c_sNx, c_sBk, c_sCt, c_eFr, c_vE, c_eC, c_eVar, c_vVar, c_aNil, c_aCons, c_eTup, c_nLst, c_eOp, c_eUn, c_nUn, c_nCat, c_nDic, c_tOf, c_tTru, c_tNot, c_tAnd, c_tOr, c_eIf, c_nIf, c_eAnd, c_eOr, c_eNot, c_tYes, c_eApp, c_ePop, c_ePopAt, c_eGet, c_eSl, c_oNo, c_oAt, c_eCall, c_nCall, c_eCallK, c_runCall, c_runCallK, c_gNil, c_gCons, c_gOwn, c_gNwc, c_iAny, c_iRange1, c_iRange2, c_eTupGx, g_d, g_sl, runGs, valR, ownR, slotD, Sl.toD, Tg.bind, Tg.binds, plainAt_b, Option.any_some, plB_un, plB_val, frzE, lstOf, dicOf, setsG, isOwn, Rl.ownsOf, nodupB, nwsOf, argSl, back_e1, back_e2, back_e3, back_e4, back_e5, backArgs, pick, itsD_lst, itsD_tup, itsD_str, itsD_dic, getD2_dic, isDicD_dic, truD, catD, eqD, eqB, neD, ltD, leD, gtD, geD, addD, subD, mulD, modD, fdivD, pow_1018, negD, isNonD, notNonD, nonB, isiD, ixD_lst, ixD_tup, ixD_scr, ixD_str, ixD_dic, lenD_lst, lenD_tup, lenD_scr, lenD_str, lenD_dic, Rl.intD, Rl.absD, tupD, listL, slD, smallI_7, smallI_48271, smallI_69621, smallI_16, smallI_17, smallI_31, lt30_65536, lt30_2, lt30_16, lt30_10, atI_0, atI_1, atI_2, ixN_0, ixN_1, ixN_2, Option.bind_some, Option.bind_none, Option.map_some, Option.map_none, List.getElem?_cons_zero, List.getElem?_cons_succ, List.set_cons_zero, List.set_cons_succ, List.replicate_succ, List.replicate_zero, List.cons_append, List.nil_append, List.append_nil, List.length_cons, List.length_nil, List.take_succ_cons, List.take_zero, List.contains_nil, Bool.not_false, Bool.not_true, Bool.and_self, Bool.true_and, Bool.and_true, Bool.false_and, Bool.and_false, Bool.true_or, Bool.or_true, Bool.false_or, Bool.or_false, Bool.false_eq_true, if_true, if_false, reduceIte, Nat.reduceAdd, Nat.reduceSub, Nat.reduceEqDiff, Nat.reduceLeDiff, Int.reduceNeg, Int.reduceLT, Int.reduceLE, Int.reducePow, Nat.reducePow, Int.reduceToNat, Nat.reduceLT, decide_true, decide_false, List.all_cons, List.all_nil, beq_self_eq_true, Option.isSome_some, List.filterMap_cons_some, List.filterMap_nil, ha, hcl, hx2, hb, hp, m0, m1]
        refine ⟨_ :: _ :: (c + 1) :: r, _, rfl, ⟨⟨_, _, _, _, rfl, by omega⟩, hl⟩, Int.emod_nonneg _ (by omega), Int.emod_lt_of_pos _ h1⟩
theorem pool_ok (ns : List Int) (h : ns.length ≤ 63) : ∃ outs, F__law_pool [.val (.scr (ns.map .int))] = some (.lst (pD (0 :: 7 :: 3 :: ns)), outs) ∧ PoolOk (0 :: 7 :: 3 :: ns) := by
  have e : szOk (([] : List D).length + 1 + 1 + 1) = true := szOk_of (by decide)
  have e2 : szOk (([] : List D).length + 1 + 1 + 1 + (ns.map D.int).length) = true := szOk_of (by rw [List.length_map]; simp; omega)
  unfold F__law_pool fnOf b__law_pool
  simp only [c_sSeq, c_sIf, c_sDrop, c_sRet, c_sRetN, c_sRet0, c_sRetV, c_sFrz, c_sSet, c_sSetL, c_sSetN, c_sPar, c_sAsg, c_sFor, c_sPut, c_sPutL, c_sPutD, c_sSdApp, c_sNx, c_sBk, c_sCt, c_eFr, c_vE, c_eC, c_eVar, c_vVar, c_aNil, c_aCons, c_eTup, c_nLst, c_eOp, c_eUn, c_nUn, c_nCat, c_nDic, c_tOf, c_tTru, c_tNot, c_tAnd, c_tOr, c_eIf, c_nIf, c_eAnd, c_eOr, c_eNot, c_tYes, c_eApp, c_ePop, c_ePopAt, c_eGet, c_eSl, c_oNo, c_oAt, c_eCall, c_nCall, c_eCallK, c_runCall, c_runCallK, c_gNil, c_gCons, c_gOwn, c_gNwc, c_iAny, c_iRange1, c_iRange2, c_eTupGx, g_d, g_sl, runGs, valR, ownR, slotD, Sl.toD, Tg.bind, Tg.binds, plainAt_b, Option.any_some, plB_un, plB_val, frzE, lstOf, dicOf, setsG, isOwn, Rl.ownsOf, nodupB, nwsOf, argSl, back_e1, back_e2, back_e3, back_e4, back_e5, backArgs, pick, itsD_lst, itsD_tup, itsD_str, itsD_dic, getD2_dic, isDicD_dic, truD, catD, eqD, eqB, neD, ltD, leD, gtD, geD, addD, subD, mulD, modD, fdivD, pow_1018, negD, isNonD, notNonD, nonB, isiD, ixD_lst, ixD_tup, ixD_scr, ixD_str, ixD_dic, lenD_lst, lenD_tup, lenD_scr, lenD_str, lenD_dic, Rl.intD, Rl.absD, tupD, listL, slD, smallI_7, smallI_48271, smallI_69621, smallI_16, smallI_17, smallI_31, lt30_65536, lt30_2, lt30_16, lt30_10, atI_0, atI_1, atI_2, ixN_0, ixN_1, ixN_2, Option.bind_some, Option.bind_none, Option.map_some, Option.map_none, List.getElem?_cons_zero, List.getElem?_cons_succ, List.set_cons_zero, List.set_cons_succ, List.replicate_succ, List.replicate_zero, List.cons_append, List.nil_append, List.append_nil, List.length_cons, List.length_nil, List.take_succ_cons, List.take_zero, List.contains_nil, Bool.not_false, Bool.not_true, Bool.and_self, Bool.true_and, Bool.and_true, Bool.false_and, Bool.and_false, Bool.true_or, Bool.or_true, Bool.false_or, Bool.or_false, Bool.false_eq_true, if_true, if_false, reduceIte, Nat.reduceAdd, Nat.reduceSub, Nat.reduceEqDiff, Nat.reduceLeDiff, Int.reduceNeg, Int.reduceLT, Int.reduceLE, Int.reducePow, Nat.reducePow, Int.reduceToNat, Nat.reduceLT, decide_true, decide_false, List.all_cons, List.all_nil, beq_self_eq_true, Option.isSome_some, List.filterMap_cons_some, List.filterMap_nil, e, e2]
  have e3 : szOk 3 = true := szOk_of (by decide)
  have e4 : szOk (3 + (ns.map D.int).length) = true := szOk_of (by rw [List.length_map]; omega)
  simp only [c_sSeq, c_sIf, c_sDrop, c_sRet, c_sRetN, c_sRet0, c_sRetV, c_sFrz, c_sSet, c_sSetL, c_sSetN, c_sPar, c_sAsg, c_sFor, c_sPut, c_sPutL, c_sPutD, c_sSdApp, c_sNx, c_sBk, c_sCt, c_eFr, c_vE, c_eC, c_eVar, c_vVar, c_aNil, c_aCons, c_eTup, c_nLst, c_eOp, c_eUn, c_nUn, c_nCat, c_nDic, c_tOf, c_tTru, c_tNot, c_tAnd, c_tOr, c_eIf, c_nIf, c_eAnd, c_eOr, c_eNot, c_tYes, c_eApp, c_ePop, c_ePopAt, c_eGet, c_eSl, c_oNo, c_oAt, c_eCall, c_nCall, c_eCallK, c_runCall, c_runCallK, c_gNil, c_gCons, c_gOwn, c_gNwc, c_iAny, c_iRange1, c_iRange2, c_eTupGx, g_d, g_sl, runGs, valR, ownR, slotD, Sl.toD, Tg.bind, Tg.binds, plainAt_b, Option.any_some, plB_un, plB_val, frzE, lstOf, dicOf, setsG, isOwn, Rl.ownsOf, nodupB, nwsOf, argSl, back_e1, back_e2, back_e3, back_e4, back_e5, backArgs, pick, itsD_lst, itsD_tup, itsD_str, itsD_dic, getD2_dic, isDicD_dic, truD, catD, eqD, eqB, neD, ltD, leD, gtD, geD, addD, subD, mulD, modD, fdivD, pow_1018, negD, isNonD, notNonD, nonB, isiD, ixD_lst, ixD_tup, ixD_scr, ixD_str, ixD_dic, lenD_lst, lenD_tup, lenD_scr, lenD_str, lenD_dic, Rl.intD, Rl.absD, tupD, listL, slD, smallI_7, smallI_48271, smallI_69621, smallI_16, smallI_17, smallI_31, lt30_65536, lt30_2, lt30_16, lt30_10, atI_0, atI_1, atI_2, ixN_0, ixN_1, ixN_2, Option.bind_some, Option.bind_none, Option.map_some, Option.map_none, List.getElem?_cons_zero, List.getElem?_cons_succ, List.set_cons_zero, List.set_cons_succ, List.replicate_succ, List.replicate_zero, List.cons_append, List.nil_append, List.append_nil, List.length_cons, List.length_nil, List.take_succ_cons, List.take_zero, List.contains_nil, Bool.not_false, Bool.not_true, Bool.and_self, Bool.true_and, Bool.and_true, Bool.false_and, Bool.and_false, Bool.true_or, Bool.or_true, Bool.false_or, Bool.or_false, Bool.false_eq_true, if_true, if_false, reduceIte, Nat.reduceAdd, Nat.reduceSub, Nat.reduceEqDiff, Nat.reduceLeDiff, Int.reduceNeg, Int.reduceLT, Int.reduceLE, Int.reducePow, Nat.reducePow, Int.reduceToNat, Nat.reduceLT, decide_true, decide_false, List.all_cons, List.all_nil, beq_self_eq_true, Option.isSome_some, List.filterMap_cons_some, List.filterMap_nil, e3, e4]
  exact ⟨_, rfl, ⟨0, 7, 3, ns, rfl, by omega⟩, by simp; omega⟩
theorem pick_lst {P : List Int} (h : PoolOk P) {xs : List D} (h1 : xs ≠ []) (h2 : xs.length < 1073741824) : ∃ P' x, F__law_pick [.lst (pD P), .val (.lst xs)] = some (.val x, [.lst (pD P'), .val (.lst xs)]) ∧ PoolOk P' ∧ x ∈ xs := by
  have hl : 0 < xs.length := by cases xs <;> simp_all
  obtain ⟨P', r, e, hP, r0, r1⟩ := draw_ok h (many := (xs.length : Int)) (by omega) (by omega)
  obtain ⟨x, hx, e2⟩ := atI_mem r0 r1
  unfold F__law_pick fnOf b__law_pick
  simp only [c_sSeq, c_sIf, c_sDrop, c_sRet, c_sRetN, c_sRet0, c_sRetV, c_sFrz, c_sSet, c_sSetL, c_sSetN, c_sPar, c_sAsg, c_sFor, c_sPut, c_sPutL, c_sPutD, c_sSdApp, c_sNx, c_sBk, c_sCt, c_eFr, c_vE, c_eC, c_eVar, c_vVar, c_aNil, c_aCons, c_eTup, c_nLst, c_eOp, c_eUn, c_nUn, c_nCat, c_nDic, c_tOf, c_tTru, c_tNot, c_tAnd, c_tOr, c_eIf, c_nIf, c_eAnd, c_eOr, c_eNot, c_tYes, c_eApp, c_ePop, c_ePopAt, c_eGet, c_eSl, c_oNo, c_oAt, c_eCall, c_nCall, c_eCallK, c_runCall, c_runCallK, c_gNil, c_gCons, c_gOwn, c_gNwc, c_iAny, c_iRange1, c_iRange2, c_eTupGx, g_d, g_sl, runGs, valR, ownR, slotD, Sl.toD, Tg.bind, Tg.binds, plainAt_b, Option.any_some, plB_un, plB_val, frzE, lstOf, dicOf, setsG, isOwn, Rl.ownsOf, nodupB, nwsOf, argSl, back_e1, back_e2, back_e3, back_e4, back_e5, backArgs, pick, itsD_lst, itsD_tup, itsD_str, itsD_dic, getD2_dic, isDicD_dic, truD, catD, eqD, eqB, neD, ltD, leD, gtD, geD, addD, subD, mulD, modD, fdivD, pow_1018, negD, isNonD, notNonD, nonB, isiD, ixD_lst, ixD_tup, ixD_scr, ixD_str, ixD_dic, lenD_lst, lenD_tup, lenD_scr, lenD_str, lenD_dic, Rl.intD, Rl.absD, tupD, listL, slD, smallI_7, smallI_48271, smallI_69621, smallI_16, smallI_17, smallI_31, lt30_65536, lt30_2, lt30_16, lt30_10, atI_0, atI_1, atI_2, ixN_0, ixN_1, ixN_2, Option.bind_some, Option.bind_none, Option.map_some, Option.map_none, List.getElem?_cons_zero, List.getElem?_cons_succ, List.set_cons_zero, List.set_cons_succ, List.replicate_succ, List.replicate_zero, List.cons_append, List.nil_append, List.append_nil, List.length_cons, List.length_nil, List.take_succ_cons, List.take_zero, List.contains_nil, Bool.not_false, Bool.not_true, Bool.and_self, Bool.true_and, Bool.and_true, Bool.false_and, Bool.and_false, Bool.true_or, Bool.or_true, Bool.false_or, Bool.or_false, Bool.false_eq_true, if_true, if_false, reduceIte, Nat.reduceAdd, Nat.reduceSub, Nat.reduceEqDiff, Nat.reduceLeDiff, Int.reduceNeg, Int.reduceLT, Int.reduceLE, Int.reducePow, Nat.reducePow, Int.reduceToNat, Nat.reduceLT, decide_true, decide_false, List.all_cons, List.all_nil, beq_self_eq_true, Option.isSome_some, List.filterMap_cons_some, List.filterMap_nil, e, e2]
  exact ⟨P', x, rfl, hP, hx⟩
theorem pick_str {P : List Int} (h : PoolOk P) {xs : List Nat} (h1 : xs ≠ []) (h2 : xs.length ≤ 100) : ∃ P' x, F__law_pick [.lst (pD P), .val (.str xs)] = some (.val (.str [x]), [.lst (pD P'), .val (.str xs)]) ∧ PoolOk P' ∧ x ∈ xs := by
  have hl : 0 < xs.length := by cases xs <;> simp_all
  obtain ⟨P', r, e, hP, r0, r1⟩ := draw_ok h (many := (xs.length : Int)) (by omega) (by omega)
  obtain ⟨x, hx, e2⟩ := atI_mem r0 r1
  have e3 : szOk xs.length = true := szOk_of (by omega)
  unfold F__law_pick fnOf b__law_pick
  simp only [c_sSeq, c_sIf, c_sDrop, c_sRet, c_sRetN, c_sRet0, c_sRetV, c_sFrz, c_sSet, c_sSetL, c_sSetN, c_sPar, c_sAsg, c_sFor, c_sPut, c_sPutL, c_sPutD, c_sSdApp, c_sNx, c_sBk, c_sCt, c_eFr, c_vE, c_eC, c_eVar, c_vVar, c_aNil, c_aCons, c_eTup, c_nLst, c_eOp, c_eUn, c_nUn, c_nCat, c_nDic, c_tOf, c_tTru, c_tNot, c_tAnd, c_tOr, c_eIf, c_nIf, c_eAnd, c_eOr, c_eNot, c_tYes, c_eApp, c_ePop, c_ePopAt, c_eGet, c_eSl, c_oNo, c_oAt, c_eCall, c_nCall, c_eCallK, c_runCall, c_runCallK, c_gNil, c_gCons, c_gOwn, c_gNwc, c_iAny, c_iRange1, c_iRange2, c_eTupGx, g_d, g_sl, runGs, valR, ownR, slotD, Sl.toD, Tg.bind, Tg.binds, plainAt_b, Option.any_some, plB_un, plB_val, frzE, lstOf, dicOf, setsG, isOwn, Rl.ownsOf, nodupB, nwsOf, argSl, back_e1, back_e2, back_e3, back_e4, back_e5, backArgs, pick, itsD_lst, itsD_tup, itsD_str, itsD_dic, getD2_dic, isDicD_dic, truD, catD, eqD, eqB, neD, ltD, leD, gtD, geD, addD, subD, mulD, modD, fdivD, pow_1018, negD, isNonD, notNonD, nonB, isiD, ixD_lst, ixD_tup, ixD_scr, ixD_str, ixD_dic, lenD_lst, lenD_tup, lenD_scr, lenD_str, lenD_dic, Rl.intD, Rl.absD, tupD, listL, slD, smallI_7, smallI_48271, smallI_69621, smallI_16, smallI_17, smallI_31, lt30_65536, lt30_2, lt30_16, lt30_10, atI_0, atI_1, atI_2, ixN_0, ixN_1, ixN_2, Option.bind_some, Option.bind_none, Option.map_some, Option.map_none, List.getElem?_cons_zero, List.getElem?_cons_succ, List.set_cons_zero, List.set_cons_succ, List.replicate_succ, List.replicate_zero, List.cons_append, List.nil_append, List.append_nil, List.length_cons, List.length_nil, List.take_succ_cons, List.take_zero, List.contains_nil, Bool.not_false, Bool.not_true, Bool.and_self, Bool.true_and, Bool.and_true, Bool.false_and, Bool.and_false, Bool.true_or, Bool.or_true, Bool.false_or, Bool.or_false, Bool.false_eq_true, if_true, if_false, reduceIte, Nat.reduceAdd, Nat.reduceSub, Nat.reduceEqDiff, Nat.reduceLeDiff, Int.reduceNeg, Int.reduceLT, Int.reduceLE, Int.reducePow, Nat.reducePow, Int.reduceToNat, Nat.reduceLT, decide_true, decide_false, List.all_cons, List.all_nil, beq_self_eq_true, Option.isSome_some, List.filterMap_cons_some, List.filterMap_nil, e, e2, e3]
  exact ⟨P', x, rfl, hP, hx⟩
theorem perm_erase {α : Type} : ∀ (L : List α) (k : Nat) (hk : k < L.length), (L[k] :: L.eraseIdx k).Perm L
  | a :: L, 0, _ => List.Perm.refl _
  | a :: L, k + 1, hk => by
    have := perm_erase L k (by simpa using hk)
    simp only [List.getElem_cons_succ, List.eraseIdx_cons_succ]
    exact (List.Perm.swap _ _ _).trans (this.cons a)
/-- one turn after the other: what is left is taken out by and by -/
theorem shuf_loop (th : D) : ∀ (ds L : List D) (P : List Int) (s : Sl), (∀ d ∈ ds, ∃ i, d = .int i) → ds.length = L.length → L.length < 1000 → PoolOk P →
    ∃ ys P' s', lcL [3] (.nm 3) tYes' e1__law_shuffled ds [.lst (pD P), .val th, .lst L, s] = some (ys, [.lst (pD P'), .val th, .lst [], s']) ∧ ys.Perm L ∧ PoolOk P'
  | [], L, P, s, _, hl, _, hP => by
    have : L = [] := by cases L <;> simp_all
    subst this
    exact ⟨[], P, s, rfl, List.Perm.refl _, hP⟩
  | d :: ds, L, P, s, hd, hl, hL, hP => by
    have h0 : 0 < L.length := by rw [← hl]; simp
    obtain ⟨P1, r, e, hP1, r0, r1⟩ := draw_ok hP (many := (L.length : Int)) (by omega) (by omega)
    obtain ⟨k, rfl⟩ := Int.eq_ofNat_of_zero_le r0
    have hk : k < L.length := by omega
    have e2 : seqIndex? (k : Int) L.length = some k := by rw [seqIndex_of (by omega) (by omega)]; simp
    have e3 : L[k]? = some L[k] := List.getElem?_eq_getElem hk
    have e4 : ix63 (k : Int) = true := ix63_of (by omega) (by omega)
    obtain ⟨ys, P', s', e5, pm, hP'⟩ := shuf_loop th ds (L.eraseIdx k) P1 (.val d) (fun x hx => hd x (List.mem_cons_of_mem _ hx)) (by rw [List.length_eraseIdx, if_pos hk]; simp at hl; omega) (by rw [List.length_eraseIdx, if_pos hk]; omega) hP1
    refine ⟨L[k] :: ys, P', s', ?_, (List.Perm.cons _ pm).trans (perm_erase L k hk), hP'⟩
    simp only [lcL, wipeE]
    simp only [c_sSeq, c_sIf, c_sDrop, c_sRet, c_sRetN, c_sRet0, c_sRetV, c_sFrz, c_sSet, c_sSetL, c_sSetN, c_sPar, c_sAsg, c_sFor, c_sPut, c_sPutL, c_sPutD, c_sSdApp, c_sNx, c_sBk, c_sCt, c_eFr, c_vE, c_eC, c_eVar, c_vVar, c_aNil, c_aCons, c_eTup, c_nLst, c_eOp, c_eUn, c_nUn, c_nCat, c_nDic, c_tOf, c_tTru, c_tNot, c_tAnd, c_tOr, c_eIf, c_nIf, c_eAnd, c_eOr, c_eNot, c_tYes, c_eApp, c_ePop, c_ePopAt, c_eGet, c_eSl, c_oNo, c_oAt, c_eCall, c_nCall, c_eCallK, c_runCall, c_runCallK, c_gNil, c_gCons, c_gOwn, c_gNwc, c_iAny, c_iRange1, c_iRange2, c_eTupGx, g_d, g_sl, runGs, valR, ownR, slotD, Sl.toD, Tg.bind, Tg.binds, plainAt_b, Option.any_some, plB_un, plB_val, frzE, lstOf, dicOf, setsG, isOwn, Rl.ownsOf, nodupB, nwsOf, argSl, back_e1, back_e2, back_e3, back_e4, back_e5, backArgs, pick, itsD_lst, itsD_tup, itsD_str, itsD_dic, getD2_dic, isDicD_dic, truD, catD, eqD, eqB, neD, ltD, leD, gtD, geD, addD, subD, mulD, modD, fdivD, pow_1018, negD, isNonD, notNonD, nonB, isiD, ixD_lst, ixD_tup, ixD_scr, ixD_str, ixD_dic, lenD_lst, lenD_tup, lenD_scr, lenD_str, lenD_dic, Rl.intD, Rl.absD, tupD, listL, slD, smallI_7, smallI_48271, smallI_69621, smallI_16, smallI_17, smallI_31, lt30_65536, lt30_2, lt30_16, lt30_10, atI_0, atI_1, atI_2, ixN_0, ixN_1, ixN_2, Option.bind_some, Option.bind_none, Option.map_some, Option.map_none, List.getElem?_cons_zero, List.getElem?_cons_succ, List.set_cons_zero, List.set_cons_succ, List.replicate_succ, List.replicate_zero, List.cons_append, List.nil_append, List.append_nil, List.length_cons, List.length_nil, List.take_succ_cons, List.take_zero, List.contains_nil, Bool.not_false, Bool.not_true, Bool.and_self, Bool.true_and, Bool.and_true, Bool.false_and, Bool.and_false, Bool.true_or, Bool.or_true, Bool.false_or, Bool.or_false, Bool.false_eq_true, if_true, if_false, reduceIte, Nat.reduceAdd, Nat.reduceSub, Nat.reduceEqDiff, Nat.reduceLeDiff, Int.reduceNeg, Int.reduceLT, Int.reduceLE, Int.reducePow, Nat.reducePow, Int.reduceToNat, Nat.reduceLT, decide_true, decide_false, List.all_cons, List.all_nil, beq_self_eq_true, Option.isSome_some, List.filterMap_cons_some, List.filterMap_nil, u_e1__law_shuffled, e, e2, e3, e4, e5]
theorem shuf_ok {P : List Int} (h : PoolOk P) {xs : List D} (hx : xs.length < 1000) : ∃ P' ys, F__law_shuffled [.lst (pD P), .val (.lst xs)] = some (.val (.lst ys), [.lst (pD P'), .val (.lst xs)]) ∧ PoolOk P' ∧ ys.Perm xs := by
  have e1 : rngOk (xs.length : Int) = true := rngOk_in (by omega) (by omega)
  have e0 : rngOk 0 = true := rngOk_in (by omega) (by omega)
  obtain ⟨ys, P', s', e2, pm, hP'⟩ := shuf_loop (.lst xs) (rngD 0 xs.length) xs P .un (fun d hd => by
    obtain ⟨k, _, rfl⟩ := List.mem_map.mp hd
    exact ⟨_, rfl⟩) (by simp [rngD]) hx h
  have e3 : szOk ys.length = true := szOk_of (by rw [pm.length_eq]; omega)
  unfold F__law_shuffled fnOf b__law_shuffled
  simp only [c_sSeq, c_sIf, c_sDrop, c_sRet, c_sRetN, c_sRet0, c_sRetV, c_sFrz, c_sSet, c_sSetL, c_sSetN, c_sPar, c_sAsg, c_sFor, c_sPut, c_sPutL, c_sPutD, c_sSdApp, c_sNx, c_sBk, c_sCt, c_eFr, c_vE, c_eC, c_eVar, c_vVar, c_aNil, c_aCons, c_eTup, c_nLst, c_eOp, c_eUn, c_nUn, c_nCat, c_nDic, c_tOf, c_tTru, c_tNot, c_tAnd, c_tOr, c_eIf, c_nIf, c_eAnd, c_eOr, c_eNot, c_tYes, c_eApp, c_ePop, c_ePopAt, c_eGet, c_eSl, c_oNo, c_oAt, c_eCall, c_nCall, c_eCallK, c_runCall, c_runCallK, c_gNil, c_gCons, c_gOwn, c_gNwc, c_iAny, c_iRange1, c_iRange2, c_eTupGx, g_d, g_sl, runGs, valR, ownR, slotD, Sl.toD, Tg.bind, Tg.binds, plainAt_b, Option.any_some, plB_un, plB_val, frzE, lstOf, dicOf, setsG, isOwn, Rl.ownsOf, nodupB, nwsOf, argSl, back_e1, back_e2, back_e3, back_e4, back_e5, backArgs, pick, itsD_lst, itsD_tup, itsD_str, itsD_dic, getD2_dic, isDicD_dic, truD, catD, eqD, eqB, neD, ltD, leD, gtD, geD, addD, subD, mulD, modD, fdivD, pow_1018, negD, isNonD, notNonD, nonB, isiD, ixD_lst, ixD_tup, ixD_scr, ixD_str, ixD_dic, lenD_lst, lenD_tup, lenD_scr, lenD_str, lenD_dic, Rl.intD, Rl.absD, tupD, listL, slD, smallI_7, smallI_48271, smallI_69621, smallI_16, smallI_17, smallI_31, lt30_65536, lt30_2, lt30_16, lt30_10, atI_0, atI_1, atI_2, ixN_0, ixN_1, ixN_2, Option.bind_some, Option.bind_none, Option.map_some, Option.map_none, List.getElem?_cons_zero, List.getElem?_cons_succ, List.set_cons_zero, List.set_cons_succ, List.replicate_succ, List.replicate_zero, List.cons_append, List.nil_append, List.append_nil, List.length_cons, List.length_nil, List.take_succ_cons, List.take_zero, List.contains_nil, Bool.not_false, Bool.not_true, Bool.and_self, Bool.true_and, Bool.and_true, Bool.false_and, Bool.and_false, Bool.true_or, Bool.or_true, Bool.false_or, Bool.or_false, Bool.false_eq_true, if_true, if_false, reduceIte, Nat.reduceAdd, Nat.reduceSub, Nat.reduceEqDiff, Nat.reduceLeDiff, Int.reduceNeg, Int.reduceLT, Int.reduceLE, Int.reducePow, Nat.reducePow, Int.reduceToNat, Nat.reduceLT, decide_true, decide_false, List.all_cons, List.all_nil, beq_self_eq_true, Option.isSome_some, List.filterMap_cons_some, List.filterMap_nil, c_nLc, e0, e1, e2, e3, backE]
  exact ⟨P', ys, rfl, hP', pm⟩
end P82
end

set_option linter.all false
set_option maxRecDepth 100000
set_option autoImplicit false
set_option maxHeartbeats 1000000
noncomputable section
namespace P82
open PySem L2 Rl
/-! ### answers -/
def eg (l : Bool) : List Nat := if l then [108, 101, 102, 116] else [114, 105, 103, 104, 116]
def ansW (w : List Nat) (l : Bool) (p : Nat) : List Nat :=
  if h : p < w.length then (if l then [w[p]] else [w[w.length - 1 - p]]) else []
theorem ans_ok (w : List Nat) (hw : w.length ≤ 100) (l : Bool) (p : Nat) :
    F__law_answer [.val (.str w), .val (.str (eg l)), .val (.int p)] = some (.val (.str (ansW w l p)), [.val (.str w), .val (.str (eg l)), .val (.int p)]) := by
  unfold F__law_answer fnOf b__law_answer ansW
  have z : szOk w.length = true := szOk_of (by omega)
  have q1 : (([114, 105, 103, 104, 116] : List Nat) == [108, 101, 102, 116]) = false := by decide
  by_cases h : p < w.length
  · have m1 : decide ((w.length : Int) ≤ (p : Int)) = false := decide_eq_false (by omega)
    have e1 : atI w (p : Int) = some w[p] := atI_in h
    have e2 : atI w ((w.length : Int) - 1 - (p : Int)) = some w[w.length - 1 - p] := by
      have : ((w.length : Int) - 1 - (p : Int)) = ((w.length - 1 - p : Nat) : Int) := by omega
      rw [this]; exact atI_in (by omega)
    cases l
    · simp only [c_sSeq, c_sIf, c_sDrop, c_sRet, c_sRetN, c_sRet0, c_sRetV, c_sFrz, c_sSet, c_sSetL, c_sSetN, c_sPar, c_sAsg, c_sFor, c_sPut, c_sPutL, c_sPutD, c_sSdApp, c_sNx, c_sBk, c_sCt, c_eFr, c_vE, c_eC, c_eVar, c_vVar, c_aNil, c_aCons, c_eTup, c_nLst, c_eOp, c_eUn, c_nUn, c_nCat, c_nDic, c_tOf, c_tTru, c_tNot, c_tAnd, c_tOr, c_eIf, c_nIf, c_eAnd, c_eOr, c_eNot, c_tYes, c_eApp, c_ePop, c_ePopAt, c_eGet, c_eSl, c_oNo, c_oAt, c_eCall, c_nCall, c_eCallK, c_runCall, c_runCallK, c_gNil, c_gCons, c_gOwn, c_gNwc, c_iAny, c_iRange1, c_iRange2, c_eTupGx, g_d, g_sl, runGs, valR, ownR, slotD, Sl.toD, Tg.bind, Tg.binds, plainAt_b, Option.any_some, plB_un, plB_val, frzE, lstOf, dicOf, setsG, isOwn, Rl.ownsOf, nodupB, nwsOf, argSl, back_e1, back_e2, back_e3, back_e4, back_e5, backArgs, pick, itsD_lst, itsD_tup, itsD_str, itsD_dic, getD2_dic, isDicD_dic, truD, catD, eqD, eqB, neD, ltD, leD, gtD, geD, addD, subD, mulD, modD, fdivD, pow_1018, negD, isNonD, notNonD, nonB, isiD, ixD_lst, ixD_tup, ixD_scr, ixD_str, ixD_dic, lenD_lst, lenD_tup, lenD_scr, lenD_str, lenD_dic, Rl.intD, Rl.absD, tupD, listL, slD, smallI_7, smallI_48271, smallI_69621, smallI_16, smallI_17, smallI_31, lt30_65536, lt30_2, lt30_16, lt30_10, atI_0, atI_1, atI_2, ixN_0, ixN_1, ixN_2, Option.bind_some, Option.bind_none, Option.map_some, Option.map_none, List.getElem?_cons_zero, List.getElem?_cons_succ, List.set_cons_zero, List.set_cons_succ, List.replicate_succ, List.replicate_zero, List.cons_append, List.nil_append, List.append_nil, List.length_cons, List.length_nil, List.take_succ_cons, List.take_zero, List.contains_nil, Bool.not_false, Bool.not_true, Bool.and_self, Bool.true_and, Bool.and_true, Bool.false_and, Bool.and_false, Bool.true_or, Bool.or_true, Bool.false_or, Bool.or_false, Bool.false_eq_true, if_true, if_false, reduceIte, Nat.reduceAdd, Nat.reduceSub, Nat.reduceEqDiff, Nat.reduceLeDiff, Int.reduceNeg, Int.reduceLT, Int.reduceLE, Int.reducePow, Nat.reducePow, Int.reduceToNat, Nat.reduceLT, decide_true, decide_false, List.all_cons, List.all_nil, beq_self_eq_true, Option.isSome_some, List.filterMap_cons_some, List.filterMap_nil, eg, z, h, m1, e1, e2, q1, dif_pos]
    · simp only [c_sSeq, c_sIf, c_sDrop, c_sRet, c_sRetN, c_sRet0, c_sRetV, c_sFrz, c_sSet, c_sSetL, c_sSetN, c_sPar, c_sAsg, c_sFor, c_sPut, c_sPutL, c_sPutD, c_sSdApp, c_sNx, c_sBk, c_sCt, c_eFr, c_vE, c_eC, c_eVar, c_vVar, c_aNil, c_aCons, c_eTup, c_nLst, c_eOp, c_eUn, c_nUn, c_nCat, c_nDic, c_tOf, c_tTru, c_tNot, c_tAnd, c_tOr, c_eIf, c_nIf, c_eAnd, c_eOr, c_eNot, c_tYes, c_eApp, c_ePop, c_ePopAt, c_eGet, c_eSl, c_oNo, c_oAt, c_eCall, c_nCall, c_eCallK, c_runCall, c_runCallK, c_gNil, c_gCons, c_gOwn, c_gNwc, c_iAny, c_iRange1, c_iRange2, c_eTupGx, g_d, g_sl, runGs, valR, ownR, slotD, Sl.toD, Tg.bind, Tg.binds, plainAt_b, Option.any_some, plB_un, plB_val, frzE, lstOf, dicOf, setsG, isOwn, Rl.ownsOf, nodupB, nwsOf, argSl, back_e1, back_e2, back_e3, back_e4, back_e5, backArgs, pick, itsD_lst, itsD_tup, itsD_str, itsD_dic, getD2_dic, isDicD_dic, truD, catD, eqD, eqB, neD, ltD, leD, gtD, geD, addD, subD, mulD, modD, fdivD, pow_1018, negD, isNonD, notNonD, nonB, isiD, ixD_lst, ixD_tup, ixD_scr, ixD_str, ixD_dic, lenD_lst, lenD_tup, lenD_scr, lenD_str, lenD_dic, Rl.intD, Rl.absD, tupD, listL, slD, smallI_7, smallI_48271, smallI_69621, smallI_16, smallI_17, smallI_31, lt30_65536, lt30_2, lt30_16, lt30_10, atI_0, atI_1, atI_2, ixN_0, ixN_1, ixN_2, Option.bind_some, Option.bind_none, Option.map_some, Option.map_none, List.getElem?_cons_zero, List.getElem?_cons_succ, List.set_cons_zero, List.set_cons_succ, List.replicate_succ, List.replicate_zero, List.cons_append, List.nil_append, List.append_nil, List.length_cons, List.length_nil, List.take_succ_cons, List.take_zero, List.contains_nil, Bool.not_false, Bool.not_true, Bool.and_self, Bool.true_and, Bool.and_true, Bool.false_and, Bool.and_false, Bool.true_or, Bool.or_true, Bool.false_or, Bool.or_false, Bool.false_eq_true, if_true, if_false, reduceIte, Nat.reduceAdd, Nat.reduceSub, Nat.reduceEqDiff, Nat.reduceLeDiff, Int.reduceNeg, Int.reduceLT, Int.reduceLE, Int.reducePow, Nat.reducePow, Int.reduceToNat, Nat.reduceLT, decide_true, decide_false, List.all_cons, List.all_nil, beq_self_eq_true, Option.isSome_some, List.filterMap_cons_some, List.filterMap_nil, eg, z, h, m1, e1, e2, q1, dif_pos]
  · have m1 : decide ((w.length : Int) ≤ (p : Int)) = true := decide_eq_true (by omega)
    simp only [c_sSeq, c_sIf, c_sDrop, c_sRet, c_sRetN, c_sRet0, c_sRetV, c_sFrz, c_sSet, c_sSetL, c_sSetN, c_sPar, c_sAsg, c_sFor, c_sPut, c_sPutL, c_sPutD, c_sSdApp, c_sNx, c_sBk, c_sCt, c_eFr, c_vE, c_eC, c_eVar, c_vVar, c_aNil, c_aCons, c_eTup, c_nLst, c_eOp, c_eUn, c_nUn, c_nCat, c_nDic, c_tOf, c_tTru, c_tNot, c_tAnd, c_tOr, c_eIf, c_nIf, c_eAnd, c_eOr, c_eNot, c_tYes, c_eApp, c_ePop, c_ePopAt, c_eGet, c_eSl, c_oNo, c_oAt, c_eCall, c_nCall, c_eCallK, c_runCall, c_runCallK, c_gNil, c_gCons, c_gOwn, c_gNwc, c_iAny, c_iRange1, c_iRange2, c_eTupGx, g_d, g_sl, runGs, valR, ownR, slotD, Sl.toD, Tg.bind, Tg.binds, plainAt_b, Option.any_some, plB_un, plB_val, frzE, lstOf, dicOf, setsG, isOwn, Rl.ownsOf, nodupB, nwsOf, argSl, back_e1, back_e2, back_e3, back_e4, back_e5, backArgs, pick, itsD_lst, itsD_tup, itsD_str, itsD_dic, getD2_dic, isDicD_dic, truD, catD, eqD, eqB, neD, ltD, leD, gtD, geD, addD, subD, mulD, modD, fdivD, pow_1018, negD, isNonD, notNonD, nonB, isiD, ixD_lst, ixD_tup, ixD_scr, ixD_str, ixD_dic, lenD_lst, lenD_tup, lenD_scr, lenD_str, lenD_dic, Rl.intD, Rl.absD, tupD, listL, slD, smallI_7, smallI_48271, smallI_69621, smallI_16, smallI_17, smallI_31, lt30_65536, lt30_2, lt30_16, lt30_10, atI_0, atI_1, atI_2, ixN_0, ixN_1, ixN_2, Option.bind_some, Option.bind_none, Option.map_some, Option.map_none, List.getElem?_cons_zero, List.getElem?_cons_succ, List.set_cons_zero, List.set_cons_succ, List.replicate_succ, List.replicate_zero, List.cons_append, List.nil_append, List.append_nil, List.length_cons, List.length_nil, List.take_succ_cons, List.take_zero, List.contains_nil, Bool.not_false, Bool.not_true, Bool.and_self, Bool.true_and, Bool.and_true, Bool.false_and, Bool.and_false, Bool.true_or, Bool.or_true, Bool.false_or, Bool.or_false, Bool.false_eq_true, if_true, if_false, reduceIte, Nat.reduceAdd, Nat.reduceSub, Nat.reduceEqDiff, Nat.reduceLeDiff, Int.reduceNeg, Int.reduceLT, Int.reduceLE, Int.reducePow, Nat.reducePow, Int.reduceToNat, Nat.reduceLT, decide_true, decide_false, List.all_cons, List.all_nil, beq_self_eq_true, Option.isSome_some, List.filterMap_cons_some, List.filterMap_nil, z, h, m1, dif_neg, not_false_eq_true]
theorem ans_ok2 (w : List Nat) (hw : w.length ≤ 100) (l : Bool) (p : Nat) :
    F_answer_of [.val (.str w), .val (.str (eg l)), .val (.int p)] = some (.val (.str (ansW w l p)), [.val (.str w), .val (.str (eg l)), .val (.int p)]) := by
  unfold F_answer_of fnOf b_answer_of ansW
  have z : szOk w.length = true := szOk_of (by omega)
  have q1 : (([114, 105, 103, 104, 116] : List Nat) == [108, 101, 102, 116]) = false := by decide
  by_cases h : p < w.length
  · have m1 : decide ((w.length : Int) ≤ (p : Int)) = false := decide_eq_false (by omega)
    have e1 : atI w (p : Int) = some w[p] := atI_in h
    have e2 : atI w ((w.length : Int) - 1 - (p : Int)) = some w[w.length - 1 - p] := by
      have : ((w.length : Int) - 1 - (p : Int)) = ((w.length - 1 - p : Nat) : Int) := by omega
      rw [this]; exact atI_in (by omega)
    cases l
    · simp only [c_sSeq, c_sIf, c_sDrop, c_sRet, c_sRetN, c_sRet0, c_sRetV, c_sFrz, c_sSet, c_sSetL, c_sSetN, c_sPar, c_sAsg, c_sFor, c_sPut, c_sPutL, c_sPutD, c_sSdApp, c_sNx, c_sBk, c_sCt, c_eFr, c_vE, c_eC, c_eVar, c_vVar, c_aNil, c_aCons, c_eTup, c_nLst, c_eOp, c_eUn, c_nUn, c_nCat, c_nDic, c_tOf, c_tTru, c_tNot, c_tAnd, c_tOr, c_eIf, c_nIf, c_eAnd, c_eOr, c_eNot, c_tYes, c_eApp, c_ePop, c_ePopAt, c_eGet, c_eSl, c_oNo, c_oAt, c_eCall, c_nCall, c_eCallK, c_runCall, c_runCallK, c_gNil, c_gCons, c_gOwn, c_gNwc, c_iAny, c_iRange1, c_iRange2, c_eTupGx, g_d, g_sl, runGs, valR, ownR, slotD, Sl.toD, Tg.bind, Tg.binds, plainAt_b, Option.any_some, plB_un, plB_val, frzE, lstOf, dicOf, setsG, isOwn, Rl.ownsOf, nodupB, nwsOf, argSl, back_e1, back_e2, back_e3, back_e4, back_e5, backArgs, pick, itsD_lst, itsD_tup, itsD_str, itsD_dic, getD2_dic, isDicD_dic, truD, catD, eqD, eqB, neD, ltD, leD, gtD, geD, addD, subD, mulD, modD, fdivD, pow_1018, negD, isNonD, notNonD, nonB, isiD, ixD_lst, ixD_tup, ixD_scr, ixD_str, ixD_dic, lenD_lst, lenD_tup, lenD_scr, lenD_str, lenD_dic, Rl.intD, Rl.absD, tupD, listL, slD, smallI_7, smallI_48271, smallI_69621, smallI_16, smallI_17, smallI_31, lt30_65536, lt30_2, lt30_16, lt30_10, atI_0, atI_1, atI_2, ixN_0, ixN_1, ixN_2, Option.bind_some, Option.bind_none, Option.map_some, Option.map_none, List.getElem?_cons_zero, List.getElem?_cons_succ, List.set_cons_zero, List.set_cons_succ, List.replicate_succ, List.replicate_zero, List.cons_append, List.nil_append, List.append_nil, List.length_cons, List.length_nil, List.take_succ_cons, List.take_zero, List.contains_nil, Bool.not_false, Bool.not_true, Bool.and_self, Bool.true_and, Bool.and_true, Bool.false_and, Bool.and_false, Bool.true_or, Bool.or_true, Bool.false_or, Bool.or_false, Bool.false_eq_true, if_true, if_false, reduceIte, Nat.reduceAdd, Nat.reduceSub, Nat.reduceEqDiff, Nat.reduceLeDiff, Int.reduceNeg, Int.reduceLT, Int.reduceLE, Int.reducePow, Nat.reducePow, Int.reduceToNat, Nat.reduceLT, decide_true, decide_false, List.all_cons, List.all_nil, beq_self_eq_true, Option.isSome_some, List.filterMap_cons_some, List.filterMap_nil, eg, z, h, m1, e1, e2, q1, dif_pos]
    · simp only [c_sSeq, c_sIf, c_sDrop, c_sRet, c_sRetN, c_sRet0, c_sRetV, c_sFrz, c_sSet, c_sSetL, c_sSetN, c_sPar, c_sAsg, c_sFor, c_sPut, c_sPutL, c_sPutD, c_sSdApp, c_sNx, c_sBk, c_sCt, c_eFr, c_vE, c_eC, c_eVar, c_vVar, c_aNil, c_aCons, c_eTup, c_nLst, c_eOp, c_eUn, c_nUn, c_nCat, c_nDic, c_tOf, c_tTru, c_tNot, c_tAnd, c_tOr, c_eIf, c_nIf, c_eAnd, c_eOr, c_eNot, c_tYes, c_eApp, c_ePop, c_ePopAt, c_eGet, c_eSl, c_oNo, c_oAt, c_eCall, c_nCall, c_eCallK, c_runCall, c_runCallK, c_gNil, c_gCons, c_gOwn, c_gNwc, c_iAny, c_iRange1, c_iRange2, c_eTupGx, g_d, g_sl, runGs, valR, ownR, slotD, Sl.toD, Tg.bind, Tg.binds, plainAt_b, Option.any_some, plB_un, plB_val, frzE, lstOf, dicOf, setsG, isOwn, Rl.ownsOf, nodupB, nwsOf, argSl, back_e1, back_e2, back_e3, back_e4, back_e5, backArgs, pick, itsD_lst, itsD_tup, itsD_str, itsD_dic, getD2_dic, isDicD_dic, truD, catD, eqD, eqB, neD, ltD, leD, gtD, geD, addD, subD, mulD, modD, fdivD, pow_1018, negD, isNonD, notNonD, nonB, isiD, ixD_lst, ixD_tup, ixD_scr, ixD_str, ixD_dic, lenD_lst, lenD_tup, lenD_scr, lenD_str, lenD_dic, Rl.intD, Rl.absD, tupD, listL, slD, smallI_7, smallI_48271, smallI_69621, smallI_16, smallI_17, smallI_31, lt30_65536, lt30_2, lt30_16, lt30_10, atI_0, atI_1, atI_2, ixN_0, ixN_1, ixN_2, Option.bind_some, Option.bind_none, Option.map_some, Option.map_none, List.getElem?_cons_zero, List.getElem?_cons_succ, List.set_cons_zero, List.set_cons_succ, List.replicate_succ, List.replicate_zero, List.cons_append, List.nil_append, List.append_nil, List.length_cons, List.length_nil, List.take_succ_cons, List.take_zero, List.contains_nil, Bool.not_false, Bool.not_true, Bool.and_self, Bool.true_and, Bool.and_true, Bool.false_and, Bool.and_false, Bool.true_or, Bool.or_true, Bool.false_or, Bool.or_false, Bool.false_eq_true, if_true, if_false, reduceIte, Nat.reduceAdd, Nat.reduceSub, Nat.reduceEqDiff, Nat.reduceLeDiff, Int.reduceNeg, Int.reduceLT, Int.reduceLE, Int.reducePow, Nat.reducePow, Int.reduceToNat, Nat.reduceLT, decide_true, decide_false, List.all_cons, List.all_nil, beq_self_eq_true, Option.isSome_some, List.filterMap_cons_some, List.filterMap_nil, eg, z, h, m1, e1, e2, q1, dif_pos]
  · have m1 : decide ((w.length : Int) ≤ (p : Int)) = true := decide_eq_true (by omega)
    simp only [c_sSeq, c_sIf, c_sDrop, c_sRet, c_sRetN, c_sRet0, c_sRetV, c_sFrz, c_sSet, c_sSetL, c_sSetN, c_sPar, c_sAsg, c_sFor, c_sPut, c_sPutL, c_sPutD, c_sSdApp, c_sNx, c_sBk, c_sCt, c_eFr, c_vE, c_eC, c_eVar, c_vVar, c_aNil, c_aCons, c_eTup, c_nLst, c_eOp, c_eUn, c_nUn, c_nCat, c_nDic, c_tOf, c_tTru, c_tNot, c_tAnd, c_tOr, c_eIf, c_nIf, c_eAnd, c_eOr, c_eNot, c_tYes, c_eApp, c_ePop, c_ePopAt, c_eGet, c_eSl, c_oNo, c_oAt, c_eCall, c_nCall, c_eCallK, c_runCall, c_runCallK, c_gNil, c_gCons, c_gOwn, c_gNwc, c_iAny, c_iRange1, c_iRange2, c_eTupGx, g_d, g_sl, runGs, valR, ownR, slotD, Sl.toD, Tg.bind, Tg.binds, plainAt_b, Option.any_some, plB_un, plB_val, frzE, lstOf, dicOf, setsG, isOwn, Rl.ownsOf, nodupB, nwsOf, argSl, back_e1, back_e2, back_e3, back_e4, back_e5, backArgs, pick, itsD_lst, itsD_tup, itsD_str, itsD_dic, getD2_dic, isDicD_dic, truD, catD, eqD, eqB, neD, ltD, leD, gtD, geD, addD, subD, mulD, modD, fdivD, pow_1018, negD, isNonD, notNonD, nonB, isiD, ixD_lst, ixD_tup, ixD_scr, ixD_str, ixD_dic, lenD_lst, lenD_tup, lenD_scr, lenD_str, lenD_dic, Rl.intD, Rl.absD, tupD, listL, slD, smallI_7, smallI_48271, smallI_69621, smallI_16, smallI_17, smallI_31, lt30_65536, lt30_2, lt30_16, lt30_10, atI_0, atI_1, atI_2, ixN_0, ixN_1, ixN_2, Option.bind_some, Option.bind_none, Option.map_some, Option.map_none, List.getElem?_cons_zero, List.getElem?_cons_succ, List.set_cons_zero, List.set_cons_succ, List.replicate_succ, List.replicate_zero, List.cons_append, List.nil_append, List.append_nil, List.length_cons, List.length_nil, List.take_succ_cons, List.take_zero, List.contains_nil, Bool.not_false, Bool.not_true, Bool.and_self, Bool.true_and, Bool.and_true, Bool.false_and, Bool.and_false, Bool.true_or, Bool.or_true, Bool.false_or, Bool.or_false, Bool.false_eq_true, if_true, if_false, reduceIte, Nat.reduceAdd, Nat.reduceSub, Nat.reduceEqDiff, Nat.reduceLeDiff, Int.reduceNeg, Int.reduceLT, Int.reduceLE, Int.reducePow, Nat.reducePow, Int.reduceToNat, Nat.reduceLT, decide_true, decide_false, List.all_cons, List.all_nil, beq_self_eq_true, Option.isSome_some, List.filterMap_cons_some, List.filterMap_nil, z, h, m1, dif_neg, not_false_eq_true]
end P82
end

set_option linter.all false
set_option maxRecDepth 100000
set_option autoImplicit false
set_option maxHeartbeats 1000000
noncomputable section
namespace P82
open PySem L2 Rl
/-! ### dicts with texts as keys -/
abbrev Wd := List Nat
theorem kEq_str (a b : Wd) : kEq (.str a) (.str b) = (a == b) := rfl
theorem has_str (ks : List Wd) (k : Wd) : hasD (ks.map .str) (.str k) = decide (k ∈ ks) := by
  induction ks with
  | nil => simp [hasD]
  | cons a r ih =>
    simp only [List.map_cons, hasD, kEq_str, ih]
    by_cases h : a = k
    · subst h; simp
    · have h2 : ¬ k = a := fun e => h e.symm
      simp [h, h2]
theorem look_str (g : Wd → D) (ks : List Wd) (k : Wd) : lookD (ks.map .str) (ks.map g) (.str k) = if k ∈ ks then some (g k) else none := by
  induction ks with
  | nil => simp [lookD]
  | cons a r ih =>
    simp only [List.map_cons, lookD, kEq_str, ih]
    by_cases h : a = k
    · subst h; simp
    · have h2 : ¬ k = a := fun e => h e.symm
      simp [h, h2]
theorem set_str (g : Wd → D) (ks : List Wd) (k : Wd) (v : D) : setD (ks.map .str) (ks.map g) (.str k) v = ks.map fun j => if j = k then v else g j := by
  induction ks with
  | nil => simp [setD]
  | cons a r ih =>
    simp only [List.map_cons, setD, kEq_str, ih]
    by_cases h : a = k <;> simp [h]
/-! ### parts -/
def addK (ks : List Wd) (k : Wd) : List Wd := if k ∈ ks then ks else ks ++ [k]
/-- the answers, each where it is first met -/
def ksF (f : Wd → Wd) : List Wd → List Wd → List Wd
  | ks, [] => ks
  | ks, w :: ws => ksF f (addK ks (f w)) ws
def ksOf (f : Wd → Wd) (ws : List Wd) : List Wd := ksF f [] ws
def grp (f : Wd → Wd) (ws : List Wd) (k : Wd) : List Wd := ws.filter fun w => f w == k
def wD (ws : List Wd) : D := .tup (ws.map .str)
def dicOfW (f : Wd → Wd) (ks done : List Wd) : D := .dic false (ks.map .str) (ks.map fun k => wD (grp f done k))
theorem mem_addK {ks : List Wd} {k j : Wd} : j ∈ addK ks k ↔ j ∈ ks ∨ j = k := by
  unfold addK
  split
  · rename_i h
    constructor
    · exact .inl
    · rintro (h1 | rfl)
      · exact h1
      · exact h
  · simp
theorem mem_ksF (f : Wd → Wd) {j : Wd} : ∀ (ws ks : List Wd), j ∈ ksF f ks ws ↔ j ∈ ks ∨ ∃ w ∈ ws, f w = j
  | [], ks => by simp [ksF]
  | w :: ws, ks => by
    rw [ksF, mem_ksF f ws, mem_addK]
    constructor
    · rintro ((h | rfl) | ⟨x, hx, rfl⟩)
      · exact .inl h
      · exact .inr ⟨w, List.mem_cons_self, rfl⟩
      · exact .inr ⟨x, List.mem_cons_of_mem _ hx, rfl⟩
    · rintro (h | ⟨x, hx, rfl⟩)
      · exact .inl (.inl h)
      · rcases List.mem_cons.mp hx with rfl | hx
        · exact .inl (.inr rfl)
        · exact .inr ⟨x, hx, rfl⟩
theorem nodup_addK {ks : List Wd} (h : ks.Nodup) (k : Wd) : (addK ks k).Nodup := by
  unfold addK
  split
  · exact h
  · rename_i hk
    rw [List.nodup_append]
    exact ⟨h, by simp, by rintro a ha b hb rfl; simp at hb; exact hk (hb ▸ ha)⟩
theorem nodup_ksF (f : Wd → Wd) : ∀ (ws ks : List Wd), ks.Nodup → (ksF f ks ws).Nodup
  | [], ks, h => h
  | w :: ws, ks, h => nodup_ksF f ws _ (nodup_addK h _)
theorem grp_snoc (f : Wd → Wd) (done : List Wd) (w k : Wd) : grp f (done ++ [w]) k = if f w = k then grp f done k ++ [w] else grp f done k := by
  unfold grp
  rw [List.filter_append]
  by_cases h : f w = k <;> simp [h]
theorem grp_nil_of (f : Wd → Wd) {done ks : List Wd} (hk : ∀ k, k ∈ ks ↔ ∃ w ∈ done, f w = k) {k : Wd} (h : k ∉ ks) : grp f done k = [] := by
  unfold grp
  rw [List.filter_eq_nil_iff]
  intro w hw e
  exact h ((hk k).mpr ⟨w, hw, by simpa using e⟩)
end P82
end

set_option linter.all false
set_option maxRecDepth 100000
set_option autoImplicit false
set_option maxHeartbeats 1000000
noncomputable section
namespace P82
open PySem L2 Rl
theorem putKs_w (ks : List Wd) (k : Wd) : putKs (ks.map .str) (.str k) = (addK ks k).map .str := by
  unfold putKs addK
  rw [has_str]
  by_cases h : k ∈ ks <;> simp [h]
theorem putVs_w (f : Wd → Wd) (done ks : List Wd) (w : Wd) (hk : ∀ k, k ∈ ks ↔ ∃ w ∈ done, f w = k) :
    putVs (ks.map .str) (ks.map fun k => wD (grp f done k)) (.str (f w)) (wD (grp f done (f w) ++ [w])) = (addK ks (f w)).map fun k => wD (grp f (done ++ [w]) k) := by
  unfold putVs addK
  rw [has_str]
  by_cases h : f w ∈ ks
  · simp only [h, decide_true, if_true]
    rw [set_str]
    refine List.map_congr_left fun j hj => ?_
    rw [grp_snoc]
    by_cases e : j = f w
    · subst e; simp
    · have e2 : ¬ f w = j := fun x => e x.symm
      simp [e, e2]
  · simp only [h, decide_false, if_false, Bool.false_eq_true, List.map_append, List.map_cons, List.map_nil]
    congr 1
    · refine List.map_congr_left fun j hj => ?_
      rw [grp_snoc]
      have e2 : ¬ f w = j := fun x => h (x ▸ hj)
      simp [e2]
    · rw [grp_snoc]; simp
theorem look_w (f : Wd → Wd) (done ks : List Wd) (k : Wd) (hk : ∀ k, k ∈ ks ↔ ∃ w ∈ done, f w = k) :
    (lookD (ks.map .str) (ks.map fun k => wD (grp f done k)) (.str k)).getD (.tup []) = .tup ((grp f done k).map .str) := by
  rw [look_str]
  by_cases h : k ∈ ks
  · simp [h, wD]
  · simp [h, grp_nil_of f hk h]
theorem parts_loop (T : D) (l : Bool) (p : Nat) : ∀ (rest done ks : List Wd) (s4 s5 : Sl), plB s4 = true → (∀ w ∈ rest, w.length ≤ 100) → (∀ k, k ∈ ks ↔ ∃ w ∈ done, ansW w l p = k) → ks.length ≤ done.length → done.length + rest.length ≤ 100 →
    ∃ s4' s5', forL (.nm 4) l1__law_parts (rest.map .str) [.val T, .val (.str (eg l)), .val (.int p), .dic false (ks.map .str) (ks.map fun k => wD (grp (ansW · l p) done k)), s4, s5] =
      some (.nx, [.val T, .val (.str (eg l)), .val (.int p), .dic false ((ksF (ansW · l p) ks rest).map .str) ((ksF (ansW · l p) ks rest).map fun k => wD (grp (ansW · l p) (done ++ rest) k)), s4', s5'])
  | [], done, ks, s4, s5, _, _, _, _, _ => by
    rw [List.append_nil]
    exact ⟨s4, s5, rfl⟩
  | w :: rest, done, ks, s4, s5, hs, hw, hk, hl, hn => by
    have w1 : w.length ≤ 100 := hw w List.mem_cons_self
    rw [List.length_cons] at hn
    have e1 := ans_ok w w1 l p
    have e2 := look_w (ansW · l p) done ks (ansW w l p) hk
    have e3 := putKs_w ks (ansW w l p)
    have e4 := putVs_w (ansW · l p) done ks w hk
    have gl : (grp (ansW · l p) done (ansW w l p)).length ≤ done.length := List.length_filter_le _ _
    have z0 : szOk 0 = true := szOk_of (by omega)
    have z1 : szOk 1 = true := szOk_of (by omega)
    have z2 : szOk ((grp (ansW · l p) done (ansW w l p)).length + 1) = true := szOk_of (by omega)
    have z3 : szLt ks.length = true := szLt_of (by omega)
    have k1 : ∀ a, isKey false (.str a) = true := fun _ => rfl
    have e5 : D.tup ((grp (ansW · l p) done (ansW w l p)).map .str ++ [.str w]) = wD (grp (ansW · l p) done (ansW w l p) ++ [w]) := by simp [wD]
    obtain ⟨s4', s5', e⟩ := parts_loop T l p rest (done ++ [w]) (addK ks (ansW w l p)) (.val (.str w)) (.val (.str (ansW w l p))) rfl
      (fun x hx => hw x (List.mem_cons_of_mem _ hx))
      (fun k => by rw [mem_addK, hk]; simp [List.mem_append, or_and_right, exists_or, eq_comm])
      (by unfold addK; split <;> simp <;> omega) (by simp; omega)
    refine ⟨s4', s5', ?_⟩
    rw [List.map_cons, forL]
    rw [List.append_assoc, List.singleton_append] at e
    simp only [c_sSeq, c_sIf, c_sDrop, c_sRet, c_sRetN, c_sRet0, c_sRetV, c_sFrz, c_sSet, c_sSetL, c_sSetN, c_sPar, c_sAsg, c_sFor, c_sPut, c_sPutL, c_sPutD, c_sSdApp, c_sNx, c_sBk, c_sCt, c_eFr, c_vE, c_eC, c_eVar, c_vVar, c_aNil, c_aCons, c_eTup, c_nLst, c_eOp, c_eUn, c_nUn, c_nCat, c_nDic, c_tOf, c_tTru, c_tNot, c_tAnd, c_tOr, c_eIf, c_nIf, c_eAnd, c_eOr, c_eNot, c_tYes, c_eApp, c_ePop, c_ePopAt, c_eGet, c_eSl, c_oNo, c_oAt, c_eCall, c_nCall, c_eCallK, c_runCall, c_runCallK, c_gNil, c_gCons, c_gOwn, c_gNwc, c_iAny, c_iRange1, c_iRange2, c_eTupGx, g_d, g_sl, runGs, valR, ownR, slotD, Sl.toD, Tg.bind, Tg.binds, plainAt_b, Option.any_some, plB_un, plB_val, frzE, lstOf, dicOf, setsG, isOwn, Rl.ownsOf, nodupB, nwsOf, argSl, back_e1, back_e2, back_e3, back_e4, back_e5, backArgs, pick, itsD_lst, itsD_tup, itsD_str, itsD_dic, getD2_dic, isDicD_dic, truD, catD, eqD, eqB, neD, ltD, leD, gtD, geD, addD, subD, mulD, modD, fdivD, pow_1018, negD, isNonD, notNonD, nonB, isiD, ixD_lst, ixD_tup, ixD_scr, ixD_str, ixD_dic, lenD_lst, lenD_tup, lenD_scr, lenD_str, lenD_dic, Rl.intD, Rl.absD, tupD, listL, slD, smallI_7, smallI_48271, smallI_69621, smallI_16, smallI_17, smallI_31, lt30_65536, lt30_2, lt30_16, lt30_10, atI_0, atI_1, atI_2, ixN_0, ixN_1, ixN_2, Option.bind_some, Option.bind_none, Option.map_some, Option.map_none, List.getElem?_cons_zero, List.getElem?_cons_succ, List.set_cons_zero, List.set_cons_succ, List.replicate_succ, List.replicate_zero, List.cons_append, List.nil_append, List.append_nil, List.length_cons, List.length_nil, List.take_succ_cons, List.take_zero, List.contains_nil, Bool.not_false, Bool.not_true, Bool.and_self, Bool.true_and, Bool.and_true, Bool.false_and, Bool.and_false, Bool.true_or, Bool.or_true, Bool.false_or, Bool.or_false, Bool.false_eq_true, if_true, if_false, reduceIte, Nat.reduceAdd, Nat.reduceSub, Nat.reduceEqDiff, Nat.reduceLeDiff, Int.reduceNeg, Int.reduceLT, Int.reduceLE, Int.reducePow, Nat.reducePow, Int.reduceToNat, Nat.reduceLT, decide_true, decide_false, List.all_cons, List.all_nil, beq_self_eq_true, Option.isSome_some, List.filterMap_cons_some, List.filterMap_nil, hs, u_l1__law_parts, e1, z0, z1, z2, z3, k1, e2, List.length_map, e5, e3, e4, e, ksF]
end P82
end

set_option linter.all false
set_option maxRecDepth 100000
set_option autoImplicit false
set_option maxHeartbeats 1000000
noncomputable section
namespace P82
open PySem L2 Rl
/-- what _law_parts answers -/
def partsD (ws : List Wd) (l : Bool) (p : Nat) : D := .dic false ((ksOf (ansW · l p) ws).map .str) ((ksOf (ansW · l p) ws).map fun k => wD (grp (ansW · l p) ws k))
theorem parts_ok (ws : List Wd) (l : Bool) (p : Nat) (hw : ∀ w ∈ ws, w.length ≤ 100) (hn : ws.length ≤ 100) :
    ∃ outs, F__law_parts [.val (wD ws), .val (.str (eg l)), .val (.int p)] = some (.val (partsD ws l p), outs) := by
  obtain ⟨s4, s5, e⟩ := parts_loop (wD ws) l p ws [] [] .un .un rfl hw (by simp) (by simp) (by simpa using hn)
  simp only [List.map_nil, List.nil_append] at e
  unfold F__law_parts fnOf b__law_parts
  simp only [wD] at e ⊢
  simp only [c_sSeq, c_sIf, c_sDrop, c_sRet, c_sRetN, c_sRet0, c_sRetV, c_sFrz, c_sSet, c_sSetL, c_sSetN, c_sPar, c_sAsg, c_sFor, c_sPut, c_sPutL, c_sPutD, c_sSdApp, c_sNx, c_sBk, c_sCt, c_eFr, c_vE, c_eC, c_eVar, c_vVar, c_aNil, c_aCons, c_eTup, c_nLst, c_eOp, c_eUn, c_nUn, c_nCat, c_nDic, c_tOf, c_tTru, c_tNot, c_tAnd, c_tOr, c_eIf, c_nIf, c_eAnd, c_eOr, c_eNot, c_tYes, c_eApp, c_ePop, c_ePopAt, c_eGet, c_eSl, c_oNo, c_oAt, c_eCall, c_nCall, c_eCallK, c_runCall, c_runCallK, c_gNil, c_gCons, c_gOwn, c_gNwc, c_iAny, c_iRange1, c_iRange2, c_eTupGx, g_d, g_sl, runGs, valR, ownR, slotD, Sl.toD, Tg.bind, Tg.binds, plainAt_b, Option.any_some, plB_un, plB_val, frzE, lstOf, dicOf, setsG, isOwn, Rl.ownsOf, nodupB, nwsOf, argSl, back_e1, back_e2, back_e3, back_e4, back_e5, backArgs, pick, itsD_lst, itsD_tup, itsD_str, itsD_dic, getD2_dic, isDicD_dic, truD, catD, eqD, eqB, neD, ltD, leD, gtD, geD, addD, subD, mulD, modD, fdivD, pow_1018, negD, isNonD, notNonD, nonB, isiD, ixD_lst, ixD_tup, ixD_scr, ixD_str, ixD_dic, lenD_lst, lenD_tup, lenD_scr, lenD_str, lenD_dic, Rl.intD, Rl.absD, tupD, listL, slD, smallI_7, smallI_48271, smallI_69621, smallI_16, smallI_17, smallI_31, lt30_65536, lt30_2, lt30_16, lt30_10, atI_0, atI_1, atI_2, ixN_0, ixN_1, ixN_2, Option.bind_some, Option.bind_none, Option.map_some, Option.map_none, List.getElem?_cons_zero, List.getElem?_cons_succ, List.set_cons_zero, List.set_cons_succ, List.replicate_succ, List.replicate_zero, List.cons_append, List.nil_append, List.append_nil, List.length_cons, List.length_nil, List.take_succ_cons, List.take_zero, List.contains_nil, Bool.not_false, Bool.not_true, Bool.and_self, Bool.true_and, Bool.and_true, Bool.false_and, Bool.and_false, Bool.true_or, Bool.or_true, Bool.false_or, Bool.or_false, Bool.false_eq_true, if_true, if_false, reduceIte, Nat.reduceAdd, Nat.reduceSub, Nat.reduceEqDiff, Nat.reduceLeDiff, Int.reduceNeg, Int.reduceLT, Int.reduceLE, Int.reducePow, Nat.reducePow, Int.reduceToNat, Nat.reduceLT, decide_true, decide_false, List.all_cons, List.all_nil, beq_self_eq_true, Option.isSome_some, List.filterMap_cons_some, List.filterMap_nil, e]
  exact ⟨_, rfl⟩
end P82
end

set_option linter.all false
set_option maxRecDepth 100000
set_option autoImplicit false
set_option maxHeartbeats 1000000
noncomputable section
namespace P82
open PySem L2 Rl
theorem idx_str (k : Wd) : ∀ ks : List Wd, k ∈ ks → ∃ j, idxD (ks.map .str) (.str k) = some j ∧ ks[j]? = some k
  | [], h => by cases h
  | a :: r, h => by
    by_cases e : a = k
    · exact ⟨0, by simp [idxD, kEq_str, e], by simp [e]⟩
    · obtain ⟨j, h1, h2⟩ := idx_str k r (by rcases List.mem_cons.mp h with rfl | h; exact absurd rfl e; exact h)
      exact ⟨j + 1, by simp [idxD, kEq_str, e, h1], by simpa using h2⟩
theorem set_at {β : Type} (g : Wd → β) (k : Wd) (v : β) : ∀ (ks : List Wd) (j : Nat), ks.Nodup → ks[j]? = some k → (ks.map g).set j v = ks.map fun i => if i = k then v else g i
  | [], j, _, h => by simp at h
  | a :: r, 0, hn, h => by
    have e : a = k := by simpa using h
    subst e
    simp only [List.map_cons, List.set_cons_zero, if_true]
    congr 1
    refine List.map_congr_left fun i hi => ?_
    have : ¬ i = a := fun x => (List.nodup_cons.mp hn).1 (x ▸ hi)
    simp [this]
  | a :: r, j + 1, hn, h => by
    have h2 : r[j]? = some k := by simpa using h
    have e : ¬ a = k := fun x => (List.nodup_cons.mp hn).1 (x ▸ List.mem_of_getElem? h2)
    simp only [List.map_cons, List.set_cons_succ, e, if_false]
    rw [set_at g k v r j (List.nodup_cons.mp hn).2 h2]
end P82
end

set_option linter.all false
set_option maxRecDepth 100000
set_option autoImplicit false
set_option maxHeartbeats 1000000
noncomputable section
namespace P82
open PySem L2 Rl
def grD (f : Wd → Wd) (done : List Wd) (k : Wd) : List D := (grp f done k).map .str
theorem addVss_w (f : Wd → Wd) (done ks : List Wd) (k : Wd) (hk : ∀ k, k ∈ ks ↔ ∃ w ∈ done, f w = k) :
    addVss (ks.map .str) (ks.map (grD f done)) (.str k) = (addK ks k).map (grD f done) := by
  unfold addVss addK
  rw [has_str]
  by_cases h : k ∈ ks
  · simp [h]
  · simp [h, grD, grp_nil_of f hk h]
theorem grD_snoc (f : Wd → Wd) (done ks : List Wd) (w : Wd) : (ks.map fun i => if i = f w then grD f done (f w) ++ [.str w] else grD f done i) = ks.map (grD f (done ++ [w])) := by
  refine List.map_congr_left fun j hj => ?_
  unfold grD
  rw [grp_snoc]
  by_cases e : j = f w
  · subst e; simp
  · have e2 : ¬ f w = j := fun x => e x.symm
    simp [e, e2]
end P82
end

set_option linter.all false
set_option maxRecDepth 100000
set_option autoImplicit false
set_option maxHeartbeats 1000000
noncomputable section
namespace P82
open PySem L2 Rl
theorem sdOf_3 (a b c : Sl) (k : List D) (v : List (List D)) (r : List Sl) : sdOf (a :: b :: c :: .dl k v :: r) 3 = some (k, v) := rfl
theorem po_loop (T : D) (l : Bool) (p : Nat) (s5 : Sl) : ∀ (rest done ks : List Wd) (s4 : Sl) (s3 : Sl), (∀ a b c r, sdOf (a :: b :: c :: s3 :: r) 3 = some (ks.map .str, ks.map (grD (ansW · l p) done))) → plB s4 = true → (∀ w ∈ rest, w.length ≤ 100) → ks.Nodup → (∀ k, k ∈ ks ↔ ∃ w ∈ done, ansW w l p = k) → ks.length ≤ done.length → done.length + rest.length ≤ 100 → rest ≠ [] →
    ∃ s4', forL (.nm 4) l1_parts_of (rest.map .str) [.val T, .val (.str (eg l)), .val (.int p), s3, s4, s5] =
      some (.nx, [.val T, .val (.str (eg l)), .val (.int p), .dl ((ksF (ansW · l p) ks rest).map .str) ((ksF (ansW · l p) ks rest).map (grD (ansW · l p) (done ++ rest))), s4', s5])
  | [], _, _, _, _, _, _, _, _, _, _, _, h => absurd rfl h
  | w :: rest, done, ks, s4, s3, h3, hs, hw, hd, hk, hl, hn, _ => by
    have w1 : w.length ≤ 100 := hw w List.mem_cons_self
    rw [List.length_cons] at hn
    have e1 := ans_ok2 w w1 l p
    have e2 := putKs_w ks (ansW w l p)
    have e3 := addVss_w (ansW · l p) done ks (ansW w l p) hk
    obtain ⟨j, e4, j1⟩ := idx_str (ansW w l p) (addK ks (ansW w l p)) (mem_addK.mpr (.inr rfl))
    have e5 : ((addK ks (ansW w l p)).map (grD (ansW · l p) done))[j]? = some (grD (ansW · l p) done (ansW w l p)) := by rw [List.getElem?_map, j1]; rfl
    have e6 := (set_at (grD (ansW · l p) done) (ansW w l p) (grD (ansW · l p) done (ansW w l p) ++ [.str w]) _ j (nodup_addK hd _) j1).trans (grD_snoc (ansW · l p) done _ w)
    have gl : (grD (ansW · l p) done (ansW w l p)).length ≤ done.length := by unfold grD; rw [List.length_map]; exact List.length_filter_le _ _
    have z3 : szLt ks.length = true := szLt_of (by omega)
    have z4 : szLt (grD (ansW · l p) done (ansW w l p)).length = true := szLt_of (by omega)
    have k1 : ∀ a, isKey false (.str a) = true := fun _ => rfl
    have fin : ∃ s4', forL (.nm 4) l1_parts_of (rest.map .str) [.val T, .val (.str (eg l)), .val (.int p), .dl ((addK ks (ansW w l p)).map .str) ((addK ks (ansW w l p)).map (grD (ansW · l p) (done ++ [w]))), .val (.str w), s5] =
      some (.nx, [.val T, .val (.str (eg l)), .val (.int p), .dl ((ksF (ansW · l p) ks (w :: rest)).map .str) ((ksF (ansW · l p) ks (w :: rest)).map (grD (ansW · l p) (done ++ w :: rest))), s4', s5]) := by
      by_cases hr : rest = []
      · subst hr; exact ⟨_, rfl⟩
      · obtain ⟨s4', e⟩ := po_loop T l p s5 rest (done ++ [w]) (addK ks (ansW w l p)) (.val (.str w)) (.dl ((addK ks (ansW w l p)).map .str) ((addK ks (ansW w l p)).map (grD (ansW · l p) (done ++ [w])))) (fun _ _ _ _ => rfl) rfl (fun x hx => hw x (List.mem_cons_of_mem _ hx)) (nodup_addK hd _)
          (fun k => by rw [mem_addK, hk]; simp [List.mem_append, or_and_right, exists_or, eq_comm])
          (by unfold addK; split <;> simp <;> omega) (by simp; omega) hr
        rw [List.append_assoc, List.singleton_append] at e
        exact ⟨s4', e⟩
    obtain ⟨s4', e⟩ := fin
    refine ⟨s4', ?_⟩
    rw [List.map_cons, forL]
    simp only [c_sSeq, c_sIf, c_sDrop, c_sRet, c_sRetN, c_sRet0, c_sRetV, c_sFrz, c_sSet, c_sSetL, c_sSetN, c_sPar, c_sAsg, c_sFor, c_sPut, c_sPutL, c_sPutD, c_sSdApp, c_sNx, c_sBk, c_sCt, c_eFr, c_vE, c_eC, c_eVar, c_vVar, c_aNil, c_aCons, c_eTup, c_nLst, c_eOp, c_eUn, c_nUn, c_nCat, c_nDic, c_tOf, c_tTru, c_tNot, c_tAnd, c_tOr, c_eIf, c_nIf, c_eAnd, c_eOr, c_eNot, c_tYes, c_eApp, c_ePop, c_ePopAt, c_eGet, c_eSl, c_oNo, c_oAt, c_eCall, c_nCall, c_eCallK, c_runCall, c_runCallK, c_gNil, c_gCons, c_gOwn, c_gNwc, c_iAny, c_iRange1, c_iRange2, c_eTupGx, g_d, g_sl, runGs, valR, ownR, slotD, Sl.toD, Tg.bind, Tg.binds, plainAt_b, Option.any_some, plB_un, plB_val, frzE, lstOf, dicOf, setsG, isOwn, Rl.ownsOf, nodupB, nwsOf, argSl, back_e1, back_e2, back_e3, back_e4, back_e5, backArgs, pick, itsD_lst, itsD_tup, itsD_str, itsD_dic, getD2_dic, isDicD_dic, truD, catD, eqD, eqB, neD, ltD, leD, gtD, geD, addD, subD, mulD, modD, fdivD, pow_1018, negD, isNonD, notNonD, nonB, isiD, ixD_lst, ixD_tup, ixD_scr, ixD_str, ixD_dic, lenD_lst, lenD_tup, lenD_scr, lenD_str, lenD_dic, Rl.intD, Rl.absD, tupD, listL, slD, smallI_7, smallI_48271, smallI_69621, smallI_16, smallI_17, smallI_31, lt30_65536, lt30_2, lt30_16, lt30_10, atI_0, atI_1, atI_2, ixN_0, ixN_1, ixN_2, Option.bind_some, Option.bind_none, Option.map_some, Option.map_none, List.getElem?_cons_zero, List.getElem?_cons_succ, List.set_cons_zero, List.set_cons_succ, List.replicate_succ, List.replicate_zero, List.cons_append, List.nil_append, List.append_nil, List.length_cons, List.length_nil, List.take_succ_cons, List.take_zero, List.contains_nil, Bool.not_false, Bool.not_true, Bool.and_self, Bool.true_and, Bool.and_true, Bool.false_and, Bool.and_false, Bool.true_or, Bool.or_true, Bool.false_or, Bool.or_false, Bool.false_eq_true, if_true, if_false, reduceIte, Nat.reduceAdd, Nat.reduceSub, Nat.reduceEqDiff, Nat.reduceLeDiff, Int.reduceNeg, Int.reduceLT, Int.reduceLE, Int.reducePow, Nat.reducePow, Int.reduceToNat, Nat.reduceLT, decide_true, decide_false, List.all_cons, List.all_nil, beq_self_eq_true, Option.isSome_some, List.filterMap_cons_some, List.filterMap_nil, hs, u_l1_parts_of, h3, e1, z3, z4, k1, e2, e3, e4, sdOf_3, e5, e6, List.length_map, e]
end P82
end

set_option linter.all false
set_option maxRecDepth 100000
set_option autoImplicit false
set_option maxHeartbeats 1000000
noncomputable section
namespace P82
open PySem L2 Rl
def unS : D → Wd
  | .str w => w
  | _ => []
/-- texts, sorted -/
def srt (ks : List Wd) : List Wd := (sortDs (ks.map .str)).map unS
theorem sort_perm (ds : List D) : (sortDs ds).Perm ds := List.mergeSort_perm _ _
theorem sort_strs (ks : List Wd) : sortDs (ks.map .str) = (srt ks).map .str := by
  have h := sort_perm (ks.map .str)
  unfold srt
  rw [List.map_map]
  have hm : ∀ d ∈ sortDs (ks.map .str), (D.str ∘ unS) d = d := fun d hd => by
    obtain ⟨w, _, rfl⟩ := List.mem_map.mp (h.mem_iff.mp hd)
    rfl
  rw [List.map_congr_left hm, List.map_id']
theorem srt_perm (ks : List Wd) : (srt ks).Perm ks := by
  have h := (sort_perm (ks.map .str)).map unS
  have e2 : (unS ∘ D.str) = id := rfl
  rw [List.map_map, e2, List.map_id] at h
  exact h
theorem ans_cps {w : Wd} (h : Cps w) (l : Bool) (p : Nat) : Cps (ansW w l p) := by
  intro c hc
  unfold ansW at hc
  split at hc
  · split at hc
    · simp at hc; rw [hc]; exact h _ (List.getElem_mem _)
    · simp at hc; rw [hc]; exact h _ (List.getElem_mem _)
  · cases hc
theorem sortOk_strs (ks : List Wd) (h : ks.length ≤ 10000) (hc : ∀ k ∈ ks, Cps k) : sortOk (ks.map .str) = true := by
  unfold sortOk
  simp only [Bool.and_eq_true, Bool.or_eq_true, List.all_eq_true, List.mem_map, forall_exists_index, and_imp, forall_apply_eq_imp_iff₂, List.length_map]
  refine ⟨⟨⟨fun a _ b _ => rfl, .inr fun a _ => rfl⟩, fun a ha => (ShN.str (hc a ha)).sh (by omega)⟩, szOk_of (by omega)⟩
theorem ksF_len (f : Wd → Wd) : ∀ (ws ks : List Wd), (ksF f ks ws).length ≤ ks.length + ws.length
  | [], ks => by simp [ksF]
  | w :: ws, ks => by
    have := ksF_len f ws (addK ks (f w))
    have h2 : (addK ks (f w)).length ≤ ks.length + 1 := by unfold addK; split <;> simp
    simp only [ksF, List.length_cons]
    omega
/-- a part: an answer and the words that give it -/
def ptD (f : Wd → Wd) (ws : List Wd) (k : Wd) : D := .tup [.str k, wD (grp f ws k)]
theorem pt_loop (T e p : D) (f : Wd → Wd) (ws K : List Wd) (s4 : Sl) : ∀ (sk : List Wd) (s5 : Sl), (∀ k ∈ sk, k ∈ K) →
    ∃ s5', lcL [5] (.nm 5) tYes' e2_parts_of (sk.map .str) [.val T, .val e, .val p, .val (.dic false (K.map .str) (K.map fun k => .lst (grD f ws k))), s4, s5] =
      some (sk.map (ptD f ws), [.val T, .val e, .val p, .val (.dic false (K.map .str) (K.map fun k => .lst (grD f ws k))), s4, s5'])
  | [], s5, _ => ⟨s5, rfl⟩
  | k :: sk, s5, h => by
    have hk : k ∈ K := h k List.mem_cons_self
    have e1 : lookD (K.map .str) (K.map fun k => .lst (grD f ws k)) (.str k) = some (.lst (grD f ws k)) := by rw [look_str]; simp [hk]
    have z2 : szOk 2 = true := szOk_of (by omega)
    have k1 : ∀ a, isKey false (.str a) = true := fun _ => rfl
    obtain ⟨s5', e2⟩ := pt_loop T e p f ws K s4 sk (.val (.str k)) (fun x hx => h x (List.mem_cons_of_mem _ hx))
    refine ⟨s5', ?_⟩
    rw [List.map_cons, lcL]
    simp only [c_sSeq, c_sIf, c_sDrop, c_sRet, c_sRetN, c_sRet0, c_sRetV, c_sFrz, c_sSet, c_sSetL, c_sSetN, c_sPar, c_sAsg, c_sFor, c_sPut, c_sPutL, c_sPutD, c_sSdApp, c_sNx, c_sBk, c_sCt, c_eFr, c_vE, c_eC, c_eVar, c_vVar, c_aNil, c_aCons, c_eTup, c_nLst, c_eOp, c_eUn, c_nUn, c_nCat, c_nDic, c_tOf, c_tTru, c_tNot, c_tAnd, c_tOr, c_eIf, c_nIf, c_eAnd, c_eOr, c_eNot, c_tYes, c_eApp, c_ePop, c_ePopAt, c_eGet, c_eSl, c_oNo, c_oAt, c_eCall, c_nCall, c_eCallK, c_runCall, c_runCallK, c_gNil, c_gCons, c_gOwn, c_gNwc, c_iAny, c_iRange1, c_iRange2, c_eTupGx, g_d, g_sl, runGs, valR, ownR, slotD, Sl.toD, Tg.bind, Tg.binds, plainAt_b, Option.any_some, plB_un, plB_val, frzE, lstOf, dicOf, setsG, isOwn, Rl.ownsOf, nodupB, nwsOf, argSl, back_e1, back_e2, back_e3, back_e4, back_e5, backArgs, pick, itsD_lst, itsD_tup, itsD_str, itsD_dic, getD2_dic, isDicD_dic, truD, catD, eqD, eqB, neD, ltD, leD, gtD, geD, addD, subD, mulD, modD, fdivD, pow_1018, negD, isNonD, notNonD, nonB, isiD, ixD_lst, ixD_tup, ixD_scr, ixD_str, ixD_dic, lenD_lst, lenD_tup, lenD_scr, lenD_str, lenD_dic, Rl.intD, Rl.absD, tupD, listL, slD, smallI_7, smallI_48271, smallI_69621, smallI_16, smallI_17, smallI_31, lt30_65536, lt30_2, lt30_16, lt30_10, atI_0, atI_1, atI_2, ixN_0, ixN_1, ixN_2, Option.bind_some, Option.bind_none, Option.map_some, Option.map_none, List.getElem?_cons_zero, List.getElem?_cons_succ, List.set_cons_zero, List.set_cons_succ, List.replicate_succ, List.replicate_zero, List.cons_append, List.nil_append, List.append_nil, List.length_cons, List.length_nil, List.take_succ_cons, List.take_zero, List.contains_nil, Bool.not_false, Bool.not_true, Bool.and_self, Bool.true_and, Bool.and_true, Bool.false_and, Bool.and_false, Bool.true_or, Bool.or_true, Bool.false_or, Bool.or_false, Bool.false_eq_true, if_true, if_false, reduceIte, Nat.reduceAdd, Nat.reduceSub, Nat.reduceEqDiff, Nat.reduceLeDiff, Int.reduceNeg, Int.reduceLT, Int.reduceLE, Int.reducePow, Nat.reducePow, Int.reduceToNat, Nat.reduceLT, decide_true, decide_false, List.all_cons, List.all_nil, beq_self_eq_true, Option.isSome_some, List.filterMap_cons_some, List.filterMap_nil, u_e2_parts_of, e1, z2, k1, e2, wipeE]
    rfl
def partsOfD (ws : List Wd) (l : Bool) (p : Nat) : D := .lst ((srt (ksOf (ansW · l p) ws)).map (ptD (ansW · l p) ws))
theorem parts_of_ok (ws : List Wd) (l : Bool) (p : Nat) (hw : ∀ w ∈ ws, w.length ≤ 100) (hc : ∀ w ∈ ws, Cps w) (hn : ws.length ≤ 100) (h0 : ws ≠ []) :
    ∃ outs, F_parts_of [.val (wD ws), .val (.str (eg l)), .val (.int p)] = some (.val (partsOfD ws l p), outs) := by
  obtain ⟨s4, e⟩ := po_loop (wD ws) l p .un ws [] [] .un (.dic false [] []) (fun _ _ _ _ => rfl) rfl hw List.nodup_nil (by simp) (by simp) (by simpa using hn) h0
  simp only [List.nil_append] at e
  have kl : (ksF (ansW · l p) [] ws).length ≤ 100 := by have := ksF_len (ansW · l p) ws []; simp at this; omega
  have e2 := sortOk_strs (ksF (ansW · l p) [] ws) (by omega) (fun k hk => by
    rcases (mem_ksF _ _ _).mp hk with h | ⟨w, hw, rfl⟩
    · cases h
    · exact ans_cps (hc w hw) l p)
  have e3 := sort_strs (ksF (ansW · l p) [] ws)
  have e5 := (srt_perm (ksF (ansW · l p) [] ws)).length_eq
  obtain ⟨s5, e4⟩ := pt_loop (wD ws) (.str (eg l)) (.int p) (ansW · l p) ws (ksF (ansW · l p) [] ws) s4 (srt (ksF (ansW · l p) [] ws)) .un (fun k hk => (srt_perm _).mem_iff.mp hk)
  have z : szOk (ksF (ansW · l p) [] ws).length = true := szOk_of (by omega)
  unfold F_parts_of fnOf b_parts_of
  simp only [wD] at e e4 ⊢
  simp only [c_sSeq, c_sIf, c_sDrop, c_sRet, c_sRetN, c_sRet0, c_sRetV, c_sFrz, c_sSet, c_sSetL, c_sSetN, c_sPar, c_sAsg, c_sFor, c_sPut, c_sPutL, c_sPutD, c_sSdApp, c_sNx, c_sBk, c_sCt, c_eFr, c_vE, c_eC, c_eVar, c_vVar, c_aNil, c_aCons, c_eTup, c_nLst, c_eOp, c_eUn, c_nUn, c_nCat, c_nDic, c_tOf, c_tTru, c_tNot, c_tAnd, c_tOr, c_eIf, c_nIf, c_eAnd, c_eOr, c_eNot, c_tYes, c_eApp, c_ePop, c_ePopAt, c_eGet, c_eSl, c_oNo, c_oAt, c_eCall, c_nCall, c_eCallK, c_runCall, c_runCallK, c_gNil, c_gCons, c_gOwn, c_gNwc, c_iAny, c_iRange1, c_iRange2, c_eTupGx, g_d, g_sl, runGs, valR, ownR, slotD, Sl.toD, Tg.bind, Tg.binds, plainAt_b, Option.any_some, plB_un, plB_val, frzE, lstOf, dicOf, setsG, isOwn, Rl.ownsOf, nodupB, nwsOf, argSl, back_e1, back_e2, back_e3, back_e4, back_e5, backArgs, pick, itsD_lst, itsD_tup, itsD_str, itsD_dic, getD2_dic, isDicD_dic, truD, catD, eqD, eqB, neD, ltD, leD, gtD, geD, addD, subD, mulD, modD, fdivD, pow_1018, negD, isNonD, notNonD, nonB, isiD, ixD_lst, ixD_tup, ixD_scr, ixD_str, ixD_dic, lenD_lst, lenD_tup, lenD_scr, lenD_str, lenD_dic, Rl.intD, Rl.absD, tupD, listL, slD, smallI_7, smallI_48271, smallI_69621, smallI_16, smallI_17, smallI_31, lt30_65536, lt30_2, lt30_16, lt30_10, atI_0, atI_1, atI_2, ixN_0, ixN_1, ixN_2, Option.bind_some, Option.bind_none, Option.map_some, Option.map_none, List.getElem?_cons_zero, List.getElem?_cons_succ, List.set_cons_zero, List.set_cons_succ, List.replicate_succ, List.replicate_zero, List.cons_append, List.nil_append, List.append_nil, List.length_cons, List.length_nil, List.take_succ_cons, List.take_zero, List.contains_nil, Bool.not_false, Bool.not_true, Bool.and_self, Bool.true_and, Bool.and_true, Bool.false_and, Bool.and_false, Bool.true_or, Bool.or_true, Bool.false_or, Bool.or_false, Bool.false_eq_true, if_true, if_false, reduceIte, Nat.reduceAdd, Nat.reduceSub, Nat.reduceEqDiff, Nat.reduceLeDiff, Int.reduceNeg, Int.reduceLT, Int.reduceLE, Int.reducePow, Nat.reducePow, Int.reduceToNat, Nat.reduceLT, decide_true, decide_false, List.all_cons, List.all_nil, beq_self_eq_true, Option.isSome_some, List.filterMap_cons_some, List.filterMap_nil, c_nLc, e, List.map_map, Function.comp_def, sortL, e2, e3, e4, e5, List.length_map, z, backE, partsOfD, ksOf]
  exact ⟨_, rfl⟩
end P82
end

set_option linter.all false
set_option maxRecDepth 100000
set_option autoImplicit false
set_option maxHeartbeats 1000000
noncomputable section
namespace P82
open PySem L2 Rl
/-! ### questions, least numbers, plans: plain lists -/
abbrev Qn := Bool × Nat
def aw (q : Qn) : Wd → Wd := (ansW · q.1 q.2)
def mx (ws : List Wd) : Nat := maxN (ws.map List.length)
def kys (ws : List Wd) (q : Qn) : List Wd := ksOf (aw q) ws
def prt (ws : List Wd) (q : Qn) (k : Wd) : List Wd := grp (aw q) ws k
def sideQ (ws : List Wd) (l : Bool) : List Qn := (List.range (mx ws)).map fun p => (l, p)
def isQ (ws : List Wd) (q : Qn) : Bool := decide (1 < (kys ws q).length)
def qs (ws : List Wd) : List Qn := (sideQ ws true ++ sideQ ws false).filter (isQ ws)
theorem kys_nodup (ws : List Wd) (q : Qn) : (kys ws q).Nodup := nodup_ksF _ ws [] List.nodup_nil
theorem mem_kys {ws : List Wd} {q : Qn} {k : Wd} : k ∈ kys ws q ↔ ∃ w ∈ ws, aw q w = k := by
  unfold kys ksOf
  rw [mem_ksF]
  simp
theorem prt_sub (ws : List Wd) (q : Qn) (k : Wd) : (prt ws q k).Sublist ws := List.filter_sublist
theorem mem_prt {ws : List Wd} {q : Qn} {k w : Wd} : w ∈ prt ws q k ↔ w ∈ ws ∧ aw q w = k := by
  unfold prt grp
  rw [List.mem_filter]
  simp
theorem prt_ne {ws : List Wd} {q : Qn} {k : Wd} (h : k ∈ kys ws q) : prt ws q k ≠ [] := by
  obtain ⟨w, hw, e⟩ := mem_kys.mp h
  exact List.ne_nil_of_mem (mem_prt.mpr ⟨hw, e⟩)
theorem other_of {l : List Wd} (hn : l.Nodup) (h : 1 < l.length) (k : Wd) : ∃ j ∈ l, j ≠ k := by
  match l, hn, h with
  | a :: b :: r, hn, _ =>
    by_cases e : a = k
    · refine ⟨b, by simp, fun e2 => ?_⟩
      rw [List.nodup_cons] at hn
      exact hn.1 (by rw [e, ← e2]; simp)
    · exact ⟨a, by simp, e⟩
theorem prt_lt {ws : List Wd} {q : Qn} (h : isQ ws q = true) (k : Wd) : (prt ws q k).length < ws.length := by
  obtain ⟨j, hj, hne⟩ := other_of (kys_nodup ws q) (of_decide_eq_true h) k
  obtain ⟨w, hw, e⟩ := mem_kys.mp hj
  unfold prt grp
  rw [List.length_filter_lt_length_iff_exists]
  exact ⟨w, hw, by rw [e]; simpa using hne⟩
theorem isQ_of {ws : List Wd} {q : Qn} (h : q ∈ qs ws) : isQ ws q = true := (List.mem_filter.mp h).2
/-- the least number of questions -/
def L (ws : List Wd) : Nat := if ws.length ≤ 1 then 0 else minN ((qs ws).attach.map fun q => 1 + maxN ((kys ws q.1).map fun k => L (prt ws q.1 k)))
termination_by ws.length
decreasing_by exact prt_lt (isQ_of q.2) k
def cost (ws : List Wd) (q : Qn) : Nat := 1 + maxN ((kys ws q).map fun k => L (prt ws q k))
theorem L_one {ws : List Wd} (h : ws.length ≤ 1) : L ws = 0 := by rw [L, if_pos h]
theorem L_eq {ws : List Wd} (h : 1 < ws.length) : L ws = minN ((qs ws).map (cost ws)) := by
  rw [L, if_neg (by omega)]
  congr 1
  exact List.attach_map_val (f := cost ws) (l := qs ws)
/-- the first plan with the least number -/
def Pl (ws : List Wd) : D := if ws.length ≤ 1 then .str (ws.headD []) else
  match h : (qs ws).find? fun q => cost ws q == L ws with
  | none => .tup []
  | some q => .tup [.str (eg q.1), .int q.2, .tup ((srt (kys ws q)).map fun k => .tup [.str k, Pl (prt ws q k)])]
termination_by ws.length
decreasing_by exact prt_lt (isQ_of (List.mem_of_find?_eq_some h)) k
def planQ (ws : List Wd) (q : Qn) : D := .tup [.str (eg q.1), .int q.2, .tup ((srt (kys ws q)).map fun k => .tup [.str k, Pl (prt ws q k)])]
theorem Pl_one {w : Wd} : Pl [w] = .str w := by rw [Pl]; rfl
theorem Pl_eq {ws : List Wd} {q : Qn} (h : 1 < ws.length) (hq : (qs ws).find? (fun q => cost ws q == L ws) = some q) : Pl ws = planQ ws q := by
  rw [Pl, if_neg (by omega)]
  split
  · rename_i e; rw [hq] at e; cases e
  · rename_i q' e
    rw [hq] at e
    cases e
    rfl
theorem ansW_get (w : Wd) (p : Nat) : ansW w true p = (w[p]?).toList := by
  unfold ansW
  by_cases h : p < w.length
  · rw [dif_pos h, List.getElem?_eq_getElem h]; rfl
  · rw [dif_neg h, List.getElem?_eq_none (by omega)]; rfl
theorem sep {w v : Wd} (h : w ≠ v) : ∃ p, p < Nat.max w.length v.length ∧ ansW w true p ≠ ansW v true p := by
  by_cases hh : ∃ p, p < Nat.max w.length v.length ∧ ansW w true p ≠ ansW v true p
  · exact hh
  · exfalso
    refine h (List.ext_getElem? fun p => ?_)
    by_cases hp : p < Nat.max w.length v.length
    · have : ansW w true p = ansW v true p := Classical.byContradiction fun q => hh ⟨p, hp, q⟩
      rw [ansW_get, ansW_get] at this
      cases a : w[p]? <;> cases b : v[p]? <;> simp_all
    · have h1 : w.length ≤ p := Nat.le_trans (Nat.le_max_left _ _) (Nat.le_of_not_lt hp)
      have h2 : v.length ≤ p := Nat.le_trans (Nat.le_max_right _ _) (Nat.le_of_not_lt hp)
      rw [List.getElem?_eq_none h1, List.getElem?_eq_none h2]
theorem two_of {l : List Wd} {a b : Wd} (ha : a ∈ l) (hb : b ∈ l) (h : a ≠ b) : 1 < l.length := by
  match l, ha, hb with
  | [], ha, _ => cases ha
  | [x], ha, hb =>
    simp at ha hb
    exact absurd (ha.trans hb.symm) h
  | _ :: _ :: _, _, _ => simp
theorem len_mx {ws : List Wd} {w : Wd} (h : w ∈ ws) : w.length ≤ mx ws := le_maxN (List.mem_map.mpr ⟨w, h, rfl⟩)
theorem qs_ne {ws : List Wd} (hn : ws.Nodup) (h : 1 < ws.length) : qs ws ≠ [] := by
  match ws, hn, h with
  | a :: b :: r, hn, _ =>
    have hab : a ≠ b := fun e => (List.nodup_cons.mp hn).1 (by rw [e]; simp)
    obtain ⟨p, hp, hd⟩ := sep hab
    have ha : a ∈ a :: b :: r := by simp
    have hb : b ∈ a :: b :: r := by simp
    refine List.ne_nil_of_mem (a := (true, p)) (List.mem_filter.mpr ⟨?_, ?_⟩)
    · refine List.mem_append.mpr (.inl (List.mem_map.mpr ⟨p, List.mem_range.mpr ?_, rfl⟩))
      exact Nat.lt_of_lt_of_le hp (Nat.max_le.mpr ⟨len_mx ha, len_mx hb⟩)
    · exact decide_eq_true (two_of (mem_kys.mpr ⟨a, ha, rfl⟩) (mem_kys.mpr ⟨b, hb, rfl⟩) hd)
theorem L_lt : ∀ (n : Nat) (ws : List Wd), ws.length ≤ n → ws.Nodup → ws ≠ [] → L ws < ws.length
  | 0, ws, h, _, hne => absurd (List.length_eq_zero_iff.mp (by omega)) hne
  | n + 1, ws, h, hn, hne => by
    have hp : 0 < ws.length := List.length_pos_iff.mpr hne
    by_cases h1 : ws.length ≤ 1
    · rw [L_one h1]; exact hp
    · rw [L_eq (by omega)]
      obtain ⟨q, hq⟩ := List.exists_mem_of_ne_nil _ (qs_ne hn (by omega))
      have hc : cost ws q ≤ ws.length - 1 := by
        unfold cost
        have : maxN ((kys ws q).map fun k => L (prt ws q k)) ≤ ws.length - 2 := by
          refine maxN_le fun x hx => ?_
          obtain ⟨k, hk, rfl⟩ := List.mem_map.mp hx
          have l1 := prt_lt (isQ_of hq) k
          have l2 := L_lt n (prt ws q k) (by omega) (hn.sublist (prt_sub ws q k)) (prt_ne hk)
          omega
        omega
      have := minN_le (List.mem_map.mpr ⟨q, hq, rfl⟩ : cost ws q ∈ (qs ws).map (cost ws))
      omega
theorem find_ex {ws : List Wd} (hn : ws.Nodup) (h : 1 < ws.length) : ∃ q, (qs ws).find? (fun q => cost ws q == L ws) = some q ∧ q ∈ qs ws ∧ cost ws q = L ws := by
  have hm : L ws ∈ (qs ws).map (cost ws) := by
    rw [L_eq h]
    exact minN_mem (by simp [qs_ne hn h])
  obtain ⟨q, hq, e⟩ := List.mem_map.mp hm
  cases hf : (qs ws).find? (fun q => cost ws q == L ws) with
  | none =>
    have := List.find?_eq_none.mp hf q hq
    simp [e] at this
  | some q' => exact ⟨q', rfl, List.mem_of_find?_eq_some hf, by simpa using List.find?_some hf⟩
theorem cost_ge {ws : List Wd} (h : 1 < ws.length) {q : Qn} (hq : q ∈ qs ws) : L ws ≤ cost ws q := by
  rw [L_eq h]
  exact minN_le (List.mem_map.mpr ⟨q, hq, rfl⟩)
/-- the best of the questions gone through: its number and its plan -/
structure Best (ws : List Wd) (b0 : Nat) (p0 : D) (done : List Qn) (b : Nat) (p : D) : Prop where
  le : ∀ q ∈ done, b ≤ cost ws q
  at_ : (b = b0 ∧ p = p0) ∨ (b < b0 ∧ ∃ q, done.find? (fun q => cost ws q == b) = some q ∧ p = planQ ws q)
theorem Best.step {ws : List Wd} {b0 : Nat} {p0 : D} {done : List Qn} {b : Nat} {p : D} (h : Best ws b0 p0 done b p) (q : Qn) :
    if cost ws q < b then Best ws b0 p0 (done ++ [q]) (cost ws q) (planQ ws q) else Best ws b0 p0 (done ++ [q]) b p := by
  by_cases c : cost ws q < b
  · rw [if_pos c]
    have hb : b ≤ b0 := by rcases h.at_ with ⟨e, _⟩ | ⟨e, _⟩ <;> omega
    refine ⟨fun q' hq' => ?_, .inr ⟨by omega, q, ?_, rfl⟩⟩
    · rcases List.mem_append.mp hq' with x | x
      · have := h.le q' x; omega
      · rw [List.mem_singleton.mp x]; exact Nat.le_refl _
    · rw [List.find?_append]
      have : done.find? (fun q' => cost ws q' == cost ws q) = none := by
        rw [List.find?_eq_none]
        intro q' hq' e
        have := h.le q' hq'
        have e2 : cost ws q' = cost ws q := by simpa using e
        omega
      rw [this]
      simp
  · rw [if_neg c]
    refine ⟨fun q' hq' => ?_, ?_⟩
    · rcases List.mem_append.mp hq' with x | x
      · exact h.le q' x
      · rw [List.mem_singleton.mp x]; omega
    · rcases h.at_ with x | ⟨x, q', y, z⟩
      · exact .inl x
      · exact .inr ⟨x, q', by rw [List.find?_append, y]; rfl, z⟩
theorem Best.end_ {ws : List Wd} {p0 : D} {b : Nat} {p : D} (h : Best ws ws.length p0 (qs ws) b p) (hn : ws.Nodup) (h1 : 1 < ws.length) : b = L ws ∧ p = Pl ws := by
  obtain ⟨q, hq, hm, hc⟩ := find_ex hn h1
  have hl := L_lt _ ws (Nat.le_refl _) hn (by intro e; rw [e] at h1; simp at h1)
  have hb := h.le q hm
  rcases h.at_ with ⟨e, _⟩ | ⟨_, q', h2, h3⟩
  · omega
  · have hc' : cost ws q' = b := by simpa using List.find?_some h2
    have hge := cost_ge h1 (List.mem_of_find?_eq_some h2)
    have e : b = L ws := by omega
    subst e
    rw [hq] at h2
    cases h2
    exact ⟨rfl, by rw [h3, Pl_eq h1 hq]⟩
end P82
end

set_option linter.all false
set_option maxRecDepth 100000
set_option autoImplicit false
set_option maxHeartbeats 1000000
noncomputable section
namespace P82
open PySem L2 Rl
/-! ### the law's questions -/
/-- a lot: few words, short ones -/
structure Lot (ws : List Wd) : Prop where
  w : ∀ w ∈ ws, w.length ≤ 100
  c : ∀ w ∈ ws, Cps w
  n : ws.length ≤ 100
  ne : ws ≠ []
  nd : ws.Nodup
theorem Lot.prt {ws : List Wd} (h : Lot ws) {q : Qn} {k : Wd} (hk : k ∈ kys ws q) : Lot (prt ws q k) :=
  ⟨fun w hw => h.w w (mem_prt.mp hw).1, fun w hw => h.c w (mem_prt.mp hw).1, Nat.le_trans (List.length_filter_le _ _) h.n, prt_ne hk, h.nd.sublist (prt_sub ws q k)⟩
theorem mx_le {ws : List Wd} (h : Lot ws) : mx ws ≤ 100 := maxN_le fun x hx => by
  obtain ⟨w, hw, rfl⟩ := List.mem_map.mp hx
  exact h.w w hw
def qD (q : Qn) : D := .tup [.str (eg q.1), .int q.2]
theorem kys_len {ws : List Wd} (h : Lot ws) (q : Qn) : (kys ws q).length ≤ 100 := by
  have a : (ksF (aw q) [] ws).length ≤ ([] : List Wd).length + ws.length := ksF_len _ _ _
  have := h.n
  show (ksF (aw q) [] ws).length ≤ 100
  rw [List.length_nil] at a
  omega
theorem lq1 {ws : List Wd} (h : Lot ws) (l : Bool) (p : Nat) (acc : List D) (s3 s4 : Sl) (h3 : plB s3 = true) (ha : acc.length ≤ 1000) :
    turnL (.nm 3) l1__law_questions (.int p) [.val (wD ws), .lst acc, .val (.str (eg l)), s3, s4] = some (.nx, [.val (wD ws), .lst (if isQ ws (l, p) then acc ++ [qD (l, p)] else acc), .val (.str (eg l)), .val (.int p), s4]) := by
  obtain ⟨outs, e⟩ := parts_ok ws l p h.w h.n
  have z2 : szOk 2 = true := szOk_of (by omega)
  have z3 : szLt acc.length = true := szLt_of (by omega)
  have k : ((ksOf (ansW · l p) ws).length : Int) = ((kys ws (l, p)).length : Int) := rfl
  cases hq : isQ ws (l, p) with
  | true =>
    have hd : decide ((1 : Int) < ((kys ws (l, p)).length : Int)) = true := decide_eq_true (by have := of_decide_eq_true hq; omega)
    simp only [c_sSeq, c_sIf, c_sDrop, c_sRet, c_sRetN, c_sRet0, c_sRetV, c_sFrz, c_sSet, c_sSetL, c_sSetN, c_sPar, c_sAsg, c_sFor, c_sPut, c_sPutL, c_sPutD, c_sSdApp, c_sNx, c_sBk, c_sCt, c_eFr, c_vE, c_eC, c_eVar, c_vVar, c_aNil, c_aCons, c_eTup, c_nLst, c_eOp, c_eUn, c_nUn, c_nCat, c_nDic, c_tOf, c_tTru, c_tNot, c_tAnd, c_tOr, c_eIf, c_nIf, c_eAnd, c_eOr, c_eNot, c_tYes, c_eApp, c_ePop, c_ePopAt, c_eGet, c_eSl, c_oNo, c_oAt, c_eCall, c_nCall, c_eCallK, c_runCall, c_runCallK, c_gNil, c_gCons, c_gOwn, c_gNwc, c_iAny, c_iRange1, c_iRange2, c_eTupGx, g_d, g_sl, runGs, valR, ownR, slotD, Sl.toD, Tg.bind, Tg.binds, plainAt_b, Option.any_some, plB_un, plB_val, frzE, lstOf, dicOf, setsG, isOwn, Rl.ownsOf, nodupB, nwsOf, argSl, back_e1, back_e2, back_e3, back_e4, back_e5, backArgs, pick, itsD_lst, itsD_tup, itsD_str, itsD_dic, getD2_dic, isDicD_dic, truD, catD, eqD, eqB, neD, ltD, leD, gtD, geD, addD, subD, mulD, modD, fdivD, pow_1018, negD, isNonD, notNonD, nonB, isiD, ixD_lst, ixD_tup, ixD_scr, ixD_str, ixD_dic, lenD_lst, lenD_tup, lenD_scr, lenD_str, lenD_dic, Rl.intD, Rl.absD, tupD, listL, slD, smallI_7, smallI_48271, smallI_69621, smallI_16, smallI_17, smallI_31, lt30_65536, lt30_2, lt30_16, lt30_10, atI_0, atI_1, atI_2, ixN_0, ixN_1, ixN_2, Option.bind_some, Option.bind_none, Option.map_some, Option.map_none, List.getElem?_cons_zero, List.getElem?_cons_succ, List.set_cons_zero, List.set_cons_succ, List.replicate_succ, List.replicate_zero, List.cons_append, List.nil_append, List.append_nil, List.length_cons, List.length_nil, List.take_succ_cons, List.take_zero, List.contains_nil, Bool.not_false, Bool.not_true, Bool.and_self, Bool.true_and, Bool.and_true, Bool.false_and, Bool.and_false, Bool.true_or, Bool.or_true, Bool.false_or, Bool.or_false, Bool.false_eq_true, if_true, if_false, reduceIte, Nat.reduceAdd, Nat.reduceSub, Nat.reduceEqDiff, Nat.reduceLeDiff, Int.reduceNeg, Int.reduceLT, Int.reduceLE, Int.reducePow, Nat.reducePow, Int.reduceToNat, Nat.reduceLT, decide_true, decide_false, List.all_cons, List.all_nil, beq_self_eq_true, Option.isSome_some, List.filterMap_cons_some, List.filterMap_nil, turnL, h3, u_l1__law_questions, e, partsD, List.length_map, k, hd, z2, z3, qD]
  | false =>
    have hd : decide ((1 : Int) < ((kys ws (l, p)).length : Int)) = false := decide_eq_false (by have := of_decide_eq_false hq; omega)
    simp only [c_sSeq, c_sIf, c_sDrop, c_sRet, c_sRetN, c_sRet0, c_sRetV, c_sFrz, c_sSet, c_sSetL, c_sSetN, c_sPar, c_sAsg, c_sFor, c_sPut, c_sPutL, c_sPutD, c_sSdApp, c_sNx, c_sBk, c_sCt, c_eFr, c_vE, c_eC, c_eVar, c_vVar, c_aNil, c_aCons, c_eTup, c_nLst, c_eOp, c_eUn, c_nUn, c_nCat, c_nDic, c_tOf, c_tTru, c_tNot, c_tAnd, c_tOr, c_eIf, c_nIf, c_eAnd, c_eOr, c_eNot, c_tYes, c_eApp, c_ePop, c_ePopAt, c_eGet, c_eSl, c_oNo, c_oAt, c_eCall, c_nCall, c_eCallK, c_runCall, c_runCallK, c_gNil, c_gCons, c_gOwn, c_gNwc, c_iAny, c_iRange1, c_iRange2, c_eTupGx, g_d, g_sl, runGs, valR, ownR, slotD, Sl.toD, Tg.bind, Tg.binds, plainAt_b, Option.any_some, plB_un, plB_val, frzE, lstOf, dicOf, setsG, isOwn, Rl.ownsOf, nodupB, nwsOf, argSl, back_e1, back_e2, back_e3, back_e4, back_e5, backArgs, pick, itsD_lst, itsD_tup, itsD_str, itsD_dic, getD2_dic, isDicD_dic, truD, catD, eqD, eqB, neD, ltD, leD, gtD, geD, addD, subD, mulD, modD, fdivD, pow_1018, negD, isNonD, notNonD, nonB, isiD, ixD_lst, ixD_tup, ixD_scr, ixD_str, ixD_dic, lenD_lst, lenD_tup, lenD_scr, lenD_str, lenD_dic, Rl.intD, Rl.absD, tupD, listL, slD, smallI_7, smallI_48271, smallI_69621, smallI_16, smallI_17, smallI_31, lt30_65536, lt30_2, lt30_16, lt30_10, atI_0, atI_1, atI_2, ixN_0, ixN_1, ixN_2, Option.bind_some, Option.bind_none, Option.map_some, Option.map_none, List.getElem?_cons_zero, List.getElem?_cons_succ, List.set_cons_zero, List.set_cons_succ, List.replicate_succ, List.replicate_zero, List.cons_append, List.nil_append, List.append_nil, List.length_cons, List.length_nil, List.take_succ_cons, List.take_zero, List.contains_nil, Bool.not_false, Bool.not_true, Bool.and_self, Bool.true_and, Bool.and_true, Bool.false_and, Bool.and_false, Bool.true_or, Bool.or_true, Bool.false_or, Bool.or_false, Bool.false_eq_true, if_true, if_false, reduceIte, Nat.reduceAdd, Nat.reduceSub, Nat.reduceEqDiff, Nat.reduceLeDiff, Int.reduceNeg, Int.reduceLT, Int.reduceLE, Int.reducePow, Nat.reducePow, Int.reduceToNat, Nat.reduceLT, decide_true, decide_false, List.all_cons, List.all_nil, beq_self_eq_true, Option.isSome_some, List.filterMap_cons_some, List.filterMap_nil, turnL, h3, u_l1__law_questions, e, partsD, List.length_map, k, hd, z2, z3]
theorem mxc {ws : List Wd} (h : Lot ws) (s1 s2 s3 s4 : Sl) (h4 : plB s4 = true) : nLc [4] (iAny (eVar 0)) (.nm 4) tYes' (eUn lenD (vVar 4)) [.val (wD ws), s1, s2, s3, s4] = some (.lst (ws.map fun w => .int (w.length : Int)), [.val (wD ws), s1, s2, s3, s4]) := by
  refine nLc_map1 .str (σ := [.val (wD ws), s1, s2, s3, s4]) (fun w => .int (w.length : Int)) ws rfl h4 (fun w hw => ?_) (by have := h.n; omega)
  have z : szOk w.length = true := szOk_of (by have := h.w w hw; omega)
  simp only [c_sSeq, c_sIf, c_sDrop, c_sRet, c_sRetN, c_sRet0, c_sRetV, c_sFrz, c_sSet, c_sSetL, c_sSetN, c_sPar, c_sAsg, c_sFor, c_sPut, c_sPutL, c_sPutD, c_sSdApp, c_sNx, c_sBk, c_sCt, c_eFr, c_vE, c_eC, c_eVar, c_vVar, c_aNil, c_aCons, c_eTup, c_nLst, c_eOp, c_eUn, c_nUn, c_nCat, c_nDic, c_tOf, c_tTru, c_tNot, c_tAnd, c_tOr, c_eIf, c_nIf, c_eAnd, c_eOr, c_eNot, c_tYes, c_eApp, c_ePop, c_ePopAt, c_eGet, c_eSl, c_oNo, c_oAt, c_eCall, c_nCall, c_eCallK, c_runCall, c_runCallK, c_gNil, c_gCons, c_gOwn, c_gNwc, c_iAny, c_iRange1, c_iRange2, c_eTupGx, g_d, g_sl, runGs, valR, ownR, slotD, Sl.toD, Tg.bind, Tg.binds, plainAt_b, Option.any_some, plB_un, plB_val, frzE, lstOf, dicOf, setsG, isOwn, Rl.ownsOf, nodupB, nwsOf, argSl, back_e1, back_e2, back_e3, back_e4, back_e5, backArgs, pick, itsD_lst, itsD_tup, itsD_str, itsD_dic, getD2_dic, isDicD_dic, truD, catD, eqD, eqB, neD, ltD, leD, gtD, geD, addD, subD, mulD, modD, fdivD, pow_1018, negD, isNonD, notNonD, nonB, isiD, ixD_lst, ixD_tup, ixD_scr, ixD_str, ixD_dic, lenD_lst, lenD_tup, lenD_scr, lenD_str, lenD_dic, Rl.intD, Rl.absD, tupD, listL, slD, smallI_7, smallI_48271, smallI_69621, smallI_16, smallI_17, smallI_31, lt30_65536, lt30_2, lt30_16, lt30_10, atI_0, atI_1, atI_2, ixN_0, ixN_1, ixN_2, Option.bind_some, Option.bind_none, Option.map_some, Option.map_none, List.getElem?_cons_zero, List.getElem?_cons_succ, List.set_cons_zero, List.set_cons_succ, List.replicate_succ, List.replicate_zero, List.cons_append, List.nil_append, List.append_nil, List.length_cons, List.length_nil, List.take_succ_cons, List.take_zero, List.contains_nil, Bool.not_false, Bool.not_true, Bool.and_self, Bool.true_and, Bool.and_true, Bool.false_and, Bool.and_false, Bool.true_or, Bool.or_true, Bool.false_or, Bool.or_false, Bool.false_eq_true, if_true, if_false, reduceIte, Nat.reduceAdd, Nat.reduceSub, Nat.reduceEqDiff, Nat.reduceLeDiff, Int.reduceNeg, Int.reduceLT, Int.reduceLE, Int.reducePow, Nat.reducePow, Int.reduceToNat, Nat.reduceLT, decide_true, decide_false, List.all_cons, List.all_nil, beq_self_eq_true, Option.isSome_some, List.filterMap_cons_some, List.filterMap_nil, z]
theorem lq2 {ws : List Wd} (h : Lot ws) (l : Bool) (acc : List Qn) (s2 s3 s4 : Sl) (h2 : plB s2 = true) (h3 : plB s3 = true) (h4 : plB s4 = true) (ha : acc.length ≤ 200) :
    ∃ s3', plB s3' = true ∧ turnL (.nm 2) l2__law_questions (.str (eg l)) [.val (wD ws), .lst (acc.map qD), s2, s3, s4] = some (.nx, [.val (wD ws), .lst ((acc ++ (sideQ ws l).filter (isQ ws)).map qD), .val (.str (eg l)), s3', s4]) := by
  have e1 := mxc h (.lst (acc.map qD)) (.val (.str (eg l))) s3 s4 h4
  have hm := mx_le h
  have e2 : maxD (.lst (ws.map fun w => .int (w.length : Int))) = some (.int (mx ws : Int)) := by
    have := maxD_nat (l := ws.map List.length) (by simp [h.ne])
    rw [List.map_map] at this
    exact this
  have e3 : rngOk (mx ws : Int) = true := rngOk_in (by omega) (by omega)
  have e4 : rngD 0 (mx ws : Int) = (List.range (mx ws)).map fun p => .int ((p : Nat) : Int) := by
    unfold rngD
    simp
  obtain ⟨σ, e5, _, s3', r3, rfl⟩ := forL_invT (fun p : Nat => D.int (p : Int)) (t := .nm 3) (b := l1__law_questions)
    (fun done rest σ => done.length + rest.length ≤ 100 ∧ ∃ s3', plB s3' = true ∧ σ = [.val (wD ws), .lst ((acc ++ (done.map fun p => (l, p)).filter (isQ ws)).map qD), .val (.str (eg l)), s3', s4])
    (fun done p r σ hS => by
      obtain ⟨hl, s3', r3, rfl⟩ := hS
      have ll : ((done.map fun p => (l, p)).filter (isQ ws)).length ≤ done.length := Nat.le_trans (List.length_filter_le _ _) (by simp)
      simp only [List.length_cons] at hl
      have := lq1 h l p ((acc ++ (done.map fun p => (l, p)).filter (isQ ws)).map qD) s3' s4 r3 (by rw [List.length_map, List.length_append]; omega)
      refine ⟨_, _, this, rfl, by simp; omega, .val (.int (p : Int)), rfl, ?_⟩
      cases hq : isQ ws (l, p) <;> simp [hq, List.filter_append])
    (List.range (mx ws)) [] [.val (wD ws), .lst (acc.map qD), .val (.str (eg l)), s3, s4] ⟨by simp; omega, s3, h3, by simp⟩
  refine ⟨s3', r3, ?_⟩
  rw [List.nil_append] at e5
  simp only [c_sSeq, c_sIf, c_sDrop, c_sRet, c_sRetN, c_sRet0, c_sRetV, c_sFrz, c_sSet, c_sSetL, c_sSetN, c_sPar, c_sAsg, c_sFor, c_sPut, c_sPutL, c_sPutD, c_sSdApp, c_sNx, c_sBk, c_sCt, c_eFr, c_vE, c_eC, c_eVar, c_vVar, c_aNil, c_aCons, c_eTup, c_nLst, c_eOp, c_eUn, c_nUn, c_nCat, c_nDic, c_tOf, c_tTru, c_tNot, c_tAnd, c_tOr, c_eIf, c_nIf, c_eAnd, c_eOr, c_eNot, c_tYes, c_eApp, c_ePop, c_ePopAt, c_eGet, c_eSl, c_oNo, c_oAt, c_eCall, c_nCall, c_eCallK, c_runCall, c_runCallK, c_gNil, c_gCons, c_gOwn, c_gNwc, c_iAny, c_iRange1, c_iRange2, c_eTupGx, g_d, g_sl, runGs, valR, ownR, slotD, Sl.toD, Tg.bind, Tg.binds, plainAt_b, Option.any_some, plB_un, plB_val, frzE, lstOf, dicOf, setsG, isOwn, Rl.ownsOf, nodupB, nwsOf, argSl, back_e1, back_e2, back_e3, back_e4, back_e5, backArgs, pick, itsD_lst, itsD_tup, itsD_str, itsD_dic, getD2_dic, isDicD_dic, truD, catD, eqD, eqB, neD, ltD, leD, gtD, geD, addD, subD, mulD, modD, fdivD, pow_1018, negD, isNonD, notNonD, nonB, isiD, ixD_lst, ixD_tup, ixD_scr, ixD_str, ixD_dic, lenD_lst, lenD_tup, lenD_scr, lenD_str, lenD_dic, Rl.intD, Rl.absD, tupD, listL, slD, smallI_7, smallI_48271, smallI_69621, smallI_16, smallI_17, smallI_31, lt30_65536, lt30_2, lt30_16, lt30_10, atI_0, atI_1, atI_2, ixN_0, ixN_1, ixN_2, Option.bind_some, Option.bind_none, Option.map_some, Option.map_none, List.getElem?_cons_zero, List.getElem?_cons_succ, List.set_cons_zero, List.set_cons_succ, List.replicate_succ, List.replicate_zero, List.cons_append, List.nil_append, List.append_nil, List.length_cons, List.length_nil, List.take_succ_cons, List.take_zero, List.contains_nil, Bool.not_false, Bool.not_true, Bool.and_self, Bool.true_and, Bool.and_true, Bool.false_and, Bool.and_false, Bool.true_or, Bool.or_true, Bool.false_or, Bool.or_false, Bool.false_eq_true, if_true, if_false, reduceIte, Nat.reduceAdd, Nat.reduceSub, Nat.reduceEqDiff, Nat.reduceLeDiff, Int.reduceNeg, Int.reduceLT, Int.reduceLE, Int.reducePow, Nat.reducePow, Int.reduceToNat, Nat.reduceLT, decide_true, decide_false, List.all_cons, List.all_nil, beq_self_eq_true, Option.isSome_some, List.filterMap_cons_some, List.filterMap_nil, turnL, h2, u_l2__law_questions, e1, e2, e3, e4, e5, sideQ]
theorem questions_ok {ws : List Wd} (h : Lot ws) : ∃ outs, F__law_questions [.val (wD ws)] = some (.val (.lst ((qs ws).map qD)), outs) := by
  have hm := mx_le h
  obtain ⟨s3, r3, e1⟩ := lq2 h true [] .un .un .un rfl rfl rfl (by simp)
  obtain ⟨s3', r3', e2⟩ := lq2 h false ((sideQ ws true).filter (isQ ws)) (.val (.str (eg true))) s3 .un rfl r3 rfl (by
    have : ((sideQ ws true).filter (isQ ws)).length ≤ (sideQ ws true).length := List.length_filter_le _ _
    simp [sideQ] at this ⊢
    omega)
  have e3a := forL_cons_go (ds := [.str (eg false)]) e1 rfl
  have e3b := forL_cons_go (ds := []) e2 rfl
  simp only [List.nil_append] at e3a
  have e3 := (e3a.trans e3b).trans (forL_nil _ _ _)
  simp only [eg, List.map_nil, if_true, Bool.false_eq_true, if_false] at e3
  have z2 : szOk 2 = true := szOk_of (by omega)
  have z0 : szOk 0 = true := szOk_of (by omega)
  unfold F__law_questions fnOf b__law_questions
  simp only [c_sSeq, c_sIf, c_sDrop, c_sRet, c_sRetN, c_sRet0, c_sRetV, c_sFrz, c_sSet, c_sSetL, c_sSetN, c_sPar, c_sAsg, c_sFor, c_sPut, c_sPutL, c_sPutD, c_sSdApp, c_sNx, c_sBk, c_sCt, c_eFr, c_vE, c_eC, c_eVar, c_vVar, c_aNil, c_aCons, c_eTup, c_nLst, c_eOp, c_eUn, c_nUn, c_nCat, c_nDic, c_tOf, c_tTru, c_tNot, c_tAnd, c_tOr, c_eIf, c_nIf, c_eAnd, c_eOr, c_eNot, c_tYes, c_eApp, c_ePop, c_ePopAt, c_eGet, c_eSl, c_oNo, c_oAt, c_eCall, c_nCall, c_eCallK, c_runCall, c_runCallK, c_gNil, c_gCons, c_gOwn, c_gNwc, c_iAny, c_iRange1, c_iRange2, c_eTupGx, g_d, g_sl, runGs, valR, ownR, slotD, Sl.toD, Tg.bind, Tg.binds, plainAt_b, Option.any_some, plB_un, plB_val, frzE, lstOf, dicOf, setsG, isOwn, Rl.ownsOf, nodupB, nwsOf, argSl, back_e1, back_e2, back_e3, back_e4, back_e5, backArgs, pick, itsD_lst, itsD_tup, itsD_str, itsD_dic, getD2_dic, isDicD_dic, truD, catD, eqD, eqB, neD, ltD, leD, gtD, geD, addD, subD, mulD, modD, fdivD, pow_1018, negD, isNonD, notNonD, nonB, isiD, ixD_lst, ixD_tup, ixD_scr, ixD_str, ixD_dic, lenD_lst, lenD_tup, lenD_scr, lenD_str, lenD_dic, Rl.intD, Rl.absD, tupD, listL, slD, smallI_7, smallI_48271, smallI_69621, smallI_16, smallI_17, smallI_31, lt30_65536, lt30_2, lt30_16, lt30_10, atI_0, atI_1, atI_2, ixN_0, ixN_1, ixN_2, Option.bind_some, Option.bind_none, Option.map_some, Option.map_none, List.getElem?_cons_zero, List.getElem?_cons_succ, List.set_cons_zero, List.set_cons_succ, List.replicate_succ, List.replicate_zero, List.cons_append, List.nil_append, List.append_nil, List.length_cons, List.length_nil, List.take_succ_cons, List.take_zero, List.contains_nil, Bool.not_false, Bool.not_true, Bool.and_self, Bool.true_and, Bool.and_true, Bool.false_and, Bool.and_false, Bool.true_or, Bool.or_true, Bool.false_or, Bool.or_false, Bool.false_eq_true, if_true, if_false, reduceIte, Nat.reduceAdd, Nat.reduceSub, Nat.reduceEqDiff, Nat.reduceLeDiff, Int.reduceNeg, Int.reduceLT, Int.reduceLE, Int.reducePow, Nat.reducePow, Int.reduceToNat, Nat.reduceLT, decide_true, decide_false, List.all_cons, List.all_nil, beq_self_eq_true, Option.isSome_some, List.filterMap_cons_some, List.filterMap_nil, z0, z2, e3, forL_nil]
  rw [qs, List.filter_append]
  exact ⟨_, rfl⟩
end P82
end

set_option linter.all false
set_option maxRecDepth 100000
set_option autoImplicit false
set_option maxHeartbeats 1000000
noncomputable section
namespace P82
open PySem L2 Rl
/-! ### the lots that can come -/
theorem wD_inj (a b : List Wd) (h : wD a = wD b) : a = b := by
  unfold wD at h
  injection h with h
  exact (List.map_inj_right (fun x y e => by injection e)).mp h
theorem wD_key (a b : List Wd) : kEq (wD a) (wD b) = decide (a = b) := kEqs_strs a b
theorem wD_isKey (a : List Wd) : isKey true (wD a) = true := keys_strs a
theorem wD_pure (a : List Wd) : pureB (wD a) = true := by
  show pureBs _ = true
  rw [pureBs_iff]
  intro d hd
  obtain ⟨w, _, rfl⟩ := List.mem_map.mp hd
  rfl
theorem wD_sh {a : List Wd} (h : ∀ w ∈ a, Cps w) : ShN 1 (wD a) := ShN.tup (shNs_map fun w hw => ShN.str (h w hw))
theorem Lot.sub {W s : List Wd} (h : Lot W) (hs : s.Sublist W) (hne : s ≠ []) : Lot s :=
  ⟨fun w hw => h.w w (hs.subset hw), fun w hw => h.c w (hs.subset hw), Nat.le_trans hs.length_le h.n, hne, h.nd.sublist hs⟩
/-- different lots, each part of W -/
structure Lots (W : List Wd) (ls : List (List Wd)) : Prop where
  nd : ls.Nodup
  sub : ∀ s ∈ ls, s.Sublist W ∧ s ≠ []
theorem Lots.len {W : List Wd} {ls : List (List Wd)} (h : Lots W ls) (hW : W.length ≤ 12) : ls.length ≤ 4096 := by
  have h1 := nodup_le h.nd fun x hx => mem_subs (h.sub x hx).1
  rw [subs_len] at h1
  have h2 : 2 ^ W.length ≤ 2 ^ 12 := Nat.pow_le_pow_right (by omega) hW
  omega
theorem in_lots {W : List Wd} (hW : Lot W) {ls : List (List Wd)} (h : ∀ s ∈ ls, s.Sublist W ∧ s ≠ []) {s : List Wd} (hs : s.Sublist W) : inB (wD s) (.lst (ls.map wD)) = some (decide (s ∈ ls)) := by
  refine inB_lst (n := 1) wD_inj (fun _ => rfl) wD_pure (fun a ha => wD_sh fun w hw => hW.c w ?_) (by omega)
  rcases List.mem_cons.mp ha with rfl | ha
  · exact hs.subset hw
  · exact (h a ha).1.subset hw
/-- the lots with the parts of one question -/
def addP (ls : List (List Wd)) (ws : List Wd) (q : Qn) : List (List Wd) := ls ++ ((kys ws q).filter fun k => !decide (prt ws q k ∈ ls)).map (prt ws q)
theorem mem_addP {ls : List (List Wd)} {ws : List Wd} {q : Qn} {s : List Wd} : s ∈ addP ls ws q ↔ s ∈ ls ∨ ∃ k ∈ kys ws q, prt ws q k = s := by
  unfold addP
  rw [List.mem_append, List.mem_map]
  constructor
  · rintro (h | ⟨k, hk, rfl⟩)
    · exact .inl h
    · exact .inr ⟨k, (List.mem_filter.mp hk).1, rfl⟩
  · rintro (h | ⟨k, hk, rfl⟩)
    · exact .inl h
    · by_cases hm : prt ws q k ∈ ls
      · exact .inl hm
      · exact .inr ⟨k, List.mem_filter.mpr ⟨hk, by simpa using hm⟩, rfl⟩
theorem prt_inj {ws : List Wd} {q : Qn} {j k : Wd} (hj : j ∈ kys ws q) (h : prt ws q j = prt ws q k) : j = k := by
  obtain ⟨w, hw⟩ := List.exists_mem_of_ne_nil _ (prt_ne hj)
  have h1 := (mem_prt.mp hw).2
  rw [h] at hw
  exact h1.symm.trans (mem_prt.mp hw).2
theorem Lots.addP {W : List Wd} {ls : List (List Wd)} (h : Lots W ls) {ws : List Wd} (hs : ws.Sublist W) (q : Qn) : Lots W (addP ls ws q) where
  nd := by
    unfold P82.addP
    rw [List.nodup_append]
    refine ⟨h.nd, ?_, ?_⟩
    · have hn : ((kys ws q).filter fun k => !decide (prt ws q k ∈ ls)).Nodup := (kys_nodup ws q).sublist List.filter_sublist
      rw [List.Nodup, List.pairwise_map]
      refine hn.imp_of_mem ?_
      intro a b ha _ hab e
      exact hab (prt_inj (List.mem_filter.mp ha).1 e)
    · rintro a ha b hb rfl
      obtain ⟨k, hk, rfl⟩ := List.mem_map.mp hb
      have := (List.mem_filter.mp hk).2
      simp [ha] at this
  sub := fun s hs' => by
    rcases mem_addP.mp hs' with x | ⟨k, hk, rfl⟩
    · exact h.sub s x
    · exact ⟨(prt_sub ws q k).trans hs, prt_ne hk⟩
/-- one question of a lot: the lots grow -/
theorem ln2 {W : List Wd} (hW : Lot W) (h12 : W.length ≤ 12) {ls : List (List Wd)} (h : Lots W ls) {ws : List Wd} {i : Nat} (hi : ls[i]? = some ws) (q : Qn) (T s3 s4 s5 s6 s7 s8 s9 s10 s11 : Sl)
    (h4 : plB s4 = true) (h5 : plB s5 = true) (h11 : plB s11 = true) :
    turnL (.tp [.nm 4, .nm 5]) l2__law_least_numbers (qD q) [T, .val (.lst (ls.map wD)), .val (.int (i : Int)), s3, s4, s5, s6, s7, s8, s9, s10, s11] =
      some (.nx, [T, .val (.lst ((addP ls ws q).map wD)), .val (.int (i : Int)), s3, .val (.str (eg q.1)), .val (.int (q.2 : Int)), .val (partsD ws q.1 q.2), s7, s8, s9, s10, s11]) := by
  have hm := h.sub ws (List.mem_of_getElem? hi)
  have hl := hW.sub hm.1 hm.2
  obtain ⟨outs, e⟩ := parts_ok ws q.1 q.2 hl.w hl.n
  have hlen : i < (ls.map wD).length := by rw [List.length_map]; exact (List.getElem?_eq_some_iff.mp hi).1
  have e1 : atI (ls.map wD) (i : Int) = some (wD ws) := by
    rw [atI_in hlen]
    have := (List.getElem?_eq_some_iff.mp hi).2
    simp [this]
  have kk : (ksOf (ansW · q.1 q.2) ws) = kys ws q := rfl
  have gg : (fun k => wD (grp (ansW · q.1 q.2) ws k)) = fun k => wD (prt ws q k) := rfl
  have l1 := (h.addP hm.1 q).len h12
  have l2 := kys_len hl q
  have lk : ∀ k ∈ kys ws q, lookD ((kys ws q).map .str) ((kys ws q).map fun k => wD (prt ws q k)) (.str k) = some (wD (prt ws q k)) := fun k hk => by
    rw [look_fn Rl.kEq_str]; simp [hk]
  have e2 : nLc [11] (iAny (eVar 6)) (.nm 11) t1__law_least_numbers (eOp ixD (vVar 6) (vVar 11)) [T, .val (.lst (ls.map wD)), .val (.int (i : Int)), s3, .val (.str (eg q.1)), .val (.int (q.2 : Int)), .val (partsD ws q.1 q.2), s7, s8, s9, s10, s11] =
      some (.lst ((((kys ws q).filter fun k => !decide (prt ws q k ∈ ls)).map fun k => wD (prt ws q k))), [T, .val (.lst (ls.map wD)), .val (.int (i : Int)), s3, .val (.str (eg q.1)), .val (.int (q.2 : Int)), .val (partsD ws q.1 q.2), s7, s8, s9, s10, s11]) := by
    refine nLc_pure1 .str (fun k => !decide (prt ws q k ∈ ls)) (fun k => wD (prt ws q k)) (kys ws q) rfl h11 (fun k hk => ?_) (fun k hk _ => ?_) (by omega)
    · have k1 : isKey false (.str k) = true := rfl
      have e3 := in_lots hW h.sub ((prt_sub ws q k).trans hm.1)
      simp only [c_sSeq, c_sIf, c_sDrop, c_sRet, c_sRetN, c_sRet0, c_sRetV, c_sFrz, c_sSet, c_sSetL, c_sSetN, c_sPar, c_sAsg, c_sFor, c_sPut, c_sPutL, c_sPutD, c_sSdApp, c_sNx, c_sBk, c_sCt, c_eFr, c_vE, c_eC, c_eVar, c_vVar, c_aNil, c_aCons, c_eTup, c_nLst, c_eOp, c_eUn, c_nUn, c_nCat, c_nDic, c_tOf, c_tTru, c_tNot, c_tAnd, c_tOr, c_eIf, c_nIf, c_eAnd, c_eOr, c_eNot, c_tYes, c_eApp, c_ePop, c_ePopAt, c_eGet, c_eSl, c_oNo, c_oAt, c_eCall, c_nCall, c_eCallK, c_runCall, c_runCallK, c_gNil, c_gCons, c_gOwn, c_gNwc, c_iAny, c_iRange1, c_iRange2, c_eTupGx, g_d, g_sl, runGs, valR, ownR, slotD, Sl.toD, Tg.bind, Tg.binds, plainAt_b, Option.any_some, plB_un, plB_val, frzE, lstOf, dicOf, setsG, isOwn, Rl.ownsOf, nodupB, nwsOf, argSl, back_e1, back_e2, back_e3, back_e4, back_e5, backArgs, pick, itsD_lst, itsD_tup, itsD_str, itsD_dic, getD2_dic, isDicD_dic, truD, catD, eqD, eqB, neD, ltD, leD, gtD, geD, addD, subD, mulD, modD, fdivD, pow_1018, negD, isNonD, notNonD, nonB, isiD, ixD_lst, ixD_tup, ixD_scr, ixD_str, ixD_dic, lenD_lst, lenD_tup, lenD_scr, lenD_str, lenD_dic, Rl.intD, Rl.absD, tupD, listL, slD, smallI_7, smallI_48271, smallI_69621, smallI_16, smallI_17, smallI_31, lt30_65536, lt30_2, lt30_16, lt30_10, atI_0, atI_1, atI_2, ixN_0, ixN_1, ixN_2, Option.bind_some, Option.bind_none, Option.map_some, Option.map_none, List.getElem?_cons_zero, List.getElem?_cons_succ, List.set_cons_zero, List.set_cons_succ, List.replicate_succ, List.replicate_zero, List.cons_append, List.nil_append, List.append_nil, List.length_cons, List.length_nil, List.take_succ_cons, List.take_zero, List.contains_nil, Bool.not_false, Bool.not_true, Bool.and_self, Bool.true_and, Bool.and_true, Bool.false_and, Bool.and_false, Bool.true_or, Bool.or_true, Bool.false_or, Bool.or_false, Bool.false_eq_true, if_true, if_false, reduceIte, Nat.reduceAdd, Nat.reduceSub, Nat.reduceEqDiff, Nat.reduceLeDiff, Int.reduceNeg, Int.reduceLT, Int.reduceLE, Int.reducePow, Nat.reducePow, Int.reduceToNat, Nat.reduceLT, decide_true, decide_false, List.all_cons, List.all_nil, beq_self_eq_true, Option.isSome_some, List.filterMap_cons_some, List.filterMap_nil, u_t1__law_least_numbers, partsD, kk, gg, lk k hk, k1, ninD, e3]
    · have k1 : isKey false (.str k) = true := rfl
      simp only [c_sSeq, c_sIf, c_sDrop, c_sRet, c_sRetN, c_sRet0, c_sRetV, c_sFrz, c_sSet, c_sSetL, c_sSetN, c_sPar, c_sAsg, c_sFor, c_sPut, c_sPutL, c_sPutD, c_sSdApp, c_sNx, c_sBk, c_sCt, c_eFr, c_vE, c_eC, c_eVar, c_vVar, c_aNil, c_aCons, c_eTup, c_nLst, c_eOp, c_eUn, c_nUn, c_nCat, c_nDic, c_tOf, c_tTru, c_tNot, c_tAnd, c_tOr, c_eIf, c_nIf, c_eAnd, c_eOr, c_eNot, c_tYes, c_eApp, c_ePop, c_ePopAt, c_eGet, c_eSl, c_oNo, c_oAt, c_eCall, c_nCall, c_eCallK, c_runCall, c_runCallK, c_gNil, c_gCons, c_gOwn, c_gNwc, c_iAny, c_iRange1, c_iRange2, c_eTupGx, g_d, g_sl, runGs, valR, ownR, slotD, Sl.toD, Tg.bind, Tg.binds, plainAt_b, Option.any_some, plB_un, plB_val, frzE, lstOf, dicOf, setsG, isOwn, Rl.ownsOf, nodupB, nwsOf, argSl, back_e1, back_e2, back_e3, back_e4, back_e5, backArgs, pick, itsD_lst, itsD_tup, itsD_str, itsD_dic, getD2_dic, isDicD_dic, truD, catD, eqD, eqB, neD, ltD, leD, gtD, geD, addD, subD, mulD, modD, fdivD, pow_1018, negD, isNonD, notNonD, nonB, isiD, ixD_lst, ixD_tup, ixD_scr, ixD_str, ixD_dic, lenD_lst, lenD_tup, lenD_scr, lenD_str, lenD_dic, Rl.intD, Rl.absD, tupD, listL, slD, smallI_7, smallI_48271, smallI_69621, smallI_16, smallI_17, smallI_31, lt30_65536, lt30_2, lt30_16, lt30_10, atI_0, atI_1, atI_2, ixN_0, ixN_1, ixN_2, Option.bind_some, Option.bind_none, Option.map_some, Option.map_none, List.getElem?_cons_zero, List.getElem?_cons_succ, List.set_cons_zero, List.set_cons_succ, List.replicate_succ, List.replicate_zero, List.cons_append, List.nil_append, List.append_nil, List.length_cons, List.length_nil, List.take_succ_cons, List.take_zero, List.contains_nil, Bool.not_false, Bool.not_true, Bool.and_self, Bool.true_and, Bool.and_true, Bool.false_and, Bool.and_false, Bool.true_or, Bool.or_true, Bool.false_or, Bool.or_false, Bool.false_eq_true, if_true, if_false, reduceIte, Nat.reduceAdd, Nat.reduceSub, Nat.reduceEqDiff, Nat.reduceLeDiff, Int.reduceNeg, Int.reduceLT, Int.reduceLE, Int.reducePow, Nat.reducePow, Int.reduceToNat, Nat.reduceLT, decide_true, decide_false, List.all_cons, List.all_nil, beq_self_eq_true, Option.isSome_some, List.filterMap_cons_some, List.filterMap_nil, partsD, kk, gg, lk k hk, k1]
  have z : szOk ((ls.map wD).length + (((kys ws q).filter fun k => !decide (prt ws q k ∈ ls)).map fun k => wD (prt ws q k)).length) = true := szOk_of (by
    unfold addP at l1
    simp only [List.length_append, List.length_map] at l1 ⊢
    omega)
  have e3 : ls.map wD ++ (((kys ws q).filter fun k => !decide (prt ws q k ∈ ls)).map fun k => wD (prt ws q k)) = (addP ls ws q).map wD := by
    unfold addP
    rw [List.map_append, List.map_map]
    rfl
  simp only [c_sSeq, c_sIf, c_sDrop, c_sRet, c_sRetN, c_sRet0, c_sRetV, c_sFrz, c_sSet, c_sSetL, c_sSetN, c_sPar, c_sAsg, c_sFor, c_sPut, c_sPutL, c_sPutD, c_sSdApp, c_sNx, c_sBk, c_sCt, c_eFr, c_vE, c_eC, c_eVar, c_vVar, c_aNil, c_aCons, c_eTup, c_nLst, c_eOp, c_eUn, c_nUn, c_nCat, c_nDic, c_tOf, c_tTru, c_tNot, c_tAnd, c_tOr, c_eIf, c_nIf, c_eAnd, c_eOr, c_eNot, c_tYes, c_eApp, c_ePop, c_ePopAt, c_eGet, c_eSl, c_oNo, c_oAt, c_eCall, c_nCall, c_eCallK, c_runCall, c_runCallK, c_gNil, c_gCons, c_gOwn, c_gNwc, c_iAny, c_iRange1, c_iRange2, c_eTupGx, g_d, g_sl, runGs, valR, ownR, slotD, Sl.toD, Tg.bind, Tg.binds, plainAt_b, Option.any_some, plB_un, plB_val, frzE, lstOf, dicOf, setsG, isOwn, Rl.ownsOf, nodupB, nwsOf, argSl, back_e1, back_e2, back_e3, back_e4, back_e5, backArgs, pick, itsD_lst, itsD_tup, itsD_str, itsD_dic, getD2_dic, isDicD_dic, truD, catD, eqD, eqB, neD, ltD, leD, gtD, geD, addD, subD, mulD, modD, fdivD, pow_1018, negD, isNonD, notNonD, nonB, isiD, ixD_lst, ixD_tup, ixD_scr, ixD_str, ixD_dic, lenD_lst, lenD_tup, lenD_scr, lenD_str, lenD_dic, Rl.intD, Rl.absD, tupD, listL, slD, smallI_7, smallI_48271, smallI_69621, smallI_16, smallI_17, smallI_31, lt30_65536, lt30_2, lt30_16, lt30_10, atI_0, atI_1, atI_2, ixN_0, ixN_1, ixN_2, Option.bind_some, Option.bind_none, Option.map_some, Option.map_none, List.getElem?_cons_zero, List.getElem?_cons_succ, List.set_cons_zero, List.set_cons_succ, List.replicate_succ, List.replicate_zero, List.cons_append, List.nil_append, List.append_nil, List.length_cons, List.length_nil, List.take_succ_cons, List.take_zero, List.contains_nil, Bool.not_false, Bool.not_true, Bool.and_self, Bool.true_and, Bool.and_true, Bool.false_and, Bool.and_false, Bool.true_or, Bool.or_true, Bool.false_or, Bool.or_false, Bool.false_eq_true, if_true, if_false, reduceIte, Nat.reduceAdd, Nat.reduceSub, Nat.reduceEqDiff, Nat.reduceLeDiff, Int.reduceNeg, Int.reduceLT, Int.reduceLE, Int.reducePow, Nat.reducePow, Int.reduceToNat, Nat.reduceLT, decide_true, decide_false, List.all_cons, List.all_nil, beq_self_eq_true, Option.isSome_some, List.filterMap_cons_some, List.filterMap_nil, turnL, qD, h4, h5, u_l2__law_least_numbers, e1, e, e2, z, e3]
end P82
end

set_option linter.all false
set_option maxRecDepth 100000
set_option autoImplicit false
set_option maxHeartbeats 1000000
noncomputable section
namespace P82
open PySem L2 Rl
/-- parts of lots are lots -/
def Closed (ls : List (List Wd)) : Prop := ∀ ws ∈ ls, ∀ q ∈ qs ws, ∀ k ∈ kys ws q, prt ws q k ∈ ls
structure LnI (W : List Wd) (i : Nat) (ls : List (List Wd)) : Prop where
  lots : Lots W ls
  win : W ∈ ls
  le : i ≤ ls.length
  cl : ∀ j ws, j < i → ls[j]? = some ws → ∀ q ∈ qs ws, ∀ k ∈ kys ws q, prt ws q k ∈ ls
theorem qs_len {ws : List Wd} (h : Lot ws) : (qs ws).length ≤ 200 := by
  have := mx_le h
  have h2 : (qs ws).length ≤ (sideQ ws true ++ sideQ ws false).length := List.length_filter_le _ _
  simp [sideQ] at h2
  omega
/-- a lot's questions: the lots grow by all its parts -/
theorem ln3 {W : List Wd} (hW : Lot W) (h12 : W.length ≤ 12) {ls : List (List Wd)} {i : Nat} (h : LnI W i ls) (hi : i < ls.length) (T s3 s4 s5 s6 : Sl) (h3 : plB s3 = true) (h4 : plB s4 = true) (h5 : plB s5 = true) (x : Int) :
    ∃ ls' s4' s5' s6', turnL (.nm 3) l3__law_least_numbers (.int x) [T, .val (.lst (ls.map wD)), .val (.int (i : Int)), s3, s4, s5, s6, .un, .un, .un, .un, .un] =
      some (.nx, [T, .val (.lst (ls'.map wD)), .val (.int ((i + 1 : Nat) : Int)), .val (.int x), s4', s5', s6', .un, .un, .un, .un, .un]) ∧ LnI W (i + 1) ls' ∧ plB s4' = true ∧ plB s5' = true := by
  obtain ⟨ws, hws⟩ : ∃ ws, ls[i]? = some ws := ⟨_, List.getElem?_eq_getElem hi⟩
  have hm := h.lots.sub ws (List.mem_of_getElem? hws)
  have hl := hW.sub hm.1 hm.2
  obtain ⟨outs, e⟩ := questions_ok hl
  have hlen : i < (ls.map wD).length := by rw [List.length_map]; exact hi
  have e1 : atI (ls.map wD) (i : Int) = some (wD ws) := by
    rw [atI_in hlen]
    have := (List.getElem?_eq_some_iff.mp hws).2
    simp [this]
  have e2 : decide ((((ls.map wD).length : Nat) : Int) ≤ (i : Int)) = false := decide_eq_false (by rw [List.length_map]; omega)
  obtain ⟨σ, e3, ls', hL, ⟨t, rfl⟩, hc, s4', s5', s6', p4, p5, rfl⟩ := forL_invT qD (t := .tp [.nm 4, .nm 5]) (b := l2__law_least_numbers)
    (fun done rest σ => ∃ ls', Lots W ls' ∧ (∃ t, ls' = ls ++ t) ∧ (∀ q ∈ done, ∀ k ∈ kys ws q, prt ws q k ∈ ls') ∧ ∃ s4 s5 s6, plB s4 = true ∧ plB s5 = true ∧ σ = [T, .val (.lst (ls'.map wD)), .val (.int (i : Int)), .val (.int x), s4, s5, s6, .un, .un, .un, .un, .un])
    (fun done q r σ hS => by
      obtain ⟨ls', hL, ⟨t, rfl⟩, hc, s4', s5', s6', p4, p5, rfl⟩ := hS
      have hw2 : (ls ++ t)[i]? = some ws := by rw [List.getElem?_append_left hi]; exact hws
      refine ⟨_, _, ln2 hW h12 hL hw2 q T (.val (.int x)) s4' s5' s6' .un .un .un .un .un p4 p5 rfl, rfl, addP (ls ++ t) ws q, hL.addP hm.1 q, ?_, ?_, _, _, _, rfl, rfl, rfl⟩
      · unfold addP
        exact ⟨_, List.append_assoc _ _ _⟩
      · intro q' hq' k hk
        rcases List.mem_append.mp hq' with z | z
        · exact mem_addP.mpr (.inl (hc q' z k hk))
        · rw [List.mem_singleton.mp z] at hk ⊢
          exact mem_addP.mpr (.inr ⟨k, hk, rfl⟩))
    (qs ws) [] [T, .val (.lst (ls.map wD)), .val (.int (i : Int)), .val (.int x), s4, s5, s6, .un, .un, .un, .un, .un] ⟨ls, h.lots, ⟨[], by simp⟩, by simp, s4, s5, s6, h4, h5, rfl⟩
  refine ⟨ls ++ t, s4', s5', s6', ?_, ⟨hL, List.mem_append.mpr (.inl h.win), by simp; omega, ?_⟩, p4, p5⟩
  · have e4 : ((i + 1 : Nat) : Int) = (i : Int) + 1 := by omega
    simp only [c_sSeq, c_sIf, c_sDrop, c_sRet, c_sRetN, c_sRet0, c_sRetV, c_sFrz, c_sSet, c_sSetL, c_sSetN, c_sPar, c_sAsg, c_sFor, c_sPut, c_sPutL, c_sPutD, c_sSdApp, c_sNx, c_sBk, c_sCt, c_eFr, c_vE, c_eC, c_eVar, c_vVar, c_aNil, c_aCons, c_eTup, c_nLst, c_eOp, c_eUn, c_nUn, c_nCat, c_nDic, c_tOf, c_tTru, c_tNot, c_tAnd, c_tOr, c_eIf, c_nIf, c_eAnd, c_eOr, c_eNot, c_tYes, c_eApp, c_ePop, c_ePopAt, c_eGet, c_eSl, c_oNo, c_oAt, c_eCall, c_nCall, c_eCallK, c_runCall, c_runCallK, c_gNil, c_gCons, c_gOwn, c_gNwc, c_iAny, c_iRange1, c_iRange2, c_eTupGx, g_d, g_sl, runGs, valR, ownR, slotD, Sl.toD, Tg.bind, Tg.binds, plainAt_b, Option.any_some, plB_un, plB_val, frzE, lstOf, dicOf, setsG, isOwn, Rl.ownsOf, nodupB, nwsOf, argSl, back_e1, back_e2, back_e3, back_e4, back_e5, backArgs, pick, itsD_lst, itsD_tup, itsD_str, itsD_dic, getD2_dic, isDicD_dic, truD, catD, eqD, eqB, neD, ltD, leD, gtD, geD, addD, subD, mulD, modD, fdivD, pow_1018, negD, isNonD, notNonD, nonB, isiD, ixD_lst, ixD_tup, ixD_scr, ixD_str, ixD_dic, lenD_lst, lenD_tup, lenD_scr, lenD_str, lenD_dic, Rl.intD, Rl.absD, tupD, listL, slD, smallI_7, smallI_48271, smallI_69621, smallI_16, smallI_17, smallI_31, lt30_65536, lt30_2, lt30_16, lt30_10, atI_0, atI_1, atI_2, ixN_0, ixN_1, ixN_2, Option.bind_some, Option.bind_none, Option.map_some, Option.map_none, List.getElem?_cons_zero, List.getElem?_cons_succ, List.set_cons_zero, List.set_cons_succ, List.replicate_succ, List.replicate_zero, List.cons_append, List.nil_append, List.append_nil, List.length_cons, List.length_nil, List.take_succ_cons, List.take_zero, List.contains_nil, Bool.not_false, Bool.not_true, Bool.and_self, Bool.true_and, Bool.and_true, Bool.false_and, Bool.and_false, Bool.true_or, Bool.or_true, Bool.false_or, Bool.or_false, Bool.false_eq_true, if_true, if_false, reduceIte, Nat.reduceAdd, Nat.reduceSub, Nat.reduceEqDiff, Nat.reduceLeDiff, Int.reduceNeg, Int.reduceLT, Int.reduceLE, Int.reducePow, Nat.reducePow, Int.reduceToNat, Nat.reduceLT, decide_true, decide_false, List.all_cons, List.all_nil, beq_self_eq_true, Option.isSome_some, List.filterMap_cons_some, List.filterMap_nil, turnL, h3, u_l3__law_least_numbers, e2, e1, e, e3, e4]
  · intro j v hj hv q hq k hk
    by_cases hji : j < i
    · rw [List.getElem?_append_left (by omega)] at hv
      exact List.mem_append.mpr (.inl (h.cl j v hji hv q hq k hk))
    · have : j = i := by omega
      subst this
      rw [List.getElem?_append_left hi, hws] at hv
      cases hv
      exact hc q (by simpa using hq) k hk
theorem ln_loop {W : List Wd} (hW : Lot W) (h12 : W.length ≤ 12) (T : Sl) : ∀ (ds : List Int) (i : Nat) (ls : List (List Wd)) (s3 s4 s5 s6 : Sl), LnI W i ls → 4097 ≤ i + ds.length → plB s3 = true → plB s4 = true → plB s5 = true →
    ∃ ls' a s3' s4' s5' s6', forL (.nm 3) l3__law_least_numbers (ds.map .int) [T, .val (.lst (ls.map wD)), .val (.int (i : Int)), s3, s4, s5, s6, .un, .un, .un, .un, .un] =
      some (.nx, [T, .val (.lst (ls'.map wD)), a, s3', s4', s5', s6', .un, .un, .un, .un, .un]) ∧ Lots W ls' ∧ W ∈ ls' ∧ Closed ls' ∧ plB s4' = true ∧ plB s5' = true
  | [], i, ls, s3, s4, s5, s6, h, hn, _, _, _ => by
    have := h.lots.len h12
    have := h.le
    simp at hn
    omega
  | x :: ds, i, ls, s3, s4, s5, s6, h, hn, h3, h4, h5 => by
    by_cases hi : i < ls.length
    · obtain ⟨ls1, s4', s5', s6', e, h1, p4, p5⟩ := ln3 hW h12 h hi T s3 s4 s5 s6 h3 h4 h5 x
      obtain ⟨ls', a, s3'', s4'', s5'', s6'', e2, r⟩ := ln_loop hW h12 T ds (i + 1) ls1 (.val (.int x)) s4' s5' s6' h1 (by simp at hn; omega) rfl p4 p5
      exact ⟨ls', a, s3'', s4'', s5'', s6'', (forL_cons_go e rfl).trans e2, r⟩
    · have e2 : decide ((((ls.map wD).length : Nat) : Int) ≤ (i : Int)) = true := decide_eq_true (by rw [List.length_map]; omega)
      have e : turnL (.nm 3) l3__law_least_numbers (.int x) [T, .val (.lst (ls.map wD)), .val (.int (i : Int)), s3, s4, s5, s6, .un, .un, .un, .un, .un] = some (.bk, [T, .val (.lst (ls.map wD)), .val (.int (i : Int)), .val (.int x), s4, s5, s6, .un, .un, .un, .un, .un]) := by
        simp only [c_sSeq, c_sIf, c_sDrop, c_sRet, c_sRetN, c_sRet0, c_sRetV, c_sFrz, c_sSet, c_sSetL, c_sSetN, c_sPar, c_sAsg, c_sFor, c_sPut, c_sPutL, c_sPutD, c_sSdApp, c_sNx, c_sBk, c_sCt, c_eFr, c_vE, c_eC, c_eVar, c_vVar, c_aNil, c_aCons, c_eTup, c_nLst, c_eOp, c_eUn, c_nUn, c_nCat, c_nDic, c_tOf, c_tTru, c_tNot, c_tAnd, c_tOr, c_eIf, c_nIf, c_eAnd, c_eOr, c_eNot, c_tYes, c_eApp, c_ePop, c_ePopAt, c_eGet, c_eSl, c_oNo, c_oAt, c_eCall, c_nCall, c_eCallK, c_runCall, c_runCallK, c_gNil, c_gCons, c_gOwn, c_gNwc, c_iAny, c_iRange1, c_iRange2, c_eTupGx, g_d, g_sl, runGs, valR, ownR, slotD, Sl.toD, Tg.bind, Tg.binds, plainAt_b, Option.any_some, plB_un, plB_val, frzE, lstOf, dicOf, setsG, isOwn, Rl.ownsOf, nodupB, nwsOf, argSl, back_e1, back_e2, back_e3, back_e4, back_e5, backArgs, pick, itsD_lst, itsD_tup, itsD_str, itsD_dic, getD2_dic, isDicD_dic, truD, catD, eqD, eqB, neD, ltD, leD, gtD, geD, addD, subD, mulD, modD, fdivD, pow_1018, negD, isNonD, notNonD, nonB, isiD, ixD_lst, ixD_tup, ixD_scr, ixD_str, ixD_dic, lenD_lst, lenD_tup, lenD_scr, lenD_str, lenD_dic, Rl.intD, Rl.absD, tupD, listL, slD, smallI_7, smallI_48271, smallI_69621, smallI_16, smallI_17, smallI_31, lt30_65536, lt30_2, lt30_16, lt30_10, atI_0, atI_1, atI_2, ixN_0, ixN_1, ixN_2, Option.bind_some, Option.bind_none, Option.map_some, Option.map_none, List.getElem?_cons_zero, List.getElem?_cons_succ, List.set_cons_zero, List.set_cons_succ, List.replicate_succ, List.replicate_zero, List.cons_append, List.nil_append, List.append_nil, List.length_cons, List.length_nil, List.take_succ_cons, List.take_zero, List.contains_nil, Bool.not_false, Bool.not_true, Bool.and_self, Bool.true_and, Bool.and_true, Bool.false_and, Bool.and_false, Bool.true_or, Bool.or_true, Bool.false_or, Bool.or_false, Bool.false_eq_true, if_true, if_false, reduceIte, Nat.reduceAdd, Nat.reduceSub, Nat.reduceEqDiff, Nat.reduceLeDiff, Int.reduceNeg, Int.reduceLT, Int.reduceLE, Int.reducePow, Nat.reducePow, Int.reduceToNat, Nat.reduceLT, decide_true, decide_false, List.all_cons, List.all_nil, beq_self_eq_true, Option.isSome_some, List.filterMap_cons_some, List.filterMap_nil, turnL, h3, u_l3__law_least_numbers, e2]
      refine ⟨ls, _, _, s4, s5, s6, forL_cons_bk e, h.lots, h.win, ?_, h4, h5⟩
      intro ws hws q hq k hk
      obtain ⟨j, hj, ej⟩ := List.getElem_of_mem hws
      exact h.cl j ws (by omega) (by rw [List.getElem?_eq_getElem hj, ej]) q hq k hk
end P82
end

set_option linter.all false
set_option maxRecDepth 100000
set_option autoImplicit false
set_option maxHeartbeats 1000000
noncomputable section
namespace P82
open PySem L2 Rl
/-! ### lots by size -/
def szD (ws : List Wd) : D := .tup [.int (ws.length : Int), wD ws]
def ord (ls : List (List Wd)) : List (List Wd) := ls.mergeSort fun a b => leS (szD a) (szD b)
theorem ord_map (ls : List (List Wd)) : sortDs (ls.map szD) = (ord ls).map szD := by
  unfold sortDs ord
  exact (List.map_mergeSort (f := szD) (r := fun a b => leS (szD a) (szD b)) (s := leS) (l := ls) fun _ _ _ _ => rfl).symm
theorem ord_perm (ls : List (List Wd)) : (ord ls).Perm ls := List.mergeSort_perm _ _
theorem ord_pw (ls : List (List Wd)) : (ord ls).Pairwise (fun a b => a.length ≤ b.length) := by
  have h := sortDs_pw (ls.map szD)
  rw [ord_map, List.pairwise_map] at h
  refine h.imp ?_
  intro a b e
  have := leS_fst e
  omega
theorem alike_strs : ∀ (a b : List Wd), PySem.W.alikeAll (pys (a.map .str)) (pys (b.map .str)) = true
  | [], _ => by simp [pys, PySem.W.alikeAll]
  | _ :: _, [] => by simp [pys, PySem.W.alikeAll]
  | x :: a, y :: b => by
    have := alike_strs a b
    simp [pys, py, PySem.W.alikeAll, PySem.W.alike, this]
theorem sortOk_sz (ls : List (List Wd)) (h : ls.length ≤ 10000) (hc : ∀ s ∈ ls, ∀ w ∈ s, Cps w) : sortOk (ls.map szD) = true := by
  unfold sortOk
  simp only [Bool.and_eq_true, Bool.or_eq_true, List.all_eq_true, List.mem_map, forall_exists_index, and_imp, forall_apply_eq_imp_iff₂, List.length_map]
  refine ⟨⟨⟨fun a _ b _ => ?_, .inl fun a _ => rfl⟩, fun a ha => ?_⟩, szOk_of (by omega)⟩
  · have := alike_strs a b
    simp [szD, wD, py, pys, PySem.W.alikeAll, PySem.W.alike, this]
  · exact (ShN.tup (n := 1) (ShNs.cons ((ShN.int _).mono (by omega)) (ShNs.cons (wD_sh (hc a ha)) (shNs_nil _)))).sh (by omega)
/-- what comes ahead of a lot in this order: all its parts -/
theorem parts_ahead {ls done rest : List (List Wd)} {ws : List Wd} (hc : Closed ls) (ho : ord ls = done ++ ws :: rest) {q : Qn} (hq : q ∈ qs ws) {k : Wd} (hk : k ∈ kys ws q) : prt ws q k ∈ done := by
  have hw : ws ∈ ls := (ord_perm ls).mem_iff.mp (by rw [ho]; simp)
  have h1 : prt ws q k ∈ ord ls := (ord_perm ls).mem_iff.mpr (hc ws hw q hq k hk)
  have hlt := prt_lt (isQ_of hq) k
  rw [ho] at h1
  rcases List.mem_append.mp h1 with h | h
  · exact h
  · exfalso
    rcases List.mem_cons.mp h with h | h
    · rw [h] at hlt; omega
    · have hp := ord_pw ls
      rw [ho, List.pairwise_append] at hp
      have := (List.pairwise_cons.mp hp.2.1).1 _ h
      omega
def lD (ws : List Wd) : D := .int (L ws : Int)
/-- the costs of a lot's questions are put together -/
theorem ln6 {ws : List Wd} (h : Lot ws) {done : List (List Wd)} (q : Qn) (hd : ∀ k ∈ kys ws q, prt ws q k ∈ done) (acc : List D) (ha : acc.length ≤ 1000) (s0 s1 s2 s3 s4 s5 s6 s8 s11 : Sl) (h4 : plB s4 = true) (h5 : plB s5 = true) (h11 : plB s11 = true) (hne : kys ws q ≠ []) :
    turnL (.tp [.nm 4, .nm 5]) l6__law_least_numbers (qD q) [s0, s1, s2, s3, s4, s5, s6, .dic true (done.map wD) (done.map lD), s8, .val (wD ws), .lst acc, s11] =
      some (.nx, [s0, s1, s2, s3, .val (.str (eg q.1)), .val (.int (q.2 : Int)), .val (partsD ws q.1 q.2), .dic true (done.map wD) (done.map lD), s8, .val (wD ws), .lst (acc ++ [.int (cost ws q : Int)]), s11]) := by
  obtain ⟨outs, e⟩ := parts_ok ws q.1 q.2 h.w h.n
  have kk : (ksOf (ansW · q.1 q.2) ws) = kys ws q := rfl
  have gg : (fun k => wD (grp (ansW · q.1 q.2) ws k)) = fun k => wD (prt ws q k) := rfl
  have lk : ∀ k ∈ kys ws q, lookD ((kys ws q).map .str) ((kys ws q).map fun k => wD (prt ws q k)) (.str k) = some (wD (prt ws q k)) := fun k hk => by
    rw [look_fn Rl.kEq_str]; simp [hk]
  have lf : ∀ k ∈ kys ws q, lookD (done.map wD) (done.map lD) (wD (prt ws q k)) = some (lD (prt ws q k)) := fun k hk => by
    rw [look_fn wD_key]; simp [hd k hk]
  have l2 := kys_len h q
  have e2 : nLc [11] (iAny (eVar 6)) (.nm 11) tYes' e5__law_least_numbers [s0, s1, s2, s3, .val (.str (eg q.1)), .val (.int (q.2 : Int)), .val (partsD ws q.1 q.2), .dic true (done.map wD) (done.map lD), s8, .val (wD ws), .lst acc, s11] =
      some (.lst ((kys ws q).map fun k => lD (prt ws q k)), [s0, s1, s2, s3, .val (.str (eg q.1)), .val (.int (q.2 : Int)), .val (partsD ws q.1 q.2), .dic true (done.map wD) (done.map lD), s8, .val (wD ws), .lst acc, s11]) := by
    refine nLc_map1 .str (fun k => lD (prt ws q k)) (kys ws q) rfl h11 (fun k hk => ?_) (by omega)
    have k1 : isKey false (.str k) = true := rfl
    have k2 := wD_isKey (prt ws q k)
    simp only [c_sSeq, c_sIf, c_sDrop, c_sRet, c_sRetN, c_sRet0, c_sRetV, c_sFrz, c_sSet, c_sSetL, c_sSetN, c_sPar, c_sAsg, c_sFor, c_sPut, c_sPutL, c_sPutD, c_sSdApp, c_sNx, c_sBk, c_sCt, c_eFr, c_vE, c_eC, c_eVar, c_vVar, c_aNil, c_aCons, c_eTup, c_nLst, c_eOp, c_eUn, c_nUn, c_nCat, c_nDic, c_tOf, c_tTru, c_tNot, c_tAnd, c_tOr, c_eIf, c_nIf, c_eAnd, c_eOr, c_eNot, c_tYes, c_eApp, c_ePop, c_ePopAt, c_eGet, c_eSl, c_oNo, c_oAt, c_eCall, c_nCall, c_eCallK, c_runCall, c_runCallK, c_gNil, c_gCons, c_gOwn, c_gNwc, c_iAny, c_iRange1, c_iRange2, c_eTupGx, g_d, g_sl, runGs, valR, ownR, slotD, Sl.toD, Tg.bind, Tg.binds, plainAt_b, Option.any_some, plB_un, plB_val, frzE, lstOf, dicOf, setsG, isOwn, Rl.ownsOf, nodupB, nwsOf, argSl, back_e1, back_e2, back_e3, back_e4, back_e5, backArgs, pick, itsD_lst, itsD_tup, itsD_str, itsD_dic, getD2_dic, isDicD_dic, truD, catD, eqD, eqB, neD, ltD, leD, gtD, geD, addD, subD, mulD, modD, fdivD, pow_1018, negD, isNonD, notNonD, nonB, isiD, ixD_lst, ixD_tup, ixD_scr, ixD_str, ixD_dic, lenD_lst, lenD_tup, lenD_scr, lenD_str, lenD_dic, Rl.intD, Rl.absD, tupD, listL, slD, smallI_7, smallI_48271, smallI_69621, smallI_16, smallI_17, smallI_31, lt30_65536, lt30_2, lt30_16, lt30_10, atI_0, atI_1, atI_2, ixN_0, ixN_1, ixN_2, Option.bind_some, Option.bind_none, Option.map_some, Option.map_none, List.getElem?_cons_zero, List.getElem?_cons_succ, List.set_cons_zero, List.set_cons_succ, List.replicate_succ, List.replicate_zero, List.cons_append, List.nil_append, List.append_nil, List.length_cons, List.length_nil, List.take_succ_cons, List.take_zero, List.contains_nil, Bool.not_false, Bool.not_true, Bool.and_self, Bool.true_and, Bool.and_true, Bool.false_and, Bool.and_false, Bool.true_or, Bool.or_true, Bool.false_or, Bool.or_false, Bool.false_eq_true, if_true, if_false, reduceIte, Nat.reduceAdd, Nat.reduceSub, Nat.reduceEqDiff, Nat.reduceLeDiff, Int.reduceNeg, Int.reduceLT, Int.reduceLE, Int.reducePow, Nat.reducePow, Int.reduceToNat, Nat.reduceLT, decide_true, decide_false, List.all_cons, List.all_nil, beq_self_eq_true, Option.isSome_some, List.filterMap_cons_some, List.filterMap_nil, u_e5__law_least_numbers, partsD, kk, gg, lk k hk, k1, k2, lf k hk]
  have e3 : maxD (.lst ((kys ws q).map fun k => lD (prt ws q k))) = some (.int (maxN ((kys ws q).map fun k => L (prt ws q k)) : Int)) := by
    have := maxD_nat (l := (kys ws q).map fun k => L (prt ws q k)) (by simpa using hne)
    rw [List.map_map] at this
    exact this
  have e4 : (1 : Int) + (maxN ((kys ws q).map fun k => L (prt ws q k)) : Int) = (cost ws q : Int) := by unfold cost; omega
  have z : szLt acc.length = true := szLt_of (by omega)
  simp only [c_sSeq, c_sIf, c_sDrop, c_sRet, c_sRetN, c_sRet0, c_sRetV, c_sFrz, c_sSet, c_sSetL, c_sSetN, c_sPar, c_sAsg, c_sFor, c_sPut, c_sPutL, c_sPutD, c_sSdApp, c_sNx, c_sBk, c_sCt, c_eFr, c_vE, c_eC, c_eVar, c_vVar, c_aNil, c_aCons, c_eTup, c_nLst, c_eOp, c_eUn, c_nUn, c_nCat, c_nDic, c_tOf, c_tTru, c_tNot, c_tAnd, c_tOr, c_eIf, c_nIf, c_eAnd, c_eOr, c_eNot, c_tYes, c_eApp, c_ePop, c_ePopAt, c_eGet, c_eSl, c_oNo, c_oAt, c_eCall, c_nCall, c_eCallK, c_runCall, c_runCallK, c_gNil, c_gCons, c_gOwn, c_gNwc, c_iAny, c_iRange1, c_iRange2, c_eTupGx, g_d, g_sl, runGs, valR, ownR, slotD, Sl.toD, Tg.bind, Tg.binds, plainAt_b, Option.any_some, plB_un, plB_val, frzE, lstOf, dicOf, setsG, isOwn, Rl.ownsOf, nodupB, nwsOf, argSl, back_e1, back_e2, back_e3, back_e4, back_e5, backArgs, pick, itsD_lst, itsD_tup, itsD_str, itsD_dic, getD2_dic, isDicD_dic, truD, catD, eqD, eqB, neD, ltD, leD, gtD, geD, addD, subD, mulD, modD, fdivD, pow_1018, negD, isNonD, notNonD, nonB, isiD, ixD_lst, ixD_tup, ixD_scr, ixD_str, ixD_dic, lenD_lst, lenD_tup, lenD_scr, lenD_str, lenD_dic, Rl.intD, Rl.absD, tupD, listL, slD, smallI_7, smallI_48271, smallI_69621, smallI_16, smallI_17, smallI_31, lt30_65536, lt30_2, lt30_16, lt30_10, atI_0, atI_1, atI_2, ixN_0, ixN_1, ixN_2, Option.bind_some, Option.bind_none, Option.map_some, Option.map_none, List.getElem?_cons_zero, List.getElem?_cons_succ, List.set_cons_zero, List.set_cons_succ, List.replicate_succ, List.replicate_zero, List.cons_append, List.nil_append, List.append_nil, List.length_cons, List.length_nil, List.take_succ_cons, List.take_zero, List.contains_nil, Bool.not_false, Bool.not_true, Bool.and_self, Bool.true_and, Bool.and_true, Bool.false_and, Bool.and_false, Bool.true_or, Bool.or_true, Bool.false_or, Bool.or_false, Bool.false_eq_true, if_true, if_false, reduceIte, Nat.reduceAdd, Nat.reduceSub, Nat.reduceEqDiff, Nat.reduceLeDiff, Int.reduceNeg, Int.reduceLT, Int.reduceLE, Int.reducePow, Nat.reducePow, Int.reduceToNat, Nat.reduceLT, decide_true, decide_false, List.all_cons, List.all_nil, beq_self_eq_true, Option.isSome_some, List.filterMap_cons_some, List.filterMap_nil, turnL, qD, h4, h5, u_l6__law_least_numbers, e, e2, e3, e4, z]
theorem ln7 {W : List Wd} (hW : Lot W) (h12 : W.length ≤ 12) {ls done rest : List (List Wd)} (hl : Lots W ls) (hc : Closed ls) {ws : List Wd} (ho : ord ls = done ++ ws :: rest) (s0 s1 s2 s3 s4 s5 s6 s8 s9 s10 : Sl) (h4 : plB s4 = true) (h5 : plB s5 = true) (h8 : plB s8 = true) (h9 : plB s9 = true) :
    ∃ s4' s5' s6' s10', turnL (.tp [.nm 8, .nm 9]) l7__law_least_numbers (szD ws) [s0, s1, s2, s3, s4, s5, s6, .dic true (done.map wD) (done.map lD), s8, s9, s10, .un] =
      some (.nx, [s0, s1, s2, s3, s4', s5', s6', .dic true ((done ++ [ws]).map wD) ((done ++ [ws]).map lD), .val (.int (ws.length : Int)), .val (wD ws), s10', .un]) ∧ plB s4' = true ∧ plB s5' = true := by
  have hw : ws ∈ ls := (ord_perm ls).mem_iff.mp (by rw [ho]; simp)
  have hm := hl.sub ws hw
  have h := hW.sub hm.1 hm.2
  obtain ⟨outs, e⟩ := questions_ok h
  have hq := qs_len h
  have hnd : (ord ls).Nodup := (ord_perm ls).nodup_iff.mpr hl.nd
  have hlen : (ord ls).length ≤ 4096 := by rw [(ord_perm ls).length_eq]; exact hl.len h12
  have hnew : ws ∉ done := fun hh => by
    rw [ho, List.nodup_append] at hnd
    exact hnd.2.2 ws hh ws (by simp) rfl
  have hdl : done.length ≤ 4096 := by rw [ho] at hlen; simp at hlen; omega
  obtain ⟨σ, e3, _, s4', s5', s6', p4, p5, rfl⟩ := forL_invT qD (t := .tp [.nm 4, .nm 5]) (b := l6__law_least_numbers)
    (fun dq rest σ => dq ++ rest = qs ws ∧ ∃ s4 s5 s6, plB s4 = true ∧ plB s5 = true ∧ σ = [s0, s1, s2, s3, s4, s5, s6, .dic true (done.map wD) (done.map lD), .val (.int (ws.length : Int)), .val (wD ws), .lst (dq.map fun q => .int (cost ws q : Int)), .un])
    (fun dq q r σ hS => by
      obtain ⟨hd, s4', s5', s6', p4, p5, rfl⟩ := hS
      have hqm : q ∈ qs ws := by rw [← hd]; simp
      have hk : kys ws q ≠ [] := fun e => by
        have := of_decide_eq_true (isQ_of hqm)
        rw [e] at this
        simp at this
      have hl2 : dq.length ≤ 200 := by have := hq; rw [← hd] at this; simp at this; omega
      refine ⟨_, _, ln6 h q (fun k hk => parts_ahead hc ho hqm hk) _ (by rw [List.length_map]; omega) _ _ _ _ _ _ _ _ _ p4 p5 rfl hk, rfl, by rw [← hd]; simp, .val (.str (eg q.1)), .val (.int (q.2 : Int)), .val (partsD ws q.1 q.2), rfl, rfl, ?_⟩
      rw [List.map_append]; rfl)
    (qs ws) [] [s0, s1, s2, s3, s4, s5, s6, .dic true (done.map wD) (done.map lD), .val (.int (ws.length : Int)), .val (wD ws), .lst [], .un] ⟨rfl, s4, s5, s6, h4, h5, rfl⟩
  rw [List.nil_append] at e3
  have z0 : szOk 0 = true := szOk_of (by omega)
  have z1 : szLt (done.map wD).length = true := szLt_of (by rw [List.length_map]; omega)
  have kd := wD_isKey ws
  have e4 := putKs_new wD_key hnew
  have e5 := putVs_new wD_key lD hnew
  by_cases h1 : 1 < ws.length
  · have c1 : decide ((1 : Int) < (ws.length : Int)) = true := decide_eq_true (by omega)
    have e6 : minD (.lst ((qs ws).map fun q => .int (cost ws q : Int))) = some (lD ws) := by
      have := minD_nat (l := (qs ws).map (cost ws)) (by simp [qs_ne h.nd h1])
      rw [List.map_map, ← L_eq h1] at this
      exact this
    refine ⟨s4', s5', s6', .lst ((qs ws).map fun q => .int (cost ws q : Int)), ?_, p4, p5⟩
    simp only [c_sSeq, c_sIf, c_sDrop, c_sRet, c_sRetN, c_sRet0, c_sRetV, c_sFrz, c_sSet, c_sSetL, c_sSetN, c_sPar, c_sAsg, c_sFor, c_sPut, c_sPutL, c_sPutD, c_sSdApp, c_sNx, c_sBk, c_sCt, c_eFr, c_vE, c_eC, c_eVar, c_vVar, c_aNil, c_aCons, c_eTup, c_nLst, c_eOp, c_eUn, c_nUn, c_nCat, c_nDic, c_tOf, c_tTru, c_tNot, c_tAnd, c_tOr, c_eIf, c_nIf, c_eAnd, c_eOr, c_eNot, c_tYes, c_eApp, c_ePop, c_ePopAt, c_eGet, c_eSl, c_oNo, c_oAt, c_eCall, c_nCall, c_eCallK, c_runCall, c_runCallK, c_gNil, c_gCons, c_gOwn, c_gNwc, c_iAny, c_iRange1, c_iRange2, c_eTupGx, g_d, g_sl, runGs, valR, ownR, slotD, Sl.toD, Tg.bind, Tg.binds, plainAt_b, Option.any_some, plB_un, plB_val, frzE, lstOf, dicOf, setsG, isOwn, Rl.ownsOf, nodupB, nwsOf, argSl, back_e1, back_e2, back_e3, back_e4, back_e5, backArgs, pick, itsD_lst, itsD_tup, itsD_str, itsD_dic, getD2_dic, isDicD_dic, truD, catD, eqD, eqB, neD, ltD, leD, gtD, geD, addD, subD, mulD, modD, fdivD, pow_1018, negD, isNonD, notNonD, nonB, isiD, ixD_lst, ixD_tup, ixD_scr, ixD_str, ixD_dic, lenD_lst, lenD_tup, lenD_scr, lenD_str, lenD_dic, Rl.intD, Rl.absD, tupD, listL, slD, smallI_7, smallI_48271, smallI_69621, smallI_16, smallI_17, smallI_31, lt30_65536, lt30_2, lt30_16, lt30_10, atI_0, atI_1, atI_2, ixN_0, ixN_1, ixN_2, Option.bind_some, Option.bind_none, Option.map_some, Option.map_none, List.getElem?_cons_zero, List.getElem?_cons_succ, List.set_cons_zero, List.set_cons_succ, List.replicate_succ, List.replicate_zero, List.cons_append, List.nil_append, List.append_nil, List.length_cons, List.length_nil, List.take_succ_cons, List.take_zero, List.contains_nil, Bool.not_false, Bool.not_true, Bool.and_self, Bool.true_and, Bool.and_true, Bool.false_and, Bool.and_false, Bool.true_or, Bool.or_true, Bool.false_or, Bool.or_false, Bool.false_eq_true, if_true, if_false, reduceIte, Nat.reduceAdd, Nat.reduceSub, Nat.reduceEqDiff, Nat.reduceLeDiff, Int.reduceNeg, Int.reduceLT, Int.reduceLE, Int.reducePow, Nat.reducePow, Int.reduceToNat, Nat.reduceLT, decide_true, decide_false, List.all_cons, List.all_nil, beq_self_eq_true, Option.isSome_some, List.filterMap_cons_some, List.filterMap_nil, turnL, szD, h8, h9, u_l7__law_least_numbers, z0, e, e3, c1, e6, kd, z1, e4, e5]
  · have c1 : decide ((1 : Int) < (ws.length : Int)) = false := decide_eq_false (by omega)
    have e6 : D.int 0 = lD ws := by unfold lD; rw [L_one (by omega)]; rfl
    refine ⟨s4', s5', s6', .lst ((qs ws).map fun q => .int (cost ws q : Int)), ?_, p4, p5⟩
    simp only [c_sSeq, c_sIf, c_sDrop, c_sRet, c_sRetN, c_sRet0, c_sRetV, c_sFrz, c_sSet, c_sSetL, c_sSetN, c_sPar, c_sAsg, c_sFor, c_sPut, c_sPutL, c_sPutD, c_sSdApp, c_sNx, c_sBk, c_sCt, c_eFr, c_vE, c_eC, c_eVar, c_vVar, c_aNil, c_aCons, c_eTup, c_nLst, c_eOp, c_eUn, c_nUn, c_nCat, c_nDic, c_tOf, c_tTru, c_tNot, c_tAnd, c_tOr, c_eIf, c_nIf, c_eAnd, c_eOr, c_eNot, c_tYes, c_eApp, c_ePop, c_ePopAt, c_eGet, c_eSl, c_oNo, c_oAt, c_eCall, c_nCall, c_eCallK, c_runCall, c_runCallK, c_gNil, c_gCons, c_gOwn, c_gNwc, c_iAny, c_iRange1, c_iRange2, c_eTupGx, g_d, g_sl, runGs, valR, ownR, slotD, Sl.toD, Tg.bind, Tg.binds, plainAt_b, Option.any_some, plB_un, plB_val, frzE, lstOf, dicOf, setsG, isOwn, Rl.ownsOf, nodupB, nwsOf, argSl, back_e1, back_e2, back_e3, back_e4, back_e5, backArgs, pick, itsD_lst, itsD_tup, itsD_str, itsD_dic, getD2_dic, isDicD_dic, truD, catD, eqD, eqB, neD, ltD, leD, gtD, geD, addD, subD, mulD, modD, fdivD, pow_1018, negD, isNonD, notNonD, nonB, isiD, ixD_lst, ixD_tup, ixD_scr, ixD_str, ixD_dic, lenD_lst, lenD_tup, lenD_scr, lenD_str, lenD_dic, Rl.intD, Rl.absD, tupD, listL, slD, smallI_7, smallI_48271, smallI_69621, smallI_16, smallI_17, smallI_31, lt30_65536, lt30_2, lt30_16, lt30_10, atI_0, atI_1, atI_2, ixN_0, ixN_1, ixN_2, Option.bind_some, Option.bind_none, Option.map_some, Option.map_none, List.getElem?_cons_zero, List.getElem?_cons_succ, List.set_cons_zero, List.set_cons_succ, List.replicate_succ, List.replicate_zero, List.cons_append, List.nil_append, List.append_nil, List.length_cons, List.length_nil, List.take_succ_cons, List.take_zero, List.contains_nil, Bool.not_false, Bool.not_true, Bool.and_self, Bool.true_and, Bool.and_true, Bool.false_and, Bool.and_false, Bool.true_or, Bool.or_true, Bool.false_or, Bool.or_false, Bool.false_eq_true, if_true, if_false, reduceIte, Nat.reduceAdd, Nat.reduceSub, Nat.reduceEqDiff, Nat.reduceLeDiff, Int.reduceNeg, Int.reduceLT, Int.reduceLE, Int.reducePow, Nat.reducePow, Int.reduceToNat, Nat.reduceLT, decide_true, decide_false, List.all_cons, List.all_nil, beq_self_eq_true, Option.isSome_some, List.filterMap_cons_some, List.filterMap_nil, turnL, szD, h8, h9, u_l7__law_least_numbers, z0, e, e3, c1, e6, kd, z1, e4, e5]
def leastD (os : List (List Wd)) : D := .dic true (os.map wD) (os.map lD)
theorem least_ok {W : List Wd} (hW : Lot W) (h12 : W.length ≤ 12) :
    ∃ os outs, F__law_least_numbers [.val (wD W)] = some (.val (leastD os), outs) ∧ Lots W os ∧ W ∈ os ∧ Closed os := by
  have h0 : LnI W 0 [W] := ⟨⟨by simp, fun s hs => by rw [List.mem_singleton.mp hs]; exact ⟨List.Sublist.refl _, hW.ne⟩⟩, by simp, by simp, fun j _ hj => by omega⟩
  have rg : rngD 0 5000 = ((List.range 5000).map fun k : Nat => (0 : Int) + (k : Int)).map .int := by rw [List.map_map]; rfl
  obtain ⟨ls, a, s3, s4, s5, s6, e1, hL, hWm, hc, p4, p5⟩ := ln_loop hW h12 (.val (wD W)) ((List.range 5000).map fun k : Nat => (0 : Int) + (k : Int)) 0 [W] .un .un .un .un h0 (by rw [List.length_map, List.length_range]; omega) rfl rfl rfl
  have hlen := hL.len h12
  have hcp : ∀ s ∈ ls, ∀ w ∈ s, Cps w := fun s hs w hw => hW.c w ((hL.sub s hs).1.subset hw)
  have e2 : nLc [9] (iAny (eVar 1)) (.nm 9) tYes' e4__law_least_numbers [.val (wD W), .val (.lst (ls.map wD)), a, s3, s4, s5, s6, .dic true [] [], .un, .un, .un, .un] =
      some (.lst (ls.map szD), [.val (wD W), .val (.lst (ls.map wD)), a, s3, s4, s5, s6, .dic true [] [], .un, .un, .un, .un]) := by
    refine nLc_map1 wD szD ls rfl rfl (fun ws hws => ?_) (by omega)
    have z : szOk 2 = true := szOk_of (by omega)
    simp only [c_sSeq, c_sIf, c_sDrop, c_sRet, c_sRetN, c_sRet0, c_sRetV, c_sFrz, c_sSet, c_sSetL, c_sSetN, c_sPar, c_sAsg, c_sFor, c_sPut, c_sPutL, c_sPutD, c_sSdApp, c_sNx, c_sBk, c_sCt, c_eFr, c_vE, c_eC, c_eVar, c_vVar, c_aNil, c_aCons, c_eTup, c_nLst, c_eOp, c_eUn, c_nUn, c_nCat, c_nDic, c_tOf, c_tTru, c_tNot, c_tAnd, c_tOr, c_eIf, c_nIf, c_eAnd, c_eOr, c_eNot, c_tYes, c_eApp, c_ePop, c_ePopAt, c_eGet, c_eSl, c_oNo, c_oAt, c_eCall, c_nCall, c_eCallK, c_runCall, c_runCallK, c_gNil, c_gCons, c_gOwn, c_gNwc, c_iAny, c_iRange1, c_iRange2, c_eTupGx, g_d, g_sl, runGs, valR, ownR, slotD, Sl.toD, Tg.bind, Tg.binds, plainAt_b, Option.any_some, plB_un, plB_val, frzE, lstOf, dicOf, setsG, isOwn, Rl.ownsOf, nodupB, nwsOf, argSl, back_e1, back_e2, back_e3, back_e4, back_e5, backArgs, pick, itsD_lst, itsD_tup, itsD_str, itsD_dic, getD2_dic, isDicD_dic, truD, catD, eqD, eqB, neD, ltD, leD, gtD, geD, addD, subD, mulD, modD, fdivD, pow_1018, negD, isNonD, notNonD, nonB, isiD, ixD_lst, ixD_tup, ixD_scr, ixD_str, ixD_dic, lenD_lst, lenD_tup, lenD_scr, lenD_str, lenD_dic, Rl.intD, Rl.absD, tupD, listL, slD, smallI_7, smallI_48271, smallI_69621, smallI_16, smallI_17, smallI_31, lt30_65536, lt30_2, lt30_16, lt30_10, atI_0, atI_1, atI_2, ixN_0, ixN_1, ixN_2, Option.bind_some, Option.bind_none, Option.map_some, Option.map_none, List.getElem?_cons_zero, List.getElem?_cons_succ, List.set_cons_zero, List.set_cons_succ, List.replicate_succ, List.replicate_zero, List.cons_append, List.nil_append, List.append_nil, List.length_cons, List.length_nil, List.take_succ_cons, List.take_zero, List.contains_nil, Bool.not_false, Bool.not_true, Bool.and_self, Bool.true_and, Bool.and_true, Bool.false_and, Bool.and_false, Bool.true_or, Bool.or_true, Bool.false_or, Bool.or_false, Bool.false_eq_true, if_true, if_false, reduceIte, Nat.reduceAdd, Nat.reduceSub, Nat.reduceEqDiff, Nat.reduceLeDiff, Int.reduceNeg, Int.reduceLT, Int.reduceLE, Int.reducePow, Nat.reducePow, Int.reduceToNat, Nat.reduceLT, decide_true, decide_false, List.all_cons, List.all_nil, beq_self_eq_true, Option.isSome_some, List.filterMap_cons_some, List.filterMap_nil, u_e4__law_least_numbers, wD, szD, z, List.length_map]
  have e3 := sortOk_sz ls (by omega) hcp
  have e4 := ord_map ls
  obtain ⟨σ, e5, _, s4', s5', s6', s8', s9', s10', p4', p5', p8', p9', rfl⟩ := forL_invT szD (t := .tp [.nm 8, .nm 9]) (b := l7__law_least_numbers)
    (fun done rest σ => done ++ rest = ord ls ∧ ∃ s4 s5 s6 s8 s9 s10, plB s4 = true ∧ plB s5 = true ∧ plB s8 = true ∧ plB s9 = true ∧ σ = [.val (wD W), .val (.lst (ls.map wD)), a, s3, s4, s5, s6, .dic true (done.map wD) (done.map lD), s8, s9, s10, .un])
    (fun done ws r σ hS => by
      obtain ⟨hd, s4, s5, s6, s8, s9, s10, p4, p5, p8, p9, rfl⟩ := hS
      obtain ⟨s4', s5', s6', s10', e, q4, q5⟩ := ln7 hW h12 hL hc hd.symm (.val (wD W)) (.val (.lst (ls.map wD))) a s3 s4 s5 s6 s8 s9 s10 p4 p5 p8 p9
      exact ⟨_, _, e, rfl, by rw [← hd]; simp, _, _, _, .val (.int (ws.length : Int)), .val (wD ws), _, q4, q5, rfl, rfl, rfl⟩)
    (ord ls) [] [.val (wD W), .val (.lst (ls.map wD)), a, s3, s4, s5, s6, .dic true [] [], .un, .un, .un, .un] ⟨rfl, s4, s5, s6, .un, .un, .un, p4, p5, rfl, rfl, rfl⟩
  rw [List.nil_append] at e5
  have z2 : szOk 2 = true := szOk_of (by omega)
  have z1 : szOk 1 = true := szOk_of (by omega)
  have r1 : rngOk 5000 = true := rngOk_in (by omega) (by omega)
  have e1' : forL (.nm 3) l3__law_least_numbers (((List.range 5000).map fun k : Nat => (0 : Int) + (k : Int)).map .int) [.val (wD W), .val (.lst [wD W]), .val (.int 0), .un, .un, .un, .un, .un, .un, .un, .un, .un] = _ := e1
  have hout : ∃ outs, F__law_least_numbers [.val (wD W)] = some (.val (leastD (ord ls)), outs) := by
    unfold F__law_least_numbers fnOf b__law_least_numbers
    simp only [c_sSeq, c_sIf, c_sDrop, c_sRet, c_sRetN, c_sRet0, c_sRetV, c_sFrz, c_sSet, c_sSetL, c_sSetN, c_sPar, c_sAsg, c_sFor, c_sPut, c_sPutL, c_sPutD, c_sSdApp, c_sNx, c_sBk, c_sCt, c_eFr, c_vE, c_eC, c_eVar, c_vVar, c_aNil, c_aCons, c_eTup, c_nLst, c_eOp, c_eUn, c_nUn, c_nCat, c_nDic, c_tOf, c_tTru, c_tNot, c_tAnd, c_tOr, c_eIf, c_nIf, c_eAnd, c_eOr, c_eNot, c_tYes, c_eApp, c_ePop, c_ePopAt, c_eGet, c_eSl, c_oNo, c_oAt, c_eCall, c_nCall, c_eCallK, c_runCall, c_runCallK, c_gNil, c_gCons, c_gOwn, c_gNwc, c_iAny, c_iRange1, c_iRange2, c_eTupGx, g_d, g_sl, runGs, valR, ownR, slotD, Sl.toD, Tg.bind, Tg.binds, plainAt_b, Option.any_some, plB_un, plB_val, frzE, lstOf, dicOf, setsG, isOwn, Rl.ownsOf, nodupB, nwsOf, argSl, back_e1, back_e2, back_e3, back_e4, back_e5, backArgs, pick, itsD_lst, itsD_tup, itsD_str, itsD_dic, getD2_dic, isDicD_dic, truD, catD, eqD, eqB, neD, ltD, leD, gtD, geD, addD, subD, mulD, modD, fdivD, pow_1018, negD, isNonD, notNonD, nonB, isiD, ixD_lst, ixD_tup, ixD_scr, ixD_str, ixD_dic, lenD_lst, lenD_tup, lenD_scr, lenD_str, lenD_dic, Rl.intD, Rl.absD, tupD, listL, slD, smallI_7, smallI_48271, smallI_69621, smallI_16, smallI_17, smallI_31, lt30_65536, lt30_2, lt30_16, lt30_10, atI_0, atI_1, atI_2, ixN_0, ixN_1, ixN_2, Option.bind_some, Option.bind_none, Option.map_some, Option.map_none, List.getElem?_cons_zero, List.getElem?_cons_succ, List.set_cons_zero, List.set_cons_succ, List.replicate_succ, List.replicate_zero, List.cons_append, List.nil_append, List.append_nil, List.length_cons, List.length_nil, List.take_succ_cons, List.take_zero, List.contains_nil, Bool.not_false, Bool.not_true, Bool.and_self, Bool.true_and, Bool.and_true, Bool.false_and, Bool.and_false, Bool.true_or, Bool.or_true, Bool.false_or, Bool.or_false, Bool.false_eq_true, if_true, if_false, reduceIte, Nat.reduceAdd, Nat.reduceSub, Nat.reduceEqDiff, Nat.reduceLeDiff, Int.reduceNeg, Int.reduceLT, Int.reduceLE, Int.reducePow, Nat.reducePow, Int.reduceToNat, Nat.reduceLT, decide_true, decide_false, List.all_cons, List.all_nil, beq_self_eq_true, Option.isSome_some, List.filterMap_cons_some, List.filterMap_nil, z1, z2, r1, rg, e1', e2, sortL, e3, e4, e5, leastD]
    exact ⟨_, rfl⟩
  obtain ⟨outs, ho⟩ := hout
  have hp := ord_perm ls
  exact ⟨ord ls, outs, ho, ⟨hp.nodup_iff.mpr hL.nd, fun s hs => hL.sub s (hp.mem_iff.mp hs)⟩, hp.mem_iff.mpr hWm, fun ws hws q hq k hk => hp.mem_iff.mpr (hc ws (hp.mem_iff.mp hws) q hq k hk)⟩
end P82
end

set_option linter.all false
set_option maxRecDepth 100000
set_option autoImplicit false
set_option maxHeartbeats 1000000
noncomputable section
namespace P82
open PySem L2 Rl
/-! ### the law's plans -/
def PlD (ws : List Wd) : D := Pl ws
def pls (done : List (List Wd)) : Sl := .dic true (done.map wD) (done.map PlD)
theorem lp4 {ws : List Wd} {os done rest : List (List Wd)} (h : Lot ws) (h1 : 1 < ws.length) (hdl : done.length ≤ 4096) (hc : Closed os) (ho : ord os = done ++ ws :: rest) (hnew : ws ∉ done)
    {dq r : List Qn} {q : Qn} (hq : dq ++ q :: r = qs ws) (s2 s4 s5 s6 : Sl) (h4 : plB s4 = true) (h5 : plB s5 = true) :
    turnL (.tp [.nm 4, .nm 5]) l4__law_plan (qD q) [.val (leastD os), (if (dq.find? fun q => cost ws q == L ws).isSome then pls (done ++ [ws]) else pls done), s2, .val (wD ws), s4, s5, s6, .un] =
      some (.nx, [.val (leastD os), (if ((dq ++ [q]).find? fun q => cost ws q == L ws).isSome then pls (done ++ [ws]) else pls done), s2, .val (wD ws), .val (.str (eg q.1)), .val (.int (q.2 : Int)), .val (partsD ws q.1 q.2), .un]) := by
  obtain ⟨outs, e⟩ := parts_ok ws q.1 q.2 h.w h.n
  have hqm : q ∈ qs ws := by rw [← hq]; simp
  have hne : kys ws q ≠ [] := fun e => by
    have := of_decide_eq_true (isQ_of hqm)
    rw [e] at this
    simp at this
  have hws : ws ∈ os := (ord_perm os).mem_iff.mp (by rw [ho]; simp)
  have kk : (ksOf (ansW · q.1 q.2) ws) = kys ws q := rfl
  have gg : (fun k => wD (grp (ansW · q.1 q.2) ws k)) = fun k => wD (prt ws q k) := rfl
  have lk : ∀ k ∈ kys ws q, lookD ((kys ws q).map .str) ((kys ws q).map fun k => wD (prt ws q k)) (.str k) = some (wD (prt ws q k)) := fun k hk => by
    rw [look_fn Rl.kEq_str]; simp [hk]
  have lf : ∀ k ∈ kys ws q, lookD (os.map wD) (os.map lD) (wD (prt ws q k)) = some (lD (prt ws q k)) := fun k hk => by
    rw [look_fn wD_key]; simp [hc ws hws q hqm k hk]
  have kw0 := wD_isKey ws
  have lw : lookD (os.map wD) (os.map lD) (wD ws) = some (lD ws) := by rw [look_fn wD_key]; simp [hws]
  have lw2 : ixD (leastD os) (wD ws) = some (.int (L ws : Int)) := by
    unfold leastD
    simp only [c_sSeq, c_sIf, c_sDrop, c_sRet, c_sRetN, c_sRet0, c_sRetV, c_sFrz, c_sSet, c_sSetL, c_sSetN, c_sPar, c_sAsg, c_sFor, c_sPut, c_sPutL, c_sPutD, c_sSdApp, c_sNx, c_sBk, c_sCt, c_eFr, c_vE, c_eC, c_eVar, c_vVar, c_aNil, c_aCons, c_eTup, c_nLst, c_eOp, c_eUn, c_nUn, c_nCat, c_nDic, c_tOf, c_tTru, c_tNot, c_tAnd, c_tOr, c_eIf, c_nIf, c_eAnd, c_eOr, c_eNot, c_tYes, c_eApp, c_ePop, c_ePopAt, c_eGet, c_eSl, c_oNo, c_oAt, c_eCall, c_nCall, c_eCallK, c_runCall, c_runCallK, c_gNil, c_gCons, c_gOwn, c_gNwc, c_iAny, c_iRange1, c_iRange2, c_eTupGx, g_d, g_sl, runGs, valR, ownR, slotD, Sl.toD, Tg.bind, Tg.binds, plainAt_b, Option.any_some, plB_un, plB_val, frzE, lstOf, dicOf, setsG, isOwn, Rl.ownsOf, nodupB, nwsOf, argSl, back_e1, back_e2, back_e3, back_e4, back_e5, backArgs, pick, itsD_lst, itsD_tup, itsD_str, itsD_dic, getD2_dic, isDicD_dic, truD, catD, eqD, eqB, neD, ltD, leD, gtD, geD, addD, subD, mulD, modD, fdivD, pow_1018, negD, isNonD, notNonD, nonB, isiD, ixD_lst, ixD_tup, ixD_scr, ixD_str, ixD_dic, lenD_lst, lenD_tup, lenD_scr, lenD_str, lenD_dic, Rl.intD, Rl.absD, tupD, listL, slD, smallI_7, smallI_48271, smallI_69621, smallI_16, smallI_17, smallI_31, lt30_65536, lt30_2, lt30_16, lt30_10, atI_0, atI_1, atI_2, ixN_0, ixN_1, ixN_2, Option.bind_some, Option.bind_none, Option.map_some, Option.map_none, List.getElem?_cons_zero, List.getElem?_cons_succ, List.set_cons_zero, List.set_cons_succ, List.replicate_succ, List.replicate_zero, List.cons_append, List.nil_append, List.append_nil, List.length_cons, List.length_nil, List.take_succ_cons, List.take_zero, List.contains_nil, Bool.not_false, Bool.not_true, Bool.and_self, Bool.true_and, Bool.and_true, Bool.false_and, Bool.and_false, Bool.true_or, Bool.or_true, Bool.false_or, Bool.or_false, Bool.false_eq_true, if_true, if_false, reduceIte, Nat.reduceAdd, Nat.reduceSub, Nat.reduceEqDiff, Nat.reduceLeDiff, Int.reduceNeg, Int.reduceLT, Int.reduceLE, Int.reducePow, Nat.reducePow, Int.reduceToNat, Nat.reduceLT, decide_true, decide_false, List.all_cons, List.all_nil, beq_self_eq_true, Option.isSome_some, List.filterMap_cons_some, List.filterMap_nil, kw0, lw]
    rfl
  have lp : ∀ k ∈ kys ws q, lookD (done.map wD) (done.map PlD) (wD (prt ws q k)) = some (PlD (prt ws q k)) := fun k hk => by
    rw [look_fn wD_key]; simp [parts_ahead hc ho hqm hk]
  have l2 := kys_len h q
  have kw := wD_isKey ws
  have z2 : szOk 2 = true := szOk_of (by omega)
  have z3 : szOk 3 = true := szOk_of (by omega)
  cases hf : dq.find? fun q => cost ws q == L ws with
  | some q' =>
    have e0 : ((dq ++ [q]).find? fun q => cost ws q == L ws) = some q' := by rw [List.find?_append, hf]; rfl
    have e1 : hasD ((done ++ [ws]).map wD) (wD ws) = true := by rw [has_fn wD_key]; simp
    simp only [e0, Option.isSome_some, if_true, pls]
    simp only [c_sSeq, c_sIf, c_sDrop, c_sRet, c_sRetN, c_sRet0, c_sRetV, c_sFrz, c_sSet, c_sSetL, c_sSetN, c_sPar, c_sAsg, c_sFor, c_sPut, c_sPutL, c_sPutD, c_sSdApp, c_sNx, c_sBk, c_sCt, c_eFr, c_vE, c_eC, c_eVar, c_vVar, c_aNil, c_aCons, c_eTup, c_nLst, c_eOp, c_eUn, c_nUn, c_nCat, c_nDic, c_tOf, c_tTru, c_tNot, c_tAnd, c_tOr, c_eIf, c_nIf, c_eAnd, c_eOr, c_eNot, c_tYes, c_eApp, c_ePop, c_ePopAt, c_eGet, c_eSl, c_oNo, c_oAt, c_eCall, c_nCall, c_eCallK, c_runCall, c_runCallK, c_gNil, c_gCons, c_gOwn, c_gNwc, c_iAny, c_iRange1, c_iRange2, c_eTupGx, g_d, g_sl, runGs, valR, ownR, slotD, Sl.toD, Tg.bind, Tg.binds, plainAt_b, Option.any_some, plB_un, plB_val, frzE, lstOf, dicOf, setsG, isOwn, Rl.ownsOf, nodupB, nwsOf, argSl, back_e1, back_e2, back_e3, back_e4, back_e5, backArgs, pick, itsD_lst, itsD_tup, itsD_str, itsD_dic, getD2_dic, isDicD_dic, truD, catD, eqD, eqB, neD, ltD, leD, gtD, geD, addD, subD, mulD, modD, fdivD, pow_1018, negD, isNonD, notNonD, nonB, isiD, ixD_lst, ixD_tup, ixD_scr, ixD_str, ixD_dic, lenD_lst, lenD_tup, lenD_scr, lenD_str, lenD_dic, Rl.intD, Rl.absD, tupD, listL, slD, smallI_7, smallI_48271, smallI_69621, smallI_16, smallI_17, smallI_31, lt30_65536, lt30_2, lt30_16, lt30_10, atI_0, atI_1, atI_2, ixN_0, ixN_1, ixN_2, Option.bind_some, Option.bind_none, Option.map_some, Option.map_none, List.getElem?_cons_zero, List.getElem?_cons_succ, List.set_cons_zero, List.set_cons_succ, List.replicate_succ, List.replicate_zero, List.cons_append, List.nil_append, List.append_nil, List.length_cons, List.length_nil, List.take_succ_cons, List.take_zero, List.contains_nil, Bool.not_false, Bool.not_true, Bool.and_self, Bool.true_and, Bool.and_true, Bool.false_and, Bool.and_false, Bool.true_or, Bool.or_true, Bool.false_or, Bool.or_false, Bool.false_eq_true, if_true, if_false, reduceIte, Nat.reduceAdd, Nat.reduceSub, Nat.reduceEqDiff, Nat.reduceLeDiff, Int.reduceNeg, Int.reduceLT, Int.reduceLE, Int.reducePow, Nat.reducePow, Int.reduceToNat, Nat.reduceLT, decide_true, decide_false, List.all_cons, List.all_nil, beq_self_eq_true, Option.isSome_some, List.filterMap_cons_some, List.filterMap_nil, turnL, qD, h4, h5, u_l4__law_plan, e, ninD, inB, e1, kw]
  | none =>
    have e1 : hasD (done.map wD) (wD ws) = false := by rw [has_fn wD_key]; simp [hnew]
    have e2 : nLc [7] (iAny (eVar 6)) (.nm 7) tYes' e2__law_plan [.val (leastD os), .dic true (done.map wD) (done.map PlD), s2, .val (wD ws), .val (.str (eg q.1)), .val (.int (q.2 : Int)), .val (partsD ws q.1 q.2), .un] =
        some (.lst ((kys ws q).map fun k => lD (prt ws q k)), [.val (leastD os), .dic true (done.map wD) (done.map PlD), s2, .val (wD ws), .val (.str (eg q.1)), .val (.int (q.2 : Int)), .val (partsD ws q.1 q.2), .un]) := by
      refine nLc_map1 .str (fun k => lD (prt ws q k)) (kys ws q) rfl rfl (fun k hk => ?_) (by omega)
      have k1 : isKey false (.str k) = true := rfl
      have k2 := wD_isKey (prt ws q k)
      simp only [c_sSeq, c_sIf, c_sDrop, c_sRet, c_sRetN, c_sRet0, c_sRetV, c_sFrz, c_sSet, c_sSetL, c_sSetN, c_sPar, c_sAsg, c_sFor, c_sPut, c_sPutL, c_sPutD, c_sSdApp, c_sNx, c_sBk, c_sCt, c_eFr, c_vE, c_eC, c_eVar, c_vVar, c_aNil, c_aCons, c_eTup, c_nLst, c_eOp, c_eUn, c_nUn, c_nCat, c_nDic, c_tOf, c_tTru, c_tNot, c_tAnd, c_tOr, c_eIf, c_nIf, c_eAnd, c_eOr, c_eNot, c_tYes, c_eApp, c_ePop, c_ePopAt, c_eGet, c_eSl, c_oNo, c_oAt, c_eCall, c_nCall, c_eCallK, c_runCall, c_runCallK, c_gNil, c_gCons, c_gOwn, c_gNwc, c_iAny, c_iRange1, c_iRange2, c_eTupGx, g_d, g_sl, runGs, valR, ownR, slotD, Sl.toD, Tg.bind, Tg.binds, plainAt_b, Option.any_some, plB_un, plB_val, frzE, lstOf, dicOf, setsG, isOwn, Rl.ownsOf, nodupB, nwsOf, argSl, back_e1, back_e2, back_e3, back_e4, back_e5, backArgs, pick, itsD_lst, itsD_tup, itsD_str, itsD_dic, getD2_dic, isDicD_dic, truD, catD, eqD, eqB, neD, ltD, leD, gtD, geD, addD, subD, mulD, modD, fdivD, pow_1018, negD, isNonD, notNonD, nonB, isiD, ixD_lst, ixD_tup, ixD_scr, ixD_str, ixD_dic, lenD_lst, lenD_tup, lenD_scr, lenD_str, lenD_dic, Rl.intD, Rl.absD, tupD, listL, slD, smallI_7, smallI_48271, smallI_69621, smallI_16, smallI_17, smallI_31, lt30_65536, lt30_2, lt30_16, lt30_10, atI_0, atI_1, atI_2, ixN_0, ixN_1, ixN_2, Option.bind_some, Option.bind_none, Option.map_some, Option.map_none, List.getElem?_cons_zero, List.getElem?_cons_succ, List.set_cons_zero, List.set_cons_succ, List.replicate_succ, List.replicate_zero, List.cons_append, List.nil_append, List.append_nil, List.length_cons, List.length_nil, List.take_succ_cons, List.take_zero, List.contains_nil, Bool.not_false, Bool.not_true, Bool.and_self, Bool.true_and, Bool.and_true, Bool.false_and, Bool.and_false, Bool.true_or, Bool.or_true, Bool.false_or, Bool.or_false, Bool.false_eq_true, if_true, if_false, reduceIte, Nat.reduceAdd, Nat.reduceSub, Nat.reduceEqDiff, Nat.reduceLeDiff, Int.reduceNeg, Int.reduceLT, Int.reduceLE, Int.reducePow, Nat.reducePow, Int.reduceToNat, Nat.reduceLT, decide_true, decide_false, List.all_cons, List.all_nil, beq_self_eq_true, Option.isSome_some, List.filterMap_cons_some, List.filterMap_nil, u_e2__law_plan, partsD, leastD, kk, gg, lk k hk, k1, k2, lf k hk]
    have e3 : maxD (.lst ((kys ws q).map fun k => lD (prt ws q k))) = some (.int (maxN ((kys ws q).map fun k => L (prt ws q k)) : Int)) := by
      have := maxD_nat (l := (kys ws q).map fun k => L (prt ws q k)) (by simpa using hne)
      rw [List.map_map] at this
      exact this
    have e4 : (1 : Int) + (maxN ((kys ws q).map fun k => L (prt ws q k)) : Int) = (cost ws q : Int) := by unfold cost; omega
    have e5 : ∀ o : Option Qn, (none : Option Qn).or o = o := fun _ => rfl
    by_cases hcl : cost ws q = L ws
    · have c1 : ((cost ws q : Int) == (L ws : Int)) = true := by simp [hcl]
      have e0 : ((dq ++ [q]).find? fun q => cost ws q == L ws) = some q := by rw [List.find?_append, hf]; simp [hcl]
      have hfq : (qs ws).find? (fun q => cost ws q == L ws) = some q := by
        rw [← hq, List.find?_append, hf]; simp [hcl]
      have hP : planQ ws q = PlD ws := (Pl_eq h1 hfq).symm
      have s1 := sortOk_strs (kys ws q) (by omega) (fun k hk => by
        obtain ⟨w, hw, rfl⟩ := mem_kys.mp hk
        exact ans_cps (h.c w hw) _ _)
      have s2' := sort_strs (kys ws q)
      have hsl := (srt_perm (kys ws q)).length_eq
      have e6 : nLc [7] (iAny (eFr (nUn sortL (vVar 6)))) (.nm 7) tYes' e3__law_plan [.val (leastD os), .dic true (done.map wD) (done.map PlD), s2, .val (wD ws), .val (.str (eg q.1)), .val (.int (q.2 : Int)), .val (partsD ws q.1 q.2), .un] =
          some (.lst ((srt (kys ws q)).map fun k => .tup [.str k, Pl (prt ws q k)]), [.val (leastD os), .dic true (done.map wD) (done.map PlD), s2, .val (wD ws), .val (.str (eg q.1)), .val (.int (q.2 : Int)), .val (partsD ws q.1 q.2), .un]) := by
        refine nLc_map1 .str (fun k => .tup [.str k, Pl (prt ws q k)]) (srt (kys ws q)) ?_ rfl (fun k hk => ?_) (by omega)
        · simp only [c_sSeq, c_sIf, c_sDrop, c_sRet, c_sRetN, c_sRet0, c_sRetV, c_sFrz, c_sSet, c_sSetL, c_sSetN, c_sPar, c_sAsg, c_sFor, c_sPut, c_sPutL, c_sPutD, c_sSdApp, c_sNx, c_sBk, c_sCt, c_eFr, c_vE, c_eC, c_eVar, c_vVar, c_aNil, c_aCons, c_eTup, c_nLst, c_eOp, c_eUn, c_nUn, c_nCat, c_nDic, c_tOf, c_tTru, c_tNot, c_tAnd, c_tOr, c_eIf, c_nIf, c_eAnd, c_eOr, c_eNot, c_tYes, c_eApp, c_ePop, c_ePopAt, c_eGet, c_eSl, c_oNo, c_oAt, c_eCall, c_nCall, c_eCallK, c_runCall, c_runCallK, c_gNil, c_gCons, c_gOwn, c_gNwc, c_iAny, c_iRange1, c_iRange2, c_eTupGx, g_d, g_sl, runGs, valR, ownR, slotD, Sl.toD, Tg.bind, Tg.binds, plainAt_b, Option.any_some, plB_un, plB_val, frzE, lstOf, dicOf, setsG, isOwn, Rl.ownsOf, nodupB, nwsOf, argSl, back_e1, back_e2, back_e3, back_e4, back_e5, backArgs, pick, itsD_lst, itsD_tup, itsD_str, itsD_dic, getD2_dic, isDicD_dic, truD, catD, eqD, eqB, neD, ltD, leD, gtD, geD, addD, subD, mulD, modD, fdivD, pow_1018, negD, isNonD, notNonD, nonB, isiD, ixD_lst, ixD_tup, ixD_scr, ixD_str, ixD_dic, lenD_lst, lenD_tup, lenD_scr, lenD_str, lenD_dic, Rl.intD, Rl.absD, tupD, listL, slD, smallI_7, smallI_48271, smallI_69621, smallI_16, smallI_17, smallI_31, lt30_65536, lt30_2, lt30_16, lt30_10, atI_0, atI_1, atI_2, ixN_0, ixN_1, ixN_2, Option.bind_some, Option.bind_none, Option.map_some, Option.map_none, List.getElem?_cons_zero, List.getElem?_cons_succ, List.set_cons_zero, List.set_cons_succ, List.replicate_succ, List.replicate_zero, List.cons_append, List.nil_append, List.append_nil, List.length_cons, List.length_nil, List.take_succ_cons, List.take_zero, List.contains_nil, Bool.not_false, Bool.not_true, Bool.and_self, Bool.true_and, Bool.and_true, Bool.false_and, Bool.and_false, Bool.true_or, Bool.or_true, Bool.false_or, Bool.or_false, Bool.false_eq_true, if_true, if_false, reduceIte, Nat.reduceAdd, Nat.reduceSub, Nat.reduceEqDiff, Nat.reduceLeDiff, Int.reduceNeg, Int.reduceLT, Int.reduceLE, Int.reducePow, Nat.reducePow, Int.reduceToNat, Nat.reduceLT, decide_true, decide_false, List.all_cons, List.all_nil, beq_self_eq_true, Option.isSome_some, List.filterMap_cons_some, List.filterMap_nil, partsD, kk, sortL, s1, s2']
        · have hk' := (srt_perm (kys ws q)).mem_iff.mp hk
          have k1 : isKey false (.str k) = true := rfl
          have k2 := wD_isKey (prt ws q k)
          simp only [c_sSeq, c_sIf, c_sDrop, c_sRet, c_sRetN, c_sRet0, c_sRetV, c_sFrz, c_sSet, c_sSetL, c_sSetN, c_sPar, c_sAsg, c_sFor, c_sPut, c_sPutL, c_sPutD, c_sSdApp, c_sNx, c_sBk, c_sCt, c_eFr, c_vE, c_eC, c_eVar, c_vVar, c_aNil, c_aCons, c_eTup, c_nLst, c_eOp, c_eUn, c_nUn, c_nCat, c_nDic, c_tOf, c_tTru, c_tNot, c_tAnd, c_tOr, c_eIf, c_nIf, c_eAnd, c_eOr, c_eNot, c_tYes, c_eApp, c_ePop, c_ePopAt, c_eGet, c_eSl, c_oNo, c_oAt, c_eCall, c_nCall, c_eCallK, c_runCall, c_runCallK, c_gNil, c_gCons, c_gOwn, c_gNwc, c_iAny, c_iRange1, c_iRange2, c_eTupGx, g_d, g_sl, runGs, valR, ownR, slotD, Sl.toD, Tg.bind, Tg.binds, plainAt_b, Option.any_some, plB_un, plB_val, frzE, lstOf, dicOf, setsG, isOwn, Rl.ownsOf, nodupB, nwsOf, argSl, back_e1, back_e2, back_e3, back_e4, back_e5, backArgs, pick, itsD_lst, itsD_tup, itsD_str, itsD_dic, getD2_dic, isDicD_dic, truD, catD, eqD, eqB, neD, ltD, leD, gtD, geD, addD, subD, mulD, modD, fdivD, pow_1018, negD, isNonD, notNonD, nonB, isiD, ixD_lst, ixD_tup, ixD_scr, ixD_str, ixD_dic, lenD_lst, lenD_tup, lenD_scr, lenD_str, lenD_dic, Rl.intD, Rl.absD, tupD, listL, slD, smallI_7, smallI_48271, smallI_69621, smallI_16, smallI_17, smallI_31, lt30_65536, lt30_2, lt30_16, lt30_10, atI_0, atI_1, atI_2, ixN_0, ixN_1, ixN_2, Option.bind_some, Option.bind_none, Option.map_some, Option.map_none, List.getElem?_cons_zero, List.getElem?_cons_succ, List.set_cons_zero, List.set_cons_succ, List.replicate_succ, List.replicate_zero, List.cons_append, List.nil_append, List.append_nil, List.length_cons, List.length_nil, List.take_succ_cons, List.take_zero, List.contains_nil, Bool.not_false, Bool.not_true, Bool.and_self, Bool.true_and, Bool.and_true, Bool.false_and, Bool.and_false, Bool.true_or, Bool.or_true, Bool.false_or, Bool.or_false, Bool.false_eq_true, if_true, if_false, reduceIte, Nat.reduceAdd, Nat.reduceSub, Nat.reduceEqDiff, Nat.reduceLeDiff, Int.reduceNeg, Int.reduceLT, Int.reduceLE, Int.reducePow, Nat.reducePow, Int.reduceToNat, Nat.reduceLT, decide_true, decide_false, List.all_cons, List.all_nil, beq_self_eq_true, Option.isSome_some, List.filterMap_cons_some, List.filterMap_nil, u_e3__law_plan, partsD, kk, gg, lk k hk', k1, k2, lp k hk', z2, PlD]
      have z : szLt (done.map wD).length = true := szLt_of (by rw [List.length_map]; omega)
      have e7 := putKs_new wD_key hnew
      have e8 := putVs_new wD_key PlD hnew
      rw [← hP, planQ] at e8
      simp only [e0, Option.isSome_some, Option.isSome_none, if_true, if_false, Bool.false_eq_true, pls]
      simp only [c_sSeq, c_sIf, c_sDrop, c_sRet, c_sRetN, c_sRet0, c_sRetV, c_sFrz, c_sSet, c_sSetL, c_sSetN, c_sPar, c_sAsg, c_sFor, c_sPut, c_sPutL, c_sPutD, c_sSdApp, c_sNx, c_sBk, c_sCt, c_eFr, c_vE, c_eC, c_eVar, c_vVar, c_aNil, c_aCons, c_eTup, c_nLst, c_eOp, c_eUn, c_nUn, c_nCat, c_nDic, c_tOf, c_tTru, c_tNot, c_tAnd, c_tOr, c_eIf, c_nIf, c_eAnd, c_eOr, c_eNot, c_tYes, c_eApp, c_ePop, c_ePopAt, c_eGet, c_eSl, c_oNo, c_oAt, c_eCall, c_nCall, c_eCallK, c_runCall, c_runCallK, c_gNil, c_gCons, c_gOwn, c_gNwc, c_iAny, c_iRange1, c_iRange2, c_eTupGx, g_d, g_sl, runGs, valR, ownR, slotD, Sl.toD, Tg.bind, Tg.binds, plainAt_b, Option.any_some, plB_un, plB_val, frzE, lstOf, dicOf, setsG, isOwn, Rl.ownsOf, nodupB, nwsOf, argSl, back_e1, back_e2, back_e3, back_e4, back_e5, backArgs, pick, itsD_lst, itsD_tup, itsD_str, itsD_dic, getD2_dic, isDicD_dic, truD, catD, eqD, eqB, neD, ltD, leD, gtD, geD, addD, subD, mulD, modD, fdivD, pow_1018, negD, isNonD, notNonD, nonB, isiD, ixD_lst, ixD_tup, ixD_scr, ixD_str, ixD_dic, lenD_lst, lenD_tup, lenD_scr, lenD_str, lenD_dic, Rl.intD, Rl.absD, tupD, listL, slD, smallI_7, smallI_48271, smallI_69621, smallI_16, smallI_17, smallI_31, lt30_65536, lt30_2, lt30_16, lt30_10, atI_0, atI_1, atI_2, ixN_0, ixN_1, ixN_2, Option.bind_some, Option.bind_none, Option.map_some, Option.map_none, List.getElem?_cons_zero, List.getElem?_cons_succ, List.set_cons_zero, List.set_cons_succ, List.replicate_succ, List.replicate_zero, List.cons_append, List.nil_append, List.append_nil, List.length_cons, List.length_nil, List.take_succ_cons, List.take_zero, List.contains_nil, Bool.not_false, Bool.not_true, Bool.and_self, Bool.true_and, Bool.and_true, Bool.false_and, Bool.and_false, Bool.true_or, Bool.or_true, Bool.false_or, Bool.or_false, Bool.false_eq_true, if_true, if_false, reduceIte, Nat.reduceAdd, Nat.reduceSub, Nat.reduceEqDiff, Nat.reduceLeDiff, Int.reduceNeg, Int.reduceLT, Int.reduceLE, Int.reducePow, Nat.reducePow, Int.reduceToNat, Nat.reduceLT, decide_true, decide_false, List.all_cons, List.all_nil, beq_self_eq_true, Option.isSome_some, List.filterMap_cons_some, List.filterMap_nil, turnL, qD, h4, h5, u_l4__law_plan, e, ninD, inB, e1, kw, e2, e3, e4, lw2, c1, e6, z, z3, e7, e8]
    · have c1 : ((cost ws q : Int) == (L ws : Int)) = false := by
        rw [beq_eq_false_iff_ne]; omega
      have e0 : ((dq ++ [q]).find? fun q => cost ws q == L ws) = none := by rw [List.find?_append, hf]; simp [hcl]
      simp only [e0, Option.isSome_none, if_false, Bool.false_eq_true, pls]
      simp only [c_sSeq, c_sIf, c_sDrop, c_sRet, c_sRetN, c_sRet0, c_sRetV, c_sFrz, c_sSet, c_sSetL, c_sSetN, c_sPar, c_sAsg, c_sFor, c_sPut, c_sPutL, c_sPutD, c_sSdApp, c_sNx, c_sBk, c_sCt, c_eFr, c_vE, c_eC, c_eVar, c_vVar, c_aNil, c_aCons, c_eTup, c_nLst, c_eOp, c_eUn, c_nUn, c_nCat, c_nDic, c_tOf, c_tTru, c_tNot, c_tAnd, c_tOr, c_eIf, c_nIf, c_eAnd, c_eOr, c_eNot, c_tYes, c_eApp, c_ePop, c_ePopAt, c_eGet, c_eSl, c_oNo, c_oAt, c_eCall, c_nCall, c_eCallK, c_runCall, c_runCallK, c_gNil, c_gCons, c_gOwn, c_gNwc, c_iAny, c_iRange1, c_iRange2, c_eTupGx, g_d, g_sl, runGs, valR, ownR, slotD, Sl.toD, Tg.bind, Tg.binds, plainAt_b, Option.any_some, plB_un, plB_val, frzE, lstOf, dicOf, setsG, isOwn, Rl.ownsOf, nodupB, nwsOf, argSl, back_e1, back_e2, back_e3, back_e4, back_e5, backArgs, pick, itsD_lst, itsD_tup, itsD_str, itsD_dic, getD2_dic, isDicD_dic, truD, catD, eqD, eqB, neD, ltD, leD, gtD, geD, addD, subD, mulD, modD, fdivD, pow_1018, negD, isNonD, notNonD, nonB, isiD, ixD_lst, ixD_tup, ixD_scr, ixD_str, ixD_dic, lenD_lst, lenD_tup, lenD_scr, lenD_str, lenD_dic, Rl.intD, Rl.absD, tupD, listL, slD, smallI_7, smallI_48271, smallI_69621, smallI_16, smallI_17, smallI_31, lt30_65536, lt30_2, lt30_16, lt30_10, atI_0, atI_1, atI_2, ixN_0, ixN_1, ixN_2, Option.bind_some, Option.bind_none, Option.map_some, Option.map_none, List.getElem?_cons_zero, List.getElem?_cons_succ, List.set_cons_zero, List.set_cons_succ, List.replicate_succ, List.replicate_zero, List.cons_append, List.nil_append, List.append_nil, List.length_cons, List.length_nil, List.take_succ_cons, List.take_zero, List.contains_nil, Bool.not_false, Bool.not_true, Bool.and_self, Bool.true_and, Bool.and_true, Bool.false_and, Bool.and_false, Bool.true_or, Bool.or_true, Bool.false_or, Bool.or_false, Bool.false_eq_true, if_true, if_false, reduceIte, Nat.reduceAdd, Nat.reduceSub, Nat.reduceEqDiff, Nat.reduceLeDiff, Int.reduceNeg, Int.reduceLT, Int.reduceLE, Int.reducePow, Nat.reducePow, Int.reduceToNat, Nat.reduceLT, decide_true, decide_false, List.all_cons, List.all_nil, beq_self_eq_true, Option.isSome_some, List.filterMap_cons_some, List.filterMap_nil, turnL, qD, h4, h5, u_l4__law_plan, e, ninD, inB, e1, kw, e2, e3, e4, lw2, c1]
end P82
end

set_option linter.all false
set_option maxRecDepth 100000
set_option autoImplicit false
set_option maxHeartbeats 1000000
noncomputable section
namespace P82
open PySem L2 Rl
theorem lp5 {W : List Wd} (hW : Lot W) (h12 : W.length ≤ 12) {os done rest : List (List Wd)} (hl : Lots W os) (hc : Closed os) {ws : List Wd} (ho : ord os = done ++ ws :: rest) (s2 s3 s4 s5 s6 : Sl) (h2 : plB s2 = true) (h3 : plB s3 = true) (h4 : plB s4 = true) (h5 : plB s5 = true) :
    ∃ fl s4' s5' s6', turnL (.tp [.nm 2, .nm 3]) l5__law_plan (szD ws) [.val (leastD os), pls done, s2, s3, s4, s5, s6, .un] =
      some (fl, [.val (leastD os), pls (done ++ [ws]), .val (.int (ws.length : Int)), .val (wD ws), s4', s5', s6', .un]) ∧ goesOn fl = true ∧ plB s4' = true ∧ plB s5' = true := by
  have hw : ws ∈ os := (ord_perm os).mem_iff.mp (by rw [ho]; simp)
  have hm := hl.sub ws hw
  have h := hW.sub hm.1 hm.2
  have hnd : (ord os).Nodup := (ord_perm os).nodup_iff.mpr hl.nd
  have hlen : (ord os).length ≤ 4096 := by rw [(ord_perm os).length_eq]; exact hl.len h12
  have hnew : ws ∉ done := fun hh => by
    rw [ho, List.nodup_append] at hnd
    exact hnd.2.2 ws hh ws (by simp) rfl
  have hdl : done.length ≤ 4096 := by rw [ho] at hlen; simp at hlen; omega
  have z1 : szLt (done.map wD).length = true := szLt_of (by rw [List.length_map]; omega)
  have kd := wD_isKey ws
  have e4 := putKs_new wD_key hnew
  have e5 := putVs_new wD_key PlD hnew
  by_cases h1 : 1 < ws.length
  · obtain ⟨outs, e⟩ := questions_ok h
    have c1 : ((ws.length : Int) == 1) = false := by rw [beq_eq_false_iff_ne]; omega
    obtain ⟨σ, e3, _, s4', s5', s6', p4, p5, rfl⟩ := forL_invT qD (t := .tp [.nm 4, .nm 5]) (b := l4__law_plan)
      (fun dq rest σ => dq ++ rest = qs ws ∧ ∃ s4 s5 s6, plB s4 = true ∧ plB s5 = true ∧ σ = [.val (leastD os), (if (dq.find? fun q => cost ws q == L ws).isSome then pls (done ++ [ws]) else pls done), .val (.int (ws.length : Int)), .val (wD ws), s4, s5, s6, .un])
      (fun dq q r σ hS => by
        obtain ⟨hd, s4', s5', s6', p4, p5, rfl⟩ := hS
        exact ⟨_, _, lp4 h h1 hdl hc ho hnew hd _ s4' s5' s6' p4 p5, rfl, by rw [← hd]; simp, .val (.str (eg q.1)), .val (.int (q.2 : Int)), .val (partsD ws q.1 q.2), rfl, rfl, rfl⟩)
      (qs ws) [] [.val (leastD os), pls done, .val (.int (ws.length : Int)), .val (wD ws), s4, s5, s6, .un] ⟨rfl, s4, s5, s6, h4, h5, rfl⟩
    obtain ⟨q, hq, _, _⟩ := find_ex h.nd h1
    rw [List.nil_append, hq] at e3
    refine ⟨.nx, s4', s5', s6', ?_, rfl, p4, p5⟩
    simp only [c_sSeq, c_sIf, c_sDrop, c_sRet, c_sRetN, c_sRet0, c_sRetV, c_sFrz, c_sSet, c_sSetL, c_sSetN, c_sPar, c_sAsg, c_sFor, c_sPut, c_sPutL, c_sPutD, c_sSdApp, c_sNx, c_sBk, c_sCt, c_eFr, c_vE, c_eC, c_eVar, c_vVar, c_aNil, c_aCons, c_eTup, c_nLst, c_eOp, c_eUn, c_nUn, c_nCat, c_nDic, c_tOf, c_tTru, c_tNot, c_tAnd, c_tOr, c_eIf, c_nIf, c_eAnd, c_eOr, c_eNot, c_tYes, c_eApp, c_ePop, c_ePopAt, c_eGet, c_eSl, c_oNo, c_oAt, c_eCall, c_nCall, c_eCallK, c_runCall, c_runCallK, c_gNil, c_gCons, c_gOwn, c_gNwc, c_iAny, c_iRange1, c_iRange2, c_eTupGx, g_d, g_sl, runGs, valR, ownR, slotD, Sl.toD, Tg.bind, Tg.binds, plainAt_b, Option.any_some, plB_un, plB_val, frzE, lstOf, dicOf, setsG, isOwn, Rl.ownsOf, nodupB, nwsOf, argSl, back_e1, back_e2, back_e3, back_e4, back_e5, backArgs, pick, itsD_lst, itsD_tup, itsD_str, itsD_dic, getD2_dic, isDicD_dic, truD, catD, eqD, eqB, neD, ltD, leD, gtD, geD, addD, subD, mulD, modD, fdivD, pow_1018, negD, isNonD, notNonD, nonB, isiD, ixD_lst, ixD_tup, ixD_scr, ixD_str, ixD_dic, lenD_lst, lenD_tup, lenD_scr, lenD_str, lenD_dic, Rl.intD, Rl.absD, tupD, listL, slD, smallI_7, smallI_48271, smallI_69621, smallI_16, smallI_17, smallI_31, lt30_65536, lt30_2, lt30_16, lt30_10, atI_0, atI_1, atI_2, ixN_0, ixN_1, ixN_2, Option.bind_some, Option.bind_none, Option.map_some, Option.map_none, List.getElem?_cons_zero, List.getElem?_cons_succ, List.set_cons_zero, List.set_cons_succ, List.replicate_succ, List.replicate_zero, List.cons_append, List.nil_append, List.append_nil, List.length_cons, List.length_nil, List.take_succ_cons, List.take_zero, List.contains_nil, Bool.not_false, Bool.not_true, Bool.and_self, Bool.true_and, Bool.and_true, Bool.false_and, Bool.and_false, Bool.true_or, Bool.or_true, Bool.false_or, Bool.or_false, Bool.false_eq_true, if_true, if_false, reduceIte, Nat.reduceAdd, Nat.reduceSub, Nat.reduceEqDiff, Nat.reduceLeDiff, Int.reduceNeg, Int.reduceLT, Int.reduceLE, Int.reducePow, Nat.reducePow, Int.reduceToNat, Nat.reduceLT, decide_true, decide_false, List.all_cons, List.all_nil, beq_self_eq_true, Option.isSome_some, List.filterMap_cons_some, List.filterMap_nil, turnL, szD, h2, h3, u_l5__law_plan, c1, e, e3]
  · obtain ⟨w, rfl⟩ : ∃ w, ws = [w] := by
      have := List.length_pos_iff.mpr h.ne
      match ws, h1, this with
      | [w], _, _ => exact ⟨w, rfl⟩
      | _ :: _ :: _, h1, _ => simp at h1
    have e6 : D.str w = PlD [w] := Pl_one.symm
    rw [← e6] at e5
    have e7 : ixD (wD [w]) (.int 0) = some (.str w) := by
      unfold wD
      simp only [c_sSeq, c_sIf, c_sDrop, c_sRet, c_sRetN, c_sRet0, c_sRetV, c_sFrz, c_sSet, c_sSetL, c_sSetN, c_sPar, c_sAsg, c_sFor, c_sPut, c_sPutL, c_sPutD, c_sSdApp, c_sNx, c_sBk, c_sCt, c_eFr, c_vE, c_eC, c_eVar, c_vVar, c_aNil, c_aCons, c_eTup, c_nLst, c_eOp, c_eUn, c_nUn, c_nCat, c_nDic, c_tOf, c_tTru, c_tNot, c_tAnd, c_tOr, c_eIf, c_nIf, c_eAnd, c_eOr, c_eNot, c_tYes, c_eApp, c_ePop, c_ePopAt, c_eGet, c_eSl, c_oNo, c_oAt, c_eCall, c_nCall, c_eCallK, c_runCall, c_runCallK, c_gNil, c_gCons, c_gOwn, c_gNwc, c_iAny, c_iRange1, c_iRange2, c_eTupGx, g_d, g_sl, runGs, valR, ownR, slotD, Sl.toD, Tg.bind, Tg.binds, plainAt_b, Option.any_some, plB_un, plB_val, frzE, lstOf, dicOf, setsG, isOwn, Rl.ownsOf, nodupB, nwsOf, argSl, back_e1, back_e2, back_e3, back_e4, back_e5, backArgs, pick, itsD_lst, itsD_tup, itsD_str, itsD_dic, getD2_dic, isDicD_dic, truD, catD, eqD, eqB, neD, ltD, leD, gtD, geD, addD, subD, mulD, modD, fdivD, pow_1018, negD, isNonD, notNonD, nonB, isiD, ixD_lst, ixD_tup, ixD_scr, ixD_str, ixD_dic, lenD_lst, lenD_tup, lenD_scr, lenD_str, lenD_dic, Rl.intD, Rl.absD, tupD, listL, slD, smallI_7, smallI_48271, smallI_69621, smallI_16, smallI_17, smallI_31, lt30_65536, lt30_2, lt30_16, lt30_10, atI_0, atI_1, atI_2, ixN_0, ixN_1, ixN_2, Option.bind_some, Option.bind_none, Option.map_some, Option.map_none, List.getElem?_cons_zero, List.getElem?_cons_succ, List.set_cons_zero, List.set_cons_succ, List.replicate_succ, List.replicate_zero, List.cons_append, List.nil_append, List.append_nil, List.length_cons, List.length_nil, List.take_succ_cons, List.take_zero, List.contains_nil, Bool.not_false, Bool.not_true, Bool.and_self, Bool.true_and, Bool.and_true, Bool.false_and, Bool.and_false, Bool.true_or, Bool.or_true, Bool.false_or, Bool.or_false, Bool.false_eq_true, if_true, if_false, reduceIte, Nat.reduceAdd, Nat.reduceSub, Nat.reduceEqDiff, Nat.reduceLeDiff, Int.reduceNeg, Int.reduceLT, Int.reduceLE, Int.reducePow, Nat.reducePow, Int.reduceToNat, Nat.reduceLT, decide_true, decide_false, List.all_cons, List.all_nil, beq_self_eq_true, Option.isSome_some, List.filterMap_cons_some, List.filterMap_nil]
      exact atI_0 _ _
    have c1 : (((([w] : List Wd).length : Nat) : Int) == 1) = true := rfl
    refine ⟨.ct, s4, s5, s6, ?_, rfl, h4, h5⟩
    unfold turnL szD pls
    simp only [c_sSeq, c_sIf, c_sDrop, c_sRet, c_sRetN, c_sRet0, c_sRetV, c_sFrz, c_sSet, c_sSetL, c_sSetN, c_sPar, c_sAsg, c_sFor, c_sPut, c_sPutL, c_sPutD, c_sSdApp, c_sNx, c_sBk, c_sCt, c_eFr, c_vE, c_eC, c_eVar, c_vVar, c_aNil, c_aCons, c_eTup, c_nLst, c_eOp, c_eUn, c_nUn, c_nCat, c_nDic, c_tOf, c_tTru, c_tNot, c_tAnd, c_tOr, c_eIf, c_nIf, c_eAnd, c_eOr, c_eNot, c_tYes, c_eApp, c_ePop, c_ePopAt, c_eGet, c_eSl, c_oNo, c_oAt, c_eCall, c_nCall, c_eCallK, c_runCall, c_runCallK, c_gNil, c_gCons, c_gOwn, c_gNwc, c_iAny, c_iRange1, c_iRange2, c_eTupGx, g_d, g_sl, runGs, valR, ownR, slotD, Sl.toD, Tg.bind, Tg.binds, plainAt_b, Option.any_some, plB_un, plB_val, frzE, lstOf, dicOf, setsG, isOwn, Rl.ownsOf, nodupB, nwsOf, argSl, back_e1, back_e2, back_e3, back_e4, back_e5, backArgs, pick, itsD_lst, itsD_tup, itsD_str, itsD_dic, getD2_dic, isDicD_dic, truD, catD, eqD, eqB, neD, ltD, leD, gtD, geD, addD, subD, mulD, modD, fdivD, pow_1018, negD, isNonD, notNonD, nonB, isiD, ixD_lst, ixD_tup, ixD_scr, ixD_str, ixD_dic, lenD_lst, lenD_tup, lenD_scr, lenD_str, lenD_dic, Rl.intD, Rl.absD, tupD, listL, slD, smallI_7, smallI_48271, smallI_69621, smallI_16, smallI_17, smallI_31, lt30_65536, lt30_2, lt30_16, lt30_10, atI_0, atI_1, atI_2, ixN_0, ixN_1, ixN_2, Option.bind_some, Option.bind_none, Option.map_some, Option.map_none, List.getElem?_cons_zero, List.getElem?_cons_succ, List.set_cons_zero, List.set_cons_succ, List.replicate_succ, List.replicate_zero, List.cons_append, List.nil_append, List.append_nil, List.length_cons, List.length_nil, List.take_succ_cons, List.take_zero, List.contains_nil, Bool.not_false, Bool.not_true, Bool.and_self, Bool.true_and, Bool.and_true, Bool.false_and, Bool.and_false, Bool.true_or, Bool.or_true, Bool.false_or, Bool.or_false, Bool.false_eq_true, if_true, if_false, reduceIte, Nat.reduceAdd, Nat.reduceSub, Nat.reduceEqDiff, Nat.reduceLeDiff, Int.reduceNeg, Int.reduceLT, Int.reduceLE, Int.reducePow, Nat.reducePow, Int.reduceToNat, Nat.reduceLT, decide_true, decide_false, List.all_cons, List.all_nil, beq_self_eq_true, Option.isSome_some, List.filterMap_cons_some, List.filterMap_nil, h2, h3, u_l5__law_plan, c1, e7, kd, z1, e4, e5]
    rfl
def plansD (os : List (List Wd)) : D := .dic true (os.map wD) (os.map PlD)
theorem plan_ok {W : List Wd} (hW : Lot W) (h12 : W.length ≤ 12) {os : List (List Wd)} (hl : Lots W os) (hc : Closed os) :
    ∃ outs, F__law_plan [.val (leastD os)] = some (.val (plansD (ord os)), outs) := by
  have hlen := hl.len h12
  have hcp : ∀ s ∈ os, ∀ w ∈ s, Cps w := fun s hs w hw => hW.c w ((hl.sub s hs).1.subset hw)
  have e2 : nLc [3] (iAny (eVar 0)) (.nm 3) tYes' e1__law_plan [.val (leastD os), .dic true [] [], .un, .un, .un, .un, .un, .un] =
      some (.lst (os.map szD), [.val (leastD os), .dic true [] [], .un, .un, .un, .un, .un, .un]) := by
    refine nLc_map1 wD szD os rfl rfl (fun ws hws => ?_) (by omega)
    have z : szOk 2 = true := szOk_of (by omega)
    simp only [c_sSeq, c_sIf, c_sDrop, c_sRet, c_sRetN, c_sRet0, c_sRetV, c_sFrz, c_sSet, c_sSetL, c_sSetN, c_sPar, c_sAsg, c_sFor, c_sPut, c_sPutL, c_sPutD, c_sSdApp, c_sNx, c_sBk, c_sCt, c_eFr, c_vE, c_eC, c_eVar, c_vVar, c_aNil, c_aCons, c_eTup, c_nLst, c_eOp, c_eUn, c_nUn, c_nCat, c_nDic, c_tOf, c_tTru, c_tNot, c_tAnd, c_tOr, c_eIf, c_nIf, c_eAnd, c_eOr, c_eNot, c_tYes, c_eApp, c_ePop, c_ePopAt, c_eGet, c_eSl, c_oNo, c_oAt, c_eCall, c_nCall, c_eCallK, c_runCall, c_runCallK, c_gNil, c_gCons, c_gOwn, c_gNwc, c_iAny, c_iRange1, c_iRange2, c_eTupGx, g_d, g_sl, runGs, valR, ownR, slotD, Sl.toD, Tg.bind, Tg.binds, plainAt_b, Option.any_some, plB_un, plB_val, frzE, lstOf, dicOf, setsG, isOwn, Rl.ownsOf, nodupB, nwsOf, argSl, back_e1, back_e2, back_e3, back_e4, back_e5, backArgs, pick, itsD_lst, itsD_tup, itsD_str, itsD_dic, getD2_dic, isDicD_dic, truD, catD, eqD, eqB, neD, ltD, leD, gtD, geD, addD, subD, mulD, modD, fdivD, pow_1018, negD, isNonD, notNonD, nonB, isiD, ixD_lst, ixD_tup, ixD_scr, ixD_str, ixD_dic, lenD_lst, lenD_tup, lenD_scr, lenD_str, lenD_dic, Rl.intD, Rl.absD, tupD, listL, slD, smallI_7, smallI_48271, smallI_69621, smallI_16, smallI_17, smallI_31, lt30_65536, lt30_2, lt30_16, lt30_10, atI_0, atI_1, atI_2, ixN_0, ixN_1, ixN_2, Option.bind_some, Option.bind_none, Option.map_some, Option.map_none, List.getElem?_cons_zero, List.getElem?_cons_succ, List.set_cons_zero, List.set_cons_succ, List.replicate_succ, List.replicate_zero, List.cons_append, List.nil_append, List.append_nil, List.length_cons, List.length_nil, List.take_succ_cons, List.take_zero, List.contains_nil, Bool.not_false, Bool.not_true, Bool.and_self, Bool.true_and, Bool.and_true, Bool.false_and, Bool.and_false, Bool.true_or, Bool.or_true, Bool.false_or, Bool.or_false, Bool.false_eq_true, if_true, if_false, reduceIte, Nat.reduceAdd, Nat.reduceSub, Nat.reduceEqDiff, Nat.reduceLeDiff, Int.reduceNeg, Int.reduceLT, Int.reduceLE, Int.reducePow, Nat.reducePow, Int.reduceToNat, Nat.reduceLT, decide_true, decide_false, List.all_cons, List.all_nil, beq_self_eq_true, Option.isSome_some, List.filterMap_cons_some, List.filterMap_nil, u_e1__law_plan, wD, szD, z, List.length_map]
  have e3 := sortOk_sz os (by omega) hcp
  have e4 := ord_map os
  obtain ⟨σ, e5, _, s2', s3', s4', s5', s6', p2', p3', p4', p5', rfl⟩ := forL_invT szD (t := .tp [.nm 2, .nm 3]) (b := l5__law_plan)
    (fun done rest σ => done ++ rest = ord os ∧ ∃ s2 s3 s4 s5 s6, plB s2 = true ∧ plB s3 = true ∧ plB s4 = true ∧ plB s5 = true ∧ σ = [.val (leastD os), pls done, s2, s3, s4, s5, s6, .un])
    (fun done ws r σ hS => by
      obtain ⟨hd, s2, s3, s4, s5, s6, p2, p3, p4, p5, rfl⟩ := hS
      obtain ⟨fl, s4', s5', s6', e, hg, q4, q5⟩ := lp5 hW h12 hl hc hd.symm s2 s3 s4 s5 s6 p2 p3 p4 p5
      exact ⟨_, _, e, hg, by rw [← hd]; simp, .val (.int (ws.length : Int)), .val (wD ws), _, _, _, rfl, rfl, q4, q5, rfl⟩)
    (ord os) [] [.val (leastD os), pls [], .un, .un, .un, .un, .un, .un] ⟨rfl, .un, .un, .un, .un, .un, rfl, rfl, rfl, rfl, rfl⟩
  simp only [List.nil_append, pls, List.map_nil] at e5
  unfold F__law_plan fnOf b__law_plan
  simp only [c_sSeq, c_sIf, c_sDrop, c_sRet, c_sRetN, c_sRet0, c_sRetV, c_sFrz, c_sSet, c_sSetL, c_sSetN, c_sPar, c_sAsg, c_sFor, c_sPut, c_sPutL, c_sPutD, c_sSdApp, c_sNx, c_sBk, c_sCt, c_eFr, c_vE, c_eC, c_eVar, c_vVar, c_aNil, c_aCons, c_eTup, c_nLst, c_eOp, c_eUn, c_nUn, c_nCat, c_nDic, c_tOf, c_tTru, c_tNot, c_tAnd, c_tOr, c_eIf, c_nIf, c_eAnd, c_eOr, c_eNot, c_tYes, c_eApp, c_ePop, c_ePopAt, c_eGet, c_eSl, c_oNo, c_oAt, c_eCall, c_nCall, c_eCallK, c_runCall, c_runCallK, c_gNil, c_gCons, c_gOwn, c_gNwc, c_iAny, c_iRange1, c_iRange2, c_eTupGx, g_d, g_sl, runGs, valR, ownR, slotD, Sl.toD, Tg.bind, Tg.binds, plainAt_b, Option.any_some, plB_un, plB_val, frzE, lstOf, dicOf, setsG, isOwn, Rl.ownsOf, nodupB, nwsOf, argSl, back_e1, back_e2, back_e3, back_e4, back_e5, backArgs, pick, itsD_lst, itsD_tup, itsD_str, itsD_dic, getD2_dic, isDicD_dic, truD, catD, eqD, eqB, neD, ltD, leD, gtD, geD, addD, subD, mulD, modD, fdivD, pow_1018, negD, isNonD, notNonD, nonB, isiD, ixD_lst, ixD_tup, ixD_scr, ixD_str, ixD_dic, lenD_lst, lenD_tup, lenD_scr, lenD_str, lenD_dic, Rl.intD, Rl.absD, tupD, listL, slD, smallI_7, smallI_48271, smallI_69621, smallI_16, smallI_17, smallI_31, lt30_65536, lt30_2, lt30_16, lt30_10, atI_0, atI_1, atI_2, ixN_0, ixN_1, ixN_2, Option.bind_some, Option.bind_none, Option.map_some, Option.map_none, List.getElem?_cons_zero, List.getElem?_cons_succ, List.set_cons_zero, List.set_cons_succ, List.replicate_succ, List.replicate_zero, List.cons_append, List.nil_append, List.append_nil, List.length_cons, List.length_nil, List.take_succ_cons, List.take_zero, List.contains_nil, Bool.not_false, Bool.not_true, Bool.and_self, Bool.true_and, Bool.and_true, Bool.false_and, Bool.and_false, Bool.true_or, Bool.or_true, Bool.false_or, Bool.or_false, Bool.false_eq_true, if_true, if_false, reduceIte, Nat.reduceAdd, Nat.reduceSub, Nat.reduceEqDiff, Nat.reduceLeDiff, Int.reduceNeg, Int.reduceLT, Int.reduceLE, Int.reducePow, Nat.reducePow, Int.reduceToNat, Nat.reduceLT, decide_true, decide_false, List.all_cons, List.all_nil, beq_self_eq_true, Option.isSome_some, List.filterMap_cons_some, List.filterMap_nil, e2, sortL, e3, e4, e5, plansD]
  exact ⟨_, rfl⟩
end P82
end

set_option linter.all false
set_option maxRecDepth 100000
set_option autoImplicit false
set_option maxHeartbeats 1000000
noncomputable section
namespace P82
open PySem L2 Rl
/-! ### the program's best plan -/
def bD (ws : List Wd) : D := .tup [.int (L ws : Int), Pl ws]
def kn (ks : List (List Wd)) : Sl := .dic true (ks.map wD) (ks.map bD)
/-- f does what best_plan should, for lots smaller than ws -/
def BpOk (W : List Wd) (m : Nat) (f : Fn) : Prop := ∀ (ws : List Wd) (ks : List (List Wd)), ws.Sublist W → ws ≠ [] → ws.length < m → Lots W ks →
  ∃ ks', f [.val (wD ws), kn ks] = some (.val (bD ws), [.val (wD ws), kn ks']) ∧ Lots W ks'
theorem cost_pos (ws : List Wd) (q : Qn) : 1 ≤ cost ws q := by unfold cost; omega
theorem isQ_len {ws : List Wd} (h : Lot ws) (q : Qn) : kys ws q ≠ [] := by
  obtain ⟨w, hw⟩ := List.exists_mem_of_ne_nil _ h.ne
  exact List.ne_nil_of_mem (mem_kys.mpr ⟨w, hw, rfl⟩)
theorem gxL_parts (ws : List Wd) (q : Qn) (sk : List Wd) : gxL 1 (sk.map fun k => .tup [.str k, bD (prt ws q k)]) = some (sk.map fun k => .tup [.str k, Pl (prt ws q k)]) := by
  induction sk with
  | nil => rfl
  | cons a r ih => simp only [List.map_cons, gxL, ih, Option.bind_some]; rfl
theorem bp2 {W ws : List Wd} (hW : Lot W) (hs : ws.Sublist W) (hne : ws ≠ []) {f : Fn} (hf : BpOk W ws.length f) {ks : List (List Wd)} (hk : Lots W ks)
    {done : List Qn} {b : Nat} {p : D} (hb : Best ws ws.length (.tup []) done b p) (l : Bool) (pl : Nat) (s4 s5 s6 s7 : Sl) (h4 : plB s4 = true) :
    ∃ (fl : Fl) (ks' : List (List Wd)) (b' : Nat) (p' : D) (s5' s6' s7' : Sl), turnL (.nm 4) (l2_best_plan f) (.int (pl : Int)) [.val (wD ws), kn ks, .val (.tup [.int (b : Int), p]), .val (.str (eg l)), s4, s5, s6, s7, .un, .un, .un, .un] =
      some (fl, [.val (wD ws), kn ks', .val (.tup [.int (b' : Int), p']), .val (.str (eg l)), .val (.int (pl : Int)), s5', s6', s7', .un, .un, .un, .un]) ∧ goesOn fl = true ∧ Lots W ks' ∧ Best ws ws.length (.tup []) (done ++ [(l, pl)].filter (isQ ws)) b' p' := by
  have h := hW.sub hs hne
  obtain ⟨outs, e⟩ := parts_of_ok ws l pl h.w h.c h.n h.ne
  have l2 := kys_len h (l, pl)
  have l3 := (srt_perm (kys ws (l, pl))).length_eq
  have kk : srt (ksOf (ansW · l pl) ws) = srt (kys ws (l, pl)) := rfl
  have gg : ptD (ansW · l pl) ws = fun k => .tup [.str k, wD (prt ws (l, pl) k)] := rfl
  cases hq : isQ ws (l, pl) with
  | false =>
    have hl1 : (kys ws (l, pl)).length = 1 := by
      have a := of_decide_eq_false hq
      have b := List.length_pos_iff.mpr (isQ_len h (l, pl))
      omega
    have c1 : ((((srt (kys ws (l, pl))).length : Nat) : Int) == 1) = true := by rw [l3, hl1]; rfl
    refine ⟨.ct, ks, b, p, .val (partsOfD ws l pl), s6, s7, ?_, rfl, hk, by simpa [hq] using hb⟩
    unfold kn
    simp only [c_sSeq, c_sIf, c_sDrop, c_sRet, c_sRetN, c_sRet0, c_sRetV, c_sFrz, c_sSet, c_sSetL, c_sSetN, c_sPar, c_sAsg, c_sFor, c_sPut, c_sPutL, c_sPutD, c_sSdApp, c_sNx, c_sBk, c_sCt, c_eFr, c_vE, c_eC, c_eVar, c_vVar, c_aNil, c_aCons, c_eTup, c_nLst, c_eOp, c_eUn, c_nUn, c_nCat, c_nDic, c_tOf, c_tTru, c_tNot, c_tAnd, c_tOr, c_eIf, c_nIf, c_eAnd, c_eOr, c_eNot, c_tYes, c_eApp, c_ePop, c_ePopAt, c_eGet, c_eSl, c_oNo, c_oAt, c_eCall, c_nCall, c_eCallK, c_runCall, c_runCallK, c_gNil, c_gCons, c_gOwn, c_gNwc, c_iAny, c_iRange1, c_iRange2, c_eTupGx, g_d, g_sl, runGs, valR, ownR, slotD, Sl.toD, Tg.bind, Tg.binds, plainAt_b, Option.any_some, plB_un, plB_val, frzE, lstOf, dicOf, setsG, isOwn, Rl.ownsOf, nodupB, nwsOf, argSl, back_e1, back_e2, back_e3, back_e4, back_e5, backArgs, pick, itsD_lst, itsD_tup, itsD_str, itsD_dic, getD2_dic, isDicD_dic, truD, catD, eqD, eqB, neD, ltD, leD, gtD, geD, addD, subD, mulD, modD, fdivD, pow_1018, negD, isNonD, notNonD, nonB, isiD, ixD_lst, ixD_tup, ixD_scr, ixD_str, ixD_dic, lenD_lst, lenD_tup, lenD_scr, lenD_str, lenD_dic, Rl.intD, Rl.absD, tupD, listL, slD, smallI_7, smallI_48271, smallI_69621, smallI_16, smallI_17, smallI_31, lt30_65536, lt30_2, lt30_16, lt30_10, atI_0, atI_1, atI_2, ixN_0, ixN_1, ixN_2, Option.bind_some, Option.bind_none, Option.map_some, Option.map_none, List.getElem?_cons_zero, List.getElem?_cons_succ, List.set_cons_zero, List.set_cons_succ, List.replicate_succ, List.replicate_zero, List.cons_append, List.nil_append, List.append_nil, List.length_cons, List.length_nil, List.take_succ_cons, List.take_zero, List.contains_nil, Bool.not_false, Bool.not_true, Bool.and_self, Bool.true_and, Bool.and_true, Bool.false_and, Bool.and_false, Bool.true_or, Bool.or_true, Bool.false_or, Bool.or_false, Bool.false_eq_true, if_true, if_false, reduceIte, Nat.reduceAdd, Nat.reduceSub, Nat.reduceEqDiff, Nat.reduceLeDiff, Int.reduceNeg, Int.reduceLT, Int.reduceLE, Int.reducePow, Nat.reducePow, Int.reduceToNat, Nat.reduceLT, decide_true, decide_false, List.all_cons, List.all_nil, beq_self_eq_true, Option.isSome_some, List.filterMap_cons_some, List.filterMap_nil, turnL, h4, u_l2_best_plan, e, partsOfD, kk, gg, List.length_map, c1]
  | true =>
    have hl1 : 1 < (kys ws (l, pl)).length := of_decide_eq_true hq
    have c1 : ((((srt (kys ws (l, pl))).length : Nat) : Int) == 1) = false := by rw [beq_eq_false_iff_ne]; omega
    have st := hb.step (l, pl)
    by_cases hb1 : b = 1
    · have c2 : ((b : Int) == 1) = true := by rw [hb1]; rfl
      have hc := cost_pos ws (l, pl)
      rw [if_neg (by omega)] at st
      refine ⟨.ct, ks, b, p, .val (partsOfD ws l pl), s6, s7, ?_, rfl, hk, by simpa [hq] using st⟩
      unfold kn
      simp only [c_sSeq, c_sIf, c_sDrop, c_sRet, c_sRetN, c_sRet0, c_sRetV, c_sFrz, c_sSet, c_sSetL, c_sSetN, c_sPar, c_sAsg, c_sFor, c_sPut, c_sPutL, c_sPutD, c_sSdApp, c_sNx, c_sBk, c_sCt, c_eFr, c_vE, c_eC, c_eVar, c_vVar, c_aNil, c_aCons, c_eTup, c_nLst, c_eOp, c_eUn, c_nUn, c_nCat, c_nDic, c_tOf, c_tTru, c_tNot, c_tAnd, c_tOr, c_eIf, c_nIf, c_eAnd, c_eOr, c_eNot, c_tYes, c_eApp, c_ePop, c_ePopAt, c_eGet, c_eSl, c_oNo, c_oAt, c_eCall, c_nCall, c_eCallK, c_runCall, c_runCallK, c_gNil, c_gCons, c_gOwn, c_gNwc, c_iAny, c_iRange1, c_iRange2, c_eTupGx, g_d, g_sl, runGs, valR, ownR, slotD, Sl.toD, Tg.bind, Tg.binds, plainAt_b, Option.any_some, plB_un, plB_val, frzE, lstOf, dicOf, setsG, isOwn, Rl.ownsOf, nodupB, nwsOf, argSl, back_e1, back_e2, back_e3, back_e4, back_e5, backArgs, pick, itsD_lst, itsD_tup, itsD_str, itsD_dic, getD2_dic, isDicD_dic, truD, catD, eqD, eqB, neD, ltD, leD, gtD, geD, addD, subD, mulD, modD, fdivD, pow_1018, negD, isNonD, notNonD, nonB, isiD, ixD_lst, ixD_tup, ixD_scr, ixD_str, ixD_dic, lenD_lst, lenD_tup, lenD_scr, lenD_str, lenD_dic, Rl.intD, Rl.absD, tupD, listL, slD, smallI_7, smallI_48271, smallI_69621, smallI_16, smallI_17, smallI_31, lt30_65536, lt30_2, lt30_16, lt30_10, atI_0, atI_1, atI_2, ixN_0, ixN_1, ixN_2, Option.bind_some, Option.bind_none, Option.map_some, Option.map_none, List.getElem?_cons_zero, List.getElem?_cons_succ, List.set_cons_zero, List.set_cons_succ, List.replicate_succ, List.replicate_zero, List.cons_append, List.nil_append, List.append_nil, List.length_cons, List.length_nil, List.take_succ_cons, List.take_zero, List.contains_nil, Bool.not_false, Bool.not_true, Bool.and_self, Bool.true_and, Bool.and_true, Bool.false_and, Bool.and_false, Bool.true_or, Bool.or_true, Bool.false_or, Bool.or_false, Bool.false_eq_true, if_true, if_false, reduceIte, Nat.reduceAdd, Nat.reduceSub, Nat.reduceEqDiff, Nat.reduceLeDiff, Int.reduceNeg, Int.reduceLT, Int.reduceLE, Int.reducePow, Nat.reducePow, Int.reduceToNat, Nat.reduceLT, decide_true, decide_false, List.all_cons, List.all_nil, beq_self_eq_true, Option.isSome_some, List.filterMap_cons_some, List.filterMap_nil, turnL, h4, u_l2_best_plan, e, partsOfD, kk, gg, List.length_map, c1, c2]
    · have c2 : ((b : Int) == 1) = false := by rw [beq_eq_false_iff_ne]; omega
      have z2 : szOk 2 = true := szOk_of (by omega)
      have z3 : szOk 3 = true := szOk_of (by omega)
      have zk : szOk (srt (kys ws (l, pl))).length = true := szOk_of (by omega)
      obtain ⟨σ, e1, hS⟩ := lcL_invT (fun k => .tup [.str k, wD (prt ws (l, pl) k)]) (fun k => .tup [.str k, bD (prt ws (l, pl) k)]) (vs := [8, 9]) (t := .tp [.nm 8, .nm 9]) (e := e1_best_plan f)
        (fun dk rest σ => dk ++ rest = srt (kys ws (l, pl)) ∧ ∃ ks' s8 s9, Lots W ks' ∧ σ = [.val (wD ws), kn ks', .val (.tup [.int (b : Int), p]), .val (.str (eg l)), .val (.int (pl : Int)), .val (partsOfD ws l pl), s6, s7, s8, s9, .un, .un])
        (fun dk k r σ hS => by
          obtain ⟨hd, ks', s8, s9, hk', rfl⟩ := hS
          have hkm : k ∈ kys ws (l, pl) := (srt_perm _).mem_iff.mp (by rw [← hd]; simp)
          obtain ⟨ks2, e2, hk2⟩ := hf (prt ws (l, pl) k) ks' ((prt_sub ws (l, pl) k).trans hs) (prt_ne hkm) (prt_lt hq k) hk'
          refine ⟨[.val (wD ws), kn ks', .val (.tup [.int (b : Int), p]), .val (.str (eg l)), .val (.int (pl : Int)), .val (partsOfD ws l pl), s6, s7, .val (.str k), .val (wD (prt ws (l, pl) k)), .un, .un], [.val (wD ws), kn ks2, .val (.tup [.int (b : Int), p]), .val (.str (eg l)), .val (.int (pl : Int)), .val (partsOfD ws l pl), s6, s7, .val (.str k), .val (wD (prt ws (l, pl) k)), .un, .un], ?_, ?_, by rw [← hd]; simp, ks2, _, _, hk2, rfl⟩
          · simp only [c_sSeq, c_sIf, c_sDrop, c_sRet, c_sRetN, c_sRet0, c_sRetV, c_sFrz, c_sSet, c_sSetL, c_sSetN, c_sPar, c_sAsg, c_sFor, c_sPut, c_sPutL, c_sPutD, c_sSdApp, c_sNx, c_sBk, c_sCt, c_eFr, c_vE, c_eC, c_eVar, c_vVar, c_aNil, c_aCons, c_eTup, c_nLst, c_eOp, c_eUn, c_nUn, c_nCat, c_nDic, c_tOf, c_tTru, c_tNot, c_tAnd, c_tOr, c_eIf, c_nIf, c_eAnd, c_eOr, c_eNot, c_tYes, c_eApp, c_ePop, c_ePopAt, c_eGet, c_eSl, c_oNo, c_oAt, c_eCall, c_nCall, c_eCallK, c_runCall, c_runCallK, c_gNil, c_gCons, c_gOwn, c_gNwc, c_iAny, c_iRange1, c_iRange2, c_eTupGx, g_d, g_sl, runGs, valR, ownR, slotD, Sl.toD, Tg.bind, Tg.binds, plainAt_b, Option.any_some, plB_un, plB_val, frzE, lstOf, dicOf, setsG, isOwn, Rl.ownsOf, nodupB, nwsOf, argSl, back_e1, back_e2, back_e3, back_e4, back_e5, backArgs, pick, itsD_lst, itsD_tup, itsD_str, itsD_dic, getD2_dic, isDicD_dic, truD, catD, eqD, eqB, neD, ltD, leD, gtD, geD, addD, subD, mulD, modD, fdivD, pow_1018, negD, isNonD, notNonD, nonB, isiD, ixD_lst, ixD_tup, ixD_scr, ixD_str, ixD_dic, lenD_lst, lenD_tup, lenD_scr, lenD_str, lenD_dic, Rl.intD, Rl.absD, tupD, listL, slD, smallI_7, smallI_48271, smallI_69621, smallI_16, smallI_17, smallI_31, lt30_65536, lt30_2, lt30_16, lt30_10, atI_0, atI_1, atI_2, ixN_0, ixN_1, ixN_2, Option.bind_some, Option.bind_none, Option.map_some, Option.map_none, List.getElem?_cons_zero, List.getElem?_cons_succ, List.set_cons_zero, List.set_cons_succ, List.replicate_succ, List.replicate_zero, List.cons_append, List.nil_append, List.append_nil, List.length_cons, List.length_nil, List.take_succ_cons, List.take_zero, List.contains_nil, Bool.not_false, Bool.not_true, Bool.and_self, Bool.true_and, Bool.and_true, Bool.false_and, Bool.and_false, Bool.true_or, Bool.or_true, Bool.false_or, Bool.or_false, Bool.false_eq_true, if_true, if_false, reduceIte, Nat.reduceAdd, Nat.reduceSub, Nat.reduceEqDiff, Nat.reduceLeDiff, Int.reduceNeg, Int.reduceLT, Int.reduceLE, Int.reducePow, Nat.reducePow, Int.reduceToNat, Nat.reduceLT, decide_true, decide_false, List.all_cons, List.all_nil, beq_self_eq_true, Option.isSome_some, List.filterMap_cons_some, List.filterMap_nil, wipeE]
          · unfold kn at e2 ⊢
            simp only [c_sSeq, c_sIf, c_sDrop, c_sRet, c_sRetN, c_sRet0, c_sRetV, c_sFrz, c_sSet, c_sSetL, c_sSetN, c_sPar, c_sAsg, c_sFor, c_sPut, c_sPutL, c_sPutD, c_sSdApp, c_sNx, c_sBk, c_sCt, c_eFr, c_vE, c_eC, c_eVar, c_vVar, c_aNil, c_aCons, c_eTup, c_nLst, c_eOp, c_eUn, c_nUn, c_nCat, c_nDic, c_tOf, c_tTru, c_tNot, c_tAnd, c_tOr, c_eIf, c_nIf, c_eAnd, c_eOr, c_eNot, c_tYes, c_eApp, c_ePop, c_ePopAt, c_eGet, c_eSl, c_oNo, c_oAt, c_eCall, c_nCall, c_eCallK, c_runCall, c_runCallK, c_gNil, c_gCons, c_gOwn, c_gNwc, c_iAny, c_iRange1, c_iRange2, c_eTupGx, g_d, g_sl, runGs, valR, ownR, slotD, Sl.toD, Tg.bind, Tg.binds, plainAt_b, Option.any_some, plB_un, plB_val, frzE, lstOf, dicOf, setsG, isOwn, Rl.ownsOf, nodupB, nwsOf, argSl, back_e1, back_e2, back_e3, back_e4, back_e5, backArgs, pick, itsD_lst, itsD_tup, itsD_str, itsD_dic, getD2_dic, isDicD_dic, truD, catD, eqD, eqB, neD, ltD, leD, gtD, geD, addD, subD, mulD, modD, fdivD, pow_1018, negD, isNonD, notNonD, nonB, isiD, ixD_lst, ixD_tup, ixD_scr, ixD_str, ixD_dic, lenD_lst, lenD_tup, lenD_scr, lenD_str, lenD_dic, Rl.intD, Rl.absD, tupD, listL, slD, smallI_7, smallI_48271, smallI_69621, smallI_16, smallI_17, smallI_31, lt30_65536, lt30_2, lt30_16, lt30_10, atI_0, atI_1, atI_2, ixN_0, ixN_1, ixN_2, Option.bind_some, Option.bind_none, Option.map_some, Option.map_none, List.getElem?_cons_zero, List.getElem?_cons_succ, List.set_cons_zero, List.set_cons_succ, List.replicate_succ, List.replicate_zero, List.cons_append, List.nil_append, List.append_nil, List.length_cons, List.length_nil, List.take_succ_cons, List.take_zero, List.contains_nil, Bool.not_false, Bool.not_true, Bool.and_self, Bool.true_and, Bool.and_true, Bool.false_and, Bool.and_false, Bool.true_or, Bool.or_true, Bool.false_or, Bool.or_false, Bool.false_eq_true, if_true, if_false, reduceIte, Nat.reduceAdd, Nat.reduceSub, Nat.reduceEqDiff, Nat.reduceLeDiff, Int.reduceNeg, Int.reduceLT, Int.reduceLE, Int.reducePow, Nat.reducePow, Int.reduceToNat, Nat.reduceLT, decide_true, decide_false, List.all_cons, List.all_nil, beq_self_eq_true, Option.isSome_some, List.filterMap_cons_some, List.filterMap_nil, u_e1_best_plan, e2, z2])
        (srt (kys ws (l, pl))) [] [.val (wD ws), kn ks, .val (.tup [.int (b : Int), p]), .val (.str (eg l)), .val (.int (pl : Int)), .val (partsOfD ws l pl), s6, s7, .un, .un, .un, .un] ⟨rfl, ks, .un, .un, hk, rfl⟩
      obtain ⟨_, ks', s8, s9, hk', rfl⟩ := hS
      have e2 : nLc [8, 9] (iAny (eVar 5)) (.tp [.nm 8, .nm 9]) tYes' (e1_best_plan f) [.val (wD ws), kn ks, .val (.tup [.int (b : Int), p]), .val (.str (eg l)), .val (.int (pl : Int)), .val (partsOfD ws l pl), s6, s7, .un, .un, .un, .un] =
          some (.lst ((srt (kys ws (l, pl))).map fun k => .tup [.str k, bD (prt ws (l, pl) k)]), [.val (wD ws), kn ks', .val (.tup [.int (b : Int), p]), .val (.str (eg l)), .val (.int (pl : Int)), .val (partsOfD ws l pl), s6, s7, .un, .un, .un, .un]) := by
        unfold kn at e1 ⊢
        unfold partsOfD at e1 ⊢
        rw [kk, gg] at e1 ⊢
        simp only [c_sSeq, c_sIf, c_sDrop, c_sRet, c_sRetN, c_sRet0, c_sRetV, c_sFrz, c_sSet, c_sSetL, c_sSetN, c_sPar, c_sAsg, c_sFor, c_sPut, c_sPutL, c_sPutD, c_sSdApp, c_sNx, c_sBk, c_sCt, c_eFr, c_vE, c_eC, c_eVar, c_vVar, c_aNil, c_aCons, c_eTup, c_nLst, c_eOp, c_eUn, c_nUn, c_nCat, c_nDic, c_tOf, c_tTru, c_tNot, c_tAnd, c_tOr, c_eIf, c_nIf, c_eAnd, c_eOr, c_eNot, c_tYes, c_eApp, c_ePop, c_ePopAt, c_eGet, c_eSl, c_oNo, c_oAt, c_eCall, c_nCall, c_eCallK, c_runCall, c_runCallK, c_gNil, c_gCons, c_gOwn, c_gNwc, c_iAny, c_iRange1, c_iRange2, c_eTupGx, g_d, g_sl, runGs, valR, ownR, slotD, Sl.toD, Tg.bind, Tg.binds, plainAt_b, Option.any_some, plB_un, plB_val, frzE, lstOf, dicOf, setsG, isOwn, Rl.ownsOf, nodupB, nwsOf, argSl, back_e1, back_e2, back_e3, back_e4, back_e5, backArgs, pick, itsD_lst, itsD_tup, itsD_str, itsD_dic, getD2_dic, isDicD_dic, truD, catD, eqD, eqB, neD, ltD, leD, gtD, geD, addD, subD, mulD, modD, fdivD, pow_1018, negD, isNonD, notNonD, nonB, isiD, ixD_lst, ixD_tup, ixD_scr, ixD_str, ixD_dic, lenD_lst, lenD_tup, lenD_scr, lenD_str, lenD_dic, Rl.intD, Rl.absD, tupD, listL, slD, smallI_7, smallI_48271, smallI_69621, smallI_16, smallI_17, smallI_31, lt30_65536, lt30_2, lt30_16, lt30_10, atI_0, atI_1, atI_2, ixN_0, ixN_1, ixN_2, Option.bind_some, Option.bind_none, Option.map_some, Option.map_none, List.getElem?_cons_zero, List.getElem?_cons_succ, List.set_cons_zero, List.set_cons_succ, List.replicate_succ, List.replicate_zero, List.cons_append, List.nil_append, List.append_nil, List.length_cons, List.length_nil, List.take_succ_cons, List.take_zero, List.contains_nil, Bool.not_false, Bool.not_true, Bool.and_self, Bool.true_and, Bool.and_true, Bool.false_and, Bool.and_false, Bool.true_or, Bool.or_true, Bool.false_or, Bool.or_false, Bool.false_eq_true, if_true, if_false, reduceIte, Nat.reduceAdd, Nat.reduceSub, Nat.reduceEqDiff, Nat.reduceLeDiff, Int.reduceNeg, Int.reduceLT, Int.reduceLE, Int.reducePow, Nat.reducePow, Int.reduceToNat, Nat.reduceLT, decide_true, decide_false, List.all_cons, List.all_nil, beq_self_eq_true, Option.isSome_some, List.filterMap_cons_some, List.filterMap_nil, c_nLc, e1, List.length_map, zk, backE, List.getD_cons_succ, List.getD_cons_zero]
      have e3 : nLc [8, 11] (iAny (eVar 6)) (.tp [.nm 8, .nm 11]) tYes' (eOp ixD (vVar 11) (vE (eC (.int 0)))) [.val (wD ws), kn ks', .val (.tup [.int (b : Int), p]), .val (.str (eg l)), .val (.int (pl : Int)), .val (partsOfD ws l pl), .val (.lst ((srt (kys ws (l, pl))).map fun k => .tup [.str k, bD (prt ws (l, pl) k)])), s7, .un, .un, .un, .un] =
          some (.lst ((srt (kys ws (l, pl))).map fun k => lD (prt ws (l, pl) k)), [.val (wD ws), kn ks', .val (.tup [.int (b : Int), p]), .val (.str (eg l)), .val (.int (pl : Int)), .val (partsOfD ws l pl), .val (.lst ((srt (kys ws (l, pl))).map fun k => .tup [.str k, bD (prt ws (l, pl) k)])), s7, .un, .un, .un, .un]) := by
        refine nLc_map2 (fun k => .str k) (fun k => bD (prt ws (l, pl) k)) (fun k => lD (prt ws (l, pl) k)) (srt (kys ws (l, pl))) (by omega) rfl rfl rfl (fun k hk => ?_) (by omega)
        unfold kn
        simp only [c_sSeq, c_sIf, c_sDrop, c_sRet, c_sRetN, c_sRet0, c_sRetV, c_sFrz, c_sSet, c_sSetL, c_sSetN, c_sPar, c_sAsg, c_sFor, c_sPut, c_sPutL, c_sPutD, c_sSdApp, c_sNx, c_sBk, c_sCt, c_eFr, c_vE, c_eC, c_eVar, c_vVar, c_aNil, c_aCons, c_eTup, c_nLst, c_eOp, c_eUn, c_nUn, c_nCat, c_nDic, c_tOf, c_tTru, c_tNot, c_tAnd, c_tOr, c_eIf, c_nIf, c_eAnd, c_eOr, c_eNot, c_tYes, c_eApp, c_ePop, c_ePopAt, c_eGet, c_eSl, c_oNo, c_oAt, c_eCall, c_nCall, c_eCallK, c_runCall, c_runCallK, c_gNil, c_gCons, c_gOwn, c_gNwc, c_iAny, c_iRange1, c_iRange2, c_eTupGx, g_d, g_sl, runGs, valR, ownR, slotD, Sl.toD, Tg.bind, Tg.binds, plainAt_b, Option.any_some, plB_un, plB_val, frzE, lstOf, dicOf, setsG, isOwn, Rl.ownsOf, nodupB, nwsOf, argSl, back_e1, back_e2, back_e3, back_e4, back_e5, backArgs, pick, itsD_lst, itsD_tup, itsD_str, itsD_dic, getD2_dic, isDicD_dic, truD, catD, eqD, eqB, neD, ltD, leD, gtD, geD, addD, subD, mulD, modD, fdivD, pow_1018, negD, isNonD, notNonD, nonB, isiD, ixD_lst, ixD_tup, ixD_scr, ixD_str, ixD_dic, lenD_lst, lenD_tup, lenD_scr, lenD_str, lenD_dic, Rl.intD, Rl.absD, tupD, listL, slD, smallI_7, smallI_48271, smallI_69621, smallI_16, smallI_17, smallI_31, lt30_65536, lt30_2, lt30_16, lt30_10, atI_0, atI_1, atI_2, ixN_0, ixN_1, ixN_2, Option.bind_some, Option.bind_none, Option.map_some, Option.map_none, List.getElem?_cons_zero, List.getElem?_cons_succ, List.set_cons_zero, List.set_cons_succ, List.replicate_succ, List.replicate_zero, List.cons_append, List.nil_append, List.append_nil, List.length_cons, List.length_nil, List.take_succ_cons, List.take_zero, List.contains_nil, Bool.not_false, Bool.not_true, Bool.and_self, Bool.true_and, Bool.and_true, Bool.false_and, Bool.and_false, Bool.true_or, Bool.or_true, Bool.false_or, Bool.or_false, Bool.false_eq_true, if_true, if_false, reduceIte, Nat.reduceAdd, Nat.reduceSub, Nat.reduceEqDiff, Nat.reduceLeDiff, Int.reduceNeg, Int.reduceLT, Int.reduceLE, Int.reducePow, Nat.reducePow, Int.reduceToNat, Nat.reduceLT, decide_true, decide_false, List.all_cons, List.all_nil, beq_self_eq_true, Option.isSome_some, List.filterMap_cons_some, List.filterMap_nil, bD]
        rfl
      have e4 : maxD (.lst ((srt (kys ws (l, pl))).map fun k => lD (prt ws (l, pl) k))) = some (.int (maxN ((kys ws (l, pl)).map fun k => L (prt ws (l, pl) k)) : Int)) := by
        have := maxD_nat (l := (srt (kys ws (l, pl))).map fun k => L (prt ws (l, pl) k)) (by
          intro e
          have e := congrArg List.length e
          rw [List.length_map, List.length_nil] at e
          omega)
        rw [List.map_map, maxN_perm ((srt_perm (kys ws (l, pl))).map _)] at this
        exact this
      have e5 : (1 : Int) + (maxN ((kys ws (l, pl)).map fun k => L (prt ws (l, pl) k)) : Int) = (cost ws (l, pl) : Int) := by unfold cost; omega
      have e6 := gxL_parts ws (l, pl) (srt (kys ws (l, pl)))
      unfold kn at e2 e3 ⊢
      by_cases hc : cost ws (l, pl) < b
      · rw [if_pos hc] at st
        have c3 : decide ((cost ws (l, pl) : Int) < (b : Int)) = true := decide_eq_true (by omega)
        refine ⟨.nx, ks', _, planQ ws (l, pl), .val (partsOfD ws l pl), .val (.lst ((srt (kys ws (l, pl))).map fun k => .tup [.str k, bD (prt ws (l, pl) k)])), .val (.int (cost ws (l, pl) : Int)), ?_, rfl, hk', by simpa [hq] using st⟩
        have e0 : ∀ x, partsOfD ws l pl = x → lenD (partsOfD ws l pl) = some (.int ((srt (kys ws (l, pl))).length : Int)) := fun _ _ => by
          unfold partsOfD; rw [kk, lenD_lst, List.length_map]
        have e0 := e0 _ rfl
        simp only [c_sSeq, c_sIf, c_sDrop, c_sRet, c_sRetN, c_sRet0, c_sRetV, c_sFrz, c_sSet, c_sSetL, c_sSetN, c_sPar, c_sAsg, c_sFor, c_sPut, c_sPutL, c_sPutD, c_sSdApp, c_sNx, c_sBk, c_sCt, c_eFr, c_vE, c_eC, c_eVar, c_vVar, c_aNil, c_aCons, c_eTup, c_nLst, c_eOp, c_eUn, c_nUn, c_nCat, c_nDic, c_tOf, c_tTru, c_tNot, c_tAnd, c_tOr, c_eIf, c_nIf, c_eAnd, c_eOr, c_eNot, c_tYes, c_eApp, c_ePop, c_ePopAt, c_eGet, c_eSl, c_oNo, c_oAt, c_eCall, c_nCall, c_eCallK, c_runCall, c_runCallK, c_gNil, c_gCons, c_gOwn, c_gNwc, c_iAny, c_iRange1, c_iRange2, c_eTupGx, g_d, g_sl, runGs, valR, ownR, slotD, Sl.toD, Tg.bind, Tg.binds, plainAt_b, Option.any_some, plB_un, plB_val, frzE, lstOf, dicOf, setsG, isOwn, Rl.ownsOf, nodupB, nwsOf, argSl, back_e1, back_e2, back_e3, back_e4, back_e5, backArgs, pick, itsD_lst, itsD_tup, itsD_str, itsD_dic, getD2_dic, isDicD_dic, truD, catD, eqD, eqB, neD, ltD, leD, gtD, geD, addD, subD, mulD, modD, fdivD, pow_1018, negD, isNonD, notNonD, nonB, isiD, ixD_lst, ixD_tup, ixD_scr, ixD_str, ixD_dic, lenD_lst, lenD_tup, lenD_scr, lenD_str, lenD_dic, Rl.intD, Rl.absD, tupD, listL, slD, smallI_7, smallI_48271, smallI_69621, smallI_16, smallI_17, smallI_31, lt30_65536, lt30_2, lt30_16, lt30_10, atI_0, atI_1, atI_2, ixN_0, ixN_1, ixN_2, Option.bind_some, Option.bind_none, Option.map_some, Option.map_none, List.getElem?_cons_zero, List.getElem?_cons_succ, List.set_cons_zero, List.set_cons_succ, List.replicate_succ, List.replicate_zero, List.cons_append, List.nil_append, List.append_nil, List.length_cons, List.length_nil, List.take_succ_cons, List.take_zero, List.contains_nil, Bool.not_false, Bool.not_true, Bool.and_self, Bool.true_and, Bool.and_true, Bool.false_and, Bool.and_false, Bool.true_or, Bool.or_true, Bool.false_or, Bool.or_false, Bool.false_eq_true, if_true, if_false, reduceIte, Nat.reduceAdd, Nat.reduceSub, Nat.reduceEqDiff, Nat.reduceLeDiff, Int.reduceNeg, Int.reduceLT, Int.reduceLE, Int.reducePow, Nat.reducePow, Int.reduceToNat, Nat.reduceLT, decide_true, decide_false, List.all_cons, List.all_nil, beq_self_eq_true, Option.isSome_some, List.filterMap_cons_some, List.filterMap_nil, turnL, h4, u_l2_best_plan, e, e0, c1, c2, e2, e3, e4, e5, c3, z2, z3, c_eTupGx, List.length_map, zk, e6, planQ]
      · rw [if_neg hc] at st
        have c3 : decide ((cost ws (l, pl) : Int) < (b : Int)) = false := decide_eq_false (by omega)
        refine ⟨.nx, ks', b, p, .val (partsOfD ws l pl), .val (.lst ((srt (kys ws (l, pl))).map fun k => .tup [.str k, bD (prt ws (l, pl) k)])), .val (.int (cost ws (l, pl) : Int)), ?_, rfl, hk', by simpa [hq] using st⟩
        have e0 : lenD (partsOfD ws l pl) = some (.int ((srt (kys ws (l, pl))).length : Int)) := by
          unfold partsOfD; rw [kk, lenD_lst, List.length_map]
        simp only [c_sSeq, c_sIf, c_sDrop, c_sRet, c_sRetN, c_sRet0, c_sRetV, c_sFrz, c_sSet, c_sSetL, c_sSetN, c_sPar, c_sAsg, c_sFor, c_sPut, c_sPutL, c_sPutD, c_sSdApp, c_sNx, c_sBk, c_sCt, c_eFr, c_vE, c_eC, c_eVar, c_vVar, c_aNil, c_aCons, c_eTup, c_nLst, c_eOp, c_eUn, c_nUn, c_nCat, c_nDic, c_tOf, c_tTru, c_tNot, c_tAnd, c_tOr, c_eIf, c_nIf, c_eAnd, c_eOr, c_eNot, c_tYes, c_eApp, c_ePop, c_ePopAt, c_eGet, c_eSl, c_oNo, c_oAt, c_eCall, c_nCall, c_eCallK, c_runCall, c_runCallK, c_gNil, c_gCons, c_gOwn, c_gNwc, c_iAny, c_iRange1, c_iRange2, c_eTupGx, g_d, g_sl, runGs, valR, ownR, slotD, Sl.toD, Tg.bind, Tg.binds, plainAt_b, Option.any_some, plB_un, plB_val, frzE, lstOf, dicOf, setsG, isOwn, Rl.ownsOf, nodupB, nwsOf, argSl, back_e1, back_e2, back_e3, back_e4, back_e5, backArgs, pick, itsD_lst, itsD_tup, itsD_str, itsD_dic, getD2_dic, isDicD_dic, truD, catD, eqD, eqB, neD, ltD, leD, gtD, geD, addD, subD, mulD, modD, fdivD, pow_1018, negD, isNonD, notNonD, nonB, isiD, ixD_lst, ixD_tup, ixD_scr, ixD_str, ixD_dic, lenD_lst, lenD_tup, lenD_scr, lenD_str, lenD_dic, Rl.intD, Rl.absD, tupD, listL, slD, smallI_7, smallI_48271, smallI_69621, smallI_16, smallI_17, smallI_31, lt30_65536, lt30_2, lt30_16, lt30_10, atI_0, atI_1, atI_2, ixN_0, ixN_1, ixN_2, Option.bind_some, Option.bind_none, Option.map_some, Option.map_none, List.getElem?_cons_zero, List.getElem?_cons_succ, List.set_cons_zero, List.set_cons_succ, List.replicate_succ, List.replicate_zero, List.cons_append, List.nil_append, List.append_nil, List.length_cons, List.length_nil, List.take_succ_cons, List.take_zero, List.contains_nil, Bool.not_false, Bool.not_true, Bool.and_self, Bool.true_and, Bool.and_true, Bool.false_and, Bool.and_false, Bool.true_or, Bool.or_true, Bool.false_or, Bool.or_false, Bool.false_eq_true, if_true, if_false, reduceIte, Nat.reduceAdd, Nat.reduceSub, Nat.reduceEqDiff, Nat.reduceLeDiff, Int.reduceNeg, Int.reduceLT, Int.reduceLE, Int.reducePow, Nat.reducePow, Int.reduceToNat, Nat.reduceLT, decide_true, decide_false, List.all_cons, List.all_nil, beq_self_eq_true, Option.isSome_some, List.filterMap_cons_some, List.filterMap_nil, turnL, h4, u_l2_best_plan, e, e0, c1, c2, e2, e3, e4, e5, c3]
end P82
end

set_option linter.all false
set_option maxRecDepth 100000
set_option autoImplicit false
set_option maxHeartbeats 1000000
noncomputable section
namespace P82
open PySem L2 Rl
theorem bp3 {W ws : List Wd} (hW : Lot W) (hs : ws.Sublist W) (hne : ws ≠ []) {f : Fn} (hf : BpOk W ws.length f) {ks : List (List Wd)} (hk : Lots W ks)
    {done : List Qn} {b : Nat} {p : D} (hb : Best ws ws.length (.tup []) done b p) (l : Bool) (s3 s4 s5 s6 s7 : Sl) (h3 : plB s3 = true) (h4 : plB s4 = true) :
    ∃ (ks' : List (List Wd)) (b' : Nat) (p' : D) (s4' s5' s6' s7' : Sl), turnL (.nm 3) (l3_best_plan f) (.str (eg l)) [.val (wD ws), kn ks, .val (.tup [.int (b : Int), p]), s3, s4, s5, s6, s7, .un, .un, .un, .un] =
      some (.nx, [.val (wD ws), kn ks', .val (.tup [.int (b' : Int), p']), .val (.str (eg l)), s4', s5', s6', s7', .un, .un, .un, .un]) ∧ plB s4' = true ∧ Lots W ks' ∧ Best ws ws.length (.tup []) (done ++ (sideQ ws l).filter (isQ ws)) b' p' := by
  have h := hW.sub hs hne
  have hm := mx_le h
  have e1 : nLc [10] (iAny (eVar 0)) (.nm 10) tYes' (eUn lenD (vVar 10)) [.val (wD ws), kn ks, .val (.tup [.int (b : Int), p]), .val (.str (eg l)), s4, s5, s6, s7, .un, .un, .un, .un] =
      some (.lst (ws.map fun w => .int (w.length : Int)), [.val (wD ws), kn ks, .val (.tup [.int (b : Int), p]), .val (.str (eg l)), s4, s5, s6, s7, .un, .un, .un, .un]) := by
    refine nLc_map1 .str (fun w => .int (w.length : Int)) ws rfl rfl (fun w hw => ?_) (by have := h.n; omega)
    have z : szOk w.length = true := szOk_of (by have := h.w w hw; omega)
    simp only [c_sSeq, c_sIf, c_sDrop, c_sRet, c_sRetN, c_sRet0, c_sRetV, c_sFrz, c_sSet, c_sSetL, c_sSetN, c_sPar, c_sAsg, c_sFor, c_sPut, c_sPutL, c_sPutD, c_sSdApp, c_sNx, c_sBk, c_sCt, c_eFr, c_vE, c_eC, c_eVar, c_vVar, c_aNil, c_aCons, c_eTup, c_nLst, c_eOp, c_eUn, c_nUn, c_nCat, c_nDic, c_tOf, c_tTru, c_tNot, c_tAnd, c_tOr, c_eIf, c_nIf, c_eAnd, c_eOr, c_eNot, c_tYes, c_eApp, c_ePop, c_ePopAt, c_eGet, c_eSl, c_oNo, c_oAt, c_eCall, c_nCall, c_eCallK, c_runCall, c_runCallK, c_gNil, c_gCons, c_gOwn, c_gNwc, c_iAny, c_iRange1, c_iRange2, c_eTupGx, g_d, g_sl, runGs, valR, ownR, slotD, Sl.toD, Tg.bind, Tg.binds, plainAt_b, Option.any_some, plB_un, plB_val, frzE, lstOf, dicOf, setsG, isOwn, Rl.ownsOf, nodupB, nwsOf, argSl, back_e1, back_e2, back_e3, back_e4, back_e5, backArgs, pick, itsD_lst, itsD_tup, itsD_str, itsD_dic, getD2_dic, isDicD_dic, truD, catD, eqD, eqB, neD, ltD, leD, gtD, geD, addD, subD, mulD, modD, fdivD, pow_1018, negD, isNonD, notNonD, nonB, isiD, ixD_lst, ixD_tup, ixD_scr, ixD_str, ixD_dic, lenD_lst, lenD_tup, lenD_scr, lenD_str, lenD_dic, Rl.intD, Rl.absD, tupD, listL, slD, smallI_7, smallI_48271, smallI_69621, smallI_16, smallI_17, smallI_31, lt30_65536, lt30_2, lt30_16, lt30_10, atI_0, atI_1, atI_2, ixN_0, ixN_1, ixN_2, Option.bind_some, Option.bind_none, Option.map_some, Option.map_none, List.getElem?_cons_zero, List.getElem?_cons_succ, List.set_cons_zero, List.set_cons_succ, List.replicate_succ, List.replicate_zero, List.cons_append, List.nil_append, List.append_nil, List.length_cons, List.length_nil, List.take_succ_cons, List.take_zero, List.contains_nil, Bool.not_false, Bool.not_true, Bool.and_self, Bool.true_and, Bool.and_true, Bool.false_and, Bool.and_false, Bool.true_or, Bool.or_true, Bool.false_or, Bool.or_false, Bool.false_eq_true, if_true, if_false, reduceIte, Nat.reduceAdd, Nat.reduceSub, Nat.reduceEqDiff, Nat.reduceLeDiff, Int.reduceNeg, Int.reduceLT, Int.reduceLE, Int.reducePow, Nat.reducePow, Int.reduceToNat, Nat.reduceLT, decide_true, decide_false, List.all_cons, List.all_nil, beq_self_eq_true, Option.isSome_some, List.filterMap_cons_some, List.filterMap_nil, z]
  have e2 : maxD (.lst (ws.map fun w => .int (w.length : Int))) = some (.int (mx ws : Int)) := by
    have := maxD_nat (l := ws.map List.length) (by simp [h.ne])
    rw [List.map_map] at this
    exact this
  have e3 : rngOk (mx ws : Int) = true := rngOk_in (by omega) (by omega)
  have e4 : rngD 0 (mx ws : Int) = (List.range (mx ws)).map fun p => .int ((p : Nat) : Int) := by
    unfold rngD
    simp
  obtain ⟨σ, e5, ks', b', p', s4', s5', s6', s7', q4, hk', hb', rfl⟩ := forL_invT (fun p : Nat => D.int (p : Int)) (t := .nm 4) (b := l2_best_plan f)
    (fun dn rest σ => ∃ (ks' : List (List Wd)) (b' : Nat) (p' : D) (s4 s5 s6 s7 : Sl), plB s4 = true ∧ Lots W ks' ∧ Best ws ws.length (.tup []) (done ++ (dn.map fun p => (l, p)).filter (isQ ws)) b' p' ∧
      σ = [.val (wD ws), kn ks', .val (.tup [.int (b' : Int), p']), .val (.str (eg l)), s4, s5, s6, s7, .un, .un, .un, .un])
    (fun dn x r σ hS => by
      obtain ⟨ks', b', p', s4', s5', s6', s7', q4, hk', hb', rfl⟩ := hS
      obtain ⟨fl, ks2, b2, p2, t5, t6, t7, e, hg, hk2, hb2⟩ := bp2 hW hs hne hf hk' hb' l x s4' s5' s6' s7' q4
      refine ⟨fl, _, e, hg, ks2, b2, p2, .val (.int (x : Int)), t5, t6, t7, rfl, hk2, ?_, rfl⟩
      rw [List.map_append, List.filter_append, ← List.append_assoc]
      exact hb2)
    (List.range (mx ws)) [] [.val (wD ws), kn ks, .val (.tup [.int (b : Int), p]), .val (.str (eg l)), s4, s5, s6, s7, .un, .un, .un, .un] ⟨ks, b, p, s4, s5, s6, s7, h4, hk, by simpa using hb, rfl⟩
  refine ⟨ks', b', p', s4', s5', s6', s7', ?_, q4, hk', hb'⟩
  unfold kn at e1 e5 ⊢
  simp only [c_sSeq, c_sIf, c_sDrop, c_sRet, c_sRetN, c_sRet0, c_sRetV, c_sFrz, c_sSet, c_sSetL, c_sSetN, c_sPar, c_sAsg, c_sFor, c_sPut, c_sPutL, c_sPutD, c_sSdApp, c_sNx, c_sBk, c_sCt, c_eFr, c_vE, c_eC, c_eVar, c_vVar, c_aNil, c_aCons, c_eTup, c_nLst, c_eOp, c_eUn, c_nUn, c_nCat, c_nDic, c_tOf, c_tTru, c_tNot, c_tAnd, c_tOr, c_eIf, c_nIf, c_eAnd, c_eOr, c_eNot, c_tYes, c_eApp, c_ePop, c_ePopAt, c_eGet, c_eSl, c_oNo, c_oAt, c_eCall, c_nCall, c_eCallK, c_runCall, c_runCallK, c_gNil, c_gCons, c_gOwn, c_gNwc, c_iAny, c_iRange1, c_iRange2, c_eTupGx, g_d, g_sl, runGs, valR, ownR, slotD, Sl.toD, Tg.bind, Tg.binds, plainAt_b, Option.any_some, plB_un, plB_val, frzE, lstOf, dicOf, setsG, isOwn, Rl.ownsOf, nodupB, nwsOf, argSl, back_e1, back_e2, back_e3, back_e4, back_e5, backArgs, pick, itsD_lst, itsD_tup, itsD_str, itsD_dic, getD2_dic, isDicD_dic, truD, catD, eqD, eqB, neD, ltD, leD, gtD, geD, addD, subD, mulD, modD, fdivD, pow_1018, negD, isNonD, notNonD, nonB, isiD, ixD_lst, ixD_tup, ixD_scr, ixD_str, ixD_dic, lenD_lst, lenD_tup, lenD_scr, lenD_str, lenD_dic, Rl.intD, Rl.absD, tupD, listL, slD, smallI_7, smallI_48271, smallI_69621, smallI_16, smallI_17, smallI_31, lt30_65536, lt30_2, lt30_16, lt30_10, atI_0, atI_1, atI_2, ixN_0, ixN_1, ixN_2, Option.bind_some, Option.bind_none, Option.map_some, Option.map_none, List.getElem?_cons_zero, List.getElem?_cons_succ, List.set_cons_zero, List.set_cons_succ, List.replicate_succ, List.replicate_zero, List.cons_append, List.nil_append, List.append_nil, List.length_cons, List.length_nil, List.take_succ_cons, List.take_zero, List.contains_nil, Bool.not_false, Bool.not_true, Bool.and_self, Bool.true_and, Bool.and_true, Bool.false_and, Bool.and_false, Bool.true_or, Bool.or_true, Bool.false_or, Bool.or_false, Bool.false_eq_true, if_true, if_false, reduceIte, Nat.reduceAdd, Nat.reduceSub, Nat.reduceEqDiff, Nat.reduceLeDiff, Int.reduceNeg, Int.reduceLT, Int.reduceLE, Int.reducePow, Nat.reducePow, Int.reduceToNat, Nat.reduceLT, decide_true, decide_false, List.all_cons, List.all_nil, beq_self_eq_true, Option.isSome_some, List.filterMap_cons_some, List.filterMap_nil, turnL, h3, u_l3_best_plan, e1, e2, e3, e4, e5]
/-- a known lot's plan is put by -/
theorem kn_put {W : List Wd} {ks : List (List Wd)} (hk : Lots W ks) {ws : List Wd} (hs : ws.Sublist W) (hne : ws ≠ []) :
    ∃ ks', putKs (ks.map wD) (wD ws) = ks'.map wD ∧ putVs (ks.map wD) (ks.map bD) (wD ws) (bD ws) = ks'.map bD ∧ Lots W ks' := by
  refine ⟨if ws ∈ ks then ks else ks ++ [ws], putKs_fn wD_key ks ws, ?_, ?_⟩
  · rw [putVs_fn wD_key]
    refine List.map_congr_left fun j hj => ?_
    by_cases e : j = ws <;> simp [e]
  · by_cases hm : ws ∈ ks
    · rw [if_pos hm]; exact hk
    · rw [if_neg hm]
      refine ⟨?_, fun s hs' => ?_⟩
      · rw [List.nodup_append]
        exact ⟨hk.nd, by simp, fun a ha b hb e => hm (by rw [← List.mem_singleton.mp hb, ← e]; exact ha)⟩
      · rcases List.mem_append.mp hs' with x | x
        · exact hk.sub s x
        · rw [List.mem_singleton.mp x]; exact ⟨hs, hne⟩
theorem best_ok {W : List Wd} (hW : Lot W) (h12 : W.length ≤ 12) : ∀ n, BpOk W (n + 1) (F_best_plan n)
  | 0 => fun ws ks hs hne hl hk => absurd (List.length_eq_zero_iff.mp (by omega)) hne
  | n + 1 => fun ws ks hs hne hl hk => by
    have h := hW.sub hs hne
    have ih : BpOk W ws.length (F_best_plan n) := fun v ks hv hvn hvl hkv => best_ok hW h12 n v ks hv hvn (by omega) hkv
    have e0 : lenD (wD ws) = some (.int (ws.length : Int)) := by unfold wD; rw [lenD_tup, List.length_map]
    have z2 : szOk 2 = true := szOk_of (by omega)
    have z0 : szOk 0 = true := szOk_of (by omega)
    have kw := wD_isKey ws
    by_cases h1 : 1 < ws.length
    · have c1 : ((ws.length : Int) == 1) = false := by rw [beq_eq_false_iff_ne]; omega
      by_cases hm : ws ∈ ks
      · have e1 : hasD (ks.map wD) (wD ws) = true := by rw [has_fn wD_key]; simp [hm]
        have e2 : lookD (ks.map wD) (ks.map bD) (wD ws) = some (bD ws) := by rw [look_fn wD_key]; simp [hm]
        refine ⟨ks, ?_, hk⟩
        unfold F_best_plan fnOf b_best_plan kn
        simp only [c_sSeq, c_sIf, c_sDrop, c_sRet, c_sRetN, c_sRet0, c_sRetV, c_sFrz, c_sSet, c_sSetL, c_sSetN, c_sPar, c_sAsg, c_sFor, c_sPut, c_sPutL, c_sPutD, c_sSdApp, c_sNx, c_sBk, c_sCt, c_eFr, c_vE, c_eC, c_eVar, c_vVar, c_aNil, c_aCons, c_eTup, c_nLst, c_eOp, c_eUn, c_nUn, c_nCat, c_nDic, c_tOf, c_tTru, c_tNot, c_tAnd, c_tOr, c_eIf, c_nIf, c_eAnd, c_eOr, c_eNot, c_tYes, c_eApp, c_ePop, c_ePopAt, c_eGet, c_eSl, c_oNo, c_oAt, c_eCall, c_nCall, c_eCallK, c_runCall, c_runCallK, c_gNil, c_gCons, c_gOwn, c_gNwc, c_iAny, c_iRange1, c_iRange2, c_eTupGx, g_d, g_sl, runGs, valR, ownR, slotD, Sl.toD, Tg.bind, Tg.binds, plainAt_b, Option.any_some, plB_un, plB_val, frzE, lstOf, dicOf, setsG, isOwn, Rl.ownsOf, nodupB, nwsOf, argSl, back_e1, back_e2, back_e3, back_e4, back_e5, backArgs, pick, itsD_lst, itsD_tup, itsD_str, itsD_dic, getD2_dic, isDicD_dic, truD, catD, eqD, eqB, neD, ltD, leD, gtD, geD, addD, subD, mulD, modD, fdivD, pow_1018, negD, isNonD, notNonD, nonB, isiD, ixD_lst, ixD_tup, ixD_scr, ixD_str, ixD_dic, lenD_lst, lenD_tup, lenD_scr, lenD_str, lenD_dic, Rl.intD, Rl.absD, tupD, listL, slD, smallI_7, smallI_48271, smallI_69621, smallI_16, smallI_17, smallI_31, lt30_65536, lt30_2, lt30_16, lt30_10, atI_0, atI_1, atI_2, ixN_0, ixN_1, ixN_2, Option.bind_some, Option.bind_none, Option.map_some, Option.map_none, List.getElem?_cons_zero, List.getElem?_cons_succ, List.set_cons_zero, List.set_cons_succ, List.replicate_succ, List.replicate_zero, List.cons_append, List.nil_append, List.append_nil, List.length_cons, List.length_nil, List.take_succ_cons, List.take_zero, List.contains_nil, Bool.not_false, Bool.not_true, Bool.and_self, Bool.true_and, Bool.and_true, Bool.false_and, Bool.and_false, Bool.true_or, Bool.or_true, Bool.false_or, Bool.or_false, Bool.false_eq_true, if_true, if_false, reduceIte, Nat.reduceAdd, Nat.reduceSub, Nat.reduceEqDiff, Nat.reduceLeDiff, Int.reduceNeg, Int.reduceLT, Int.reduceLE, Int.reducePow, Nat.reducePow, Int.reduceToNat, Nat.reduceLT, decide_true, decide_false, List.all_cons, List.all_nil, beq_self_eq_true, Option.isSome_some, List.filterMap_cons_some, List.filterMap_nil, e0, c1, inD, inB, e1, kw, e2]
      · have e1 : hasD (ks.map wD) (wD ws) = false := by rw [has_fn wD_key]; simp [hm]
        have b0 : Best ws ws.length (.tup []) [] ws.length (.tup []) := ⟨by simp, .inl ⟨rfl, rfl⟩⟩
        obtain ⟨k1, b1, p1, t4, t5, t6, t7, f1, q4, hk1, hb1⟩ := bp3 hW hs hne ih hk b0 true .un .un .un .un .un rfl rfl
        obtain ⟨k2, b2, p2, v4, v5, v6, v7, f2, r4, hk2, hb2⟩ := bp3 hW hs hne ih hk1 hb1 false (.val (.str (eg true))) t4 t5 t6 t7 rfl q4
        have hb3 : Best ws ws.length (.tup []) (qs ws) b2 p2 := by
          unfold qs
          rw [List.filter_append]
          simpa using hb2
        obtain ⟨rfl, rfl⟩ := hb3.end_ h.nd h1
        have f3 := (forL_cons_go (ds := [.str (eg false)]) f1 rfl).trans ((forL_cons_go (ds := []) f2 rfl).trans (forL_nil _ _ _))
        simp only [eg, if_true, Bool.false_eq_true, if_false] at f3
        obtain ⟨k3, g1, g2, hk3⟩ := kn_put hk2 hs hne
        have z3 : szLt (k2.map wD).length = true := szLt_of (by rw [List.length_map]; have := hk2.len h12; omega)
        have g2' : putVs (k2.map wD) (k2.map bD) (wD ws) (.tup [.int (L ws : Int), Pl ws]) = k3.map bD := g2
        refine ⟨k3, ?_, hk3⟩
        unfold kn at f3
        unfold F_best_plan fnOf b_best_plan kn
        simp only [c_sSeq, c_sIf, c_sDrop, c_sRet, c_sRetN, c_sRet0, c_sRetV, c_sFrz, c_sSet, c_sSetL, c_sSetN, c_sPar, c_sAsg, c_sFor, c_sPut, c_sPutL, c_sPutD, c_sSdApp, c_sNx, c_sBk, c_sCt, c_eFr, c_vE, c_eC, c_eVar, c_vVar, c_aNil, c_aCons, c_eTup, c_nLst, c_eOp, c_eUn, c_nUn, c_nCat, c_nDic, c_tOf, c_tTru, c_tNot, c_tAnd, c_tOr, c_eIf, c_nIf, c_eAnd, c_eOr, c_eNot, c_tYes, c_eApp, c_ePop, c_ePopAt, c_eGet, c_eSl, c_oNo, c_oAt, c_eCall, c_nCall, c_eCallK, c_runCall, c_runCallK, c_gNil, c_gCons, c_gOwn, c_gNwc, c_iAny, c_iRange1, c_iRange2, c_eTupGx, g_d, g_sl, runGs, valR, ownR, slotD, Sl.toD, Tg.bind, Tg.binds, plainAt_b, Option.any_some, plB_un, plB_val, frzE, lstOf, dicOf, setsG, isOwn, Rl.ownsOf, nodupB, nwsOf, argSl, back_e1, back_e2, back_e3, back_e4, back_e5, backArgs, pick, itsD_lst, itsD_tup, itsD_str, itsD_dic, getD2_dic, isDicD_dic, truD, catD, eqD, eqB, neD, ltD, leD, gtD, geD, addD, subD, mulD, modD, fdivD, pow_1018, negD, isNonD, notNonD, nonB, isiD, ixD_lst, ixD_tup, ixD_scr, ixD_str, ixD_dic, lenD_lst, lenD_tup, lenD_scr, lenD_str, lenD_dic, Rl.intD, Rl.absD, tupD, listL, slD, smallI_7, smallI_48271, smallI_69621, smallI_16, smallI_17, smallI_31, lt30_65536, lt30_2, lt30_16, lt30_10, atI_0, atI_1, atI_2, ixN_0, ixN_1, ixN_2, Option.bind_some, Option.bind_none, Option.map_some, Option.map_none, List.getElem?_cons_zero, List.getElem?_cons_succ, List.set_cons_zero, List.set_cons_succ, List.replicate_succ, List.replicate_zero, List.cons_append, List.nil_append, List.append_nil, List.length_cons, List.length_nil, List.take_succ_cons, List.take_zero, List.contains_nil, Bool.not_false, Bool.not_true, Bool.and_self, Bool.true_and, Bool.and_true, Bool.false_and, Bool.and_false, Bool.true_or, Bool.or_true, Bool.false_or, Bool.or_false, Bool.false_eq_true, if_true, if_false, reduceIte, Nat.reduceAdd, Nat.reduceSub, Nat.reduceEqDiff, Nat.reduceLeDiff, Int.reduceNeg, Int.reduceLT, Int.reduceLE, Int.reducePow, Nat.reducePow, Int.reduceToNat, Nat.reduceLT, decide_true, decide_false, List.all_cons, List.all_nil, beq_self_eq_true, Option.isSome_some, List.filterMap_cons_some, List.filterMap_nil, e0, c1, inD, inB, e1, kw, z0, z2, f3, z3, g1, g2', bD]
    · obtain ⟨w, rfl⟩ : ∃ w, ws = [w] := by
        have := List.length_pos_iff.mpr h.ne
        match ws, h1, this with
        | [w], _, _ => exact ⟨w, rfl⟩
        | _ :: _ :: _, h1, _ => simp at h1
      have e7 : ixD (wD [w]) (.int 0) = some (.str w) := by
        unfold wD
        simp only [c_sSeq, c_sIf, c_sDrop, c_sRet, c_sRetN, c_sRet0, c_sRetV, c_sFrz, c_sSet, c_sSetL, c_sSetN, c_sPar, c_sAsg, c_sFor, c_sPut, c_sPutL, c_sPutD, c_sSdApp, c_sNx, c_sBk, c_sCt, c_eFr, c_vE, c_eC, c_eVar, c_vVar, c_aNil, c_aCons, c_eTup, c_nLst, c_eOp, c_eUn, c_nUn, c_nCat, c_nDic, c_tOf, c_tTru, c_tNot, c_tAnd, c_tOr, c_eIf, c_nIf, c_eAnd, c_eOr, c_eNot, c_tYes, c_eApp, c_ePop, c_ePopAt, c_eGet, c_eSl, c_oNo, c_oAt, c_eCall, c_nCall, c_eCallK, c_runCall, c_runCallK, c_gNil, c_gCons, c_gOwn, c_gNwc, c_iAny, c_iRange1, c_iRange2, c_eTupGx, g_d, g_sl, runGs, valR, ownR, slotD, Sl.toD, Tg.bind, Tg.binds, plainAt_b, Option.any_some, plB_un, plB_val, frzE, lstOf, dicOf, setsG, isOwn, Rl.ownsOf, nodupB, nwsOf, argSl, back_e1, back_e2, back_e3, back_e4, back_e5, backArgs, pick, itsD_lst, itsD_tup, itsD_str, itsD_dic, getD2_dic, isDicD_dic, truD, catD, eqD, eqB, neD, ltD, leD, gtD, geD, addD, subD, mulD, modD, fdivD, pow_1018, negD, isNonD, notNonD, nonB, isiD, ixD_lst, ixD_tup, ixD_scr, ixD_str, ixD_dic, lenD_lst, lenD_tup, lenD_scr, lenD_str, lenD_dic, Rl.intD, Rl.absD, tupD, listL, slD, smallI_7, smallI_48271, smallI_69621, smallI_16, smallI_17, smallI_31, lt30_65536, lt30_2, lt30_16, lt30_10, atI_0, atI_1, atI_2, ixN_0, ixN_1, ixN_2, Option.bind_some, Option.bind_none, Option.map_some, Option.map_none, List.getElem?_cons_zero, List.getElem?_cons_succ, List.set_cons_zero, List.set_cons_succ, List.replicate_succ, List.replicate_zero, List.cons_append, List.nil_append, List.append_nil, List.length_cons, List.length_nil, List.take_succ_cons, List.take_zero, List.contains_nil, Bool.not_false, Bool.not_true, Bool.and_self, Bool.true_and, Bool.and_true, Bool.false_and, Bool.and_false, Bool.true_or, Bool.or_true, Bool.false_or, Bool.or_false, Bool.false_eq_true, if_true, if_false, reduceIte, Nat.reduceAdd, Nat.reduceSub, Nat.reduceEqDiff, Nat.reduceLeDiff, Int.reduceNeg, Int.reduceLT, Int.reduceLE, Int.reducePow, Nat.reducePow, Int.reduceToNat, Nat.reduceLT, decide_true, decide_false, List.all_cons, List.all_nil, beq_self_eq_true, Option.isSome_some, List.filterMap_cons_some, List.filterMap_nil]
        exact atI_0 _ _
      have c1 : ((1 : Int) == 1) = true := rfl
      have e9 : lenD (wD [w]) = some (.int 1) := e0
      have e8 : bD [w] = .tup [.int 0, .str w] := by unfold bD; rw [L_one (by simp), Pl_one]; rfl
      refine ⟨ks, ?_, hk⟩
      rw [e8]
      unfold F_best_plan fnOf b_best_plan kn
      simp only [c_sSeq, c_sIf, c_sDrop, c_sRet, c_sRetN, c_sRet0, c_sRetV, c_sFrz, c_sSet, c_sSetL, c_sSetN, c_sPar, c_sAsg, c_sFor, c_sPut, c_sPutL, c_sPutD, c_sSdApp, c_sNx, c_sBk, c_sCt, c_eFr, c_vE, c_eC, c_eVar, c_vVar, c_aNil, c_aCons, c_eTup, c_nLst, c_eOp, c_eUn, c_nUn, c_nCat, c_nDic, c_tOf, c_tTru, c_tNot, c_tAnd, c_tOr, c_eIf, c_nIf, c_eAnd, c_eOr, c_eNot, c_tYes, c_eApp, c_ePop, c_ePopAt, c_eGet, c_eSl, c_oNo, c_oAt, c_eCall, c_nCall, c_eCallK, c_runCall, c_runCallK, c_gNil, c_gCons, c_gOwn, c_gNwc, c_iAny, c_iRange1, c_iRange2, c_eTupGx, g_d, g_sl, runGs, valR, ownR, slotD, Sl.toD, Tg.bind, Tg.binds, plainAt_b, Option.any_some, plB_un, plB_val, frzE, lstOf, dicOf, setsG, isOwn, Rl.ownsOf, nodupB, nwsOf, argSl, back_e1, back_e2, back_e3, back_e4, back_e5, backArgs, pick, itsD_lst, itsD_tup, itsD_str, itsD_dic, getD2_dic, isDicD_dic, truD, catD, eqD, eqB, neD, ltD, leD, gtD, geD, addD, subD, mulD, modD, fdivD, pow_1018, negD, isNonD, notNonD, nonB, isiD, ixD_lst, ixD_tup, ixD_scr, ixD_str, ixD_dic, lenD_lst, lenD_tup, lenD_scr, lenD_str, lenD_dic, Rl.intD, Rl.absD, tupD, listL, slD, smallI_7, smallI_48271, smallI_69621, smallI_16, smallI_17, smallI_31, lt30_65536, lt30_2, lt30_16, lt30_10, atI_0, atI_1, atI_2, ixN_0, ixN_1, ixN_2, Option.bind_some, Option.bind_none, Option.map_some, Option.map_none, List.getElem?_cons_zero, List.getElem?_cons_succ, List.set_cons_zero, List.set_cons_succ, List.replicate_succ, List.replicate_zero, List.cons_append, List.nil_append, List.append_nil, List.length_cons, List.length_nil, List.take_succ_cons, List.take_zero, List.contains_nil, Bool.not_false, Bool.not_true, Bool.and_self, Bool.true_and, Bool.and_true, Bool.false_and, Bool.and_false, Bool.true_or, Bool.or_true, Bool.false_or, Bool.or_false, Bool.false_eq_true, if_true, if_false, reduceIte, Nat.reduceAdd, Nat.reduceSub, Nat.reduceEqDiff, Nat.reduceLeDiff, Int.reduceNeg, Int.reduceLT, Int.reduceLE, Int.reducePow, Nat.reducePow, Int.reduceToNat, Nat.reduceLT, decide_true, decide_false, List.all_cons, List.all_nil, beq_self_eq_true, Option.isSome_some, List.filterMap_cons_some, List.filterMap_nil, e9, c1, e7, z2]
theorem ask_ok {W : List Wd} (hW : Lot W) (h12 : W.length ≤ 12) : ∃ outs, F_ask_plan [.val (wD W)] = some (.val (bD W), outs) := by
  obtain ⟨ks, e, _⟩ := best_ok hW h12 13 W [] (List.Sublist.refl W) hW.ne (by omega) ⟨List.nodup_nil, by simp⟩
  unfold kn at e
  simp only [List.map_nil] at e
  unfold F_ask_plan fnOf b_ask_plan
  simp only [c_sSeq, c_sIf, c_sDrop, c_sRet, c_sRetN, c_sRet0, c_sRetV, c_sFrz, c_sSet, c_sSetL, c_sSetN, c_sPar, c_sAsg, c_sFor, c_sPut, c_sPutL, c_sPutD, c_sSdApp, c_sNx, c_sBk, c_sCt, c_eFr, c_vE, c_eC, c_eVar, c_vVar, c_aNil, c_aCons, c_eTup, c_nLst, c_eOp, c_eUn, c_nUn, c_nCat, c_nDic, c_tOf, c_tTru, c_tNot, c_tAnd, c_tOr, c_eIf, c_nIf, c_eAnd, c_eOr, c_eNot, c_tYes, c_eApp, c_ePop, c_ePopAt, c_eGet, c_eSl, c_oNo, c_oAt, c_eCall, c_nCall, c_eCallK, c_runCall, c_runCallK, c_gNil, c_gCons, c_gOwn, c_gNwc, c_iAny, c_iRange1, c_iRange2, c_eTupGx, g_d, g_sl, runGs, valR, ownR, slotD, Sl.toD, Tg.bind, Tg.binds, plainAt_b, Option.any_some, plB_un, plB_val, frzE, lstOf, dicOf, setsG, isOwn, Rl.ownsOf, nodupB, nwsOf, argSl, back_e1, back_e2, back_e3, back_e4, back_e5, backArgs, pick, itsD_lst, itsD_tup, itsD_str, itsD_dic, getD2_dic, isDicD_dic, truD, catD, eqD, eqB, neD, ltD, leD, gtD, geD, addD, subD, mulD, modD, fdivD, pow_1018, negD, isNonD, notNonD, nonB, isiD, ixD_lst, ixD_tup, ixD_scr, ixD_str, ixD_dic, lenD_lst, lenD_tup, lenD_scr, lenD_str, lenD_dic, Rl.intD, Rl.absD, tupD, listL, slD, smallI_7, smallI_48271, smallI_69621, smallI_16, smallI_17, smallI_31, lt30_65536, lt30_2, lt30_16, lt30_10, atI_0, atI_1, atI_2, ixN_0, ixN_1, ixN_2, Option.bind_some, Option.bind_none, Option.map_some, Option.map_none, List.getElem?_cons_zero, List.getElem?_cons_succ, List.set_cons_zero, List.set_cons_succ, List.replicate_succ, List.replicate_zero, List.cons_append, List.nil_append, List.append_nil, List.length_cons, List.length_nil, List.take_succ_cons, List.take_zero, List.contains_nil, Bool.not_false, Bool.not_true, Bool.and_self, Bool.true_and, Bool.and_true, Bool.false_and, Bool.and_false, Bool.true_or, Bool.or_true, Bool.false_or, Bool.or_false, Bool.false_eq_true, if_true, if_false, reduceIte, Nat.reduceAdd, Nat.reduceSub, Nat.reduceEqDiff, Nat.reduceLeDiff, Int.reduceNeg, Int.reduceLT, Int.reduceLE, Int.reducePow, Nat.reducePow, Int.reduceToNat, Nat.reduceLT, decide_true, decide_false, List.all_cons, List.all_nil, beq_self_eq_true, Option.isSome_some, List.filterMap_cons_some, List.filterMap_nil, e]
  exact ⟨_, rfl⟩
end P82
end

set_option linter.all false
set_option maxRecDepth 100000
set_option autoImplicit false
set_option maxHeartbeats 1000000
noncomputable section
namespace P82
open PySem L2 Rl
/-! ### a plan's depth -/
inductive PD : D → Nat → Prop
  | str (w : Wd) : PD (.str w) 0
  | tup (a b : D) (rows : List (D × D × Nat)) (hne : rows ≠ []) (hl : rows.length ≤ 1000) (h : ∀ r ∈ rows, PD r.2.1 r.2.2) : PD (.tup [a, b, .tup (rows.map fun r => .tup [r.1, r.2.1])]) (1 + maxN (rows.map fun r => r.2.2))
theorem pd_ok : ∀ (n : Nat) (d : Nat) (p : D), PD p d → d < n → ∃ outs, F_plan_depth n [.val p] = some (.val (.int (d : Int)), outs)
  | 0, d, p, _, h => absurd h (by omega)
  | n + 1, d, p, hp, hd => by
    cases hp with
    | str w =>
      unfold F_plan_depth fnOf b_plan_depth
      simp only [c_sSeq, c_sIf, c_sDrop, c_sRet, c_sRetN, c_sRet0, c_sRetV, c_sFrz, c_sSet, c_sSetL, c_sSetN, c_sPar, c_sAsg, c_sFor, c_sPut, c_sPutL, c_sPutD, c_sSdApp, c_sNx, c_sBk, c_sCt, c_eFr, c_vE, c_eC, c_eVar, c_vVar, c_aNil, c_aCons, c_eTup, c_nLst, c_eOp, c_eUn, c_nUn, c_nCat, c_nDic, c_tOf, c_tTru, c_tNot, c_tAnd, c_tOr, c_eIf, c_nIf, c_eAnd, c_eOr, c_eNot, c_tYes, c_eApp, c_ePop, c_ePopAt, c_eGet, c_eSl, c_oNo, c_oAt, c_eCall, c_nCall, c_eCallK, c_runCall, c_runCallK, c_gNil, c_gCons, c_gOwn, c_gNwc, c_iAny, c_iRange1, c_iRange2, c_eTupGx, g_d, g_sl, runGs, valR, ownR, slotD, Sl.toD, Tg.bind, Tg.binds, plainAt_b, Option.any_some, plB_un, plB_val, frzE, lstOf, dicOf, setsG, isOwn, Rl.ownsOf, nodupB, nwsOf, argSl, back_e1, back_e2, back_e3, back_e4, back_e5, backArgs, pick, itsD_lst, itsD_tup, itsD_str, itsD_dic, getD2_dic, isDicD_dic, truD, catD, eqD, eqB, neD, ltD, leD, gtD, geD, addD, subD, mulD, modD, fdivD, pow_1018, negD, isNonD, notNonD, nonB, isiD, ixD_lst, ixD_tup, ixD_scr, ixD_str, ixD_dic, lenD_lst, lenD_tup, lenD_scr, lenD_str, lenD_dic, Rl.intD, Rl.absD, tupD, listL, slD, smallI_7, smallI_48271, smallI_69621, smallI_16, smallI_17, smallI_31, lt30_65536, lt30_2, lt30_16, lt30_10, atI_0, atI_1, atI_2, ixN_0, ixN_1, ixN_2, Option.bind_some, Option.bind_none, Option.map_some, Option.map_none, List.getElem?_cons_zero, List.getElem?_cons_succ, List.set_cons_zero, List.set_cons_succ, List.replicate_succ, List.replicate_zero, List.cons_append, List.nil_append, List.append_nil, List.length_cons, List.length_nil, List.take_succ_cons, List.take_zero, List.contains_nil, Bool.not_false, Bool.not_true, Bool.and_self, Bool.true_and, Bool.and_true, Bool.false_and, Bool.and_false, Bool.true_or, Bool.or_true, Bool.false_or, Bool.or_false, Bool.false_eq_true, if_true, if_false, reduceIte, Nat.reduceAdd, Nat.reduceSub, Nat.reduceEqDiff, Nat.reduceLeDiff, Int.reduceNeg, Int.reduceLT, Int.reduceLE, Int.reducePow, Nat.reducePow, Int.reduceToNat, Nat.reduceLT, decide_true, decide_false, List.all_cons, List.all_nil, beq_self_eq_true, Option.isSome_some, List.filterMap_cons_some, List.filterMap_nil]
      exact ⟨_, rfl⟩
    | tup a b rows hne hl h =>
      have e1 : nLc [1, 2] (iAny (eOp ixD (vVar 0) (vE (eC (.int 2))))) (.tp [.nm 1, .nm 2]) tYes' (eCall (F_plan_depth n) (gCons (eVar 2) gNil)) [.val (.tup [a, b, .tup (rows.map fun r => .tup [r.1, r.2.1])]), .un, .un] =
          some (.lst (rows.map fun r => .int (r.2.2 : Int)), [.val (.tup [a, b, .tup (rows.map fun r => .tup [r.1, r.2.1])]), .un, .un]) := by
        refine nLc_map2 (fun r : D × D × Nat => r.1) (fun r : D × D × Nat => r.2.1) (fun r : D × D × Nat => .int (r.2.2 : Int)) rows (by omega) ?_ rfl rfl (fun r hr => ?_) (by omega)
        · simp only [c_sSeq, c_sIf, c_sDrop, c_sRet, c_sRetN, c_sRet0, c_sRetV, c_sFrz, c_sSet, c_sSetL, c_sSetN, c_sPar, c_sAsg, c_sFor, c_sPut, c_sPutL, c_sPutD, c_sSdApp, c_sNx, c_sBk, c_sCt, c_eFr, c_vE, c_eC, c_eVar, c_vVar, c_aNil, c_aCons, c_eTup, c_nLst, c_eOp, c_eUn, c_nUn, c_nCat, c_nDic, c_tOf, c_tTru, c_tNot, c_tAnd, c_tOr, c_eIf, c_nIf, c_eAnd, c_eOr, c_eNot, c_tYes, c_eApp, c_ePop, c_ePopAt, c_eGet, c_eSl, c_oNo, c_oAt, c_eCall, c_nCall, c_eCallK, c_runCall, c_runCallK, c_gNil, c_gCons, c_gOwn, c_gNwc, c_iAny, c_iRange1, c_iRange2, c_eTupGx, g_d, g_sl, runGs, valR, ownR, slotD, Sl.toD, Tg.bind, Tg.binds, plainAt_b, Option.any_some, plB_un, plB_val, frzE, lstOf, dicOf, setsG, isOwn, Rl.ownsOf, nodupB, nwsOf, argSl, back_e1, back_e2, back_e3, back_e4, back_e5, backArgs, pick, itsD_lst, itsD_tup, itsD_str, itsD_dic, getD2_dic, isDicD_dic, truD, catD, eqD, eqB, neD, ltD, leD, gtD, geD, addD, subD, mulD, modD, fdivD, pow_1018, negD, isNonD, notNonD, nonB, isiD, ixD_lst, ixD_tup, ixD_scr, ixD_str, ixD_dic, lenD_lst, lenD_tup, lenD_scr, lenD_str, lenD_dic, Rl.intD, Rl.absD, tupD, listL, slD, smallI_7, smallI_48271, smallI_69621, smallI_16, smallI_17, smallI_31, lt30_65536, lt30_2, lt30_16, lt30_10, atI_0, atI_1, atI_2, ixN_0, ixN_1, ixN_2, Option.bind_some, Option.bind_none, Option.map_some, Option.map_none, List.getElem?_cons_zero, List.getElem?_cons_succ, List.set_cons_zero, List.set_cons_succ, List.replicate_succ, List.replicate_zero, List.cons_append, List.nil_append, List.append_nil, List.length_cons, List.length_nil, List.take_succ_cons, List.take_zero, List.contains_nil, Bool.not_false, Bool.not_true, Bool.and_self, Bool.true_and, Bool.and_true, Bool.false_and, Bool.and_false, Bool.true_or, Bool.or_true, Bool.false_or, Bool.or_false, Bool.false_eq_true, if_true, if_false, reduceIte, Nat.reduceAdd, Nat.reduceSub, Nat.reduceEqDiff, Nat.reduceLeDiff, Int.reduceNeg, Int.reduceLT, Int.reduceLE, Int.reducePow, Nat.reducePow, Int.reduceToNat, Nat.reduceLT, decide_true, decide_false, List.all_cons, List.all_nil, beq_self_eq_true, Option.isSome_some, List.filterMap_cons_some, List.filterMap_nil]
        · have hle : r.2.2 ≤ maxN (rows.map fun r : D × D × Nat => r.2.2) := le_maxN (List.mem_map.mpr ⟨r, hr, rfl⟩)
          obtain ⟨outs, e⟩ := pd_ok n r.2.2 r.2.1 (h r hr) (by omega)
          simp only [c_sSeq, c_sIf, c_sDrop, c_sRet, c_sRetN, c_sRet0, c_sRetV, c_sFrz, c_sSet, c_sSetL, c_sSetN, c_sPar, c_sAsg, c_sFor, c_sPut, c_sPutL, c_sPutD, c_sSdApp, c_sNx, c_sBk, c_sCt, c_eFr, c_vE, c_eC, c_eVar, c_vVar, c_aNil, c_aCons, c_eTup, c_nLst, c_eOp, c_eUn, c_nUn, c_nCat, c_nDic, c_tOf, c_tTru, c_tNot, c_tAnd, c_tOr, c_eIf, c_nIf, c_eAnd, c_eOr, c_eNot, c_tYes, c_eApp, c_ePop, c_ePopAt, c_eGet, c_eSl, c_oNo, c_oAt, c_eCall, c_nCall, c_eCallK, c_runCall, c_runCallK, c_gNil, c_gCons, c_gOwn, c_gNwc, c_iAny, c_iRange1, c_iRange2, c_eTupGx, g_d, g_sl, runGs, valR, ownR, slotD, Sl.toD, Tg.bind, Tg.binds, plainAt_b, Option.any_some, plB_un, plB_val, frzE, lstOf, dicOf, setsG, isOwn, Rl.ownsOf, nodupB, nwsOf, argSl, back_e1, back_e2, back_e3, back_e4, back_e5, backArgs, pick, itsD_lst, itsD_tup, itsD_str, itsD_dic, getD2_dic, isDicD_dic, truD, catD, eqD, eqB, neD, ltD, leD, gtD, geD, addD, subD, mulD, modD, fdivD, pow_1018, negD, isNonD, notNonD, nonB, isiD, ixD_lst, ixD_tup, ixD_scr, ixD_str, ixD_dic, lenD_lst, lenD_tup, lenD_scr, lenD_str, lenD_dic, Rl.intD, Rl.absD, tupD, listL, slD, smallI_7, smallI_48271, smallI_69621, smallI_16, smallI_17, smallI_31, lt30_65536, lt30_2, lt30_16, lt30_10, atI_0, atI_1, atI_2, ixN_0, ixN_1, ixN_2, Option.bind_some, Option.bind_none, Option.map_some, Option.map_none, List.getElem?_cons_zero, List.getElem?_cons_succ, List.set_cons_zero, List.set_cons_succ, List.replicate_succ, List.replicate_zero, List.cons_append, List.nil_append, List.append_nil, List.length_cons, List.length_nil, List.take_succ_cons, List.take_zero, List.contains_nil, Bool.not_false, Bool.not_true, Bool.and_self, Bool.true_and, Bool.and_true, Bool.false_and, Bool.and_false, Bool.true_or, Bool.or_true, Bool.false_or, Bool.or_false, Bool.false_eq_true, if_true, if_false, reduceIte, Nat.reduceAdd, Nat.reduceSub, Nat.reduceEqDiff, Nat.reduceLeDiff, Int.reduceNeg, Int.reduceLT, Int.reduceLE, Int.reducePow, Nat.reducePow, Int.reduceToNat, Nat.reduceLT, decide_true, decide_false, List.all_cons, List.all_nil, beq_self_eq_true, Option.isSome_some, List.filterMap_cons_some, List.filterMap_nil, e]
      have e2 : maxD (.lst (rows.map fun r => .int (r.2.2 : Int))) = some (.int (maxN (rows.map fun r => r.2.2) : Int)) := by
        have := maxD_nat (l := rows.map fun r => r.2.2) (by simpa using hne)
        rw [List.map_map] at this
        exact this
      have e3 : ((1 + maxN (rows.map fun r => r.2.2) : Nat) : Int) = 1 + (maxN (rows.map fun r => r.2.2) : Int) := by omega
      rw [e3]
      unfold F_plan_depth fnOf b_plan_depth
      simp only [c_sSeq, c_sIf, c_sDrop, c_sRet, c_sRetN, c_sRet0, c_sRetV, c_sFrz, c_sSet, c_sSetL, c_sSetN, c_sPar, c_sAsg, c_sFor, c_sPut, c_sPutL, c_sPutD, c_sSdApp, c_sNx, c_sBk, c_sCt, c_eFr, c_vE, c_eC, c_eVar, c_vVar, c_aNil, c_aCons, c_eTup, c_nLst, c_eOp, c_eUn, c_nUn, c_nCat, c_nDic, c_tOf, c_tTru, c_tNot, c_tAnd, c_tOr, c_eIf, c_nIf, c_eAnd, c_eOr, c_eNot, c_tYes, c_eApp, c_ePop, c_ePopAt, c_eGet, c_eSl, c_oNo, c_oAt, c_eCall, c_nCall, c_eCallK, c_runCall, c_runCallK, c_gNil, c_gCons, c_gOwn, c_gNwc, c_iAny, c_iRange1, c_iRange2, c_eTupGx, g_d, g_sl, runGs, valR, ownR, slotD, Sl.toD, Tg.bind, Tg.binds, plainAt_b, Option.any_some, plB_un, plB_val, frzE, lstOf, dicOf, setsG, isOwn, Rl.ownsOf, nodupB, nwsOf, argSl, back_e1, back_e2, back_e3, back_e4, back_e5, backArgs, pick, itsD_lst, itsD_tup, itsD_str, itsD_dic, getD2_dic, isDicD_dic, truD, catD, eqD, eqB, neD, ltD, leD, gtD, geD, addD, subD, mulD, modD, fdivD, pow_1018, negD, isNonD, notNonD, nonB, isiD, ixD_lst, ixD_tup, ixD_scr, ixD_str, ixD_dic, lenD_lst, lenD_tup, lenD_scr, lenD_str, lenD_dic, Rl.intD, Rl.absD, tupD, listL, slD, smallI_7, smallI_48271, smallI_69621, smallI_16, smallI_17, smallI_31, lt30_65536, lt30_2, lt30_16, lt30_10, atI_0, atI_1, atI_2, ixN_0, ixN_1, ixN_2, Option.bind_some, Option.bind_none, Option.map_some, Option.map_none, List.getElem?_cons_zero, List.getElem?_cons_succ, List.set_cons_zero, List.set_cons_succ, List.replicate_succ, List.replicate_zero, List.cons_append, List.nil_append, List.append_nil, List.length_cons, List.length_nil, List.take_succ_cons, List.take_zero, List.contains_nil, Bool.not_false, Bool.not_true, Bool.and_self, Bool.true_and, Bool.and_true, Bool.false_and, Bool.and_false, Bool.true_or, Bool.or_true, Bool.false_or, Bool.or_false, Bool.false_eq_true, if_true, if_false, reduceIte, Nat.reduceAdd, Nat.reduceSub, Nat.reduceEqDiff, Nat.reduceLeDiff, Int.reduceNeg, Int.reduceLT, Int.reduceLE, Int.reducePow, Nat.reducePow, Int.reduceToNat, Nat.reduceLT, decide_true, decide_false, List.all_cons, List.all_nil, beq_self_eq_true, Option.isSome_some, List.filterMap_cons_some, List.filterMap_nil, e1, e2]
      exact ⟨_, rfl⟩
theorem Pl_pd {W : List Wd} (hW : Lot W) : ∀ (n : Nat) (ws : List Wd), ws.length ≤ n → ws.Sublist W → ws ≠ [] → PD (Pl ws) (L ws)
  | 0, ws, h, _, hne => absurd (List.length_eq_zero_iff.mp (by omega)) hne
  | n + 1, ws, h, hs, hne => by
    have hl := hW.sub hs hne
    by_cases h1 : 1 < ws.length
    · obtain ⟨q, hq, hm, hc⟩ := find_ex hl.nd h1
      have l2 := kys_len hl q
      have l3 := (srt_perm (kys ws q)).length_eq
      rw [Pl_eq h1 hq, ← hc]
      have := PD.tup (.str (eg q.1)) (.int q.2) ((srt (kys ws q)).map fun k => (.str k, Pl (prt ws q k), L (prt ws q k))) (by
        intro e
        have e := congrArg List.length e
        rw [List.length_map, List.length_nil] at e
        have := List.length_pos_iff.mpr (isQ_len hl q)
        omega) (by rw [List.length_map]; omega) (fun r hr => by
        obtain ⟨k, hk, rfl⟩ := List.mem_map.mp hr
        have hkm := (srt_perm (kys ws q)).mem_iff.mp hk
        have := prt_lt (isQ_of hm) k
        exact Pl_pd hW n (prt ws q k) (by omega) ((prt_sub ws q k).trans hs) (prt_ne hkm))
      rw [List.map_map, List.map_map] at this
      have e : maxN (((srt (kys ws q)).map ((fun r : D × D × Nat => r.2.2) ∘ fun k => (.str k, Pl (prt ws q k), L (prt ws q k))))) = maxN ((kys ws q).map fun k => L (prt ws q k)) := maxN_perm ((srt_perm (kys ws q)).map _)
      rw [e] at this
      exact this
    · obtain ⟨w, rfl⟩ : ∃ w, ws = [w] := by
        have := List.length_pos_iff.mpr hne
        match ws, h1, this with
        | [w], _, _ => exact ⟨w, rfl⟩
        | _ :: _ :: _, h1, _ => simp at h1
      rw [Pl_one, L_one (by simp)]
      exact PD.str w
/-! ### the same x is the same -/
inductive Sm : Nat → D → Prop
  | int (n : Nat) (i : Int) : Sm n (.int i)
  | str (n : Nat) (s : List Nat) : Sm n (.str s)
  | tup (n : Nat) (ds : List D) (hl : ds.length ≤ 1000) (h : ∀ d ∈ ds, Sm n d) : Sm (n + 1) (.tup ds)
theorem Sm.up {n : Nat} {d : D} (h : Sm n d) : Sm (n + 1) d := by
  induction h with
  | int n i => exact .int _ i
  | str n s => exact .str _ s
  | tup n ds hl _ ih => exact .tup _ ds hl ih
theorem Sm.mono {n m : Nat} {d : D} (h : Sm n d) (l : n ≤ m) : Sm m d := by
  induction l with
  | refl => exact h
  | step _ ih => exact ih.up
theorem same_ok : ∀ (m n : Nat) (x : D), Sm n x → n < m → ∃ outs, F__law_same m [.val x, .val x] = some (.val (.bl true), outs)
  | 0, n, x, _, h => absurd h (by omega)
  | m + 1, n, x, hx, hm => by
    have q0 : ∀ b : Bool, (b == b) = true := fun b => by cases b <;> rfl
    cases hx with
    | int n i =>
      unfold F__law_same fnOf b__law_same
      simp only [c_sSeq, c_sIf, c_sDrop, c_sRet, c_sRetN, c_sRet0, c_sRetV, c_sFrz, c_sSet, c_sSetL, c_sSetN, c_sPar, c_sAsg, c_sFor, c_sPut, c_sPutL, c_sPutD, c_sSdApp, c_sNx, c_sBk, c_sCt, c_eFr, c_vE, c_eC, c_eVar, c_vVar, c_aNil, c_aCons, c_eTup, c_nLst, c_eOp, c_eUn, c_nUn, c_nCat, c_nDic, c_tOf, c_tTru, c_tNot, c_tAnd, c_tOr, c_eIf, c_nIf, c_eAnd, c_eOr, c_eNot, c_tYes, c_eApp, c_ePop, c_ePopAt, c_eGet, c_eSl, c_oNo, c_oAt, c_eCall, c_nCall, c_eCallK, c_runCall, c_runCallK, c_gNil, c_gCons, c_gOwn, c_gNwc, c_iAny, c_iRange1, c_iRange2, c_eTupGx, g_d, g_sl, runGs, valR, ownR, slotD, Sl.toD, Tg.bind, Tg.binds, plainAt_b, Option.any_some, plB_un, plB_val, frzE, lstOf, dicOf, setsG, isOwn, Rl.ownsOf, nodupB, nwsOf, argSl, back_e1, back_e2, back_e3, back_e4, back_e5, backArgs, pick, itsD_lst, itsD_tup, itsD_str, itsD_dic, getD2_dic, isDicD_dic, truD, catD, eqD, eqB, neD, ltD, leD, gtD, geD, addD, subD, mulD, modD, fdivD, pow_1018, negD, isNonD, notNonD, nonB, isiD, ixD_lst, ixD_tup, ixD_scr, ixD_str, ixD_dic, lenD_lst, lenD_tup, lenD_scr, lenD_str, lenD_dic, Rl.intD, Rl.absD, tupD, listL, slD, smallI_7, smallI_48271, smallI_69621, smallI_16, smallI_17, smallI_31, lt30_65536, lt30_2, lt30_16, lt30_10, atI_0, atI_1, atI_2, ixN_0, ixN_1, ixN_2, Option.bind_some, Option.bind_none, Option.map_some, Option.map_none, List.getElem?_cons_zero, List.getElem?_cons_succ, List.set_cons_zero, List.set_cons_succ, List.replicate_succ, List.replicate_zero, List.cons_append, List.nil_append, List.append_nil, List.length_cons, List.length_nil, List.take_succ_cons, List.take_zero, List.contains_nil, Bool.not_false, Bool.not_true, Bool.and_self, Bool.true_and, Bool.and_true, Bool.false_and, Bool.and_false, Bool.true_or, Bool.or_true, Bool.false_or, Bool.or_false, Bool.false_eq_true, if_true, if_false, reduceIte, Nat.reduceAdd, Nat.reduceSub, Nat.reduceEqDiff, Nat.reduceLeDiff, Int.reduceNeg, Int.reduceLT, Int.reduceLE, Int.reducePow, Nat.reducePow, Int.reduceToNat, Nat.reduceLT, decide_true, decide_false, List.all_cons, List.all_nil, beq_self_eq_true, Option.isSome_some, List.filterMap_cons_some, List.filterMap_nil]
      exact ⟨_, rfl⟩
    | str n s =>
      unfold F__law_same fnOf b__law_same
      simp only [c_sSeq, c_sIf, c_sDrop, c_sRet, c_sRetN, c_sRet0, c_sRetV, c_sFrz, c_sSet, c_sSetL, c_sSetN, c_sPar, c_sAsg, c_sFor, c_sPut, c_sPutL, c_sPutD, c_sSdApp, c_sNx, c_sBk, c_sCt, c_eFr, c_vE, c_eC, c_eVar, c_vVar, c_aNil, c_aCons, c_eTup, c_nLst, c_eOp, c_eUn, c_nUn, c_nCat, c_nDic, c_tOf, c_tTru, c_tNot, c_tAnd, c_tOr, c_eIf, c_nIf, c_eAnd, c_eOr, c_eNot, c_tYes, c_eApp, c_ePop, c_ePopAt, c_eGet, c_eSl, c_oNo, c_oAt, c_eCall, c_nCall, c_eCallK, c_runCall, c_runCallK, c_gNil, c_gCons, c_gOwn, c_gNwc, c_iAny, c_iRange1, c_iRange2, c_eTupGx, g_d, g_sl, runGs, valR, ownR, slotD, Sl.toD, Tg.bind, Tg.binds, plainAt_b, Option.any_some, plB_un, plB_val, frzE, lstOf, dicOf, setsG, isOwn, Rl.ownsOf, nodupB, nwsOf, argSl, back_e1, back_e2, back_e3, back_e4, back_e5, backArgs, pick, itsD_lst, itsD_tup, itsD_str, itsD_dic, getD2_dic, isDicD_dic, truD, catD, eqD, eqB, neD, ltD, leD, gtD, geD, addD, subD, mulD, modD, fdivD, pow_1018, negD, isNonD, notNonD, nonB, isiD, ixD_lst, ixD_tup, ixD_scr, ixD_str, ixD_dic, lenD_lst, lenD_tup, lenD_scr, lenD_str, lenD_dic, Rl.intD, Rl.absD, tupD, listL, slD, smallI_7, smallI_48271, smallI_69621, smallI_16, smallI_17, smallI_31, lt30_65536, lt30_2, lt30_16, lt30_10, atI_0, atI_1, atI_2, ixN_0, ixN_1, ixN_2, Option.bind_some, Option.bind_none, Option.map_some, Option.map_none, List.getElem?_cons_zero, List.getElem?_cons_succ, List.set_cons_zero, List.set_cons_succ, List.replicate_succ, List.replicate_zero, List.cons_append, List.nil_append, List.append_nil, List.length_cons, List.length_nil, List.take_succ_cons, List.take_zero, List.contains_nil, Bool.not_false, Bool.not_true, Bool.and_self, Bool.true_and, Bool.and_true, Bool.false_and, Bool.and_false, Bool.true_or, Bool.or_true, Bool.false_or, Bool.or_false, Bool.false_eq_true, if_true, if_false, reduceIte, Nat.reduceAdd, Nat.reduceSub, Nat.reduceEqDiff, Nat.reduceLeDiff, Int.reduceNeg, Int.reduceLT, Int.reduceLE, Int.reducePow, Nat.reducePow, Int.reduceToNat, Nat.reduceLT, decide_true, decide_false, List.all_cons, List.all_nil, beq_self_eq_true, Option.isSome_some, List.filterMap_cons_some, List.filterMap_nil]
      exact ⟨_, rfl⟩
    | tup n ds hl h =>
      have e1 : nLc [2] (iRange1 (eUn lenD (vVar 1))) (.nm 2) (t1__law_same (F__law_same m)) (eVar 2) [.val (.tup ds), .val (.tup ds), .un] = some (.lst [], [.val (.tup ds), .val (.tup ds), .un]) := by
        have r1 : rngOk (ds.length : Int) = true := rngOk_in (by omega) (by omega)
        have r2 : rngD 0 (ds.length : Int) = (List.range ds.length).map fun p => .int ((p : Nat) : Int) := by
          unfold rngD
          simp
        have := nLc_pure1 (fun k : Nat => .int (k : Int)) (v := 2) (i := iRange1 (eUn lenD (vVar 1))) (c := t1__law_same (F__law_same m)) (e := eVar 2) (σ0 := [.val (.tup ds), .val (.tup ds), .un]) (σ := [.val (.tup ds), .val (.tup ds), .un]) (fun _ => false) (fun k : Nat => .int (k : Int)) (List.range ds.length) (by simp only [c_sSeq, c_sIf, c_sDrop, c_sRet, c_sRetN, c_sRet0, c_sRetV, c_sFrz, c_sSet, c_sSetL, c_sSetN, c_sPar, c_sAsg, c_sFor, c_sPut, c_sPutL, c_sPutD, c_sSdApp, c_sNx, c_sBk, c_sCt, c_eFr, c_vE, c_eC, c_eVar, c_vVar, c_aNil, c_aCons, c_eTup, c_nLst, c_eOp, c_eUn, c_nUn, c_nCat, c_nDic, c_tOf, c_tTru, c_tNot, c_tAnd, c_tOr, c_eIf, c_nIf, c_eAnd, c_eOr, c_eNot, c_tYes, c_eApp, c_ePop, c_ePopAt, c_eGet, c_eSl, c_oNo, c_oAt, c_eCall, c_nCall, c_eCallK, c_runCall, c_runCallK, c_gNil, c_gCons, c_gOwn, c_gNwc, c_iAny, c_iRange1, c_iRange2, c_eTupGx, g_d, g_sl, runGs, valR, ownR, slotD, Sl.toD, Tg.bind, Tg.binds, plainAt_b, Option.any_some, plB_un, plB_val, frzE, lstOf, dicOf, setsG, isOwn, Rl.ownsOf, nodupB, nwsOf, argSl, back_e1, back_e2, back_e3, back_e4, back_e5, backArgs, pick, itsD_lst, itsD_tup, itsD_str, itsD_dic, getD2_dic, isDicD_dic, truD, catD, eqD, eqB, neD, ltD, leD, gtD, geD, addD, subD, mulD, modD, fdivD, pow_1018, negD, isNonD, notNonD, nonB, isiD, ixD_lst, ixD_tup, ixD_scr, ixD_str, ixD_dic, lenD_lst, lenD_tup, lenD_scr, lenD_str, lenD_dic, Rl.intD, Rl.absD, tupD, listL, slD, smallI_7, smallI_48271, smallI_69621, smallI_16, smallI_17, smallI_31, lt30_65536, lt30_2, lt30_16, lt30_10, atI_0, atI_1, atI_2, ixN_0, ixN_1, ixN_2, Option.bind_some, Option.bind_none, Option.map_some, Option.map_none, List.getElem?_cons_zero, List.getElem?_cons_succ, List.set_cons_zero, List.set_cons_succ, List.replicate_succ, List.replicate_zero, List.cons_append, List.nil_append, List.append_nil, List.length_cons, List.length_nil, List.take_succ_cons, List.take_zero, List.contains_nil, Bool.not_false, Bool.not_true, Bool.and_self, Bool.true_and, Bool.and_true, Bool.false_and, Bool.and_false, Bool.true_or, Bool.or_true, Bool.false_or, Bool.or_false, Bool.false_eq_true, if_true, if_false, reduceIte, Nat.reduceAdd, Nat.reduceSub, Nat.reduceEqDiff, Nat.reduceLeDiff, Int.reduceNeg, Int.reduceLT, Int.reduceLE, Int.reducePow, Nat.reducePow, Int.reduceToNat, Nat.reduceLT, decide_true, decide_false, List.all_cons, List.all_nil, beq_self_eq_true, Option.isSome_some, List.filterMap_cons_some, List.filterMap_nil, r1, r2]) rfl (fun k hk => by
          have hk' : k < ds.length := List.mem_range.mp hk
          have a1 : atI ds (k : Int) = some ds[k] := atI_in hk'
          obtain ⟨outs, e⟩ := same_ok m n ds[k] (h _ (List.getElem_mem hk')) (by omega)
          simp only [c_sSeq, c_sIf, c_sDrop, c_sRet, c_sRetN, c_sRet0, c_sRetV, c_sFrz, c_sSet, c_sSetL, c_sSetN, c_sPar, c_sAsg, c_sFor, c_sPut, c_sPutL, c_sPutD, c_sSdApp, c_sNx, c_sBk, c_sCt, c_eFr, c_vE, c_eC, c_eVar, c_vVar, c_aNil, c_aCons, c_eTup, c_nLst, c_eOp, c_eUn, c_nUn, c_nCat, c_nDic, c_tOf, c_tTru, c_tNot, c_tAnd, c_tOr, c_eIf, c_nIf, c_eAnd, c_eOr, c_eNot, c_tYes, c_eApp, c_ePop, c_ePopAt, c_eGet, c_eSl, c_oNo, c_oAt, c_eCall, c_nCall, c_eCallK, c_runCall, c_runCallK, c_gNil, c_gCons, c_gOwn, c_gNwc, c_iAny, c_iRange1, c_iRange2, c_eTupGx, g_d, g_sl, runGs, valR, ownR, slotD, Sl.toD, Tg.bind, Tg.binds, plainAt_b, Option.any_some, plB_un, plB_val, frzE, lstOf, dicOf, setsG, isOwn, Rl.ownsOf, nodupB, nwsOf, argSl, back_e1, back_e2, back_e3, back_e4, back_e5, backArgs, pick, itsD_lst, itsD_tup, itsD_str, itsD_dic, getD2_dic, isDicD_dic, truD, catD, eqD, eqB, neD, ltD, leD, gtD, geD, addD, subD, mulD, modD, fdivD, pow_1018, negD, isNonD, notNonD, nonB, isiD, ixD_lst, ixD_tup, ixD_scr, ixD_str, ixD_dic, lenD_lst, lenD_tup, lenD_scr, lenD_str, lenD_dic, Rl.intD, Rl.absD, tupD, listL, slD, smallI_7, smallI_48271, smallI_69621, smallI_16, smallI_17, smallI_31, lt30_65536, lt30_2, lt30_16, lt30_10, atI_0, atI_1, atI_2, ixN_0, ixN_1, ixN_2, Option.bind_some, Option.bind_none, Option.map_some, Option.map_none, List.getElem?_cons_zero, List.getElem?_cons_succ, List.set_cons_zero, List.set_cons_succ, List.replicate_succ, List.replicate_zero, List.cons_append, List.nil_append, List.append_nil, List.length_cons, List.length_nil, List.take_succ_cons, List.take_zero, List.contains_nil, Bool.not_false, Bool.not_true, Bool.and_self, Bool.true_and, Bool.and_true, Bool.false_and, Bool.and_false, Bool.true_or, Bool.or_true, Bool.false_or, Bool.or_false, Bool.false_eq_true, if_true, if_false, reduceIte, Nat.reduceAdd, Nat.reduceSub, Nat.reduceEqDiff, Nat.reduceLeDiff, Int.reduceNeg, Int.reduceLT, Int.reduceLE, Int.reducePow, Nat.reducePow, Int.reduceToNat, Nat.reduceLT, decide_true, decide_false, List.all_cons, List.all_nil, beq_self_eq_true, Option.isSome_some, List.filterMap_cons_some, List.filterMap_nil, u_t1__law_same, a1, e]) (fun _ _ h => by cases h) (by rw [List.length_range]; omega)
        rw [this, List.filter_eq_nil_iff.mpr (fun _ _ => by simp)]
        rfl
      have e2 : shD (.lst []) = true := (ShN.lst (n := 0) (shNs_nil 0)).sh (by omega)
      have e3 : PyData.eqv (py (.lst [])) (py (.lst [])) = true := by simp [py, pys, PyData.eqv, PyData.eqvAll]
      unfold F__law_same fnOf b__law_same
      have z0 : szOk 0 = true := szOk_of (by omega)
      simp only [c_sSeq, c_sIf, c_sDrop, c_sRet, c_sRetN, c_sRet0, c_sRetV, c_sFrz, c_sSet, c_sSetL, c_sSetN, c_sPar, c_sAsg, c_sFor, c_sPut, c_sPutL, c_sPutD, c_sSdApp, c_sNx, c_sBk, c_sCt, c_eFr, c_vE, c_eC, c_eVar, c_vVar, c_aNil, c_aCons, c_eTup, c_nLst, c_eOp, c_eUn, c_nUn, c_nCat, c_nDic, c_tOf, c_tTru, c_tNot, c_tAnd, c_tOr, c_eIf, c_nIf, c_eAnd, c_eOr, c_eNot, c_tYes, c_eApp, c_ePop, c_ePopAt, c_eGet, c_eSl, c_oNo, c_oAt, c_eCall, c_nCall, c_eCallK, c_runCall, c_runCallK, c_gNil, c_gCons, c_gOwn, c_gNwc, c_iAny, c_iRange1, c_iRange2, c_eTupGx, g_d, g_sl, runGs, valR, ownR, slotD, Sl.toD, Tg.bind, Tg.binds, plainAt_b, Option.any_some, plB_un, plB_val, frzE, lstOf, dicOf, setsG, isOwn, Rl.ownsOf, nodupB, nwsOf, argSl, back_e1, back_e2, back_e3, back_e4, back_e5, backArgs, pick, itsD_lst, itsD_tup, itsD_str, itsD_dic, getD2_dic, isDicD_dic, truD, catD, eqD, eqB, neD, ltD, leD, gtD, geD, addD, subD, mulD, modD, fdivD, pow_1018, negD, isNonD, notNonD, nonB, isiD, ixD_lst, ixD_tup, ixD_scr, ixD_str, ixD_dic, lenD_lst, lenD_tup, lenD_scr, lenD_str, lenD_dic, Rl.intD, Rl.absD, tupD, listL, slD, smallI_7, smallI_48271, smallI_69621, smallI_16, smallI_17, smallI_31, lt30_65536, lt30_2, lt30_16, lt30_10, atI_0, atI_1, atI_2, ixN_0, ixN_1, ixN_2, Option.bind_some, Option.bind_none, Option.map_some, Option.map_none, List.getElem?_cons_zero, List.getElem?_cons_succ, List.set_cons_zero, List.set_cons_succ, List.replicate_succ, List.replicate_zero, List.cons_append, List.nil_append, List.append_nil, List.length_cons, List.length_nil, List.take_succ_cons, List.take_zero, List.contains_nil, Bool.not_false, Bool.not_true, Bool.and_self, Bool.true_and, Bool.and_true, Bool.false_and, Bool.and_false, Bool.true_or, Bool.or_true, Bool.false_or, Bool.or_false, Bool.false_eq_true, if_true, if_false, reduceIte, Nat.reduceAdd, Nat.reduceSub, Nat.reduceEqDiff, Nat.reduceLeDiff, Int.reduceNeg, Int.reduceLT, Int.reduceLE, Int.reducePow, Nat.reducePow, Int.reduceToNat, Nat.reduceLT, decide_true, decide_false, List.all_cons, List.all_nil, beq_self_eq_true, Option.isSome_some, List.filterMap_cons_some, List.filterMap_nil, e1, e2, e3, z0]
      exact ⟨_, rfl⟩
theorem Pl_sm {W : List Wd} (hW : Lot W) : ∀ (n : Nat) (ws : List Wd), ws.length ≤ n → ws.Sublist W → ws ≠ [] → Sm (3 * L ws) (Pl ws)
  | 0, ws, h, _, hne => absurd (List.length_eq_zero_iff.mp (by omega)) hne
  | n + 1, ws, h, hs, hne => by
    have hl := hW.sub hs hne
    by_cases h1 : 1 < ws.length
    · obtain ⟨q, hq, hm, hc⟩ := find_ex hl.nd h1
      have l2 := kys_len hl q
      have l3 := (srt_perm (kys ws q)).length_eq
      have hp := cost_pos ws q
      obtain ⟨c, hcc⟩ : ∃ c, L ws = c + 1 := ⟨L ws - 1, by omega⟩
      rw [Pl_eq h1 hq, hcc, show 3 * (c + 1) = 3 * c + 1 + 1 + 1 by omega]
      refine .tup _ _ (by simp) fun d hd => ?_
      rcases List.mem_cons.mp hd with rfl | hd
      · exact .str _ _
      · rcases List.mem_cons.mp hd with rfl | hd
        · exact .int _ _
        · rw [List.mem_singleton.mp hd]
          refine .tup _ _ (by rw [List.length_map]; omega) fun d hd => ?_
          obtain ⟨k, hk, rfl⟩ := List.mem_map.mp hd
          have hkm := (srt_perm (kys ws q)).mem_iff.mp hk
          refine .tup _ _ (by simp) fun d hd => ?_
          rcases List.mem_cons.mp hd with rfl | hd
          · exact .str _ _
          · rw [List.mem_singleton.mp hd]
            have hlt := prt_lt (isQ_of hm) k
            have hle : L (prt ws q k) ≤ c := by
              have : L (prt ws q k) ≤ maxN ((kys ws q).map fun k => L (prt ws q k)) := le_maxN (List.mem_map.mpr ⟨k, hkm, rfl⟩)
              unfold cost at hc
              omega
            exact (Pl_sm hW n (prt ws q k) (by omega) ((prt_sub ws q k).trans hs) (prt_ne hkm)).mono (by omega)
    · obtain ⟨w, rfl⟩ : ∃ w, ws = [w] := by
        have := List.length_pos_iff.mpr hne
        match ws, h1, this with
        | [w], _, _ => exact ⟨w, rfl⟩
        | _ :: _ :: _, h1, _ => simp at h1
      rw [Pl_one]
      exact .str _ _
end P82
end

set_option linter.all false
set_option maxRecDepth 100000
set_option autoImplicit false
set_option maxHeartbeats 1000000
noncomputable section
namespace P82
open PySem L2 Rl
/-! ### drawn words -/
def letOk (ls : List Nat) : Prop := ls ≠ [] ∧ ls.length ≤ 100 ∧ Cps ls
/-- letters of a word, drawn one behind the other -/
theorem dw_word {ls : List Nat} (hl : letOk ls) (s1 s3 s4 s5 : Sl) : ∀ (ds : List D) (P : List Int) (s6 : Sl), PoolOk P → plB s6 = true → (∀ d ∈ ds, ∃ i, d = .int i) →
    ∃ (cs : List Nat) (P' : List Int) (s6' : Sl), lcL [6] (.nm 6) tYes' e1__law_drawn_words ds [.lst (pD P), s1, .val (.str ls), s3, s4, s5, s6] = some (cs.map fun c => .str [c], [.lst (pD P'), s1, .val (.str ls), s3, s4, s5, s6']) ∧ PoolOk P' ∧ plB s6' = true ∧ cs.length = ds.length ∧ Cps cs
  | [], P, s6, hP, h6, _ => ⟨[], P, s6, rfl, hP, h6, rfl, fun _ h => nomatch h⟩
  | d :: ds, P, s6, hP, h6, hd => by
    obtain ⟨P1, x, e, hP1, hx⟩ := pick_str hP hl.1 hl.2.1
    obtain ⟨cs, P', s6', e2, hP', h6', hc, hcp⟩ := dw_word hl s1 s3 s4 s5 ds P1 (.val d) hP1 rfl fun x hx => hd x (List.mem_cons_of_mem _ hx)
    refine ⟨x :: cs, P', s6', ?_, hP', h6', by simp [hc], fun c h => ?_⟩
    · simp only [lcL, wipeE]
      simp only [c_sSeq, c_sIf, c_sDrop, c_sRet, c_sRetN, c_sRet0, c_sRetV, c_sFrz, c_sSet, c_sSetL, c_sSetN, c_sPar, c_sAsg, c_sFor, c_sPut, c_sPutL, c_sPutD, c_sSdApp, c_sNx, c_sBk, c_sCt, c_eFr, c_vE, c_eC, c_eVar, c_vVar, c_aNil, c_aCons, c_eTup, c_nLst, c_eOp, c_eUn, c_nUn, c_nCat, c_nDic, c_tOf, c_tTru, c_tNot, c_tAnd, c_tOr, c_eIf, c_nIf, c_eAnd, c_eOr, c_eNot, c_tYes, c_eApp, c_ePop, c_ePopAt, c_eGet, c_eSl, c_oNo, c_oAt, c_eCall, c_nCall, c_eCallK, c_runCall, c_runCallK, c_gNil, c_gCons, c_gOwn, c_gNwc, c_iAny, c_iRange1, c_iRange2, c_eTupGx, g_d, g_sl, runGs, valR, ownR, slotD, Sl.toD, Tg.bind, Tg.binds, plainAt_b, Option.any_some, plB_un, plB_val, frzE, lstOf, dicOf, setsG, isOwn, Rl.ownsOf, nodupB, nwsOf, argSl, back_e1, back_e2, back_e3, back_e4, back_e5, backArgs, pick, itsD_lst, itsD_tup, itsD_str, itsD_dic, getD2_dic, isDicD_dic, truD, catD, eqD, eqB, neD, ltD, leD, gtD, geD, addD, subD, mulD, modD, fdivD, pow_1018, negD, isNonD, notNonD, nonB, isiD, ixD_lst, ixD_tup, ixD_scr, ixD_str, ixD_dic, lenD_lst, lenD_tup, lenD_scr, lenD_str, lenD_dic, Rl.intD, Rl.absD, tupD, listL, slD, smallI_7, smallI_48271, smallI_69621, smallI_16, smallI_17, smallI_31, lt30_65536, lt30_2, lt30_16, lt30_10, atI_0, atI_1, atI_2, ixN_0, ixN_1, ixN_2, Option.bind_some, Option.bind_none, Option.map_some, Option.map_none, List.getElem?_cons_zero, List.getElem?_cons_succ, List.set_cons_zero, List.set_cons_succ, List.replicate_succ, List.replicate_zero, List.cons_append, List.nil_append, List.append_nil, List.length_cons, List.length_nil, List.take_succ_cons, List.take_zero, List.contains_nil, Bool.not_false, Bool.not_true, Bool.and_self, Bool.true_and, Bool.and_true, Bool.false_and, Bool.and_false, Bool.true_or, Bool.or_true, Bool.false_or, Bool.or_false, Bool.false_eq_true, if_true, if_false, reduceIte, Nat.reduceAdd, Nat.reduceSub, Nat.reduceEqDiff, Nat.reduceLeDiff, Int.reduceNeg, Int.reduceLT, Int.reduceLE, Int.reducePow, Nat.reducePow, Int.reduceToNat, Nat.reduceLT, decide_true, decide_false, List.all_cons, List.all_nil, beq_self_eq_true, Option.isSome_some, List.filterMap_cons_some, List.filterMap_nil, u_e1__law_drawn_words, e, e2, List.map_cons]
    · rcases List.mem_cons.mp h with rfl | h
      · exact hl.2.2 _ hx
      · exact hcp c h
def inStrs (w : Wd) (ws : List Wd) : Bool := decide (w ∈ ws)
theorem ninD_strs (w : Wd) (ws : List Wd) : ninD (.str w) (.lst (ws.map .str)) = some (.bl (!decide (w ∈ ws))) := by
  have h1 : (ws.map D.str).all flatD = true := by
    rw [List.all_eq_true]
    intro d hd
    obtain ⟨w, _, rfl⟩ := List.mem_map.mp hd
    rfl
  have h2 : ((ws.map D.str).any fun y => eqF y (.str w)) = decide (w ∈ ws) := by
    rw [Bool.eq_iff_iff]
    simp only [List.any_eq_true, List.mem_map, decide_eq_true_eq]
    constructor
    · rintro ⟨_, ⟨a, ha, rfl⟩, e⟩
      have : a = w := by simpa [eqF] using e
      exact this ▸ ha
    · intro h
      exact ⟨.str w, ⟨w, h, rfl⟩, by simp [eqF]⟩
  unfold ninD inB
  simp only [flatD, h1, Bool.true_and, if_true, Option.map_some, h2]
/-- one word more -/
theorem dw_turn {ls : List Nat} (hl : letOk ls) {k : Int} {P : List Int} (hP : PoolOk P) {ws : List Wd} (hn : ws.Nodup) (hw : ∀ w ∈ ws, w.length ≤ 100 ∧ Cps w) (hlen : ws.length ≤ 100) (s4 s5 : Sl) (h4 : plB s4 = true) (x : Int) :
    ∃ (P' : List Int) (ws' : List Wd) (s5' : Sl), turnL (.nm 4) l2__law_drawn_words (.int x) [.lst (pD P), .val (.int k), .val (.str ls), .val (.lst (ws.map .str)), s4, s5, .un] =
      some (.nx, [.lst (pD P'), .val (.int k), .val (.str ls), .val (.lst (ws'.map .str)), .val (.int x), s5', .un]) ∧ PoolOk P' ∧ ws'.Nodup ∧ (∀ w ∈ ws', w.length ≤ 100 ∧ Cps w) ∧ ws'.length ≤ ws.length + 1 ∧ ws' ≠ [] := by
  obtain ⟨P0, n, e0, hP0, n0, n1⟩ : ∃ (P0 : List Int) (n : Nat), iRange1 (eIf (tOf (eOp eqD (vVar 1) (vE (eC (.int 1))))) (eC (.int 3)) (eCall F__law_draw (gOwn 0 (gCons (eC (.int 5)) gNil)))) [.lst (pD P), .val (.int k), .val (.str ls), .val (.lst (ws.map .str)), .val (.int x), s5, .un] =
      some (rngD 0 (n : Int), [.lst (pD P0), .val (.int k), .val (.str ls), .val (.lst (ws.map .str)), .val (.int x), s5, .un]) ∧ PoolOk P0 ∧ n ≤ 100 ∧ True := by
    by_cases hk : k = 1
    · have c : (k == 1) = true := by simp [hk]
      have r : rngOk ((3 : Nat) : Int) = true := rngOk_in (by omega) (by omega)
      refine ⟨P, 3, ?_, hP, by omega, trivial⟩
      have r' : rngOk 3 = true := r
      simp only [c_sSeq, c_sIf, c_sDrop, c_sRet, c_sRetN, c_sRet0, c_sRetV, c_sFrz, c_sSet, c_sSetL, c_sSetN, c_sPar, c_sAsg, c_sFor, c_sPut, c_sPutL, c_sPutD, c_sSdApp, c_sNx, c_sBk, c_sCt, c_eFr, c_vE, c_eC, c_eVar, c_vVar, c_aNil, c_aCons, c_eTup, c_nLst, c_eOp, c_eUn, c_nUn, c_nCat, c_nDic, c_tOf, c_tTru, c_tNot, c_tAnd, c_tOr, c_eIf, c_nIf, c_eAnd, c_eOr, c_eNot, c_tYes, c_eApp, c_ePop, c_ePopAt, c_eGet, c_eSl, c_oNo, c_oAt, c_eCall, c_nCall, c_eCallK, c_runCall, c_runCallK, c_gNil, c_gCons, c_gOwn, c_gNwc, c_iAny, c_iRange1, c_iRange2, c_eTupGx, g_d, g_sl, runGs, valR, ownR, slotD, Sl.toD, Tg.bind, Tg.binds, plainAt_b, Option.any_some, plB_un, plB_val, frzE, lstOf, dicOf, setsG, isOwn, Rl.ownsOf, nodupB, nwsOf, argSl, back_e1, back_e2, back_e3, back_e4, back_e5, backArgs, pick, itsD_lst, itsD_tup, itsD_str, itsD_dic, getD2_dic, isDicD_dic, truD, catD, eqD, eqB, neD, ltD, leD, gtD, geD, addD, subD, mulD, modD, fdivD, pow_1018, negD, isNonD, notNonD, nonB, isiD, ixD_lst, ixD_tup, ixD_scr, ixD_str, ixD_dic, lenD_lst, lenD_tup, lenD_scr, lenD_str, lenD_dic, Rl.intD, Rl.absD, tupD, listL, slD, smallI_7, smallI_48271, smallI_69621, smallI_16, smallI_17, smallI_31, lt30_65536, lt30_2, lt30_16, lt30_10, atI_0, atI_1, atI_2, ixN_0, ixN_1, ixN_2, Option.bind_some, Option.bind_none, Option.map_some, Option.map_none, List.getElem?_cons_zero, List.getElem?_cons_succ, List.set_cons_zero, List.set_cons_succ, List.replicate_succ, List.replicate_zero, List.cons_append, List.nil_append, List.append_nil, List.length_cons, List.length_nil, List.take_succ_cons, List.take_zero, List.contains_nil, Bool.not_false, Bool.not_true, Bool.and_self, Bool.true_and, Bool.and_true, Bool.false_and, Bool.and_false, Bool.true_or, Bool.or_true, Bool.false_or, Bool.or_false, Bool.false_eq_true, if_true, if_false, reduceIte, Nat.reduceAdd, Nat.reduceSub, Nat.reduceEqDiff, Nat.reduceLeDiff, Int.reduceNeg, Int.reduceLT, Int.reduceLE, Int.reducePow, Nat.reducePow, Int.reduceToNat, Nat.reduceLT, decide_true, decide_false, List.all_cons, List.all_nil, beq_self_eq_true, Option.isSome_some, List.filterMap_cons_some, List.filterMap_nil, c, r']
      rfl
    · have c : (k == 1) = false := by simp [hk]
      obtain ⟨P1, r, e, hP1, r0, r1⟩ := draw_ok hP (many := 5) (by omega) (by omega)
      obtain ⟨m, rfl⟩ := Int.eq_ofNat_of_zero_le r0
      have rr : rngOk (m : Int) = true := rngOk_in (by omega) (by omega)
      refine ⟨P1, m, ?_, hP1, by omega, trivial⟩
      simp only [c_sSeq, c_sIf, c_sDrop, c_sRet, c_sRetN, c_sRet0, c_sRetV, c_sFrz, c_sSet, c_sSetL, c_sSetN, c_sPar, c_sAsg, c_sFor, c_sPut, c_sPutL, c_sPutD, c_sSdApp, c_sNx, c_sBk, c_sCt, c_eFr, c_vE, c_eC, c_eVar, c_vVar, c_aNil, c_aCons, c_eTup, c_nLst, c_eOp, c_eUn, c_nUn, c_nCat, c_nDic, c_tOf, c_tTru, c_tNot, c_tAnd, c_tOr, c_eIf, c_nIf, c_eAnd, c_eOr, c_eNot, c_tYes, c_eApp, c_ePop, c_ePopAt, c_eGet, c_eSl, c_oNo, c_oAt, c_eCall, c_nCall, c_eCallK, c_runCall, c_runCallK, c_gNil, c_gCons, c_gOwn, c_gNwc, c_iAny, c_iRange1, c_iRange2, c_eTupGx, g_d, g_sl, runGs, valR, ownR, slotD, Sl.toD, Tg.bind, Tg.binds, plainAt_b, Option.any_some, plB_un, plB_val, frzE, lstOf, dicOf, setsG, isOwn, Rl.ownsOf, nodupB, nwsOf, argSl, back_e1, back_e2, back_e3, back_e4, back_e5, backArgs, pick, itsD_lst, itsD_tup, itsD_str, itsD_dic, getD2_dic, isDicD_dic, truD, catD, eqD, eqB, neD, ltD, leD, gtD, geD, addD, subD, mulD, modD, fdivD, pow_1018, negD, isNonD, notNonD, nonB, isiD, ixD_lst, ixD_tup, ixD_scr, ixD_str, ixD_dic, lenD_lst, lenD_tup, lenD_scr, lenD_str, lenD_dic, Rl.intD, Rl.absD, tupD, listL, slD, smallI_7, smallI_48271, smallI_69621, smallI_16, smallI_17, smallI_31, lt30_65536, lt30_2, lt30_16, lt30_10, atI_0, atI_1, atI_2, ixN_0, ixN_1, ixN_2, Option.bind_some, Option.bind_none, Option.map_some, Option.map_none, List.getElem?_cons_zero, List.getElem?_cons_succ, List.set_cons_zero, List.set_cons_succ, List.replicate_succ, List.replicate_zero, List.cons_append, List.nil_append, List.append_nil, List.length_cons, List.length_nil, List.take_succ_cons, List.take_zero, List.contains_nil, Bool.not_false, Bool.not_true, Bool.and_self, Bool.true_and, Bool.and_true, Bool.false_and, Bool.and_false, Bool.true_or, Bool.or_true, Bool.false_or, Bool.or_false, Bool.false_eq_true, if_true, if_false, reduceIte, Nat.reduceAdd, Nat.reduceSub, Nat.reduceEqDiff, Nat.reduceLeDiff, Int.reduceNeg, Int.reduceLT, Int.reduceLE, Int.reducePow, Nat.reducePow, Int.reduceToNat, Nat.reduceLT, decide_true, decide_false, List.all_cons, List.all_nil, beq_self_eq_true, Option.isSome_some, List.filterMap_cons_some, List.filterMap_nil, c, e, rr]
  obtain ⟨cs, P', s6', e1, hP', _, hc, hcp⟩ := dw_word hl (.val (.int k)) (.val (.lst (ws.map .str))) (.val (.int x)) s5 (rngD 0 (n : Int)) P0 .un hP0 rfl (fun d hd => by
    obtain ⟨k, _, rfl⟩ := List.mem_map.mp hd
    exact ⟨_, rfl⟩)
  have hcl : cs.length ≤ 100 := by rw [hc]; simp [rngD]; omega
  have z : szOk cs.length = true := szOk_of (by omega)
  have e2 : nLc [6] (iRange1 (eIf (tOf (eOp eqD (vVar 1) (vE (eC (.int 1))))) (eC (.int 3)) (eCall F__law_draw (gOwn 0 (gCons (eC (.int 5)) gNil))))) (.nm 6) tYes' e1__law_drawn_words [.lst (pD P), .val (.int k), .val (.str ls), .val (.lst (ws.map .str)), .val (.int x), s5, .un] =
      some (.lst (cs.map fun c => .str [c]), [.lst (pD P'), .val (.int k), .val (.str ls), .val (.lst (ws.map .str)), .val (.int x), s5, .un]) := by
    unfold nLc
    rw [e0, Option.bind_some]
    simp only [c_sSeq, c_sIf, c_sDrop, c_sRet, c_sRetN, c_sRet0, c_sRetV, c_sFrz, c_sSet, c_sSetL, c_sSetN, c_sPar, c_sAsg, c_sFor, c_sPut, c_sPutL, c_sPutD, c_sSdApp, c_sNx, c_sBk, c_sCt, c_eFr, c_vE, c_eC, c_eVar, c_vVar, c_aNil, c_aCons, c_eTup, c_nLst, c_eOp, c_eUn, c_nUn, c_nCat, c_nDic, c_tOf, c_tTru, c_tNot, c_tAnd, c_tOr, c_eIf, c_nIf, c_eAnd, c_eOr, c_eNot, c_tYes, c_eApp, c_ePop, c_ePopAt, c_eGet, c_eSl, c_oNo, c_oAt, c_eCall, c_nCall, c_eCallK, c_runCall, c_runCallK, c_gNil, c_gCons, c_gOwn, c_gNwc, c_iAny, c_iRange1, c_iRange2, c_eTupGx, g_d, g_sl, runGs, valR, ownR, slotD, Sl.toD, Tg.bind, Tg.binds, plainAt_b, Option.any_some, plB_un, plB_val, frzE, lstOf, dicOf, setsG, isOwn, Rl.ownsOf, nodupB, nwsOf, argSl, back_e1, back_e2, back_e3, back_e4, back_e5, backArgs, pick, itsD_lst, itsD_tup, itsD_str, itsD_dic, getD2_dic, isDicD_dic, truD, catD, eqD, eqB, neD, ltD, leD, gtD, geD, addD, subD, mulD, modD, fdivD, pow_1018, negD, isNonD, notNonD, nonB, isiD, ixD_lst, ixD_tup, ixD_scr, ixD_str, ixD_dic, lenD_lst, lenD_tup, lenD_scr, lenD_str, lenD_dic, Rl.intD, Rl.absD, tupD, listL, slD, smallI_7, smallI_48271, smallI_69621, smallI_16, smallI_17, smallI_31, lt30_65536, lt30_2, lt30_16, lt30_10, atI_0, atI_1, atI_2, ixN_0, ixN_1, ixN_2, Option.bind_some, Option.bind_none, Option.map_some, Option.map_none, List.getElem?_cons_zero, List.getElem?_cons_succ, List.set_cons_zero, List.set_cons_succ, List.replicate_succ, List.replicate_zero, List.cons_append, List.nil_append, List.append_nil, List.length_cons, List.length_nil, List.take_succ_cons, List.take_zero, List.contains_nil, Bool.not_false, Bool.not_true, Bool.and_self, Bool.true_and, Bool.and_true, Bool.false_and, Bool.and_false, Bool.true_or, Bool.or_true, Bool.false_or, Bool.or_false, Bool.false_eq_true, if_true, if_false, reduceIte, Nat.reduceAdd, Nat.reduceSub, Nat.reduceEqDiff, Nat.reduceLeDiff, Int.reduceNeg, Int.reduceLT, Int.reduceLE, Int.reducePow, Nat.reducePow, Int.reduceToNat, Nat.reduceLT, decide_true, decide_false, List.all_cons, List.all_nil, beq_self_eq_true, Option.isSome_some, List.filterMap_cons_some, List.filterMap_nil, e1, List.length_map, z, backE, List.getD_cons_succ, List.getD_cons_zero]
  have e3 := join_ones (cs := cs) (by omega)
  have e4 := ninD_strs cs ws
  have z1 : szOk 1 = true := szOk_of (by omega)
  have z0 : szOk 0 = true := szOk_of (by omega)
  by_cases hm : cs ∈ ws
  · have c : (!decide (cs ∈ ws)) = false := by simp [hm]
    rw [c] at e4
    have z2 : szOk (ws.length + 0) = true := szOk_of (by omega)
    refine ⟨P', ws, .val (.str cs), ?_, hP', hn, hw, by omega, List.ne_nil_of_mem hm⟩
    simp only [c_sSeq, c_sIf, c_sDrop, c_sRet, c_sRetN, c_sRet0, c_sRetV, c_sFrz, c_sSet, c_sSetL, c_sSetN, c_sPar, c_sAsg, c_sFor, c_sPut, c_sPutL, c_sPutD, c_sSdApp, c_sNx, c_sBk, c_sCt, c_eFr, c_vE, c_eC, c_eVar, c_vVar, c_aNil, c_aCons, c_eTup, c_nLst, c_eOp, c_eUn, c_nUn, c_nCat, c_nDic, c_tOf, c_tTru, c_tNot, c_tAnd, c_tOr, c_eIf, c_nIf, c_eAnd, c_eOr, c_eNot, c_tYes, c_eApp, c_ePop, c_ePopAt, c_eGet, c_eSl, c_oNo, c_oAt, c_eCall, c_nCall, c_eCallK, c_runCall, c_runCallK, c_gNil, c_gCons, c_gOwn, c_gNwc, c_iAny, c_iRange1, c_iRange2, c_eTupGx, g_d, g_sl, runGs, valR, ownR, slotD, Sl.toD, Tg.bind, Tg.binds, plainAt_b, Option.any_some, plB_un, plB_val, frzE, lstOf, dicOf, setsG, isOwn, Rl.ownsOf, nodupB, nwsOf, argSl, back_e1, back_e2, back_e3, back_e4, back_e5, backArgs, pick, itsD_lst, itsD_tup, itsD_str, itsD_dic, getD2_dic, isDicD_dic, truD, catD, eqD, eqB, neD, ltD, leD, gtD, geD, addD, subD, mulD, modD, fdivD, pow_1018, negD, isNonD, notNonD, nonB, isiD, ixD_lst, ixD_tup, ixD_scr, ixD_str, ixD_dic, lenD_lst, lenD_tup, lenD_scr, lenD_str, lenD_dic, Rl.intD, Rl.absD, tupD, listL, slD, smallI_7, smallI_48271, smallI_69621, smallI_16, smallI_17, smallI_31, lt30_65536, lt30_2, lt30_16, lt30_10, atI_0, atI_1, atI_2, ixN_0, ixN_1, ixN_2, Option.bind_some, Option.bind_none, Option.map_some, Option.map_none, List.getElem?_cons_zero, List.getElem?_cons_succ, List.set_cons_zero, List.set_cons_succ, List.replicate_succ, List.replicate_zero, List.cons_append, List.nil_append, List.append_nil, List.length_cons, List.length_nil, List.take_succ_cons, List.take_zero, List.contains_nil, Bool.not_false, Bool.not_true, Bool.and_self, Bool.true_and, Bool.and_true, Bool.false_and, Bool.and_false, Bool.true_or, Bool.or_true, Bool.false_or, Bool.or_false, Bool.false_eq_true, if_true, if_false, reduceIte, Nat.reduceAdd, Nat.reduceSub, Nat.reduceEqDiff, Nat.reduceLeDiff, Int.reduceNeg, Int.reduceLT, Int.reduceLE, Int.reducePow, Nat.reducePow, Int.reduceToNat, Nat.reduceLT, decide_true, decide_false, List.all_cons, List.all_nil, beq_self_eq_true, Option.isSome_some, List.filterMap_cons_some, List.filterMap_nil, turnL, h4, u_l2__law_drawn_words, e2, e3, e4, z0, z1, z2, List.length_map]
  · have c : (!decide (cs ∈ ws)) = true := by simp [hm]
    rw [c] at e4
    have z2 : szOk (ws.length + 1) = true := szOk_of (by omega)
    have e5 : ws.map D.str ++ [.str cs] = (ws ++ [cs]).map .str := by simp
    refine ⟨P', ws ++ [cs], .val (.str cs), ?_, hP', ?_, ?_, by simp, by simp⟩
    · simp only [c_sSeq, c_sIf, c_sDrop, c_sRet, c_sRetN, c_sRet0, c_sRetV, c_sFrz, c_sSet, c_sSetL, c_sSetN, c_sPar, c_sAsg, c_sFor, c_sPut, c_sPutL, c_sPutD, c_sSdApp, c_sNx, c_sBk, c_sCt, c_eFr, c_vE, c_eC, c_eVar, c_vVar, c_aNil, c_aCons, c_eTup, c_nLst, c_eOp, c_eUn, c_nUn, c_nCat, c_nDic, c_tOf, c_tTru, c_tNot, c_tAnd, c_tOr, c_eIf, c_nIf, c_eAnd, c_eOr, c_eNot, c_tYes, c_eApp, c_ePop, c_ePopAt, c_eGet, c_eSl, c_oNo, c_oAt, c_eCall, c_nCall, c_eCallK, c_runCall, c_runCallK, c_gNil, c_gCons, c_gOwn, c_gNwc, c_iAny, c_iRange1, c_iRange2, c_eTupGx, g_d, g_sl, runGs, valR, ownR, slotD, Sl.toD, Tg.bind, Tg.binds, plainAt_b, Option.any_some, plB_un, plB_val, frzE, lstOf, dicOf, setsG, isOwn, Rl.ownsOf, nodupB, nwsOf, argSl, back_e1, back_e2, back_e3, back_e4, back_e5, backArgs, pick, itsD_lst, itsD_tup, itsD_str, itsD_dic, getD2_dic, isDicD_dic, truD, catD, eqD, eqB, neD, ltD, leD, gtD, geD, addD, subD, mulD, modD, fdivD, pow_1018, negD, isNonD, notNonD, nonB, isiD, ixD_lst, ixD_tup, ixD_scr, ixD_str, ixD_dic, lenD_lst, lenD_tup, lenD_scr, lenD_str, lenD_dic, Rl.intD, Rl.absD, tupD, listL, slD, smallI_7, smallI_48271, smallI_69621, smallI_16, smallI_17, smallI_31, lt30_65536, lt30_2, lt30_16, lt30_10, atI_0, atI_1, atI_2, ixN_0, ixN_1, ixN_2, Option.bind_some, Option.bind_none, Option.map_some, Option.map_none, List.getElem?_cons_zero, List.getElem?_cons_succ, List.set_cons_zero, List.set_cons_succ, List.replicate_succ, List.replicate_zero, List.cons_append, List.nil_append, List.append_nil, List.length_cons, List.length_nil, List.take_succ_cons, List.take_zero, List.contains_nil, Bool.not_false, Bool.not_true, Bool.and_self, Bool.true_and, Bool.and_true, Bool.false_and, Bool.and_false, Bool.true_or, Bool.or_true, Bool.false_or, Bool.or_false, Bool.false_eq_true, if_true, if_false, reduceIte, Nat.reduceAdd, Nat.reduceSub, Nat.reduceEqDiff, Nat.reduceLeDiff, Int.reduceNeg, Int.reduceLT, Int.reduceLE, Int.reducePow, Nat.reducePow, Int.reduceToNat, Nat.reduceLT, decide_true, decide_false, List.all_cons, List.all_nil, beq_self_eq_true, Option.isSome_some, List.filterMap_cons_some, List.filterMap_nil, turnL, h4, u_l2__law_drawn_words, e2, e3, e4, z0, z1, z2, List.length_map, e5]
    · rw [List.nodup_append]
      exact ⟨hn, by simp, fun a ha b hb e => hm (by rw [← List.mem_singleton.mp hb, ← e]; exact ha)⟩
    · intro w h
      rcases List.mem_append.mp h with h | h
      · exact hw w h
      · rw [List.mem_singleton.mp h]; exact ⟨hcl, hcp⟩
end P82
end

set_option linter.all false
set_option maxRecDepth 100000
set_option autoImplicit false
set_option maxHeartbeats 1000000
noncomputable section
namespace P82
open PySem L2 Rl
def oneD (c : Nat) : D := .str [c]
def unOne : D → Nat
  | .str [c] => c
  | _ => 0
theorem perm_ones {ys : List D} {s : List Nat} (h : ys.Perm (s.map oneD)) : ∃ zs : List Nat, zs.Perm s ∧ ys = zs.map oneD := by
  refine ⟨ys.map unOne, ?_, ?_⟩
  · have := h.map unOne
    rw [List.map_map] at this
    have e : (unOne ∘ oneD) = id := rfl
    rw [e, List.map_id] at this
    exact this
  · rw [List.map_map]
    have : ∀ d ∈ ys, (oneD ∘ unOne) d = d := fun d hd => by
      obtain ⟨c, _, rfl⟩ := List.mem_map.mp (h.mem_iff.mp hd)
      rfl
    rw [List.map_congr_left this, List.map_id']
theorem words_ok {P : List Int} (hP : PoolOk P) : ∃ (P' : List Int) (ws : List Wd), F__law_drawn_words [.lst (pD P)] = some (.val (wD ws), [.lst (pD P')]) ∧ PoolOk P' ∧ Lot ws ∧ ws.length ≤ 12 := by
  obtain ⟨P1, k, e1, hP1, k0, k1⟩ := draw_ok hP (many := 5) (by omega) (by omega)
  obtain ⟨P2, x, e2, hP2, hx⟩ := pick_lst hP1 (xs := [.str [97, 98], .str [97, 98], .str [97, 98, 99], .str [95, 97, 122]]) (by simp) (by simp)
  obtain ⟨ls, rfl, hl⟩ : ∃ ls, x = .str ls ∧ letOk ls := by
    simp only [List.mem_cons, List.not_mem_nil, or_false] at hx
    rcases hx with rfl | rfl | rfl | rfl <;> exact ⟨_, rfl, by simp, by simp, by unfold Cps; simp⟩
  have z4 : szOk 4 = true := szOk_of (by omega)
  have z2 : szOk 2 = true := szOk_of (by omega)
  have z0 : szOk 0 = true := szOk_of (by omega)
  by_cases hk : k = 0
  · have c : (k == 0) = true := by simp [hk]
    obtain ⟨P3, ys, e3, hP3, hp⟩ := shuf_ok hP2 (xs := [97, 98, 99, 100, 101, 102, 103, 104, 105, 106, 107, 108].map oneD) (by simp)
    obtain ⟨zs, hz, rfl⟩ := perm_ones hp
    obtain ⟨P4, r, e4, hP4, r0, r1⟩ := draw_ok hP3 (many := 12) (by omega) (by omega)
    obtain ⟨m, rfl⟩ := Int.eq_ofNat_of_zero_le r0
    have e5 : cutL (zs.map oneD) none (some (1 + (m : Int))) = (zs.map oneD).take (1 + m) := by
      have : (1 + (m : Int)) = ((1 + m : Nat) : Int) := by omega
      rw [this]; exact cut_to _ _
    have e6 : D.tup ((zs.map oneD).take (1 + m)) = wD ((zs.take (1 + m)).map fun c => [c]) := by
      unfold wD
      rw [List.map_map, ← List.map_take]
      rfl
    have z12 : szOk 12 = true := szOk_of (by omega)
    simp only [oneD, List.map_cons, List.map_nil] at e3
    have e3' := e3
    have hzl : zs.length = 12 := hz.length_eq
    refine ⟨P4, (zs.take (1 + m)).map fun c => [c], ?_, hP4, ⟨?_, ?_, ?_, ?_, ?_⟩, ?_⟩
    · unfold F__law_drawn_words fnOf b__law_drawn_words
      simp only [c_sSeq, c_sIf, c_sDrop, c_sRet, c_sRetN, c_sRet0, c_sRetV, c_sFrz, c_sSet, c_sSetL, c_sSetN, c_sPar, c_sAsg, c_sFor, c_sPut, c_sPutL, c_sPutD, c_sSdApp, c_sNx, c_sBk, c_sCt, c_eFr, c_vE, c_eC, c_eVar, c_vVar, c_aNil, c_aCons, c_eTup, c_nLst, c_eOp, c_eUn, c_nUn, c_nCat, c_nDic, c_tOf, c_tTru, c_tNot, c_tAnd, c_tOr, c_eIf, c_nIf, c_eAnd, c_eOr, c_eNot, c_tYes, c_eApp, c_ePop, c_ePopAt, c_eGet, c_eSl, c_oNo, c_oAt, c_eCall, c_nCall, c_eCallK, c_runCall, c_runCallK, c_gNil, c_gCons, c_gOwn, c_gNwc, c_iAny, c_iRange1, c_iRange2, c_eTupGx, g_d, g_sl, runGs, valR, ownR, slotD, Sl.toD, Tg.bind, Tg.binds, plainAt_b, Option.any_some, plB_un, plB_val, frzE, lstOf, dicOf, setsG, isOwn, Rl.ownsOf, nodupB, nwsOf, argSl, back_e1, back_e2, back_e3, back_e4, back_e5, backArgs, pick, itsD_lst, itsD_tup, itsD_str, itsD_dic, getD2_dic, isDicD_dic, truD, catD, eqD, eqB, neD, ltD, leD, gtD, geD, addD, subD, mulD, modD, fdivD, pow_1018, negD, isNonD, notNonD, nonB, isiD, ixD_lst, ixD_tup, ixD_scr, ixD_str, ixD_dic, lenD_lst, lenD_tup, lenD_scr, lenD_str, lenD_dic, Rl.intD, Rl.absD, tupD, listL, slD, smallI_7, smallI_48271, smallI_69621, smallI_16, smallI_17, smallI_31, lt30_65536, lt30_2, lt30_16, lt30_10, atI_0, atI_1, atI_2, ixN_0, ixN_1, ixN_2, Option.bind_some, Option.bind_none, Option.map_some, Option.map_none, List.getElem?_cons_zero, List.getElem?_cons_succ, List.set_cons_zero, List.set_cons_succ, List.replicate_succ, List.replicate_zero, List.cons_append, List.nil_append, List.append_nil, List.length_cons, List.length_nil, List.take_succ_cons, List.take_zero, List.contains_nil, Bool.not_false, Bool.not_true, Bool.and_self, Bool.true_and, Bool.and_true, Bool.false_and, Bool.and_false, Bool.true_or, Bool.or_true, Bool.false_or, Bool.or_false, Bool.false_eq_true, if_true, if_false, reduceIte, Nat.reduceAdd, Nat.reduceSub, Nat.reduceEqDiff, Nat.reduceLeDiff, Int.reduceNeg, Int.reduceLT, Int.reduceLE, Int.reducePow, Nat.reducePow, Int.reduceToNat, Nat.reduceLT, decide_true, decide_false, List.all_cons, List.all_nil, beq_self_eq_true, Option.isSome_some, List.filterMap_cons_some, List.filterMap_nil, e1, e2, z4, z2, c, z12, List.map_cons, List.map_nil, e3, e4, e5, e6]
    · intro w hw
      obtain ⟨c, _, rfl⟩ := List.mem_map.mp hw
      simp
    · intro w hw
      obtain ⟨c, hc, rfl⟩ := List.mem_map.mp hw
      have := hz.mem_iff.mp (List.mem_of_mem_take hc)
      unfold Cps
      simp at this ⊢
      omega
    · rw [List.length_map, List.length_take]; omega
    · intro e
      have := congrArg List.length e
      rw [List.length_map, List.length_take, List.length_nil] at this
      omega
    · have hn : zs.Nodup := hz.nodup_iff.mpr (by decide)
      have := hn.sublist (List.take_sublist (1 + m) zs)
      rw [List.Nodup, List.pairwise_map]
      exact this.imp fun h e => h (by injection e)
    · simp; omega
  · have c : (k == 0) = false := by simp [hk]
    obtain ⟨P3, r, e3, hP3, r0, r1⟩ := draw_ok hP2 (many := 6) (by omega) (by omega)
    obtain ⟨m, rfl⟩ := Int.eq_ofNat_of_zero_le r0
    have e4 : (1 + (m : Int)) = ((1 + m : Nat) : Int) := by omega
    have r2 : rngOk ((1 + m : Nat) : Int) = true := rngOk_in (by omega) (by omega)
    have r3 : rngD 0 ((1 + m : Nat) : Int) = (List.range (1 + m)).map fun p : Nat => .int (p : Int) := rngD_nat _
    obtain ⟨σ, e5, hlen, P', ws, s4, s5, hP', hn, hw, hwl, hne, p4, rfl⟩ := forL_invT (fun p : Nat => D.int (p : Int)) (t := .nm 4) (b := l2__law_drawn_words)
      (fun done rest σ => done.length + rest.length = 1 + m ∧ ∃ (P' : List Int) (ws : List Wd) (s4 s5 : Sl), PoolOk P' ∧ ws.Nodup ∧ (∀ w ∈ ws, w.length ≤ 100 ∧ Cps w) ∧ ws.length ≤ done.length ∧ (done ≠ [] → ws ≠ []) ∧ plB s4 = true ∧
        σ = [.lst (pD P'), .val (.int k), .val (.str ls), .val (.lst (ws.map .str)), s4, s5, .un])
      (fun done x r σ hS => by
        obtain ⟨hlen, P', ws, s4, s5, hP', hn, hw, hwl, hne, p4, rfl⟩ := hS
        simp only [List.length_cons] at hlen
        obtain ⟨P2, ws', s5', e, hP2, hn', hw', hl', hne'⟩ := dw_turn hl (k := k) hP' hn hw (by omega) s4 s5 p4 (x : Int)
        exact ⟨_, _, e, rfl, by simp; omega, P2, ws', .val (.int (x : Int)), s5', hP2, hn', hw', by simp; omega, fun _ => hne', rfl, rfl⟩)
      (List.range (1 + m)) [] [.lst (pD P3), .val (.int k), .val (.str ls), .val (.lst []), .un, .un, .un] ⟨by simp, P3, [], .un, .un, hP3, List.nodup_nil, by simp, by simp, by simp, rfl, rfl⟩
    have h1 : ws ≠ [] := hne (by
      intro e
      have := congrArg List.length e
      rw [List.nil_append, List.length_range, List.length_nil] at this
      omega)
    have h2 : ws.length ≤ 1 + m := by simpa using hwl
    refine ⟨P', ws, ?_, hP', ⟨fun w h => (hw w h).1, fun w h => (hw w h).2, by omega, h1, hn⟩, by omega⟩
    unfold F__law_drawn_words fnOf b__law_drawn_words
    simp only [c_sSeq, c_sIf, c_sDrop, c_sRet, c_sRetN, c_sRet0, c_sRetV, c_sFrz, c_sSet, c_sSetL, c_sSetN, c_sPar, c_sAsg, c_sFor, c_sPut, c_sPutL, c_sPutD, c_sSdApp, c_sNx, c_sBk, c_sCt, c_eFr, c_vE, c_eC, c_eVar, c_vVar, c_aNil, c_aCons, c_eTup, c_nLst, c_eOp, c_eUn, c_nUn, c_nCat, c_nDic, c_tOf, c_tTru, c_tNot, c_tAnd, c_tOr, c_eIf, c_nIf, c_eAnd, c_eOr, c_eNot, c_tYes, c_eApp, c_ePop, c_ePopAt, c_eGet, c_eSl, c_oNo, c_oAt, c_eCall, c_nCall, c_eCallK, c_runCall, c_runCallK, c_gNil, c_gCons, c_gOwn, c_gNwc, c_iAny, c_iRange1, c_iRange2, c_eTupGx, g_d, g_sl, runGs, valR, ownR, slotD, Sl.toD, Tg.bind, Tg.binds, plainAt_b, Option.any_some, plB_un, plB_val, frzE, lstOf, dicOf, setsG, isOwn, Rl.ownsOf, nodupB, nwsOf, argSl, back_e1, back_e2, back_e3, back_e4, back_e5, backArgs, pick, itsD_lst, itsD_tup, itsD_str, itsD_dic, getD2_dic, isDicD_dic, truD, catD, eqD, eqB, neD, ltD, leD, gtD, geD, addD, subD, mulD, modD, fdivD, pow_1018, negD, isNonD, notNonD, nonB, isiD, ixD_lst, ixD_tup, ixD_scr, ixD_str, ixD_dic, lenD_lst, lenD_tup, lenD_scr, lenD_str, lenD_dic, Rl.intD, Rl.absD, tupD, listL, slD, smallI_7, smallI_48271, smallI_69621, smallI_16, smallI_17, smallI_31, lt30_65536, lt30_2, lt30_16, lt30_10, atI_0, atI_1, atI_2, ixN_0, ixN_1, ixN_2, Option.bind_some, Option.bind_none, Option.map_some, Option.map_none, List.getElem?_cons_zero, List.getElem?_cons_succ, List.set_cons_zero, List.set_cons_succ, List.replicate_succ, List.replicate_zero, List.cons_append, List.nil_append, List.append_nil, List.length_cons, List.length_nil, List.take_succ_cons, List.take_zero, List.contains_nil, Bool.not_false, Bool.not_true, Bool.and_self, Bool.true_and, Bool.and_true, Bool.false_and, Bool.and_false, Bool.true_or, Bool.or_true, Bool.false_or, Bool.or_false, Bool.false_eq_true, if_true, if_false, reduceIte, Nat.reduceAdd, Nat.reduceSub, Nat.reduceEqDiff, Nat.reduceLeDiff, Int.reduceNeg, Int.reduceLT, Int.reduceLE, Int.reducePow, Nat.reducePow, Int.reduceToNat, Nat.reduceLT, decide_true, decide_false, List.all_cons, List.all_nil, beq_self_eq_true, Option.isSome_some, List.filterMap_cons_some, List.filterMap_nil, e1, e2, z4, z2, z0, c, e3, e4, r2, r3, e5, wD]
end P82
end

set_option linter.all false
set_option maxRecDepth 100000
set_option autoImplicit false
set_option maxHeartbeats 1000000
noncomputable section
namespace P82
open PySem L2 Rl
theorem at_range {d x : Nat} {done r : List Nat} (h : done ++ x :: r = List.range d) : x = done.length := by
  have h1 : (List.range d)[done.length]? = some x := by rw [← h]; simp
  have h2 : done.length < d := by
    have := congrArg List.length h
    simp at this
    omega
  rw [List.getElem?_range h2] at h1
  exact (Option.some.inj h1).symm
/-- the other answer's plan -/
def others : List D := [.str [], .str [97], .tup [.str [114, 105, 103, 104, 116], .int 0, .tup [.tup [.str [], .str [98]], .tup [.str [99], .str [97, 99]]]]]
theorem other_pd {x : D} (h : x ∈ others) : ∃ o, PD x o ∧ o ≤ 1 := by
  simp only [others, List.mem_cons, List.not_mem_nil, or_false] at h
  rcases h with rfl | rfl | rfl
  · exact ⟨0, .str _, by omega⟩
  · exact ⟨0, .str _, by omega⟩
  · exact ⟨1, PD.tup (.str [114, 105, 103, 104, 116]) (.int 0) [(.str [], .str [98], 0), (.str [99], .str [97, 99], 0)] (by simp) (by simp) (fun r hr => by
      simp only [List.mem_cons, List.not_mem_nil, or_false] at hr
      rcases hr with rfl | rfl <;> exact .str _), by omega⟩
theorem dp_turn {P : List Int} (hP : PoolOk P) {p : D} {t : Nat} (hp : PD p t) (dd : D) (s3 s4 : Sl) (h3 : plB s3 = true) :
    ∃ (P' : List Int) (p' : D) (s4' : Sl), turnL (.nm 3) l1__law_drawn_plan (.int (t : Int)) [.lst (pD P), .val p, .val dd, s3, s4] = some (.nx, [.lst (pD P'), .val p', .val dd, .val (.int (t : Int)), s4']) ∧ PoolOk P' ∧ PD p' (t + 1) := by
  have z0 : szOk 0 = true := szOk_of (by omega)
  have z2 : szOk 2 = true := szOk_of (by omega)
  have z3 : szOk 3 = true := szOk_of (by omega)
  obtain ⟨P1, oth, o, e1, hP1, ho, hot⟩ : ∃ (P1 : List Int) (oth : D) (o : Nat), turnL (.nm 3) l1__law_drawn_plan (.int (t : Int)) [.lst (pD P), .val p, .val dd, s3, s4] =
      (sSetL 1 (eTup (aCons (eCall F__law_pick (gOwn 0 (gCons (eFr (nLst (aCons (eC (.str [108, 101, 102, 116])) (aCons (eC (.str [114, 105, 103, 104, 116])) aNil)))) gNil))) (aCons (eCall F__law_draw (gOwn 0 (gCons (eC (.int 4)) gNil))) (aCons (eTup (aCons (eTup (aCons (eCall F__law_pick (gOwn 0 (gCons (eFr (nLst (aCons (eC (.str [])) (aCons (eC (.str [95])) (aCons (eC (.str [97])) aNil))))) gNil))) (aCons (eVar 1) aNil))) (aCons (eTup (aCons (eC (.str [98])) (aCons (eVar 4) aNil))) aNil))) aNil)))))
        [.lst (pD P1), .val p, .val dd, .val (.int (t : Int)), .val oth] ∧ PoolOk P1 ∧ PD oth o ∧ o ≤ t := by
    by_cases ht : 0 < t
    · have c : decide ((0 : Int) < (t : Int)) = true := decide_eq_true (by omega)
      obtain ⟨P1, x, e, hP1, hx⟩ := pick_lst hP (xs := others) (by simp [others]) (by simp [others])
      obtain ⟨o, ho, h1⟩ := other_pd hx
      refine ⟨P1, x, o, ?_, hP1, ho, by omega⟩
      unfold others at e
      simp only [c_sSeq, c_sIf, c_sDrop, c_sRet, c_sRetN, c_sRet0, c_sRetV, c_sFrz, c_sSet, c_sSetL, c_sSetN, c_sPar, c_sAsg, c_sFor, c_sPut, c_sPutL, c_sPutD, c_sSdApp, c_sNx, c_sBk, c_sCt, c_eFr, c_vE, c_eC, c_eVar, c_vVar, c_aNil, c_aCons, c_eTup, c_nLst, c_eOp, c_eUn, c_nUn, c_nCat, c_nDic, c_tOf, c_tTru, c_tNot, c_tAnd, c_tOr, c_eIf, c_nIf, c_eAnd, c_eOr, c_eNot, c_tYes, c_eApp, c_ePop, c_ePopAt, c_eGet, c_eSl, c_oNo, c_oAt, c_eCall, c_nCall, c_eCallK, c_runCall, c_runCallK, c_gNil, c_gCons, c_gOwn, c_gNwc, c_iAny, c_iRange1, c_iRange2, c_eTupGx, g_d, g_sl, runGs, valR, ownR, slotD, Sl.toD, Tg.bind, Tg.binds, plainAt_b, Option.any_some, plB_un, plB_val, frzE, lstOf, dicOf, setsG, isOwn, Rl.ownsOf, nodupB, nwsOf, argSl, back_e1, back_e2, back_e3, back_e4, back_e5, backArgs, pick_nil, pick_cons, itsD_lst, itsD_tup, itsD_str, itsD_dic, getD2_dic, isDicD_dic, truD, catD, eqD, eqB, neD, ltD, leD, gtD, geD, addD, subD, mulD, modD, fdivD, pow_1018, negD, isNonD, notNonD, nonB, isiD, ixD_lst, ixD_tup, ixD_scr, ixD_str, ixD_dic, lenD_lst, lenD_tup, lenD_scr, lenD_str, lenD_dic, Rl.intD, Rl.absD, tupD, listL, slD, smallI_7, smallI_48271, smallI_69621, smallI_16, smallI_17, smallI_31, lt30_65536, lt30_2, lt30_16, lt30_10, atI_0, atI_1, atI_2, ixN_0, ixN_1, ixN_2, Option.bind_some, Option.bind_none, Option.map_some, Option.map_none, List.getElem?_cons_zero, List.getElem?_cons_succ, List.set_cons_zero, List.set_cons_succ, List.replicate_succ, List.replicate_zero, List.cons_append, List.nil_append, List.append_nil, List.length_cons, List.length_nil, List.take_succ_cons, List.take_zero, List.contains_nil, Bool.not_false, Bool.not_true, Bool.and_self, Bool.true_and, Bool.and_true, Bool.false_and, Bool.and_false, Bool.true_or, Bool.or_true, Bool.false_or, Bool.or_false, Bool.false_eq_true, if_true, if_false, reduceIte, Nat.reduceAdd, Nat.reduceSub, Nat.reduceEqDiff, Nat.reduceLeDiff, Int.reduceNeg, Int.reduceLT, Int.reduceLE, Int.reducePow, Nat.reducePow, Int.reduceToNat, Nat.reduceLT, decide_true, decide_false, List.all_cons, List.all_nil, beq_self_eq_true, Option.isSome_some, List.filterMap_cons_some, List.filterMap_nil, turnL, h3, u_l1__law_drawn_plan, c, z0, z2, z3, e]
    · have c : decide ((0 : Int) < (t : Int)) = false := decide_eq_false (by omega)
      refine ⟨P, .str [120], 0, ?_, hP, .str _, by omega⟩
      simp only [c_sSeq, c_sIf, c_sDrop, c_sRet, c_sRetN, c_sRet0, c_sRetV, c_sFrz, c_sSet, c_sSetL, c_sSetN, c_sPar, c_sAsg, c_sFor, c_sPut, c_sPutL, c_sPutD, c_sSdApp, c_sNx, c_sBk, c_sCt, c_eFr, c_vE, c_eC, c_eVar, c_vVar, c_aNil, c_aCons, c_eTup, c_nLst, c_eOp, c_eUn, c_nUn, c_nCat, c_nDic, c_tOf, c_tTru, c_tNot, c_tAnd, c_tOr, c_eIf, c_nIf, c_eAnd, c_eOr, c_eNot, c_tYes, c_eApp, c_ePop, c_ePopAt, c_eGet, c_eSl, c_oNo, c_oAt, c_eCall, c_nCall, c_eCallK, c_runCall, c_runCallK, c_gNil, c_gCons, c_gOwn, c_gNwc, c_iAny, c_iRange1, c_iRange2, c_eTupGx, g_d, g_sl, runGs, valR, ownR, slotD, Sl.toD, Tg.bind, Tg.binds, plainAt_b, Option.any_some, plB_un, plB_val, frzE, lstOf, dicOf, setsG, isOwn, Rl.ownsOf, nodupB, nwsOf, argSl, back_e1, back_e2, back_e3, back_e4, back_e5, backArgs, pick_nil, pick_cons, itsD_lst, itsD_tup, itsD_str, itsD_dic, getD2_dic, isDicD_dic, truD, catD, eqD, eqB, neD, ltD, leD, gtD, geD, addD, subD, mulD, modD, fdivD, pow_1018, negD, isNonD, notNonD, nonB, isiD, ixD_lst, ixD_tup, ixD_scr, ixD_str, ixD_dic, lenD_lst, lenD_tup, lenD_scr, lenD_str, lenD_dic, Rl.intD, Rl.absD, tupD, listL, slD, smallI_7, smallI_48271, smallI_69621, smallI_16, smallI_17, smallI_31, lt30_65536, lt30_2, lt30_16, lt30_10, atI_0, atI_1, atI_2, ixN_0, ixN_1, ixN_2, Option.bind_some, Option.bind_none, Option.map_some, Option.map_none, List.getElem?_cons_zero, List.getElem?_cons_succ, List.set_cons_zero, List.set_cons_succ, List.replicate_succ, List.replicate_zero, List.cons_append, List.nil_append, List.append_nil, List.length_cons, List.length_nil, List.take_succ_cons, List.take_zero, List.contains_nil, Bool.not_false, Bool.not_true, Bool.and_self, Bool.true_and, Bool.and_true, Bool.false_and, Bool.and_false, Bool.true_or, Bool.or_true, Bool.false_or, Bool.or_false, Bool.false_eq_true, if_true, if_false, reduceIte, Nat.reduceAdd, Nat.reduceSub, Nat.reduceEqDiff, Nat.reduceLeDiff, Int.reduceNeg, Int.reduceLT, Int.reduceLE, Int.reducePow, Nat.reducePow, Int.reduceToNat, Nat.reduceLT, decide_true, decide_false, List.all_cons, List.all_nil, beq_self_eq_true, Option.isSome_some, List.filterMap_cons_some, List.filterMap_nil, turnL, h3, u_l1__law_drawn_plan, c]
  obtain ⟨P2, a, e2, hP2, _⟩ := pick_lst hP1 (xs := [.str [108, 101, 102, 116], .str [114, 105, 103, 104, 116]]) (by simp) (by simp)
  obtain ⟨P3, b, e3, hP3, _, _⟩ := draw_ok hP2 (many := 4) (by omega) (by omega)
  obtain ⟨P4, k, e4, hP4, _⟩ := pick_lst hP3 (xs := [.str [], .str [95], .str [97]]) (by simp) (by simp)
  have hpd := PD.tup a (.int b) [(k, p, t), (.str [98], oth, o)] (by simp) (by simp) (fun r hr => by
    simp only [List.mem_cons, List.not_mem_nil, or_false] at hr
    rcases hr with rfl | rfl
    · exact hp
    · exact ho)
  have e5 : 1 + maxN ([(k, p, t), (.str [98], oth, o)].map fun r : D × D × Nat => r.2.2) = t + 1 := by
    have : maxN [t, o] = t := by
      have h1 : Nat.max o 0 = o := Nat.max_eq_left (by omega)
      show Nat.max t (Nat.max o 0) = t
      rw [h1]
      exact Nat.max_eq_left hot
    show 1 + maxN [t, o] = t + 1
    omega
  rw [e5] at hpd
  refine ⟨P4, _, .val oth, ?_, hP4, hpd⟩
  rw [e1]
  simp only [c_sSeq, c_sIf, c_sDrop, c_sRet, c_sRetN, c_sRet0, c_sRetV, c_sFrz, c_sSet, c_sSetL, c_sSetN, c_sPar, c_sAsg, c_sFor, c_sPut, c_sPutL, c_sPutD, c_sSdApp, c_sNx, c_sBk, c_sCt, c_eFr, c_vE, c_eC, c_eVar, c_vVar, c_aNil, c_aCons, c_eTup, c_nLst, c_eOp, c_eUn, c_nUn, c_nCat, c_nDic, c_tOf, c_tTru, c_tNot, c_tAnd, c_tOr, c_eIf, c_nIf, c_eAnd, c_eOr, c_eNot, c_tYes, c_eApp, c_ePop, c_ePopAt, c_eGet, c_eSl, c_oNo, c_oAt, c_eCall, c_nCall, c_eCallK, c_runCall, c_runCallK, c_gNil, c_gCons, c_gOwn, c_gNwc, c_iAny, c_iRange1, c_iRange2, c_eTupGx, g_d, g_sl, runGs, valR, ownR, slotD, Sl.toD, Tg.bind, Tg.binds, plainAt_b, Option.any_some, plB_un, plB_val, frzE, lstOf, dicOf, setsG, isOwn, Rl.ownsOf, nodupB, nwsOf, argSl, back_e1, back_e2, back_e3, back_e4, back_e5, backArgs, pick_nil, pick_cons, itsD_lst, itsD_tup, itsD_str, itsD_dic, getD2_dic, isDicD_dic, truD, catD, eqD, eqB, neD, ltD, leD, gtD, geD, addD, subD, mulD, modD, fdivD, pow_1018, negD, isNonD, notNonD, nonB, isiD, ixD_lst, ixD_tup, ixD_scr, ixD_str, ixD_dic, lenD_lst, lenD_tup, lenD_scr, lenD_str, lenD_dic, Rl.intD, Rl.absD, tupD, listL, slD, smallI_7, smallI_48271, smallI_69621, smallI_16, smallI_17, smallI_31, lt30_65536, lt30_2, lt30_16, lt30_10, atI_0, atI_1, atI_2, ixN_0, ixN_1, ixN_2, Option.bind_some, Option.bind_none, Option.map_some, Option.map_none, List.getElem?_cons_zero, List.getElem?_cons_succ, List.set_cons_zero, List.set_cons_succ, List.replicate_succ, List.replicate_zero, List.cons_append, List.nil_append, List.append_nil, List.length_cons, List.length_nil, List.take_succ_cons, List.take_zero, List.contains_nil, Bool.not_false, Bool.not_true, Bool.and_self, Bool.true_and, Bool.and_true, Bool.false_and, Bool.and_false, Bool.true_or, Bool.or_true, Bool.false_or, Bool.or_false, Bool.false_eq_true, if_true, if_false, reduceIte, Nat.reduceAdd, Nat.reduceSub, Nat.reduceEqDiff, Nat.reduceLeDiff, Int.reduceNeg, Int.reduceLT, Int.reduceLE, Int.reducePow, Nat.reducePow, Int.reduceToNat, Nat.reduceLT, decide_true, decide_false, List.all_cons, List.all_nil, beq_self_eq_true, Option.isSome_some, List.filterMap_cons_some, List.filterMap_nil, z2, z3, e2, e3, e4, List.map_cons, List.map_nil]
theorem dplan_ok {P : List Int} (hP : PoolOk P) : ∃ (P' : List Int) (p : D) (d : Nat), F__law_drawn_plan [.lst (pD P)] = some (.val (.tup [p, .int (d : Int)]), [.lst (pD P')]) ∧ PoolOk P' ∧ PD p d ∧ d ≤ 4 := by
  obtain ⟨P1, r, e1, hP1, r0, r1⟩ := draw_ok hP (many := 5) (by omega) (by omega)
  obtain ⟨d, rfl⟩ := Int.eq_ofNat_of_zero_le r0
  have z2 : szOk 2 = true := szOk_of (by omega)
  have r2 : rngOk (d : Int) = true := rngOk_in (by omega) (by omega)
  have r3 := rngD_nat d
  obtain ⟨σ, e5, hlen, P', p, s3, s4, hP', hp, p3, rfl⟩ := forL_invT (fun p : Nat => D.int (p : Int)) (t := .nm 3) (b := l1__law_drawn_plan)
    (fun done rest σ => done ++ rest = List.range d ∧ ∃ (P' : List Int) (p : D) (s3 s4 : Sl), PoolOk P' ∧ PD p done.length ∧ plB s3 = true ∧ σ = [.lst (pD P'), .val p, .val (.int (d : Int)), s3, s4])
    (fun done x r σ hS => by
      obtain ⟨hd, P', p, s3, s4, hP', hp, p3, rfl⟩ := hS
      have hx := at_range hd
      subst hx
      obtain ⟨P2, p', s4', e, hP2, hp'⟩ := dp_turn hP' hp (.int (d : Int)) s3 s4 p3
      exact ⟨_, _, e, rfl, by rw [← hd]; simp, P2, p', .val (.int (done.length : Int)), s4', hP2, by simpa using hp', rfl, rfl⟩)
    (List.range d) [] [.lst (pD P1), .val (.str [97, 98]), .val (.int (d : Int)), .un, .un] ⟨by simp, P1, .str [97, 98], .un, .un, hP1, .str _, rfl, rfl⟩
  have hp : PD p d := by simpa using hp
  refine ⟨P', p, d, ?_, hP', hp, by omega⟩
  unfold F__law_drawn_plan fnOf b__law_drawn_plan
  simp only [c_sSeq, c_sIf, c_sDrop, c_sRet, c_sRetN, c_sRet0, c_sRetV, c_sFrz, c_sSet, c_sSetL, c_sSetN, c_sPar, c_sAsg, c_sFor, c_sPut, c_sPutL, c_sPutD, c_sSdApp, c_sNx, c_sBk, c_sCt, c_eFr, c_vE, c_eC, c_eVar, c_vVar, c_aNil, c_aCons, c_eTup, c_nLst, c_eOp, c_eUn, c_nUn, c_nCat, c_nDic, c_tOf, c_tTru, c_tNot, c_tAnd, c_tOr, c_eIf, c_nIf, c_eAnd, c_eOr, c_eNot, c_tYes, c_eApp, c_ePop, c_ePopAt, c_eGet, c_eSl, c_oNo, c_oAt, c_eCall, c_nCall, c_eCallK, c_runCall, c_runCallK, c_gNil, c_gCons, c_gOwn, c_gNwc, c_iAny, c_iRange1, c_iRange2, c_eTupGx, g_d, g_sl, runGs, valR, ownR, slotD, Sl.toD, Tg.bind, Tg.binds, plainAt_b, Option.any_some, plB_un, plB_val, frzE, lstOf, dicOf, setsG, isOwn, Rl.ownsOf, nodupB, nwsOf, argSl, back_e1, back_e2, back_e3, back_e4, back_e5, backArgs, pick_nil, pick_cons, itsD_lst, itsD_tup, itsD_str, itsD_dic, getD2_dic, isDicD_dic, truD, catD, eqD, eqB, neD, ltD, leD, gtD, geD, addD, subD, mulD, modD, fdivD, pow_1018, negD, isNonD, notNonD, nonB, isiD, ixD_lst, ixD_tup, ixD_scr, ixD_str, ixD_dic, lenD_lst, lenD_tup, lenD_scr, lenD_str, lenD_dic, Rl.intD, Rl.absD, tupD, listL, slD, smallI_7, smallI_48271, smallI_69621, smallI_16, smallI_17, smallI_31, lt30_65536, lt30_2, lt30_16, lt30_10, atI_0, atI_1, atI_2, ixN_0, ixN_1, ixN_2, Option.bind_some, Option.bind_none, Option.map_some, Option.map_none, List.getElem?_cons_zero, List.getElem?_cons_succ, List.set_cons_zero, List.set_cons_succ, List.replicate_succ, List.replicate_zero, List.cons_append, List.nil_append, List.append_nil, List.length_cons, List.length_nil, List.take_succ_cons, List.take_zero, List.contains_nil, Bool.not_false, Bool.not_true, Bool.and_self, Bool.true_and, Bool.and_true, Bool.false_and, Bool.and_false, Bool.true_or, Bool.or_true, Bool.false_or, Bool.or_false, Bool.false_eq_true, if_true, if_false, reduceIte, Nat.reduceAdd, Nat.reduceSub, Nat.reduceEqDiff, Nat.reduceLeDiff, Int.reduceNeg, Int.reduceLT, Int.reduceLE, Int.reducePow, Nat.reducePow, Int.reduceToNat, Nat.reduceLT, decide_true, decide_false, List.all_cons, List.all_nil, beq_self_eq_true, Option.isSome_some, List.filterMap_cons_some, List.filterMap_nil, e1, r2, r3, e5, z2]
/-! ### the law -/
theorem law_turn {P : List Int} (hP : PoolOk P) (T s2 s3 s4 s5 s6 s7 : Sl) (h2 : plB s2 = true) (h6 : plB s6 = true) (h7 : plB s7 = true) (x : Int) :
    ∃ (P' : List Int) (s3' s4' s5' s6' s7' : Sl), turnL (.nm 2) l1_law (.int x) [T, .lst (pD P), s2, s3, s4, s5, s6, s7] = some (.nx, [T, .lst (pD P'), .val (.int x), s3', s4', s5', s6', s7']) ∧ PoolOk P' ∧ plB s6' = true ∧ plB s7' = true := by
  obtain ⟨P1, ws, e1, hP1, hW, h12⟩ := words_ok hP
  obtain ⟨os, o2, e2, hL, hWm, hC⟩ := least_ok hW h12
  obtain ⟨o3, e3⟩ := plan_ok hW h12 hL hC
  obtain ⟨o4, e4⟩ := ask_ok hW h12
  have l1 : ixD (leastD os) (wD ws) = some (.int (L ws : Int)) := by
    unfold leastD
    rw [ixD_dic, wD_isKey, look_fn wD_key]
    simp [hWm, lD]
  have l2 : ixD (plansD (ord os)) (wD ws) = some (Pl ws) := by
    unfold plansD
    rw [ixD_dic, wD_isKey, look_fn wD_key]
    simp [(ord_perm os).mem_iff.mpr hWm, PlD]
  have hlt := L_lt _ ws (Nat.le_refl _) hW.nd hW.ne
  have sm : Sm 50 (bD ws) := by
    refine Sm.tup 49 _ (by simp) fun d hd => ?_
    rcases List.mem_cons.mp hd with rfl | hd
    · exact .int _ _
    · rw [List.mem_singleton.mp hd]
      exact (Pl_sm hW _ ws (Nat.le_refl _) (List.Sublist.refl _) hW.ne).mono (by omega)
  obtain ⟨o5, e5⟩ := same_ok 60 50 _ sm (by omega)
  unfold bD at e4 e5
  obtain ⟨o6, e6⟩ := pd_ok 13 _ _ (Pl_pd hW _ ws (Nat.le_refl _) (List.Sublist.refl _) hW.ne) (by omega)
  have si : ∀ i : Int, ∃ outs, F__law_same 60 [.val (.int i), .val (.int i)] = some (.val (.bl true), outs) := fun i => same_ok 60 0 _ (.int 0 i) (by omega)
  obtain ⟨o7, e7⟩ := si (L ws : Int)
  obtain ⟨P2, p, d, e8, hP2, hp, hd⟩ := dplan_ok hP1
  obtain ⟨o9, e9⟩ := pd_ok 13 _ _ hp (by omega)
  obtain ⟨o10, e10⟩ := si (d : Int)
  have z2 : szOk 2 = true := szOk_of (by omega)
  refine ⟨P2, .val (wD ws), .val (leastD os), .val (.tup [.int (L ws : Int), Pl ws]), .val p, .val (.int (d : Int)), ?_, hP2, rfl, rfl⟩
  simp only [c_sSeq, c_sIf, c_sDrop, c_sRet, c_sRetN, c_sRet0, c_sRetV, c_sFrz, c_sSet, c_sSetL, c_sSetN, c_sPar, c_sAsg, c_sFor, c_sPut, c_sPutL, c_sPutD, c_sSdApp, c_sNx, c_sBk, c_sCt, c_eFr, c_vE, c_eC, c_eVar, c_vVar, c_aNil, c_aCons, c_eTup, c_nLst, c_eOp, c_eUn, c_nUn, c_nCat, c_nDic, c_tOf, c_tTru, c_tNot, c_tAnd, c_tOr, c_eIf, c_nIf, c_eAnd, c_eOr, c_eNot, c_tYes, c_eApp, c_ePop, c_ePopAt, c_eGet, c_eSl, c_oNo, c_oAt, c_eCall, c_nCall, c_eCallK, c_runCall, c_runCallK, c_gNil, c_gCons, c_gOwn, c_gNwc, c_iAny, c_iRange1, c_iRange2, c_eTupGx, g_d, g_sl, runGs, valR, ownR, slotD, Sl.toD, Tg.bind, Tg.binds, plainAt_b, Option.any_some, plB_un, plB_val, frzE, lstOf, dicOf, setsG, isOwn, Rl.ownsOf, nodupB, nwsOf, argSl, back_e1, back_e2, back_e3, back_e4, back_e5, backArgs, pick_nil, pick_cons, itsD_lst, itsD_tup, itsD_str, itsD_dic, getD2_dic, isDicD_dic, truD, catD, eqD, eqB, neD, ltD, leD, gtD, geD, addD, subD, mulD, modD, fdivD, pow_1018, negD, isNonD, notNonD, nonB, isiD, ixD_lst, ixD_tup, ixD_scr, ixD_str, ixD_dic, lenD_lst, lenD_tup, lenD_scr, lenD_str, lenD_dic, Rl.intD, Rl.absD, tupD, listL, slD, smallI_7, smallI_48271, smallI_69621, smallI_16, smallI_17, smallI_31, lt30_65536, lt30_2, lt30_16, lt30_10, atI_0, atI_1, atI_2, ixN_0, ixN_1, ixN_2, Option.bind_some, Option.bind_none, Option.map_some, Option.map_none, List.getElem?_cons_zero, List.getElem?_cons_succ, List.set_cons_zero, List.set_cons_succ, List.replicate_succ, List.replicate_zero, List.cons_append, List.nil_append, List.append_nil, List.length_cons, List.length_nil, List.take_succ_cons, List.take_zero, List.contains_nil, Bool.not_false, Bool.not_true, Bool.and_self, Bool.true_and, Bool.and_true, Bool.false_and, Bool.and_false, Bool.true_or, Bool.or_true, Bool.false_or, Bool.or_false, Bool.false_eq_true, if_true, if_false, reduceIte, Nat.reduceAdd, Nat.reduceSub, Nat.reduceEqDiff, Nat.reduceLeDiff, Int.reduceNeg, Int.reduceLT, Int.reduceLE, Int.reducePow, Nat.reducePow, Int.reduceToNat, Nat.reduceLT, decide_true, decide_false, List.all_cons, List.all_nil, beq_self_eq_true, Option.isSome_some, List.filterMap_cons_some, List.filterMap_nil, turnL, h2, h6, h7, u_l1_law, e1, e2, e3, e4, e5, e6, e7, e8, e9, e10, l1, l2, z2, Nat.le_refl, Nat.zero_le]
theorem law_true : Rl.LawTrue F_law 63 := by
  intro ns hl hb
  obtain ⟨outs, e1, hP⟩ := pool_ok ns hl
  have r1 : rngOk 3 = true := rngOk_in (by omega) (by omega)
  have r3 : rngD 0 3 = (List.range 3).map fun p : Nat => .int (p : Int) := rngD_nat 3
  obtain ⟨σ, e5, P', s2, s3, s4, s5, s6, s7, hP', p2, p6, p7, rfl⟩ := forL_invT (fun p : Nat => D.int (p : Int)) (t := .nm 2) (b := l1_law)
    (fun done rest σ => ∃ (P' : List Int) (s2 s3 s4 s5 s6 s7 : Sl), PoolOk P' ∧ plB s2 = true ∧ plB s6 = true ∧ plB s7 = true ∧ σ = [.val (.scr (ns.map .int)), .lst (pD P'), s2, s3, s4, s5, s6, s7])
    (fun done x r σ hS => by
      obtain ⟨P', s2, s3, s4, s5, s6, s7, hP', p2, p6, p7, rfl⟩ := hS
      obtain ⟨P2, s3', s4', s5', s6', s7', e, hP2, p6', p7'⟩ := law_turn hP' (.val (.scr (ns.map .int))) s2 s3 s4 s5 s6 s7 p2 p6 p7 (x : Int)
      exact ⟨_, _, e, rfl, P2, .val (.int (x : Int)), s3', s4', s5', s6', s7', hP2, rfl, p6', p7', rfl⟩)
    (List.range 3) [] [.val (.scr (ns.map .int)), .lst (pD (0 :: 7 :: 3 :: ns)), .un, .un, .un, .un, .un, .un] ⟨_, .un, .un, .un, .un, .un, .un, hP, rfl, rfl, rfl, rfl⟩
  unfold F_law fnOf b_law
  simp only [c_sSeq, c_sIf, c_sDrop, c_sRet, c_sRetN, c_sRet0, c_sRetV, c_sFrz, c_sSet, c_sSetL, c_sSetN, c_sPar, c_sAsg, c_sFor, c_sPut, c_sPutL, c_sPutD, c_sSdApp, c_sNx, c_sBk, c_sCt, c_eFr, c_vE, c_eC, c_eVar, c_vVar, c_aNil, c_aCons, c_eTup, c_nLst, c_eOp, c_eUn, c_nUn, c_nCat, c_nDic, c_tOf, c_tTru, c_tNot, c_tAnd, c_tOr, c_eIf, c_nIf, c_eAnd, c_eOr, c_eNot, c_tYes, c_eApp, c_ePop, c_ePopAt, c_eGet, c_eSl, c_oNo, c_oAt, c_eCall, c_nCall, c_eCallK, c_runCall, c_runCallK, c_gNil, c_gCons, c_gOwn, c_gNwc, c_iAny, c_iRange1, c_iRange2, c_eTupGx, g_d, g_sl, runGs, valR, ownR, slotD, Sl.toD, Tg.bind, Tg.binds, plainAt_b, Option.any_some, plB_un, plB_val, frzE, lstOf, dicOf, setsG, isOwn, Rl.ownsOf, nodupB, nwsOf, argSl, back_e1, back_e2, back_e3, back_e4, back_e5, backArgs, pick_nil, pick_cons, itsD_lst, itsD_tup, itsD_str, itsD_dic, getD2_dic, isDicD_dic, truD, catD, eqD, eqB, neD, ltD, leD, gtD, geD, addD, subD, mulD, modD, fdivD, pow_1018, negD, isNonD, notNonD, nonB, isiD, ixD_lst, ixD_tup, ixD_scr, ixD_str, ixD_dic, lenD_lst, lenD_tup, lenD_scr, lenD_str, lenD_dic, Rl.intD, Rl.absD, tupD, listL, slD, smallI_7, smallI_48271, smallI_69621, smallI_16, smallI_17, smallI_31, lt30_65536, lt30_2, lt30_16, lt30_10, atI_0, atI_1, atI_2, ixN_0, ixN_1, ixN_2, Option.bind_some, Option.bind_none, Option.map_some, Option.map_none, List.getElem?_cons_zero, List.getElem?_cons_succ, List.set_cons_zero, List.set_cons_succ, List.replicate_succ, List.replicate_zero, List.cons_append, List.nil_append, List.append_nil, List.length_cons, List.length_nil, List.take_succ_cons, List.take_zero, List.contains_nil, Bool.not_false, Bool.not_true, Bool.and_self, Bool.true_and, Bool.and_true, Bool.false_and, Bool.and_false, Bool.true_or, Bool.or_true, Bool.false_or, Bool.or_false, Bool.false_eq_true, if_true, if_false, reduceIte, Nat.reduceAdd, Nat.reduceSub, Nat.reduceEqDiff, Nat.reduceLeDiff, Int.reduceNeg, Int.reduceLT, Int.reduceLE, Int.reducePow, Nat.reducePow, Int.reduceToNat, Nat.reduceLT, decide_true, decide_false, List.all_cons, List.all_nil, beq_self_eq_true, Option.isSome_some, List.filterMap_cons_some, List.filterMap_nil, e1, r1, r3, e5]
  exact ⟨_, rfl⟩
end P82
end

set_option Elab.async false
-- the last theorem; law_true stands in the mathematics (P82m imports it)
open PySem PySem.W PyProof.Rows
set_option maxRecDepth 100000 in
set_option maxHeartbeats 0 in
theorem PySem.Challenge.cw_fewoffers_k82_plans_of_questions_holds : PySem.Challenge.rw_fewoffers_k82_plans_of_questions.Holds := by
  w_on; o_law; k_head; (case hw => w_witness2)
  k_fill
  refine Rl.walk_rl (l := PySem.Challenge.rw_fewoffers_k82_plans_of_questions) (n := 63) (k := 61) ["best_plan"] rfl (by decide) rfl ⟨rfl, by decide, by decide⟩ (by first | rfl | decide +kernel) (fun w h Y => PySem.W.kIn_of Y) P82.law_true ?F
  case F =>
    intro w mg fa h KX G hmg
    refine' P82.all_mk KX G hmg ?a__law_pool ?l__law_pool ?c__law_pool ?k__law_pool ?a__law_draw ?l__law_draw ?c__law_draw ?k__law_draw ?a__law_pick ?l__law_pick ?c__law_pick ?k__law_pick ?a__law_shuffled ?l__law_shuffled ?c__law_shuffled ?k__law_shuffled ?a__law_drawn_words ?l__law_drawn_words ?c__law_drawn_words ?k__law_drawn_words ?a__law_answer ?l__law_answer ?c__law_answer ?k__law_answer ?a__law_parts ?l__law_parts ?c__law_parts ?k__law_parts ?a__law_questions ?l__law_questions ?c__law_questions ?k__law_questions ?a__law_least_numbers ?l__law_least_numbers ?c__law_least_numbers ?k__law_least_numbers ?a__law_drawn_plan ?l__law_drawn_plan ?c__law_drawn_plan ?k__law_drawn_plan ?a__law_same ?l__law_same ?c__law_same ?k__law_same ?a__law_plan ?l__law_plan ?c__law_plan ?k__law_plan ?a_plan_depth ?l_plan_depth ?c_plan_depth ?k_plan_depth ?a_answer_of ?l_answer_of ?c_answer_of ?k_answer_of ?a_parts_of ?l_parts_of ?c_parts_of ?k_parts_of ?a_best_plan ?l_best_plan ?c_best_plan ?k_best_plan ?t_best_plan ?u_best_plan ?n_best_plan ?a_ask_plan ?l_ask_plan ?c_ask_plan ?k_ask_plan ?a_law ?l_law ?c_law ?k_law ?z_list ?z_len ?z_int ?z_abs ?z_range ?z_tuple ?z_max ?z_sorted ?z_min ?z_isinstance ?z_str ?z_bool
    (case a__law_pool => k_is)
    (case l__law_pool => k_is)
    (case c__law_pool => k_is)
    (case k__law_pool => k_is)
    (case a__law_draw => k_is)
    (case l__law_draw => k_is)
    (case c__law_draw => k_is)
    (case k__law_draw => k_is)
    (case a__law_pick => k_is)
    (case l__law_pick => k_is)
    (case c__law_pick => k_is)
    (case k__law_pick => k_is)
    (case a__law_shuffled => k_is)
    (case l__law_shuffled => k_is)
    (case c__law_shuffled => k_is)
    (case k__law_shuffled => k_is)
    (case a__law_drawn_words => k_is)
    (case l__law_drawn_words => k_is)
    (case c__law_drawn_words => k_is)
    (case k__law_drawn_words => k_is)
    (case a__law_answer => k_is)
    (case l__law_answer => k_is)
    (case c__law_answer => k_is)
    (case k__law_answer => k_is)
    (case a__law_parts => k_is)
    (case l__law_parts => k_is)
    (case c__law_parts => k_is)
    (case k__law_parts => k_is)
    (case a__law_questions => k_is)
    (case l__law_questions => k_is)
    (case c__law_questions => k_is)
    (case k__law_questions => k_is)
    (case a__law_least_numbers => k_is)
    (case l__law_least_numbers => k_is)
    (case c__law_least_numbers => k_is)
    (case k__law_least_numbers => k_is)
    (case a__law_drawn_plan => k_is)
    (case l__law_drawn_plan => k_is)
    (case c__law_drawn_plan => k_is)
    (case k__law_drawn_plan => k_is)
    (case a__law_same => k_is)
    (case l__law_same => k_is)
    (case c__law_same => k_is)
    (case k__law_same => k_is)
    (case a__law_plan => k_is)
    (case l__law_plan => k_is)
    (case c__law_plan => k_is)
    (case k__law_plan => k_is)
    (case a_plan_depth => k_is)
    (case l_plan_depth => k_is)
    (case c_plan_depth => k_is)
    (case k_plan_depth => k_is)
    (case a_answer_of => k_is)
    (case l_answer_of => k_is)
    (case c_answer_of => k_is)
    (case k_answer_of => k_is)
    (case a_parts_of => k_is)
    (case l_parts_of => k_is)
    (case c_parts_of => k_is)
    (case k_parts_of => k_is)
    (case a_best_plan => k_is)
    (case l_best_plan => k_is)
    (case c_best_plan => k_is)
    (case k_best_plan => k_is)
    (case t_best_plan => k_is)
    (case u_best_plan => exact rfl)
    (case n_best_plan => first | (exact rfl) | kernel_rfl)
    (case a_ask_plan => k_is)
    (case l_ask_plan => k_is)
    (case c_ask_plan => k_is)
    (case k_ask_plan => k_is)
    (case a_law => k_is)
    (case l_law => k_is)
    (case c_law => k_is)
    (case k_law => k_is)
    (case z_list => k_is)
    (case z_len => k_is)
    (case z_int => k_is)
    (case z_abs => k_is)
    (case z_range => k_is)
    (case z_tuple => k_is)
    (case z_max => k_is)
    (case z_sorted => k_is)
    (case z_min => k_is)
    (case z_isinstance => k_is)
    (case z_str => k_is)
    (case z_bool => k_is)
