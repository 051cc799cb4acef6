import PyProof.Rows.All
import HandS.ForMost
import HandS.ForExc
import HandS.Lambda
import HandS.NoneIn
import KE.GoesEnum
import HandS.Zip
import HandS.CallLocal
import HandS.TupAny
import HandS.Wide
import HandS.Text
import HandS.IsInst
import KE.LtData
import HandS.Star
import HandS.RevTup
import HandS.Style
import PyProof.ListNew
import HandS.Rev
import HandS.Exc
import HandS.ExcField
import HandS.ExcIs
import PyProof.ExcAttrAll.Exception
import PySem.Challenge.RW_everyworking_k08_the_order_of_lines
import HandS.EndTab
import Wide.All
import OpenK.AllK
import Wide.FinOn
set_option Elab.async false
set_option linter.all false
set_option maxRecDepth 100000
namespace W8
open PySem L2

/-- pure data: tuples by value, what may change by its number in the memory -/
inductive D where
  | non | bl (b : Bool) | int (i : Int) | str (x : Str)
  | tup (ds : List D)
  | rol (ds : List D)
  | ref (n : Nat)
  | fn (x : Str)
  | ty (n : String)

inductive MO where
  | lst (ds : List D)
  | dic (kvs : List (Key × D))

abbrev Mem := List MO

/-- the written part and the module's names -/
structure G where
  K : PySem.W.Frag
  mg : Str → Option Value
  base : Heap
/-- the defs of this law that make lambdas -/
def lamDefs : List Str := ["_law_is_all_right"]
def lamQ (x : Str) : Str := x ++ ".<locals>.<lambda>"
/-- the table of the code object of the def of that name stands at P -/
def LamAt (g : G) (x : Str) (P : Addr) : Prop := ∃ (f c : Addr) (oc : Value) (od : Option Addr) (fd : FuncData) (sl : Array (Option Value)), g.mg x = some (.ref f) ∧ g.K.lookup f = some ⟨oc, od, .func fd, sl⟩ ∧ fd.code = .ref c ∧ PySem.W.CodeHd g.base c P
theorem LamAt.one {g : G} {x : Str} {P P' : Addr} (h : LamAt g x P) (h' : LamAt g x P') : P = P' := by
  obtain ⟨f, c, oc, od, fd, sl, a1, a2, a3, a4⟩ := h
  obtain ⟨f', c', oc', od', fd', sl', b1, b2, b3, b4⟩ := h'
  rw [a1] at b1; cases b1
  rw [a2] at b2; cases b2
  rw [a3] at b3; cases b3
  obtain ⟨o, vs, _, _, _, _, _, _, _, h1, h2, h3, h4, _⟩ := a4
  obtain ⟨o', vs', _, _, _, _, _, _, _, k1, k2, k3, k4, _⟩ := b4
  rw [h1] at k1; cases k1
  rw [h3] at k3; cases k3
  rw [h4] at k4; cases k4
  rfl
open Classical in
/-- the tables, each with its lambdas' name -/
noncomputable def tabT (g : G) : List (Addr × Str) := lamDefs.filterMap fun x => if h : ∃ P, LamAt g x P then some (Classical.choose h, lamQ x) else none
theorem tabT_of {g : G} {x : Str} {P : Addr} (hx : x ∈ lamDefs) (h : LamAt g x P) : (P, lamQ x) ∈ tabT g := by
  refine List.mem_filterMap.mpr ⟨x, hx, ?_⟩
  have he : ∃ P, LamAt g x P := ⟨P, h⟩
  rw [dif_pos he, LamAt.one (Classical.choose_spec he) h]
theorem tabT_in {g : G} {p : Addr × Str} (h : p ∈ tabT g) : ∃ x, x ∈ lamDefs ∧ p.2 = lamQ x ∧ LamAt g x p.1 := by
  obtain ⟨x, hx, e⟩ := List.mem_filterMap.mp h
  split at e
  · rename_i he
    cases e
    exact ⟨x, hx, rfl, Classical.choose_spec he⟩
  · cases e

/-- a list that nobody changes -/
def RoL (K : PySem.W.Frag) (H : Hp) (a : Addr) (xs : List V) : Prop :=
  (∃ o, H a = some (.frz o (.lst xs))) ∨
    ∃ (o : Obj) (its : Array Value) (n : Nat), K.lookup a = some o ∧ o.cls = .type "list" ∧ o.dict = none ∧ o.data = .seq its n ∧ its.size ≤ sizeLine ∧ Vals xs its.toList
theorem RoL.seq {K : PySem.W.Frag} {H : Hp} {a : Addr} {xs : List V} (h : RoL K H a xs) : SqL K H a xs := h.imp (fun ⟨o, h⟩ => .inr ⟨o, h⟩) id

mutual
inductive DV (g : G) (φ : List Addr) (H : Hp) : D → V → Prop
  | non : DV g φ H .non .non
  | bl (b : Bool) : DV g φ H (.bl b) (.bl b)
  | int (i : Int) : DV g φ H (.int i) (.int i)
  | str (x : Str) : DV g φ H (.str x) (.str x)
  | tup {a : Addr} {xs : List V} {ds : List D} : SqT g.K H a xs → DVs g φ H ds xs → DV g φ H (.tup ds) (.ref a)
  | rol {a : Addr} {xs : List V} {ds : List D} : RoL g.K H a xs → DVs g φ H ds xs → DV g φ H (.rol ds) (.ref a)
  | ref {n : Nat} {a : Addr} : φ[n]? = some a → DV g φ H (.ref n) (.ref a)
  | fn {x : Str} {a : Addr} : g.mg x = some (.ref a) → DV g φ H (.fn x) (.ref a)
  | ty (n : String) : DV g φ H (.ty n) (.ty n)
inductive DVs (g : G) (φ : List Addr) (H : Hp) : List D → List V → Prop
  | nil : DVs g φ H [] []
  | cons {d : D} {v : V} {ds : List D} {vs : List V} : DV g φ H d v → DVs g φ H ds vs → DVs g φ H (d :: ds) (v :: vs)
end

section
variable {g : G} {φ : List Addr} {H : Hp}
theorem DVs.length : ∀ {ds : List D} {vs : List V}, DVs g φ H ds vs → ds.length = vs.length
  | [], [], _ => rfl
  | _ :: _, _ :: _, .cons _ r => by simp [DVs.length r]
theorem DVs.get : ∀ {ds : List D} {vs : List V} {i : Nat} {d : D}, DVs g φ H ds vs → ds[i]? = some d → ∃ v, vs[i]? = some v ∧ DV g φ H d v
  | _, _, _, _, .nil, e => by simp at e
  | _, _, 0, _, .cons r _, e => by simp at e; subst e; exact ⟨_, rfl, r⟩
  | _, _, i + 1, x, .cons _ t, e => by
    obtain ⟨u, h1, h2⟩ := DVs.get (i := i) (d := x) t (by simpa using e)
    exact ⟨u, by simpa using h1, h2⟩
theorem DVs.get' : ∀ {ds : List D} {vs : List V} {i : Nat} {v : V}, DVs g φ H ds vs → vs[i]? = some v → ∃ d, ds[i]? = some d ∧ DV g φ H d v
  | _, _, _, _, .nil, e => by simp at e
  | _, _, 0, _, .cons r _, e => by simp at e; subst e; exact ⟨_, rfl, r⟩
  | _, _, i + 1, x, .cons _ t, e => by
    obtain ⟨u, h1, h2⟩ := DVs.get' (i := i) (v := x) t (by simpa using e)
    exact ⟨u, by simpa using h1, h2⟩
theorem DVs.append : ∀ {xs ys : List D} {us ws : List V}, DVs g φ H xs us → DVs g φ H ys ws → DVs g φ H (xs ++ ys) (us ++ ws)
  | _, _, _, _, .nil, s => s
  | _, _, _, _, .cons r t, s => .cons r (DVs.append t s)
theorem DVs.snoc {xs : List D} {us : List V} {d : D} {v : V} (a : DVs g φ H xs us) (b : DV g φ H d v) : DVs g φ H (xs ++ [d]) (us ++ [v]) := a.append (.cons b .nil)
theorem DVs.take : ∀ {xs : List D} {us : List V} (n : Nat), DVs g φ H xs us → DVs g φ H (xs.take n) (us.take n)
  | _, _, 0, _ => by simpa using DVs.nil
  | _, _, _ + 1, .nil => .nil
  | _, _, n + 1, .cons r t => .cons r (DVs.take n t)
theorem DVs.drop : ∀ {xs : List D} {us : List V} (n : Nat), DVs g φ H xs us → DVs g φ H (xs.drop n) (us.drop n)
  | _, _, 0, r => r
  | _, _, _ + 1, .nil => .nil
  | _, _, n + 1, .cons _ t => DVs.drop n t
theorem DVs.eraseIdx : ∀ {xs : List D} {us : List V} (n : Nat), DVs g φ H xs us → DVs g φ H (xs.eraseIdx n) (us.eraseIdx n)
  | _, _, _, .nil => .nil
  | _, _, 0, .cons _ t => t
  | _, _, n + 1, .cons r t => .cons r (DVs.eraseIdx n t)
theorem DVs.reverse : ∀ {xs : List D} {us : List V}, DVs g φ H xs us → DVs g φ H xs.reverse us.reverse
  | _, _, .nil => .nil
  | _, _, .cons r t => by rw [List.reverse_cons, List.reverse_cons]; exact (DVs.reverse t).snoc r
theorem DVs.dropLast {xs : List D} {us : List V} (h : DVs g φ H xs us) : DVs g φ H xs.dropLast us.dropLast := by
  rw [List.dropLast_eq_take, List.dropLast_eq_take, h.length]; exact h.take _
theorem DVs.set : ∀ {xs : List D} {us : List V} {d : D} {v : V} (n : Nat), DV g φ H d v → DVs g φ H xs us → DVs g φ H (xs.set n d) (us.set n v)
  | _, _, _, _, _, _, .nil => .nil
  | _, _, _, _, 0, r, .cons _ t => .cons r t
  | _, _, _, _, n + 1, r, .cons q t => .cons q (DVs.set n r t)
theorem DVs.rep {xs : List D} {us : List V} (h : DVs g φ H xs us) : ∀ n : Nat, DVs g φ H (List.replicate n xs).flatten (List.replicate n us).flatten
  | 0 => .nil
  | n + 1 => by rw [List.replicate_succ, List.replicate_succ, List.flatten_cons, List.flatten_cons]; exact h.append (DVs.rep h n)
theorem DVs.ints : ∀ {ns : List Int} {vs : List V}, DVs g φ H (ns.map D.int) vs → vs = ns.map V.int
  | [], _, .nil => rfl
  | _ :: _, _, .cons (.int _) t => by rw [List.map_cons, DVs.ints t]
theorem DVs.bools : ∀ {ns : List Bool} {vs : List V}, DVs g φ H (ns.map D.bl) vs → vs = ns.map V.bl
  | [], _, .nil => rfl
  | _ :: _, _, .cons (.bl _) t => by rw [List.map_cons, DVs.bools t]
theorem DVs.of_ints : ∀ ns : List Int, DVs g φ H (ns.map D.int) (ns.map V.int)
  | [] => .nil
  | n :: ns => .cons (.int n) (DVs.of_ints ns)
end

/-- a table of a code object -/
def isTbl : HO → Bool
  | .tbl _ => true
  | _ => false

/-- nothing of note stands at a -/
def Nw (H : Hp) (a : Addr) : Prop := ∀ o, H a = some o → isTbl o = true
theorem Nw.of {H : Hp} {a : Addr} (h : H a = none) : Nw H a := fun o e => by rw [h] at e; cases e
/-- what a run does to the tracked heap: new objects for the memory, all else that is not of the memory stays (the tables of code objects are told apart) -/
structure Step (φ : List Addr) (H : Hp) (φ' : List Addr) (H' : Hp) : Prop where
  pre : ∃ ψ, φ' = φ ++ ψ ∧ ∀ a ∈ ψ, Nw H a
  keep : ∀ a o, H a = some o → a ∉ φ → isTbl o = false → H' a = some o
  there : ∀ a o, H a = some o → isTbl o = false → ∃ o', H' a = some o' ∧ isTbl o' = false

theorem Step.refl (φ : List Addr) (H : Hp) : Step φ H φ H := ⟨⟨[], by simp⟩, fun _ _ h _ _ => h, fun _ o h t => ⟨o, h, t⟩⟩
theorem Step.trans {φ φ1 φ2 : List Addr} {H H1 H2 : Hp} (x : Step φ H φ1 H1) (y : Step φ1 H1 φ2 H2) : Step φ H φ2 H2 := by
  obtain ⟨ψ, e, h⟩ := x.pre
  obtain ⟨ψ', e', h'⟩ := y.pre
  subst e; subst e'
  have k1 : ∀ a o, H a = some o → a ∉ φ → isTbl o = false → a ∉ φ ++ ψ := fun a o ha hp ht hm => by
    rcases List.mem_append.mp hm with q | q
    · exact hp q
    · have := h a q o ha
      rw [ht] at this; cases this
  refine ⟨⟨ψ ++ ψ', by simp, fun a ha => ?_⟩, fun a o ha hp ht => y.keep a o (x.keep a o ha hp ht) (k1 a o ha hp ht) ht, fun a o ha ht => ?_⟩
  · rcases List.mem_append.mp ha with q | q
    · exact h a q
    · intro o e
      cases ht : isTbl o with
      | true => rfl
      | false =>
        obtain ⟨o', e1, t1⟩ := x.there a o e ht
        have := h' a q o' e1
        rw [t1] at this; cases this
  · obtain ⟨o', e1, t1⟩ := x.there a o ha ht
    exact y.there a o' e1 t1
theorem Step.at {φ φ' : List Addr} {H H' : Hp} (x : Step φ H φ' H') {n : Nat} {a : Addr} (h : φ[n]? = some a) : φ'[n]? = some a := by
  obtain ⟨ψ, e, _⟩ := x.pre
  subst e
  rw [List.getElem?_append_left (List.getElem?_eq_some_iff.mp h).1]; exact h
theorem Step.mem {φ φ' : List Addr} {H H' : Hp} (x : Step φ H φ' H') {a : Addr} {o : HO} (h : H a = some o) (hp : a ∉ φ) (ht : isTbl o = false := by rfl) : a ∉ φ' := by
  obtain ⟨ψ, e, hn⟩ := x.pre
  subst e
  intro hm
  rcases List.mem_append.mp hm with q | q
  · exact hp q
  · have := hn a q o h
    rw [ht] at this; cases this

theorem nodup_at {α : Type} {l : List α} (h : l.Nodup) {i j : Nat} {x : α} (a : l[i]? = some x) (b : l[j]? = some x) : i = j := by
  obtain ⟨h1, e1⟩ := List.getElem?_eq_some_iff.mp a
  obtain ⟨h2, e2⟩ := List.getElem?_eq_some_iff.mp b
  exact (List.getElem_inj h).mp (e1.trans e2.symm)
theorem ne_of_notMem {α : Type} {l : List α} {a b : α} (h : a ∈ l) (hb : b ∉ l) : b ≠ a := fun z => hb (z ▸ h)
/-- keys alike, values of the data -/
inductive KVs (g : G) (φ : List Addr) (H : Hp) : List (Key × D) → List (Key × V) → Prop
  | nil : KVs g φ H [] []
  | cons {k : Key} {d : D} {v : V} {ds : List (Key × D)} {vs : List (Key × V)} : DV g φ H d v → KVs g φ H ds vs → KVs g φ H ((k, d) :: ds) ((k, v) :: vs)

/-- the object at a is told by the memory's o -/
def OR (g : G) (φ : List Addr) (H : Hp) (a : Addr) : MO → Prop
  | .lst ds => ∃ xs, H a = some (.lst xs) ∧ DVs g φ H ds xs
  | .dic kvs => ∃ kxs, H a = some (.dK kxs) ∧ KVs g φ H kvs kxs

structure MR (g : G) (φ : List Addr) (M : Mem) (H : Hp) : Prop where
  len : φ.length = M.length
  nd : φ.Nodup
  tabs : LamX.Tabs (tabT g) H
  obj : ∀ (n : Nat) (o : MO), M[n]? = some o → ∃ a, φ[n]? = some a ∧ OR g φ H a o

/-- what may stand at the memory's addresses -/
def isMut : HO → Bool
  | .lst _ => true
  | .dK _ => true
  | _ => false
section
variable {g : G} {φ φ' : List Addr} {H H' : Hp} {M : Mem}
theorem OR.mut {a : Addr} {o : MO} (h : OR g φ H a o) : ∃ u, H a = some u ∧ isMut u = true := by
  cases o with
  | lst ds => obtain ⟨xs, e, _⟩ := h; exact ⟨_, e, rfl⟩
  | dic kvs => obtain ⟨xs, e, _⟩ := h; exact ⟨_, e, rfl⟩
theorem MR.mut (m : MR g φ M H) {a : Addr} (h : a ∈ φ) : ∃ u, H a = some u ∧ isMut u = true := by
  obtain ⟨i, hi, e⟩ := List.mem_iff_getElem.mp h
  have hM : i < M.length := by rw [← m.len]; exact hi
  obtain ⟨b, e1, h1⟩ := m.obj i M[i] (by simp [hM])
  have : b = a := by
    rw [List.getElem?_eq_getElem hi, e] at e1
    exact (Option.some.inj e1).symm
  subst this
  exact h1.mut
theorem MR.notIn (m : MR g φ M H) {a : Addr} {o : HO} (h : H a = some o) (hm : isMut o = false) : a ∉ φ := fun q => by
  obtain ⟨u, e, hu⟩ := m.mut q
  rw [h] at e; cases e; rw [hm] at hu; cases hu
theorem MR.some (m : MR g φ M H) {n : Nat} (h : n < M.length) : ∃ a, φ[n]? = some a := by
  obtain ⟨a, e, _⟩ := m.obj n M[n] (by simp [h])
  exact ⟨a, e⟩

theorem sqT_step (hm : ∀ a o, H a = some o → isMut o = false → a ∉ φ) (x : Step φ H φ' H') {a : Addr} {xs : List V} (h : SqT g.K H a xs) : SqT g.K H' a xs := by
  rcases h with h | h
  · rcases h with h | ⟨o, h⟩
    · exact .inl (.inl (x.keep _ _ h (hm _ _ h rfl) rfl))
    · exact .inl (.inr ⟨o, x.keep _ _ h (hm _ _ h rfl) rfl⟩)
  · exact .inr h
theorem roL_step (hm : ∀ a o, H a = some o → isMut o = false → a ∉ φ) (x : Step φ H φ' H') {a : Addr} {xs : List V} (h : RoL g.K H a xs) : RoL g.K H' a xs :=
  h.imp (fun ⟨o, h⟩ => ⟨o, x.keep _ _ h (hm _ _ h rfl) rfl⟩) id
mutual
theorem DV.step' (hm : ∀ a o, H a = some o → isMut o = false → a ∉ φ) (x : Step φ H φ' H') : ∀ (d : D) {v : V}, DV g φ H d v → DV g φ' H' d v
  | .non, _, .non => .non
  | .bl _, _, .bl b => .bl b
  | .int _, _, .int i => .int i
  | .str _, _, .str z => .str z
  | .tup ds, _, .tup h r => .tup (sqT_step hm x h) (DVs.step' hm x ds r)
  | .rol ds, _, .rol h r => .rol (roL_step hm x h) (DVs.step' hm x ds r)
  | .ref _, _, .ref h => .ref (x.at h)
  | .fn _, _, .fn h => .fn h
  | .ty _, _, .ty n => .ty n
theorem DVs.step' (hm : ∀ a o, H a = some o → isMut o = false → a ∉ φ) (x : Step φ H φ' H') : ∀ (ds : List D) {vs : List V}, DVs g φ H ds vs → DVs g φ' H' ds vs
  | [], _, .nil => .nil
  | d :: ds, _, .cons h t => .cons (DV.step' hm x d h) (DVs.step' hm x ds t)
end
theorem DV.step (m : MR g φ M H) (x : Step φ H φ' H') {d : D} {v : V} (h : DV g φ H d v) : DV g φ' H' d v := DV.step' (fun _ _ => m.notIn) x d h
theorem DVs.step (m : MR g φ M H) (x : Step φ H φ' H') {ds : List D} {vs : List V} (h : DVs g φ H ds vs) : DVs g φ' H' ds vs := DVs.step' (fun _ _ => m.notIn) x ds h
theorem KVs.step (m : MR g φ M H) (x : Step φ H φ' H') : ∀ {ds : List (Key × D)} {vs : List (Key × V)}, KVs g φ H ds vs → KVs g φ' H' ds vs
  | _, _, .nil => .nil
  | _, _, .cons h t => .cons (h.step m x) (KVs.step m x t)

/-- all that is tracked stays, but at the memory's address a -/
theorem tabs_of {H H' : Hp} {φ : List Addr} (hm : ∀ a o, H a = some o → isMut o = false → a ∉ φ) (k : ∀ a o, H a = some o → a ∉ φ → H' a = some o) (T : List (Addr × Str)) (t : LamX.Tabs T H) : LamX.Tabs T H' := fun p hp => by
  obtain ⟨ps, h1, h2, h3⟩ := t p hp
  refine ⟨ps, k _ _ h1 (hm _ _ h1 rfl), h2, fun pos cv hc => ?_⟩
  obtain ⟨c, e1, e2⟩ := h3 pos cv hc
  exact ⟨c, e1, k _ _ e2 (hm _ _ e2 rfl)⟩

/-- a new object that the memory does not hold (a tuple) -/
theorem Step.lay (m : MR g φ M H) {p : Addr} {o : HO} (h : H p = none) : Step φ H φ (upd H p o) :=
  ⟨⟨[], by simp⟩, fun a u e _ _ => by rw [upd_ne (ne_of_none e h)]; exact e, fun a u e t => ⟨u, by rw [upd_ne (ne_of_none e h)]; exact e, t⟩⟩
/-- a new object of the memory -/
theorem Step.new (m : MR g φ M H) {p : Addr} {o : HO} (h : H p = none) : Step φ H (φ ++ [p]) (upd H p o) :=
  ⟨⟨[p], rfl, fun a ha => by simp at ha; subst ha; exact Nw.of h⟩, (Step.lay m h).keep, (Step.lay m h).there⟩
/-- an object of the memory is written -/
theorem Step.write (m : MR g φ M H) {a : Addr} {o : HO} (h : a ∈ φ) (ho : isTbl o = false := by rfl) : Step φ H φ (upd H a o) :=
  ⟨⟨[], by simp⟩, fun b u e hb _ => by rw [upd_ne (ne_of_notMem h hb)]; exact e, fun b u e t => by
    by_cases z : b = a
    · subst z; exact ⟨o, upd_same, ho⟩
    · exact ⟨u, by rw [upd_ne z]; exact e, t⟩⟩

theorem OR.step (m : MR g φ M H) (x : Step φ H φ' H') {a : Addr} {o : MO} (h : OR g φ H a o) (k : ∀ u, H a = Option.some u → H' a = Option.some u) : OR g φ' H' a o := by
  cases o with
  | lst ds => obtain ⟨xs, e, r⟩ := h; exact ⟨xs, k _ e, r.step m x⟩
  | dic kvs => obtain ⟨xs, e, r⟩ := h; exact ⟨xs, k _ e, r.step m x⟩
theorem MR.lay (m : MR g φ M H) {p : Addr} {o : HO} (h : H p = none) : MR g φ M (upd H p o) :=
  ⟨m.len, m.nd, tabs_of (fun _ _ => m.notIn) (fun a u e _ => by rw [upd_ne (ne_of_none e h)]; exact e) _ m.tabs, fun n u e => by
    obtain ⟨a, h1, h2⟩ := m.obj n u e
    exact ⟨a, h1, h2.step m (Step.lay m h) fun w hw => by rw [upd_ne (ne_of_none hw h)]; exact hw⟩⟩
theorem MR.new (m : MR g φ M H) {p : Addr} {o : HO} {u : MO} (h : H p = none) (r : OR g (φ ++ [p]) (upd H p o) p u) : MR g (φ ++ [p]) (M ++ [u]) (upd H p o) := by
  have hp : p ∉ φ := fun q => by obtain ⟨w, e, _⟩ := m.mut q; rw [h] at e; cases e
  refine ⟨by simp [m.len], List.nodup_append.mpr ⟨m.nd, by simp, fun a ha b hb => by simp at hb; subst hb; exact fun z => hp (z ▸ ha)⟩, tabs_of (fun _ _ => m.notIn) (fun a u e _ => by rw [upd_ne (ne_of_none e h)]; exact e) _ m.tabs, fun n w e => ?_⟩
  by_cases hn : n < M.length
  · rw [List.getElem?_append_left hn] at e
    obtain ⟨a, h1, h2⟩ := m.obj n w e
    exact ⟨a, (Step.new (o := o) m h).at h1, h2.step m (Step.new m h) fun w hw => by rw [upd_ne (ne_of_none hw h)]; exact hw⟩
  · have hn' : n = M.length := by
      have := (List.getElem?_eq_some_iff.mp e).1
      simp at this; omega
    subst hn'
    simp at e
    subst e
    exact ⟨p, by rw [← m.len]; simp, r⟩
theorem MR.write (m : MR g φ M H) {n : Nat} {a : Addr} {o : HO} {u : MO} (h : φ[n]? = Option.some a) (r : OR g φ (upd H a o) a u) : MR g φ (M.set n u) (upd H a o) := by
  have ha : a ∈ φ := List.mem_of_getElem? h
  refine ⟨by simp [m.len], m.nd, tabs_of (fun _ _ => m.notIn) (fun b u e hb => by rw [upd_ne (ne_of_notMem ha hb)]; exact e) _ m.tabs, fun i w e => ?_⟩
  by_cases hi : i = n
  · subst hi
    have : i < M.length := by rw [← m.len]; exact (List.getElem?_eq_some_iff.mp h).1
    rw [List.getElem?_set_self this] at e
    cases e
    exact ⟨a, h, r⟩
  · rw [List.getElem?_set_ne (Ne.symm hi)] at e
    obtain ⟨b, h1, h2⟩ := m.obj i w e
    have ho : isTbl o = false := by
      obtain ⟨w, q, hw⟩ := r.mut
      rw [upd_same] at q; cases q
      cases o <;> first | rfl | cases hw
    refine ⟨b, h1, h2.step m (Step.write m ha ho) fun w hw => ?_⟩
    rw [upd_ne]
    · exact hw
    · intro z
      exact hi (nodup_at m.nd (z ▸ h1) h)
/-- the list at n -/
theorem MR.lst (m : MR g φ M H) {n : Nat} {a : Addr} {ds : List D} (h : M[n]? = Option.some (.lst ds)) (e : φ[n]? = Option.some a) : ∃ xs, H a = Option.some (.lst xs) ∧ DVs g φ H ds xs := by
  obtain ⟨b, h1, h2⟩ := m.obj n _ h
  rw [e] at h1; cases h1
  exact h2
theorem MR.dic (m : MR g φ M H) {n : Nat} {a : Addr} {ds : List (Key × D)} (h : M[n]? = Option.some (.dic ds)) (e : φ[n]? = Option.some a) : ∃ xs, H a = Option.some (.dK xs) ∧ KVs g φ H ds xs := by
  obtain ⟨b, h1, h2⟩ := m.obj n _ h
  rw [e] at h1; cases h1
  exact h2
/-- an object that the memory does not hold, and that no data lean on, is written -/
theorem sqT_over {D0 : Addr} {o u : HO} (e : H D0 = Option.some u) (hu : isMut u = true) {a : Addr} {xs : List V} (h : SqT g.K H a xs) : SqT g.K (upd H D0 o) a xs := by
  have ne : ∀ w, H a = Option.some w → isMut w = false → a ≠ D0 := fun w hw hm z => by
    rw [z, e] at hw; cases hw; rw [hu] at hm; cases hm
  rcases h with h | h
  · rcases h with h | ⟨w, h⟩
    · exact .inl (.inl (by rw [upd_ne (ne _ h rfl)]; exact h))
    · exact .inl (.inr ⟨w, by rw [upd_ne (ne _ h rfl)]; exact h⟩)
  · exact .inr h
theorem roL_over {D0 : Addr} {o u : HO} (e : H D0 = Option.some u) (hu : isMut u = true) {a : Addr} {xs : List V} (h : RoL g.K H a xs) : RoL g.K (upd H D0 o) a xs :=
  h.imp (fun ⟨w, h⟩ => ⟨w, by
    rw [upd_ne]
    · exact h
    · intro z; rw [z, e] at h; cases h; cases hu⟩) id
mutual
theorem DV.over {D0 : Addr} {o u : HO} (e : H D0 = Option.some u) (hu : isMut u = true) : ∀ (d : D) {v : V}, DV g φ H d v → DV g φ (upd H D0 o) d v
  | .non, _, .non => .non
  | .bl _, _, .bl b => .bl b
  | .int _, _, .int i => .int i
  | .str _, _, .str z => .str z
  | .tup ds, _, .tup h r => .tup (sqT_over e hu h) (DVs.over e hu ds r)
  | .rol ds, _, .rol h r => .rol (roL_over e hu h) (DVs.over e hu ds r)
  | .ref _, _, .ref h => .ref h
  | .fn _, _, .fn h => .fn h
  | .ty _, _, .ty n => .ty n
theorem DVs.over {D0 : Addr} {o u : HO} (e : H D0 = Option.some u) (hu : isMut u = true) : ∀ (ds : List D) {vs : List V}, DVs g φ H ds vs → DVs g φ (upd H D0 o) ds vs
  | [], _, .nil => .nil
  | d :: ds, _, .cons h t => .cons (DV.over e hu d h) (DVs.over e hu ds t)
end
theorem KVs.over {D0 : Addr} {o u : HO} (e : H D0 = Option.some u) (hu : isMut u = true) : ∀ {ds : List (Key × D)} {vs : List (Key × V)}, KVs g φ H ds vs → KVs g φ (upd H D0 o) ds vs
  | _, _, .nil => .nil
  | _, _, .cons h t => .cons (h.over e hu) (KVs.over e hu t)
theorem OR.over {D0 : Addr} {o u : HO} (e : H D0 = Option.some u) (hu : isMut u = true) {a : Addr} (ne : a ≠ D0) {w : MO} (h : OR g φ H a w) : OR g φ (upd H D0 o) a w := by
  cases w with
  | lst ds => obtain ⟨xs, q, r⟩ := h; exact ⟨xs, by rw [upd_ne ne]; exact q, r.over e hu⟩
  | dic kvs => obtain ⟨xs, q, r⟩ := h; exact ⟨xs, by rw [upd_ne ne]; exact q, r.over e hu⟩
theorem MR.over (m : MR g φ M H) {D0 : Addr} {o u : HO} (e : H D0 = Option.some u) (hu : isMut u = true) (hD : D0 ∉ φ) : MR g φ M (upd H D0 o) :=
  ⟨m.len, m.nd, tabs_of (φ := [D0]) (fun a w q hm hp => by rw [List.mem_singleton.mp hp, e] at q; cases q; rw [hu] at hm; cases hm) (fun a w q hp => by rw [upd_ne (fun z => hp (List.mem_singleton.mpr z))]; exact q) _ m.tabs, fun n w q => by
    obtain ⟨a, h1, h2⟩ := m.obj n w q
    exact ⟨a, h1, h2.over e hu (fun z => hD (z ▸ List.mem_of_getElem? h1))⟩⟩
theorem Step.over {φ0 : List Addr} {H0 : Hp} (x : Step φ0 H0 φ H) {D0 : Addr} {o u : HO} (e : H D0 = Option.some u) (hu : isMut u = true) (h0 : H0 D0 = none) : Step φ0 H0 φ (upd H D0 o) :=
  ⟨x.pre, fun a w q hp ht => by rw [upd_ne (ne_of_none q h0)]; exact x.keep a w q hp ht, fun a w q t => by
    obtain ⟨w', q1, t1⟩ := x.there a w q t
    exact ⟨w', by rw [upd_ne (ne_of_none q h0)]; exact q1, t1⟩⟩
/-! more addresses of the memory -/
mutual
theorem DV.grow {ψ : List Addr} : ∀ {d : D} {v : V}, DV g φ H d v → DV g (φ ++ ψ) H d v
  | .non, _, .non => .non
  | .bl _, _, .bl b => .bl b
  | .int _, _, .int i => .int i
  | .str _, _, .str z => .str z
  | .tup ds, _, .tup h r => .tup h (DVs.grow r)
  | .rol ds, _, .rol h r => .rol h (DVs.grow r)
  | .ref _, _, .ref h => .ref (by rw [List.getElem?_append_left (List.getElem?_eq_some_iff.mp h).1]; exact h)
  | .fn _, _, .fn h => .fn h
  | .ty _, _, .ty n => .ty n
theorem DVs.grow {ψ : List Addr} : ∀ {ds : List D} {vs : List V}, DVs g φ H ds vs → DVs g (φ ++ ψ) H ds vs
  | [], _, .nil => .nil
  | d :: ds, _, .cons h t => .cons (DV.grow h) (DVs.grow t)
end
theorem KVs.grow {ψ : List Addr} : ∀ {ds : List (Key × D)} {vs : List (Key × V)}, KVs g φ H ds vs → KVs g (φ ++ ψ) H ds vs
  | _, _, .nil => .nil
  | _, _, .cons h t => .cons h.grow (KVs.grow t)
theorem OR.grow {ψ : List Addr} {a : Addr} {w : MO} (h : OR g φ H a w) : OR g (φ ++ ψ) H a w := by
  cases w with
  | lst ds => obtain ⟨xs, q, r⟩ := h; exact ⟨xs, q, r.grow⟩
  | dic kvs => obtain ⟨xs, q, r⟩ := h; exact ⟨xs, q, r.grow⟩
end
end W8

set_option Elab.async false
set_option linter.all false
set_option maxRecDepth 100000
namespace W8
open PySem L2 PySem.Spec PyProof.Rows

/-- what a run comes to -/
inductive R (α : Type) where
  | ok (a : α) (M : Mem)
  | err (c : Str) (t : D) (M : Mem)
  | bad
def R.bind {α β : Type} (r : R α) (f : α → Mem → R β) : R β := match r with
  | .ok a M => f a M
  | .err c t M => .err c t M
  | .bad => .bad
@[simp] theorem R.bind_ok {α β : Type} (a : α) (M : Mem) (f : α → Mem → R β) : (R.ok a M).bind f = f a M := rfl
@[simp] theorem R.bind_err {α β : Type} (c : Str) (t : D) (M : Mem) (f : α → Mem → R β) : (R.err c t M).bind f = .err c t M := rfl
@[simp] theorem R.bind_bad {α β : Type} (f : α → Mem → R β) : (R.bad : R α).bind f = .bad := rfl

def gX (X : Cx) : G := ⟨X.K, X.mg, X.base⟩

/-- an error of the class of that name that bears t as its thing -/
def EV (g : G) (φ : List Addr) (H : Hp) (c : Str) (t : D) (cls : Value) (dx : Option Addr) : Prop :=
  ∃ (C a : Addr) (v : V), g.mg c = some (.ref C) ∧ cls = .ref C ∧ dx = some a ∧ H a = some (.xd [("thing", v)]) ∧ DV g φ H t v

def Wp (g : G) (W : XK) (φ : List Addr) (H : Hp) {α : Type} (r : R α) (P : List Addr → Hp → α → Mem → Prop) : Prop := match r with
  | .ok a M => ∀ φ' H', Step φ H φ' H' → MR g φ' M H' → P φ' H' a M
  | .err c t M => ∀ φ' H' cls dx, Step φ H φ' H' → MR g φ' M H' → EV g φ' H' c t cls dx → W cls dx H'
  | .bad => False
section
variable {g : G} {W : XK} {φ φ' : List Addr} {H H' : Hp} {α β : Type} {r : R α} {P P' : List Addr → Hp → α → Mem → Prop}
theorem Wp.mono (h : Wp g W φ H r P) (k : ∀ φ' H' a M, Step φ H φ' H' → MR g φ' M H' → P φ' H' a M → P' φ' H' a M) : Wp g W φ H r P' := by
  cases r with
  | ok a M => exact fun φ' H' s m => k _ _ _ _ s m (h φ' H' s m)
  | err c t M => exact h
  | bad => exact h
theorem Wp.step (h : Wp g W φ H r P) (x : Step φ H φ' H') : Wp g W φ' H' r P := by
  cases r with
  | ok a M => exact fun φ2 H2 s m => h φ2 H2 (x.trans s) m
  | err c t M => exact fun φ2 H2 cls dx s m => h φ2 H2 cls dx (x.trans s) m
  | bad => exact h
theorem Wp.bind {f : α → Mem → R β} {P : List Addr → Hp → β → Mem → Prop} (h : Wp g W φ H (r.bind f) P) : Wp g W φ H r (fun φ1 H1 a M => Wp g W φ1 H1 (f a M) P) := by
  cases r with
  | ok a M => exact fun φ1 H1 s m => Wp.step (show Wp g W φ H (f a M) P from h) s
  | err c t M => exact h
  | bad => exact h
theorem Wp.here {a : α} {M : Mem} (h : Wp g W φ H (.ok a M) P) (m : MR g φ M H) : P φ H a M := h φ H (Step.refl _ _) m
end

/-! ### the slots -/
abbrev Env := List (Option D)
structure ER (g : G) (φ : List Addr) (H : Hp) (ρ : Env) (σ : L2.St) : Prop where
  len : ρ.length = σ.length
  at' : ∀ (i : Nat) (d : D), ρ[i]? = some (some d) → ∃ v, σ[i]? = some (some v) ∧ DV g φ H d v
section
variable {g : G} {φ φ' : List Addr} {H H' : Hp} {M : Mem} {ρ : Env} {σ : L2.St}
theorem ER.step (m : MR g φ M H) (x : Step φ H φ' H') (e : ER g φ H ρ σ) : ER g φ' H' ρ σ :=
  ⟨e.len, fun i d h => let ⟨v, h1, h2⟩ := e.at' i d h; ⟨v, h1, h2.step m x⟩⟩
theorem ER.set {i : Nat} {d : D} {v : V} (e : ER g φ H ρ σ) (r : DV g φ H d v) : ER g φ H (ρ.set i (some d)) (σ.set i (some v)) := by
  refine ⟨by simp [e.len], fun j c h => ?_⟩
  by_cases hj : j = i
  · subst hj
    by_cases hl : j < ρ.length
    · rw [List.getElem?_set_self hl] at h
      cases h
      exact ⟨v, by rw [List.getElem?_set_self (by rw [← e.len]; exact hl)], r⟩
    · rw [List.getElem?_eq_none (by simpa using hl)] at h; cases h
  · rw [List.getElem?_set_ne (Ne.symm hj)] at h ⊢
    exact e.at' j c h
def wipeE (ρ : Env) : List Nat → Env
  | [] => ρ
  | v :: vs => (wipeE ρ vs).set v none
theorem er_wipe (e : ER g φ H ρ σ) : ∀ vs : List Nat, ER g φ H (wipeE ρ vs) (L2.wipe σ vs)
  | [] => e
  | v :: vs => by
    have ih := er_wipe e vs
    refine ⟨by show ((wipeE ρ vs).set v none).length = ((L2.wipe σ vs).set v none).length; simp [ih.len], fun j c h => ?_⟩
    have h : ((wipeE ρ vs).set v none)[j]? = some (some c) := h
    show ∃ w, ((L2.wipe σ vs).set v none)[j]? = some (some w) ∧ _
    by_cases hj : j = v
    · subst hj
      by_cases hl : j < (wipeE ρ vs).length
      · rw [List.getElem?_set_self hl] at h; cases h
      · rw [List.getElem?_eq_none (by simpa using hl)] at h; cases h
    · rw [List.getElem?_set_ne (Ne.symm hj)] at h ⊢
      exact ih.at' j c h
end

/-! ### the mirrors' kinds, and what it is to tell a piece of the text -/
abbrev Ex := Env → Mem → R D
abbrev Exs := Env → Mem → R (List D)
abbrev Te := Env → Mem → R Bool
inductive Out where
  | nx (ρ : Env) | rt (d : D) | bk (ρ : Env) | ct (ρ : Env)
abbrev Stt := Env → Mem → R Out

def tE (g : G) (W : XK) (m : Ex) : TE := fun σ H Q => ∃ φ ρ M, ER g φ H ρ σ ∧ MR g φ M H ∧ Wp g W φ H (m ρ M) fun φ' H' d _ => ∀ v, DV g φ' H' d v → Q v H'
def tEs (g : G) (W : XK) (m : Exs) : TA := fun σ H Q => ∃ φ ρ M, ER g φ H ρ σ ∧ MR g φ M H ∧ Wp g W φ H (m ρ M) fun φ' H' ds _ => ∀ vs, DVs g φ' H' ds vs → Q vs H'
def tTe (g : G) (W : XK) (m : Te) : TT := fun σ H Q => ∃ φ ρ M, ER g φ H ρ σ ∧ MR g φ M H ∧ Wp g W φ H (m ρ M) fun φ' H' b _ => Q b H'
def Po (g : G) (D : Ends) (φ' : List Addr) (H' : Hp) (o : Out) : Prop := match o with
  | .nx ρ' => ∀ σ', ER g φ' H' ρ' σ' → D.nx σ' H'
  | .rt d => ∀ v, DV g φ' H' d v → D.rt v H'
  | .bk ρ' => ∀ σ', ER g φ' H' ρ' σ' → D.bk σ' H'
  | .ct ρ' => ∀ σ', ER g φ' H' ρ' σ' → D.ct σ' H'
def tSt (g : G) (W : XK) (m : Stt) : TS := fun D σ H => ∃ φ ρ M, ER g φ H ρ σ ∧ MR g φ M H ∧ Wp g W φ H (m ρ M) fun φ' H' o _ => Po g D φ' H' o

def SE (X : Cx) (W : XK) (e : Expr) (m : Ex) : Prop := PE X e (tE (gX X) W m)
def SA (X : Cx) (W : XK) (es : List Expr) (m : Exs) : Prop := PA X es (tEs (gX X) W m)
def ST (X : Cx) (W : XK) (e : Expr) (m : Te) : Prop := PT X e (tTe (gX X) W m)
def SW (X : Cx) (W : XK) (e : Expr) (m : Te) : Prop := PW X e (tTe (gX X) W m)
def SS (X : Cx) (W : XK) (s : Stmt) (m : Stt) : Prop := PS X s (tSt (gX X) W m)
def SSs (X : Cx) (W : XK) (s : List Stmt) (m : Stt) : Prop := PSs X s (tSt (gX X) W m)

theorem PE.imp {X : Cx} {e : Expr} {t t' : TE} (h : PE X e t) (k : ∀ σ H Q, t' σ H Q → t σ H Q) : PE X e t' := ⟨fun pins s σ H Q I q => h.run pins s σ H Q I (k _ _ _ q)⟩
theorem PA.imp {X : Cx} {e : List Expr} {t t' : TA} (h : PA X e t) (k : ∀ σ H Q, t' σ H Q → t σ H Q) : PA X e t' := ⟨fun pos pins s σ H Q I q => h.run pos pins s σ H Q I (k _ _ _ q)⟩
theorem PT.imp {X : Cx} {e : Expr} {t t' : TT} (h : PT X e t) (k : ∀ σ H Q, t' σ H Q → t σ H Q) : PT X e t' := ⟨fun pins s σ H Q I q => h.run pins s σ H Q I (k _ _ _ q)⟩
theorem PW.imp {X : Cx} {e : Expr} {t t' : TT} (h : PW X e t) (k : ∀ σ H Q, t' σ H Q → t σ H Q) : PW X e t' := ⟨fun wh pins s σ H Q I q => h.run wh pins s σ H Q I (k _ _ _ q)⟩
theorem PS.imp {X : Cx} {e : Stmt} {t t' : TS} (h : PS X e t) (k : ∀ D σ H, t' D σ H → t D σ H) : PS X e t' := ⟨fun pins s σ H D I q => h.run pins s σ H D I (k _ _ _ q)⟩
theorem PSs.imp {X : Cx} {e : List Stmt} {t t' : TS} (h : PSs X e t) (k : ∀ D σ H, t' D σ H → t D σ H) : PSs X e t' := ⟨fun pins s σ H D I q => h.run pins s σ H D I (k _ _ _ q)⟩

/-! ### names, constants -/
def var (i : Nat) : Ex := fun ρ M => match ρ[i]? with
  | some (some d) => .ok d M
  | _ => .bad
def con (d : D) : Ex := fun _ M => .ok d M
section
variable {X : Cx} {W : XK} {pos : Pos}
theorem se_var {i : Nat} {x : Str} (hN : X.N[i]? = some x) (hv : Vis X.env.scope x) (hd : (x == ("__debug__" : Str)) = false := by decide) (hcd : (x == ("__classdict__" : Str)) = false := by decide) : SE X W (.Name x pos) (var i) := by
  refine PE.imp (pe_var hN hv hd hcd) fun σ H Q ⟨φ, ρ, M, e, m, h⟩ => ?_
  unfold var at h
  split at h
  · rename_i d he
    obtain ⟨v, h1, h2⟩ := e.at' i d he
    exact ⟨v, h1, h.here m v h2⟩
  · exact h.elim
theorem se_con {e : Expr} {d : D} {v : V} (h : PE X e (tC v)) (r : ∀ φ H, DV (gX X) φ H d v) : SE X W e (con d) :=
  PE.imp h fun σ H Q ⟨φ, ρ, M, e, m, h⟩ => h.here m v (r φ H)
theorem se_int {i : Int} {j} : SE X W (.Constant (.int i) j pos) (con (.int i)) := se_con pe_int fun _ _ => .int i
theorem se_bl {b : Bool} {j} : SE X W (.Constant (.bool b) j pos) (con (.bl b)) := se_con pe_bl fun _ _ => .bl b
theorem se_non {j} : SE X W (.Constant .none j pos) (con .non) := se_con pe_non fun _ _ => .non
theorem se_str {x : Str} {j} : SE X W (.Constant (.str x) j pos) (con (.str x)) := se_con pe_str fun _ _ => .str x
/-- a module's constant -/
theorem se_glob {x : Str} {d : D} {v : V} {u : Value} (hg : Gl X x) (hm : X.mg x = some u) (r : RelV v u) (q : ∀ φ H, DV (gX X) φ H d v) (hd : (x == ("__debug__" : Str)) = false := by decide) : SE X W (.Name x pos) (con d) :=
  se_con (pe_glob hg hm r hd) q
theorem se_fn {x : Str} {a : Addr} (hg : Gl X x) (hm : X.mg x = some (.ref a)) (hd : (x == ("__debug__" : Str)) = false := by decide) : SE X W (.Name x pos) (con (.fn x)) :=
  se_glob (v := .ref a) hg hm rfl (fun _ _ => .fn hm) hd
theorem se_ty {x : Str} {n : String} (hg : Gl X x) (hm : X.mg x = none) (hv : bootBuiltins x = some (.type n)) (hn : x ≠ "__name__" := by decide) (hd : (x == ("__debug__" : Str)) = false := by decide) : SE X W (.Name x pos) (con (.ty n)) :=
  se_con (pe_bltn (v := .ty n) hg hm hv rfl hn hd) fun _ _ => .ty n

/-! ### argument lists, displays -/
def nilE : Exs := fun _ M => .ok [] M
def consE (a : Ex) (r : Exs) : Exs := fun ρ M => (a ρ M).bind fun d M => (r ρ M).bind fun ds M => .ok (d :: ds) M
theorem sa_nil : SA X W [] nilE := PA.imp pa_nil fun σ H Q ⟨φ, ρ, M, e, m, h⟩ => h.here m [] .nil
theorem sa_cons {e : Expr} {es : List Expr} {a : Ex} {r : Exs} (ha : SE X W e a) (hr : SA X W es r) (hs : starEach (e :: es) X.env = (false, eval e X.env) :: starEach es X.env := by rfl) : SA X W (e :: es) (consE a r) := by
  refine PA.imp (pa_cons ha hr hs) fun σ H Q ⟨φ, ρ, M, e, m, h⟩ => ?_
  refine ⟨φ, ρ, M, e, m, h.bind.mono fun φ1 H1 d M1 s1 m1 h1 v dv => ?_⟩
  refine ⟨φ1, ρ, M1, e.step m s1, m1, h1.bind.mono fun φ2 H2 ds M2 s2 m2 h2 vs dvs => ?_⟩
  exact h2.here m2 _ (.cons (dv.step m1 s2) dvs)
def len? (n : Nat) {α : Type} (r : R α) : R α := if n ≤ sizeLine then r else .bad
theorem Wp.len {g : G} {φ : List Addr} {H : Hp} {n : Nat} {α : Type} {r : R α} {P : List Addr → Hp → α → Mem → Prop} (h : Wp g W φ H (len? n r) P) : n ≤ sizeLine ∧ Wp g W φ H r P := by
  unfold len? at h
  split at h
  · exact ⟨by assumption, h⟩
  · exact h.elim
def tupE (as : Exs) : Ex := fun ρ M => (as ρ M).bind fun ds M => len? ds.length (.ok (.tup ds) M)
def lstE (as : Exs) : Ex := fun ρ M => (as ρ M).bind fun ds M => len? ds.length (.ok (.ref M.length) (M ++ [.lst ds]))
theorem se_tup {es : List Expr} {x1} {as : Exs} (h : SA X W es as) : SE X W (.Tuple es x1 pos) (tupE as) := by
  refine PE.imp (pe_tup h) fun σ H Q ⟨φ, ρ, M, e, m, h⟩ => ?_
  refine ⟨φ, ρ, M, e, m, h.bind.mono fun φ1 H1 ds M1 s1 m1 h1 vs dvs => ?_⟩
  obtain ⟨hl, h1⟩ := h1.len
  refine ⟨by rw [← dvs.length]; exact hl, fun p hp => ?_⟩
  exact h1 φ1 _ (Step.lay m1 hp) (m1.lay hp) _ (.tup (SqT.of upd_same) (dvs.step m1 (Step.lay m1 hp)))
/-- a new list of the memory -/
theorem new_lst {g : G} {φ : List Addr} {H : Hp} {M : Mem} (m : MR g φ M H) {ds : List D} {vs : List V} (r : DVs g φ H ds vs) {p : Addr} (hp : H p = none) :
    Step φ H (φ ++ [p]) (upd H p (.lst vs)) ∧ MR g (φ ++ [p]) (M ++ [.lst ds]) (upd H p (.lst vs)) ∧ DV g (φ ++ [p]) (upd H p (.lst vs)) (.ref M.length) (.ref p) :=
  ⟨Step.new m hp, m.new hp ⟨vs, upd_same, r.step m (Step.new m hp)⟩, .ref (by rw [← m.len]; simp)⟩
theorem se_lst {es : List Expr} {as : Exs} (h : SA X W es as) : SE X W (.List es pos) (lstE as) := by
  refine PE.imp (pe_lst h) fun σ H Q ⟨φ, ρ, M, e, m, h⟩ => ?_
  refine ⟨φ, ρ, M, e, m, h.bind.mono fun φ1 H1 ds M1 s1 m1 h1 vs dvs => ?_⟩
  obtain ⟨hl, h1⟩ := h1.len
  refine ⟨by rw [← dvs.length]; exact hl, fun p hp => ?_⟩
  obtain ⟨a, b, c⟩ := new_lst m1 dvs hp
  exact h1 _ _ a b _ c

/-! ### operators by values -/
abbrev Op2 := D → D → Mem → Option (D × Mem)
def lift {α : Type} : Option (α × Mem) → R α
  | some (d, M) => .ok d M
  | none => .bad
def Wo (g : G) (φ : List Addr) (H : Hp) {α : Type} (r : Option (α × Mem)) (P : List Addr → Hp → α → Mem → Prop) : Prop := match r with
  | some p => ∀ φ' H', Step φ H φ' H' → MR g φ' p.2 H' → P φ' H' p.1 p.2
  | none => False
def rD (g : G) (f : Op2) : R2 := fun x y H Q => ∃ φ M a b, MR g φ M H ∧ DV g φ H a x ∧ DV g φ H b y ∧ Wo g φ H (f a b M) fun φ' H' d _ => ∀ v, DV g φ' H' d v → Q v H'
/-- the operator does what f says -/
def OS (X : Cx) (fs : Value → Value → Sem Value) (f : Op2) : Prop := OpR X fs (rD (gX X) f)
def opE (f : Op2) (a b : Ex) : Ex := fun ρ M => (a ρ M).bind fun x M => (b ρ M).bind fun y M => lift (f x y M)
theorem wp_lift {g : G} {φ : List Addr} {H : Hp} {α : Type} {r : Option (α × Mem)} {P : List Addr → Hp → α → Mem → Prop} (h : Wp g W φ H (lift r) P) : Wo g φ H r P := by
  cases r with
  | none => exact h
  | some p => exact h
/-- both sides run -/
theorem op_of {g : G} {f : Op2} {a b : Ex} {σ : L2.St} {H : Hp} {Q : VK} (h : tE g W (opE f a b) σ H Q) : tE g W a σ H fun x H1 => tE g W b σ H1 fun y H2 => rD g f x y H2 Q := by
  obtain ⟨φ, ρ, M, e, m, h⟩ := h
  refine ⟨φ, ρ, M, e, m, h.bind.mono fun φ1 H1 d M1 s1 m1 h1 v dv => ?_⟩
  refine ⟨φ1, ρ, M1, e.step m s1, m1, h1.bind.mono fun φ2 H2 d2 M2 s2 m2 h2 w dw => ?_⟩
  exact ⟨φ2, M2, d, d2, m2, dv.step m1 s2, dw, wp_lift h2⟩
theorem se_op {op : Operator} {f : Op2} {x y : Expr} {a b : Ex} (ho : OS X (binaryOp op) f) (ha : SE X W x a) (hb : SE X W y b) : SE X W (.BinOp x op y pos) (opE f a b) :=
  PE.imp (pe_op ho ha hb) fun _ _ _ h => op_of h
theorem se_cmp {op : CmpOp} {f : Op2} {x y : Expr} {a b : Ex} (ho : OS X (compareOp op) f) (ha : SE X W x a) (hb : SE X W y b) (hm : behindInMarks op y = false := by rfl) : SE X W (.Compare x [op] [y] pos) (opE f a b) :=
  PE.imp (pe_cmpR ho ha hb hm) fun _ _ _ h => op_of h
/-- a value as a test -/
def isB : D → Mem → R Bool
  | .bl b, M => .ok b M
  | _, _ => .bad
def asT (a : Ex) : Te := fun ρ M => (a ρ M).bind isB
theorem tst_of {g : G} {a : Ex} {σ : L2.St} {H : Hp} {Q : Bool → Hp → Prop} (h : tTe g W (asT a) σ H Q) : tE g W a σ H fun x H1 => ∃ k, x = .bl k ∧ Q k H1 := by
  obtain ⟨φ, ρ, M, e, m, h⟩ := h
  refine ⟨φ, ρ, M, e, m, h.bind.mono fun φ1 H1 d M1 s1 m1 h1 v dv => ?_⟩
  cases dv with
  | bl b => exact ⟨b, rfl, h1.here m1⟩
  | _ => exact h1.elim
theorem st_val {x : Expr} {a : Ex} (ha : SE X W x a) (he : ∀ whole, isTrue x X.env whole = (do let v ← whole; standAt x.pos; holding [v] (truthy v)) := by intro _; rfl) : ST X W x (asT a) :=
  PT.imp (pt_val ha he) fun _ _ _ h => tst_of h
theorem st_cmp {op : CmpOp} {f : Op2} {x y : Expr} {a b : Ex} (ho : OS X (compareOp op) f) (ha : SE X W x a) (hb : SE X W y b) (hm : behindInMarks op y = false := by rfl) : ST X W (.Compare x [op] [y] pos) (asT (opE f a b)) := by
  refine PT.imp (pt_cmpR ho ha hb hm) fun σ H Q h => ?_
  have h1 := tst_of h
  exact op_of h1
/-- chains -/
def chE (f f' : Op2) (a b c : Ex) : Ex := fun ρ M => (a ρ M).bind fun x M => (b ρ M).bind fun y M => (lift (f x y M)).bind fun z M => (isB z M).bind fun k M =>
  if k = true then (c ρ M).bind fun w M => lift (f' y w M) else .ok (.bl false) M
theorem ch_of {g : G} {f f' : Op2} {a b c : Ex} {σ : L2.St} {H : Hp} {Q : VK} (h : tE g W (chE f f' a b c) σ H Q) : tChain (rD g f) (rD g f') (tE g W a) (tE g W b) (tE g W c) σ H Q := by
  obtain ⟨φ, ρ, M, e, m, h⟩ := h
  refine ⟨φ, ρ, M, e, m, h.bind.mono fun φ1 H1 d M1 s1 m1 h1 v dv => ?_⟩
  refine ⟨φ1, ρ, M1, e.step m s1, m1, h1.bind.mono fun φ2 H2 d2 M2 s2 m2 h2 w dw => ?_⟩
  refine ⟨φ2, M2, d, d2, m2, dv.step m1 s2, dw, ?_⟩
  have h3 := wp_lift h2.bind
  revert h3
  cases f d d2 M2 with
  | none => exact id
  | some p =>
    obtain ⟨d3, M3⟩ := p
    intro q φ3 H3 s3 m3 v3 r3
    have q1 := (q φ3 H3 s3 m3).bind
    cases r3 with
    | bl k =>
      have q2 := q1.here m3
      refine ⟨k, rfl, ?_⟩
      cases k with
      | false => exact q2.here m3 _ (.bl false)
      | true =>
        refine ⟨φ3, ρ, M3, ((e.step m s1).step m1 s2).step m2 s3, m3, q2.bind.mono fun φ4 H4 d4 M4 s4 m4 h4 w4 dw4 => ?_⟩
        exact ⟨φ4, M4, d2, d4, m4, (dw.step m2 s3).step m3 s4, dw4, wp_lift h4⟩
    | _ => exact q1.elim
theorem se_chain {op op' : CmpOp} {f f' : Op2} {x y z : Expr} {a b c : Ex} (ho : OS X (compareOp op) f) (ho' : OS X (compareOp op') f') (ha : SE X W x a) (hb : SE X W y b) (hc : SE X W z c)
    (hm : lastMarks [op, op'] [y, z] = false := by with_unfolding_all rfl) : SE X W (.Compare x [op, op'] [y, z] pos) (chE f f' a b c) :=
  PE.imp (pe_chain ho ho' ha hb hc hm) fun _ _ _ h => ch_of h
theorem st_chain {op op' : CmpOp} {f f' : Op2} {x y z : Expr} {a b c : Ex} (ho : OS X (compareOp op) f) (ho' : OS X (compareOp op') f') (ha : SE X W x a) (hb : SE X W y b) (hc : SE X W z c)
    (hm : lastMarks [op, op'] [y, z] = false := by with_unfolding_all rfl) : ST X W (.Compare x [op, op'] [y, z] pos) (asT (chE f f' a b c)) :=
  PT.imp (pt_chain ho ho' ha hb hc hm) fun _ _ _ h => ch_of (tst_of h)

/-! ### and, or, not -/
def andT (a b : Te) : Te := fun ρ M => (a ρ M).bind fun k M => if k = true then b ρ M else .ok false M
def orT (a b : Te) : Te := fun ρ M => (a ρ M).bind fun k M => if k = true then .ok true M else b ρ M
def notT (a : Te) : Te := fun ρ M => (a ρ M).bind fun k M => .ok (!k) M
theorem sw_and1 {x : Expr} {a : Te} (h : ST X W x a) : SW X W (.BoolOp .And [x] pos) a := pw_and1 h
theorem sw_or1 {x : Expr} {a : Te} (h : ST X W x a) : SW X W (.BoolOp .Or [x] pos) a := pw_or1 h
theorem sw_and {x y : Expr} {r : List Expr} {a b : Te} (h : ST X W x a) (h' : SW X W (.BoolOp .And (y :: r) pos) b) : SW X W (.BoolOp .And (x :: y :: r) pos) (andT a b) := by
  refine PW.imp (pw_and h h') fun σ H Q ⟨φ, ρ, M, e, m, h⟩ => ?_
  refine ⟨φ, ρ, M, e, m, h.bind.mono fun φ1 H1 k M1 s1 m1 h1 => ?_⟩
  cases k with
  | true => exact ⟨φ1, ρ, M1, e.step m s1, m1, h1⟩
  | false => exact h1.here m1
theorem sw_or {x y : Expr} {r : List Expr} {a b : Te} (h : ST X W x a) (h' : SW X W (.BoolOp .Or (y :: r) pos) b) : SW X W (.BoolOp .Or (x :: y :: r) pos) (orT a b) := by
  refine PW.imp (pw_or h h') fun σ H Q ⟨φ, ρ, M, e, m, h⟩ => ?_
  refine ⟨φ, ρ, M, e, m, h.bind.mono fun φ1 H1 k M1 s1 m1 h1 => ?_⟩
  cases k with
  | true => exact h1.here m1
  | false => exact ⟨φ1, ρ, M1, e.step m s1, m1, h1⟩
theorem st_w {x : Expr} {a : Te} (h : SW X W x a) : ST X W x a := PW.pt h
theorem st_not {x : Expr} {a : Te} (h : ST X W x a) : ST X W (.UnaryOp .Not x pos) (notT a) := by
  refine PT.imp (pt_not h) fun σ H Q ⟨φ, ρ, M, e, m, h⟩ => ?_
  exact ⟨φ, ρ, M, e, m, h.bind.mono fun φ1 H1 k M1 s1 m1 h1 => h1.here m1⟩
def andE (a b : Ex) : Ex := fun ρ M => (a ρ M).bind fun x M => (isB x M).bind fun k M => if k = true then b ρ M else .ok (.bl false) M
def orE (a b : Ex) : Ex := fun ρ M => (a ρ M).bind fun x M => (isB x M).bind fun k M => if k = true then .ok (.bl true) M else b ρ M
def notE (a : Ex) : Ex := fun ρ M => (a ρ M).bind fun x M => (isB x M).bind fun k M => .ok (.bl (!k)) M
theorem se_one {op} {x : Expr} {a : Ex} (h : SE X W x a) : SE X W (.BoolOp op [x] pos) a := pe_one h
theorem se_and {x y : Expr} {r : List Expr} {a b : Ex} (h : SE X W x a) (h' : SE X W (.BoolOp .And (y :: r) pos) b) : SE X W (.BoolOp .And (x :: y :: r) pos) (andE a b) := by
  refine PE.imp (pe_and h h') fun σ H Q ⟨φ, ρ, M, e, m, h⟩ => ?_
  refine ⟨φ, ρ, M, e, m, h.bind.mono fun φ1 H1 d M1 s1 m1 h1 v dv => ?_⟩
  cases dv with
  | bl k =>
    refine ⟨k, rfl, ?_⟩
    cases k with
    | true => exact ⟨φ1, ρ, M1, e.step m s1, m1, h1⟩
    | false => exact h1.here m1 _ (.bl false)
  | _ => exact h1.elim
theorem se_or {x y : Expr} {r : List Expr} {a b : Ex} (h : SE X W x a) (h' : SE X W (.BoolOp .Or (y :: r) pos) b) : SE X W (.BoolOp .Or (x :: y :: r) pos) (orE a b) := by
  refine PE.imp (pe_or h h') fun σ H Q ⟨φ, ρ, M, e, m, h⟩ => ?_
  refine ⟨φ, ρ, M, e, m, h.bind.mono fun φ1 H1 d M1 s1 m1 h1 v dv => ?_⟩
  cases dv with
  | bl k =>
    refine ⟨k, rfl, ?_⟩
    cases k with
    | true => exact h1.here m1 _ (.bl true)
    | false => exact ⟨φ1, ρ, M1, e.step m s1, m1, h1⟩
  | _ => exact h1.elim
theorem se_not {x : Expr} {a : Ex} (h : SE X W x a) : SE X W (.UnaryOp .Not x pos) (notE a) := by
  refine PE.imp (pe_not h) fun σ H Q ⟨φ, ρ, M, e, m, h⟩ => ?_
  refine ⟨φ, ρ, M, e, m, h.bind.mono fun φ1 H1 d M1 s1 m1 h1 v dv => ?_⟩
  cases dv with
  | bl k => exact ⟨k, rfl, h1.here m1 _ (.bl _)⟩
  | _ => exact h1.elim
def ifE (t : Te) (a b : Ex) : Ex := fun ρ M => (t ρ M).bind fun k M => if k = true then a ρ M else b ρ M
theorem se_if {c x y : Expr} {t : Te} {a b : Ex} (hc : ST X W c t) (ha : SE X W x a) (hb : SE X W y b) : SE X W (.IfExp c x y pos) (ifE t a b) := by
  refine PE.imp (pe_ifExp hc ha hb) fun σ H Q ⟨φ, ρ, M, e, m, h⟩ => ?_
  refine ⟨φ, ρ, M, e, m, h.bind.mono fun φ1 H1 k M1 s1 m1 h1 => ?_⟩
  cases k with
  | true => exact ⟨φ1, ρ, M1, e.step m s1, m1, h1⟩
  | false => exact ⟨φ1, ρ, M1, e.step m s1, m1, h1⟩
end
end W8

set_option Elab.async false
set_option linter.all false
set_option maxRecDepth 100000
namespace W8
open PySem L2 PySem.Spec PyProof.Rows

/-- what the rules want of a context -/
structure Cok (X : Cx) (W : XK) : Prop where
  calm : X.calm = true
  nd : X.N.Nodup
  tk : Takes X (fun cls d _ H => W cls d H)
  po : PassesOwn (model X.prog X.w) X.A X.env X.xe
/-- nothing is raised -/
abbrev W0 : XK := fun _ _ _ => False

/-! ### statements -/
def skipS : Stt := fun ρ M => .ok (.nx ρ) M
def seqS (a b : Stt) : Stt := fun ρ M => (a ρ M).bind fun o M => match o with
  | .nx ρ' => b ρ' M
  | o => .ok o M
def retS (a : Ex) : Stt := fun ρ M => (a ρ M).bind fun d M => .ok (.rt d) M
def exprS (a : Ex) : Stt := fun ρ M => (a ρ M).bind fun _ M => .ok (.nx ρ) M
def ifS (t : Te) (a b : Stt) : Stt := fun ρ M => (t ρ M).bind fun k M => if k = true then a ρ M else b ρ M
def setS (i : Nat) (a : Ex) : Stt := fun ρ M => (a ρ M).bind fun d M => .ok (.nx (ρ.set i (some d))) M
section
variable {X : Cx} {W : XK} {pos : Pos}
theorem ss_nil : SSs X W [] skipS := PSs.imp pss_nil fun D σ H ⟨φ, ρ, M, e, m, h⟩ => h.here m σ e
theorem ss_cons {s : Stmt} {r : List Stmt} {a b : Stt} (h : SS X W s a) (h' : SSs X W r b) : SSs X W (s :: r) (seqS a b) := by
  refine PSs.imp (pss_cons h h') fun D σ H ⟨φ, ρ, M, e, m, h⟩ => ?_
  refine ⟨φ, ρ, M, e, m, h.bind.mono fun φ1 H1 o M1 s1 m1 h1 => ?_⟩
  cases o with
  | nx ρ' => exact fun σ' e' => ⟨φ1, ρ', M1, e', m1, h1⟩
  | rt d => exact h1.here m1
  | bk ρ' => exact h1.here m1
  | ct ρ' => exact h1.here m1
theorem ss_one {s : Stmt} {a : Stt} (h : SS X W s a) : SSs X W [s] a := pss_one h
theorem ss_ret {x : Expr} {a : Ex} (h : SE X W x a) : SS X W (.Return (some x) pos) (retS a) := by
  refine PS.imp (ps_ret h) fun D σ H ⟨φ, ρ, M, e, m, h⟩ => ?_
  exact ⟨φ, ρ, M, e, m, h.bind.mono fun φ1 H1 d M1 s1 m1 h1 => h1.here m1⟩
theorem ss_retN : SS X W (.Return none pos) (retS (con .non)) := by
  refine PS.imp ps_retN fun D σ H ⟨φ, ρ, M, e, m, h⟩ => ?_
  exact h.bind.here m |>.here m _ .non
theorem ss_pass : SS X W (.Pass pos) skipS := PS.imp ps_pass fun D σ H ⟨φ, ρ, M, e, m, h⟩ => h.here m σ e
theorem ss_break : SS X W (.Break pos) (fun ρ M => .ok (.bk ρ) M) := PS.imp ps_break fun D σ H ⟨φ, ρ, M, e, m, h⟩ => h.here m σ e
theorem ss_expr {x : Expr} {a : Ex} (h : SE X W x a) (hs : swapsWith x none pos.line X.env = pure false := by rfl) : SS X W (.Expr x pos) (exprS a) := by
  refine PS.imp (ps_expr h hs) fun D σ H ⟨φ, ρ, M, e, m, h⟩ => ?_
  exact ⟨φ, ρ, M, e, m, h.bind.mono fun φ1 H1 d M1 s1 m1 h1 v dv => h1.here m1 σ (e.step m s1)⟩
theorem ss_if {c : Expr} {x y : List Stmt} {t : Te} {a b : Stt} (hc : ST X W c t) (ha : SSs X W x a) (hb : SSs X W y b) : SS X W (.If c x y pos) (ifS t a b) := by
  refine PS.imp (ps_if hc ha hb) fun D σ H ⟨φ, ρ, M, e, m, h⟩ => ?_
  refine ⟨φ, ρ, M, e, m, h.bind.mono fun φ1 H1 k M1 s1 m1 h1 => ?_⟩
  cases k with
  | true => exact ⟨φ1, ρ, M1, e.step m s1, m1, h1⟩
  | false => exact ⟨φ1, ρ, M1, e.step m s1, m1, h1⟩
theorem ss_set {i : Nat} {x : Str} {y : Expr} {a : Ex} {pos' : Pos} (C : Cok X W) (hi : X.N[i]? = some x) (hx : Loc X.env.scope x) (h : SE X W y a) (hs : swapsWith y (some (.Name x pos')) pos.line X.env = pure false := by rfl)
    (hf : X.fn x = true ∨ X.env.scope.names.lookup x = some .local := by first | exact .inl rfl | exact .inr rfl | assumption) : SS X W (.Assign [.Name x pos'] y pos) (setS i a) := by
  refine PS.imp (ps_set C.nd hi hx h hs hf) fun D σ H ⟨φ, ρ, M, e, m, h⟩ => ?_
  exact ⟨φ, ρ, M, e, m, h.bind.mono fun φ1 H1 d M1 s1 m1 h1 v dv => h1.here m1 _ ((e.step m s1).set dv)⟩

/-! ### targets -/
inductive Tgt where
  | nm (i : Nat) | tp (is : List Nat)
def Tgt.slots : Tgt → List Nat
  | .nm i => [i]
  | .tp is => is
def sets : List Nat → List D → Env → Option Env
  | [], [], ρ => some ρ
  | i :: is, d :: ds, ρ => sets is ds (ρ.set i (some d))
  | _, _, _ => none
def Tgt.put (t : Tgt) (d : D) (ρ : Env) (M : Mem) : Option Env := match t, d with
  | .nm i, d => some (ρ.set i (some d))
  | .tp is, .tup ds => sets is ds ρ
  | .tp is, .rol ds => sets is ds ρ
  | .tp is, .ref n => match M[n]? with
    | some (.lst ds) => sets is ds ρ
    | _ => none
  | _, _ => none
def tT (g : G) (t : Tgt) : TG := fun v σ H Q => ∃ φ ρ M d ρ', ER g φ H ρ σ ∧ MR g φ M H ∧ DV g φ H d v ∧ t.put d ρ M = some ρ' ∧
  ∀ σ', ER g φ H ρ' σ' → σ'.length = σ.length → (∀ j, j ∉ t.slots → σ'[j]? = σ[j]?) → Q σ' H
def SG (X : Cx) (tg : Expr) (t : Tgt) : Prop := PG X tg (tT (gX X) t)
theorem PG.imp {tg : Expr} {t t' : TG} (h : PG X tg t) (k : ∀ v σ H Q, t' v σ H Q → t v σ H Q) : PG X tg t' := ⟨fun pins s σ H v u Q I r q => h.run pins s σ H v u Q I r (k _ _ _ _ q)⟩
theorem sg_nm {W : XK} (C : Cok X W) {i : Nat} {x : Str} (hi : X.N[i]? = some x) (hx : Loc X.env.scope x) (hf : X.fn x = true ∨ X.env.scope.names.lookup x = some .local := by first | exact .inl rfl | exact .inr rfl | assumption) : SG X (.Name x pos) (.nm i) := by
  refine PG.imp (pg_name C.nd hi hx hf) fun v σ H Q ⟨φ, ρ, M, d, ρ', e, m, dv, hp, k⟩ => ?_
  cases hp
  refine k _ (e.set dv) (by simp) fun j hj => ?_
  have : ¬ i = j := fun z => hj (by rw [z]; exact List.mem_singleton.mpr rfl)
  rw [List.getElem?_set_ne this]
/-- names one after another -/
def gSets : List Nat → TGs
  | [] => gNil
  | i :: is => gCons (gName i) (gSets is)
theorem sgs_nil : PGs X [] (gSets []) := pgs_nil
theorem sgs_cons {W : XK} (C : Cok X W) {i : Nat} {x : Str} {p : Pos} {es : List Expr} {is : List Nat} (hi : X.N[i]? = some x) (hx : Loc X.env.scope x) (h : PGs X es (gSets is)) (hf : X.fn x = true ∨ X.env.scope.names.lookup x = some .local := by first | exact .inl rfl | exact .inr rfl | assumption)
    (hs : (assignEach (.Name x p :: es) X.env).map (·.2) = assign (.Name x p) X.env :: (assignEach es X.env).map (·.2) := by rfl) : PGs X (.Name x p :: es) (gSets (i :: is)) := pgs_cons (pg_name C.nd hi hx hf) h hs
theorem gSets_of {g : G} {φ : List Addr} {H : Hp} {Q : L2.St → Hp → Prop} : ∀ {is : List Nat} {ds : List D} {vs : List V} {ρ ρ' : Env} {σ : L2.St}, ER g φ H ρ σ → DVs g φ H ds vs → sets is ds ρ = some ρ' →
    (∀ σ', ER g φ H ρ' σ' → σ'.length = σ.length → (∀ j, j ∉ is → σ'[j]? = σ[j]?) → Q σ' H) → gSets is vs σ H Q
  | [], _, _, _, _, _, e, .nil, hs, k => by
    cases hs
    exact ⟨rfl, k _ e rfl fun _ _ => rfl⟩
  | i :: is, _, _, _, _, _, e, .cons r t, hs, k => by
    refine ⟨_, _, rfl, gSets_of (e.set r) t hs fun σ' e' hl hk => k σ' e' (by rw [hl]; simp) fun j hj => ?_⟩
    rw [hk j (fun z => hj (List.mem_cons_of_mem _ z))]
    have : ¬ i = j := fun z => hj (by rw [z]; exact List.mem_cons_self)
    rw [List.getElem?_set_ne this]
theorem sg_tp {W : XK} (C : Cok X W) {es : List Expr} {k : Nat} {is : List Nat} (h : PGs X es (gSets is)) (hn : (assignEach es X.env).length = is.length := by rfl) (hst : (assignEach es X.env).findIdx? (·.1) = none := by rfl) : SG X (.Tuple es k pos) (.tp is) := by
  have sl : ∀ {is : List Nat} {ds : List D} {ρ ρ' : Env}, sets is ds ρ = some ρ' → ds.length = is.length := by
    intro is
    induction is with
    | nil => intro ds ρ ρ' h; cases ds with
      | nil => rfl
      | cons _ _ => cases h
    | cons i is ih => intro ds ρ ρ' h; cases ds with
      | nil => cases h
      | cons d ds => simp [ih h]
  refine ⟨fun pins s σ H v u Q I r ⟨φ, ρ, M, d, ρ', e, m, dv, hp, kk⟩ => ?_⟩
  cases dv with
  | tup hq dvs => exact (pg_tup (k := k) (pos := pos) C.calm h hn hst).run pins s σ H _ u Q I r ⟨_, _, rfl, hq, by rw [← dvs.length]; exact sl hp, gSets_of e dvs hp kk⟩
  | rol hq dvs => exact (pg_unl (k := k) (pos := pos) C.calm h hn hst).run pins s σ H _ u Q I r ⟨_, _, rfl, hq.seq, by rw [← dvs.length]; exact sl hp, gSets_of e dvs hp kk⟩
  | @ref n a ha =>
    have hp : (match M[n]? with | some (.lst ds) => sets is ds ρ | _ => none) = some ρ' := hp
    split at hp
    · rename_i ds he
      obtain ⟨xs, h1, dvs⟩ := m.lst he ha
      exact (pg_unl (k := k) (pos := pos) C.calm h hn hst).run pins s σ H _ u Q I r ⟨_, _, rfl, SqL.of h1, by rw [← dvs.length]; exact sl hp, gSets_of e dvs hp kk⟩
    · cases hp
  | _ => cases hp
def asgS (t : Tgt) (a : Ex) : Stt := fun ρ M => (a ρ M).bind fun d M => match t.put d ρ M with
  | some ρ' => .ok (.nx ρ') M
  | none => .bad
theorem ss_asg {tg y : Expr} {t : Tgt} {a : Ex} (h : SE X W y a) (ht : SG X tg t) (hs : swapsWithSole [tg] y pos.line X.env = pure false := by rfl) (hw : swappedStores [tg] y X.env = pure none := by rfl)
    (h1 : (assignEach [tg] X.env).map (·.2) = [assign tg X.env] := by rfl) : SS X W (.Assign [tg] y pos) (asgS t a) := by
  refine PS.imp (ps_asg h ht hs hw h1) fun D σ H ⟨φ, ρ, M, e, m, h⟩ => ?_
  refine ⟨φ, ρ, M, e, m, h.bind.mono fun φ1 H1 d M1 s1 m1 h1 v dv => ?_⟩
  split at h1
  · rename_i ρ' hp
    exact ⟨φ1, ρ, M1, d, ρ', e.step m s1, m1, dv, hp, fun σ' e' _ _ => h1.here m1 σ' e'⟩
  · exact h1.elim
/-- a, b = (x, y) with plain local names -/
def parS (i j : Nat) (as : Exs) : Stt := fun ρ M => (as ρ M).bind fun ds M => match ds with
  | [a, b] => .ok (.nx ((ρ.set i (some a)).set j (some b))) M
  | _ => .bad
theorem ss_par {i j : Nat} {x y : Str} {a b : Expr} {as : Exs} {px py pt : Pos} {kt k2 pt2} (C : Cok X W) (hi : X.N[i]? = some x) (hj : X.N[j]? = some y) (hij : i ≠ j)
    (hx : X.env.scope.names.lookup x = some .local) (hy : X.env.scope.names.lookup y = some .local) (ha : SA X W [a, b] as)
    (hw : swappedStores [.Tuple [.Name x px, .Name y py] kt pt] (.Tuple [a, b] k2 pt2) X.env = pure (some [x, y]))
    (hs : swapsWithSole [.Tuple [.Name x px, .Name y py] kt pt] (.Tuple [a, b] k2 pt2) pos.line X.env = pure false := by rfl) :
    SS X W (.Assign [.Tuple [.Name x px, .Name y py] kt pt] (.Tuple [a, b] k2 pt2) pos) (parS i j as) := by
  refine PS.imp (ps_par C.calm C.nd hi hj hij hx hy ha hw hs) fun D σ H ⟨φ, ρ, M, e, m, h⟩ => ?_
  refine ⟨φ, ρ, M, e, m, h.bind.mono fun φ1 H1 ds M1 s1 m1 h1 vs dvs => ?_⟩
  match ds, vs, dvs, h1 with
  | [a, b], _, .cons ra (.cons rb .nil), h1 => exact ⟨_, _, rfl, h1.here m1 _ (((e.step m s1).set ra).set rb)⟩

/-! ### while -/
def whN : Nat → Te → Stt → Stt
  | 0, _, _ => fun _ _ => .bad
  | n + 1, c, b => fun ρ M => (c ρ M).bind fun k M => if k = true then (b ρ M).bind fun o M => (match o with
      | .nx ρ' => whN n c b ρ' M
      | .ct ρ' => whN n c b ρ' M
      | .bk ρ' => .ok (.nx ρ') M
      | .rt d => .ok (.rt d) M)
    else .ok (.nx ρ) M
theorem ss_while {c : Expr} {body : List Stmt} {t : Te} {b : Stt} {n : Nat} (C : Cok X W) (hc : ST X W c t) (hb : SSs X W body b) : SS X W (.While c body [] pos) (whN n t b) := by
  refine PS.imp (ps_while C.po hc hb) fun D σ H ⟨φ, ρ, M, e, m, h⟩ => ?_
  refine ⟨fun k σ H => ∃ φ ρ M, ER (gX X) φ H ρ σ ∧ MR (gX X) φ M H ∧ Wp (gX X) W φ H (whN k t b ρ M) fun φ' H' o _ => Po (gX X) D φ' H' o, ⟨n, φ, ρ, M, e, m, h⟩, ?_⟩
  rintro k σ H ⟨φ, ρ, M, e, m, h⟩
  cases k with
  | zero => exact h.elim
  | succ k =>
    have h : Wp (gX X) W φ H ((t ρ M).bind fun k1 M => if k1 = true then (b ρ M).bind fun o M => (match o with
      | .nx ρ' => whN k t b ρ' M
      | .ct ρ' => whN k t b ρ' M
      | .bk ρ' => .ok (.nx ρ') M
      | .rt d => .ok (.rt d) M)
      else .ok (.nx ρ) M) _ := h
    refine ⟨φ, ρ, M, e, m, h.bind.mono fun φ1 H1 k1 M1 s1 m1 h1 => ?_⟩
    cases k1 with
    | false =>
      rw [if_neg Bool.false_ne_true] at h1 ⊢
      exact h1.here m1 σ (e.step m s1)
    | true =>
      rw [if_pos rfl] at h1 ⊢
      refine ⟨fun σ' H' => ∃ φ ρ M, ER (gX X) φ H' ρ σ' ∧ MR (gX X) φ M H' ∧ Wp (gX X) W φ H' (whN k t b ρ M) fun φ' H' o _ => Po (gX X) D φ' H' o, fun σ' H' q => ⟨k, Nat.lt_succ_self _, q⟩, ?_⟩
      refine ⟨φ1, ρ, M1, e.step m s1, m1, h1.bind.mono fun φ2 H2 o M2 s2 m2 h2 => ?_⟩
      cases o with
      | nx ρ' => exact fun σ' e' => ⟨φ2, ρ', M2, e', m2, h2⟩
      | ct ρ' => exact fun σ' e' => ⟨φ2, ρ', M2, e', m2, h2⟩
      | bk ρ' => exact fun σ' e' => h2.here m2 σ' e'
      | rt d => exact fun v dv => h2.here m2 v dv

/-! ### what is walked: its items, and the lists that have to stay -/
structure Its where
  items : List D
  held : List (Nat × List D)
def Its.ok (x : Its) (M : Mem) : Prop := ∀ p ∈ x.held, M[p.1]? = some (.lst p.2)
/-- the iterator J yields x's items -/
def ItR (g : G) (φ0 : List Addr) (H0 : Hp) (J : It) (x : Its) : Prop := ∀ φ H M, Step φ0 H0 φ H → MR g φ M H → x.ok M → ∀ i : Nat,
  (∀ d, x.items[i]? = some d → J.go i H ∧ ∀ v H', J.yld i H v H' → Step φ H φ H' ∧ MR g φ M H' ∧ DV g φ H' d v) ∧ (i = x.items.length → J.stop i H)
abbrev Ie := Env → Mem → R Its
def tI (g : G) (W : XK) (m : Ie) : TI := fun σ H Q => ∃ φ ρ M, ER g φ H ρ σ ∧ MR g φ M H ∧ Wp g W φ H (m ρ M) fun φ' H' x _ => ∀ J, ItR g φ' H' J x → Q J H'
def SI (X : Cx) (W : XK) (tg e : Expr) (m : Ie) : Prop := PI X tg e (tI (gX X) W m)
theorem PI.imp {tg e : Expr} {t t' : TI} (h : PI X tg e t) (k : ∀ σ H Q, t' σ H Q → t σ H Q) : PI X tg e t' := ⟨fun pins s σ H Q I q => h.run pins s σ H Q I (k _ _ _ q)⟩

open Classical in
noncomputable def forL (x : Its) (t : Tgt) (b : Stt) : List D → Stt
  | [] => fun ρ M => if x.ok M then .ok (.nx ρ) M else .bad
  | d :: r => fun ρ M => if x.ok M then (match t.put d ρ M with
      | none => .bad
      | some ρ1 => (b ρ1 M).bind fun o M => match o with
        | .nx ρ' => forL x t b r ρ' M
        | .ct ρ' => forL x t b r ρ' M
        | .bk ρ' => .ok (.nx ρ') M
        | .rt d => .ok (.rt d) M) else .bad
noncomputable def forS (it : Ie) (t : Tgt) (b : Stt) : Stt := fun ρ M => (it ρ M).bind fun x M => forL x t b x.items ρ M
theorem ss_for {tg iter : Expr} {body : List Stmt} {it : Ie} {t : Tgt} {b : Stt} (C : Cok X W) (hi : SI X W tg iter it) (hg : SG X tg t) (hb : SSs X W body b) (hs : ∀ x, foldedSetIterable iter X.env x = pure x := by intro _; rfl) :
    SS X W (.For tg iter body [] pos) (forS it t b) := by
  refine PS.imp (ps_for C.po C.calm hi hg hb hs) fun D σ H ⟨φ, ρ, M, e, m, h⟩ => ?_
  refine ⟨φ, ρ, M, e, m, h.bind.mono fun φ0 H0 x M0 s0 m0 h0 J hJ => ?_⟩
  refine ⟨fun i k σ H => k = x.items.length - i ∧ i ≤ x.items.length ∧ ∃ φ ρ M, Step φ0 H0 φ H ∧ ER (gX X) φ H ρ σ ∧ MR (gX X) φ M H ∧ Wp (gX X) W φ H (forL x t b (x.items.drop i) ρ M) fun φ' H' o _ => Po (gX X) D φ' H' o,
    ⟨_, rfl, Nat.zero_le _, φ0, ρ, M0, Step.refl _ _, e.step m s0, m0, by simpa using h0⟩, ?_⟩
  rintro i k σ H ⟨rfl, hi, φ, ρ, M, s, e, m, h⟩
  cases hd : x.items[i]? with
  | none =>
    have hl : x.items.length ≤ i := List.getElem?_eq_none_iff.mp hd
    rw [List.drop_eq_nil_of_le hl] at h
    unfold forL at h
    split at h
    · rename_i hok
      exact .inl ⟨(hJ φ H M s m hok i).2 (Nat.le_antisymm hi hl), h.here m σ e⟩
    · exact h.elim
  | some d =>
    have hl : i < x.items.length := (List.getElem?_eq_some_iff.mp hd).1
    have ed : x.items.drop i = d :: x.items.drop (i + 1) := by rw [List.drop_eq_getElem_cons hl, (List.getElem?_eq_some_iff.mp hd).2]
    rw [ed] at h
    unfold forL at h
    split at h
    · rename_i hok
      obtain ⟨hgo, hy⟩ := (hJ φ H M s m hok i).1 d hd
      refine .inr ⟨hgo, fun σ' H' => ∃ φ ρ M, Step φ0 H0 φ H' ∧ ER (gX X) φ H' ρ σ' ∧ MR (gX X) φ M H' ∧ Wp (gX X) W φ H' (forL x t b (x.items.drop (i + 1)) ρ M) fun φ' H' o _ => Po (gX X) D φ' H' o,
        fun σ' H' q => ⟨_, by omega, rfl, hl, q⟩, fun v H' hyl => ?_⟩
      obtain ⟨s1, m1, dv⟩ := hy v H' hyl
      split at h
      · exact h.elim
      · rename_i ρ1 hp
        refine ⟨φ, ρ, M, d, ρ1, e.step m s1, m1, dv, hp, fun σ' e' _ _ => ?_⟩
        refine ⟨φ, ρ1, M, e', m1, (h.step s1).bind.mono fun φ2 H2 o M2 s2 m2 h2 => ?_⟩
        cases o with
        | nx ρ' => exact fun σ' e' => ⟨φ2, ρ', M2, (s.trans s1).trans s2, e', m2, h2⟩
        | ct ρ' => exact fun σ' e' => ⟨φ2, ρ', M2, (s.trans s1).trans s2, e', m2, h2⟩
        | bk ρ' => exact fun σ' e' => h2.here m2 σ' e'
        | rt d => exact fun v dv => h2.here m2 v dv
    · exact h.elim
end
end W8

set_option Elab.async false
set_option linter.all false
set_option maxRecDepth 100000
set_option maxHeartbeats 1000000
namespace W8
open PySem L2 PySem.Spec PyProof.Rows

/-! ### a list (false) or a tuple (true), what walks it -/
def SqK (K : PySem.W.Frag) (H : Hp) (k : Bool) (a : Addr) (xs : List V) : Prop := match k with
  | true => SqT K H a xs
  | false => SqL K H a xs
def KIt (h : Heap) (k : Bool) (it a : Addr) (i : Nat) : Prop := match k with
  | true => h.IsTupleIter it a i
  | false => h.IsListIter it a i
def KHas (h : Heap) (k : Bool) (a : Addr) (its : Array Value) : Prop := match k with
  | true => h.IsTuple a its
  | false => h.IsList a its
def kObj (k : Bool) (a : Addr) : Obj := match k with
  | true => { cls := .type "tuple_iterator", data := .fields #[.ref a, .int 0 0] }
  | false => { cls := .type "list_iterator", data := .fields #[.ref a, .int 0 0] }
section
variable {h h' : Heap} {k : Bool} {it a : Addr} {i : Nat} {its : Array Value}
theorem KIt.at (x : KIt h k it a i) (e : ∀ o, h.get? it = some o → h'.get? it = some o) : KIt h' k it a i := by
  cases k with
  | true => exact Heap.IsTupleIter.at x e
  | false => exact Heap.IsListIter.at x e
theorem KIt.obj (x : KIt h k it a i) : ∃ o, h.get? it = some o ∧ ∀ v, o.data ≠ .cell v := by
  cases k with
  | true => obtain ⟨o, e, _, d⟩ := x; exact ⟨o, e, fun v z => by rw [d] at z; cases z⟩
  | false => obtain ⟨o, e, _, d⟩ := x; exact ⟨o, e, fun v z => by rw [d] at z; cases z⟩
theorem kIt_new (e : h.get? it = some (kObj k a)) : KIt h k it a 0 := by
  cases k with
  | true => exact ⟨_, e, rfl, rfl⟩
  | false => exact ⟨_, e, rfl, rfl⟩
theorem draws_k {prog : Program} {w : World} {A : Around} (hh : A.handled = none) (k : Bool) (it a : Addr) (hne : a ≠ it) (its : Array Value) :
    Draws prog w A it [it, a] its.size (fun i v => its[i]? = some v) (fun i h => KIt h k it a i ∧ KHas h k a its) := by
  cases k with
  | true => exact Draws.tuple hh it a hne its
  | false => exact Draws.list hh it a hne its
theorem begins_k (k : Bool) (a : Addr) (its : Array Value) : Begins (.ref a) (kObj k a) fun h => KHas h k a its := by
  cases k with
  | true => exact begins_tuple a its
  | false => exact begins_list a its
end
theorem SqK.has {X : Cx} {pins : List (Addr × Obj)} {σ : L2.St} {H : Hp} {s : Shared} {k : Bool} {a : Addr} {xs : List V} (I : Inv X pins σ H s) (h : SqK X.K H k a xs) :
    ∃ its : List Value, Vals xs its ∧ KHas s.heap k a its.toArray ∧ a < s.heap.objs.size := by
  cases k with
  | true =>
    obtain ⟨its, r, p, _⟩ := I.tuple h
    exact ⟨its, r, p, p.lt⟩
  | false =>
    obtain ⟨its, r, p, _⟩ := I.list h
    exact ⟨its, r, p.isList, p.lt⟩
theorem SqK.inj {X : Cx} {pins : List (Addr × Obj)} {σ : L2.St} {H : Hp} {s : Shared} {k : Bool} {a : Addr} {xs ys : List V} (I : Inv X pins σ H s) (h : SqK X.K H k a xs) (h' : SqK X.K H k a ys) : xs = ys := by
  cases k with
  | true => exact I.tuple_inj h h'
  | false => exact I.list_inj h h'

/-! ### enumerate -/
def Iek (K : PySem.W.Frag) (k : Bool) (a : Addr) : It :=
  ⟨fun i H => ∃ (xs : List V) (x : V), SqK K H k a xs ∧ xs[i]? = some x,
   fun i H v H' => ∃ T x, v = .ref T ∧ H T = none ∧ H' = upd H T (.tup [.int (i : Nat), x]) ∧ ∀ xs, SqK K H k a xs → xs[i]? = some x,
   fun i H => ∃ xs : List V, SqK K H k a xs ∧ xs.length = i⟩
theorem turn_ek {P : Program} {w : World} {K : PySem.W.Frag} {elts : List Expr} {kk : Nat} {tpos : Pos} (k : Bool) (a e it : Addr) :
    Turn P w K (.Tuple elts kk tpos) (Iek K k a) [e, it] e (fun i h => (∃ old, IsEnum h e it ((i : Nat) : Int) old) ∧ KIt h k it a i ∧ e ≠ it ∧ e ≠ a ∧ a ≠ it) where
  mem := List.mem_cons_self
  obj := fun i h st b hb => by
    obtain ⟨⟨old, he⟩, hi, _⟩ := st
    rcases List.mem_cons.mp hb with z | hb
    · rw [z]; exact ⟨_, he, fun v q => nomatch q⟩
    · rw [List.mem_singleton.mp hb]; exact hi.obj
  keep := fun i h h' ⟨⟨old, he⟩, hi, r⟩ kp => ⟨⟨old, kp e List.mem_cons_self _ he⟩, hi.at fun o q => kp it (List.mem_cons_of_mem _ List.mem_cons_self) o q, r⟩
  item := by
    intro X hP hw hK hc i pins s σ H E I hf st hg
    subst hP hw hK
    obtain ⟨⟨old, he⟩, hit, n1, n2, n3⟩ := st
    obtain ⟨xs, x, hq, hx⟩ := hg
    obtain ⟨its, rv, p, hal⟩ := hq.has I
    obtain ⟨u, hu, ru⟩ := rv.get hx
    have hel : e < s.heap.objs.size := Heap.lt_size he
    have hil : it < s.heap.objs.size := by obtain ⟨o, q, _⟩ := hit.obj; exact Heap.lt_size q
    have hlt : i < its.toArray.size := by have := (List.getElem?_eq_some_iff.mp hu).1; simpa using this
    have D := draws_k (prog := X.prog) (w := X.w) (A := X.A.in1) (I.ok.hd hc) k it a n3 its.toArray
    refine wpAny_pyNext_enum_itemC D he ⟨hit, p⟩ hlt n1 (by simp [n1, n2]) fun y h' tk hy ho hs' hT hsz hk => ?_
    have ey : y = u := by
      have q : its[i]? = some y := by simpa using hy
      rw [hu] at q; exact (Option.some.inj q).symm
    subst ey
    refine ⟨_, rfl, wpAny_letOwnedTupleGo_enum (s := { s with heap := h', toks := tk + 1 }) ho fun h'' he' sb => ?_⟩
    have hT2 : h''.get? s.heap.objs.size = some { cls := .type "tuple", data := .seq #[.int i tk, y] } := (sb.2 _ (Nat.ne_of_gt hel)).trans hT
    have nw : ObjOk X.prog X.w (upd H s.heap.objs.size (.tup [.int (i : Nat), x])) h'' s.heap.objs.size (.tup [.int (i : Nat), x]) :=
      ⟨by show 2 ≤ sizeLine; decide, [.int i tk, y], .cons ⟨_, rfl⟩ (.cons ru .nil), ⟨_, hT2, rfl, _, rfl⟩⟩
    have I1 : Inv X pins σ (upd H s.heap.objs.size (.tup [.int (i : Nat), x])) { s with heap := h'', toks := tk + 1 } :=
      I.turnedNew (ch := [e, it]) (fun b ob hb q => by
        have b1 : b ≠ e := fun z => hb (z ▸ List.mem_cons_self)
        have b2 : b ≠ it := fun z => hb (z ▸ List.mem_cons_of_mem _ List.mem_cons_self)
        exact (sb.2 b b1).trans (hk b ob b1 b2 q)) hf (Nat.le_refl _) nw
    refine ⟨.ref s.heap.objs.size, _, I1, rfl, ⟨_, x, rfl, I.hok.fresh (Nat.le_refl _), rfl, fun ys hy => by rw [hy.inj I hq]; exact hx⟩, ⟨⟨y, ?_⟩, hs'.1.at fun o q => (sb.2 it (Ne.symm n1)).trans q, n1, n2, n3⟩, fun b hb => ?_⟩
    · have e1 : ((i + 1 : Nat) : Int) = (i : Int) + 1 := by omega
      rw [e1]; exact he'
    · have hb' : b < s.heap.objs.size := by
        rcases List.mem_cons.mp hb with z | z
        · rw [z]; exact hel
        · rw [List.mem_singleton.mp z]; exact hil
      rw [upd_ne (Nat.ne_of_lt hb')]
      exact (hf b hb).1
  done := by
    intro X hP hw hK hc i pins s σ H E I hf st hg
    subst hP hw hK
    obtain ⟨⟨old, he⟩, hit, n1, n2, n3⟩ := st
    obtain ⟨xs, hq, hx⟩ := hg
    obtain ⟨its, rv, p, hal⟩ := hq.has I
    obtain ⟨f0, f1, f2, f3, f4, f5⟩ := hf it (List.mem_cons_of_mem _ List.mem_cons_self)
    have D := draws_k (prog := X.prog) (w := X.w) (A := X.A.in1) (I.ok.hd hc) k it a n3 its.toArray
    have hn : its.toArray.size = i := by rw [← hx, rv.length]; simp
    exact wpAny_pyNext_enum_endD D he (by rw [hn]; exact ⟨hit, p⟩) fun h' eb => ⟨rfl, I.turned (t' := s.toks) (fun b o hb q => eb b o hb q) f0 f1 f3 f4 f5⟩
  self := fun A i s Q E ⟨⟨_, he⟩, _⟩ h => wpAny_pyIter_enum he h

theorem meets_en1 {v : Value} {o : Obj} {T : Heap → Prop} (B : Begins v o T) :
    Meets (Builtin.«enumerate.__new__» ⟨[.type "enumerate", v], []⟩) (fun _ R s => T s.heap ∧
      R (.ok (.ret (.ref (s.heap.push o).objs.size))) { s with heap := (s.heap.push o).push { cls := .type "enumerate", data := .fields #[.none, .bool false, .ref s.heap.objs.size, rawInt 0, .none, .none] } }) :=
  .of_wp fun prog w A R s h => by
    obtain ⟨hp, gs, dr, tk, os⟩ := s
    obtain ⟨ht, h⟩ := h
    have hsub := sub_enumerate
    have it1 : ∀ {A' : Around} {E : Value → Shared → Prop} {Q : Value → Shared → Prop}, Q (.ref hp.objs.size) ⟨hp.push o, gs, dr, tk, os⟩ → wpAny (model prog w) A' (pyIter v) Q E ⟨hp, gs, dr, tk, os⟩ :=
      fun q => B.iter prog w _ _ ⟨hp, gs, dr, tk, os⟩ _ ht q
    wp_walk using it1
    refine wpAny_stack_any fun st => wpAny_pure ?_
    split
    · rename_i cc _ _ _ _ _
      cases (cc == Value.type "enumerate") <;> (wp_walk using it1; exact ⟨_, rfl, h⟩)
    · wp_walk using it1
      exact ⟨_, rfl, h⟩
theorem call_en1 {prog : Program} {w : World} {A : Around} {E : Value → Shared → Prop} {s : Shared} {v : Value} {o : Obj} {T : Heap → Prop} {Q : Value → Shared → Prop} (B : Begins v o T) (ht : T s.heap)
    (h : ∀ h', IsEnum h' (s.heap.objs.size + 1) s.heap.objs.size 0 .none → h'.get? s.heap.objs.size = some o → (∀ b u, s.heap.get? b = some u → h'.get? b = some u) → Q (.ref (s.heap.objs.size + 1)) { s with heap := h' }) :
    wpAny (model prog w) A (call (.type "enumerate") [v]) Q E s := by
  refine callType_new F.called_enumerate (by decide) (F.typeCall_enumerate_1 _) (F.newCall_enumerate_1 _) (fun obj => F.args_object_init_2 obj _) F.entry_enumerate_new (meets_en1 B) ⟨ht, ?_⟩
  have hz : (s.heap.push o).objs.size = s.heap.objs.size + 1 := Heap.size_push ..
  show _ ∧ _
  rw [hz]
  have he : IsEnum ((s.heap.push o).push { cls := .type "enumerate", data := .fields #[.none, .bool false, .ref s.heap.objs.size, rawInt 0, .none, .none] }) (s.heap.objs.size + 1) s.heap.objs.size 0 .none := by
    have q := Heap.get?_push_size (s.heap.push o) (o := { cls := .type "enumerate", data := .fields #[.none, .bool false, .ref s.heap.objs.size, rawInt 0, .none, .none] }) rfl
    rw [hz] at q; exact q
  exact ⟨⟨_, he, rfl⟩, h _ he (Heap.get?_push_of_some _ (Heap.get?_push_size _ B.free)) fun b u z => Heap.get?_push_of_some _ (Heap.get?_push_of_some _ z)⟩
def iEk (K : PySem.W.Frag) (ta : TA) : TI := fun σ H R => ta σ H fun vs H1 => ∃ k a xs, vs = [.ref a] ∧ SqK K H1 k a xs ∧ R (Iek K k a) H1
theorem pi_ek {X : Cx} {e : Expr} {ta : TA} {p pos tpos : Pos} {elts : List Expr} {kk : Nat} (hg : Gl X "enumerate") (hm : X.mg "enumerate" = none) (ha : PA X [e] ta) (hs : starEach [e] X.env = [(false, eval e X.env)] := by rfl) :
    PI X (.Tuple elts kk tpos) (.Call (.Name "enumerate" p) [e] [] pos) (iEk X.K ta) := by
  refine ⟨fun pins s σ H R I h => ?_⟩
  refine Call_ (ld_blt I hg hm boot_enumerate (PyProof.Rows.callWith_type1 (thn (ha.run pos pins s σ H _ I h) fun us s1 ⟨vs, H1, I1, r1, q1⟩ => ?_) hs rfl))
  obtain ⟨k, a, xs, ex, hq, q⟩ := q1
  subst ex
  cases r1 with
  | cons r rr =>
    cases rr
    cases r
    obtain ⟨its, rv, p', hal⟩ := hq.has I1
    refine call_en1 (begins_k k a its.toArray) p' fun h' he hob hk => wpAny_pyIter_enum he ?_
    have I2 : Inv X pins σ H1 { s1 with heap := h' } := I1.kept (t' := s1.toks) hk
    refine ⟨s1.heap.objs.size + 1, [s1.heap.objs.size + 1, s1.heap.objs.size], _, _, H1, rfl, I2, turn_ek k a (s1.heap.objs.size + 1) s1.heap.objs.size, ⟨⟨.none, he⟩, kIt_new hob, Nat.succ_ne_self _, fun z => ?_, Nat.ne_of_lt hal⟩, fun b hb => ?_, q⟩
    · exact absurd (z ▸ hal : s1.heap.objs.size + 1 < s1.heap.objs.size) (by omega)
    · have hle : s1.heap.objs.size ≤ b := by
        rcases List.mem_cons.mp hb with z | z
        · rw [z]; exact Nat.le_add_right _ _
        · rw [List.mem_singleton.mp z]; exact Nat.le_refl _
      exact I1.fpOk hle (I1.hok.fresh hle)

/-! ### zip of two -/
def Izk (K : PySem.W.Frag) (k : Bool) (a : Addr) (l : Bool) (b : Addr) : It :=
  ⟨fun i H => ∃ (xs ys : List V) (x y : V), SqK K H k a xs ∧ SqK K H l b ys ∧ xs[i]? = some x ∧ ys[i]? = some y,
   fun i H v H' => ∃ T x y, v = .ref T ∧ H T = none ∧ H' = upd H T (.tup [x, y]) ∧ (∀ xs, SqK K H k a xs → xs[i]? = some x) ∧ ∀ ys, SqK K H l b ys → ys[i]? = some y,
   fun i H => ∃ xs ys : List V, SqK K H k a xs ∧ SqK K H l b ys ∧ i ≤ xs.length ∧ i ≤ ys.length ∧ (i = xs.length ∨ i = ys.length)⟩
theorem turn_zk {P : Program} {w : World} {K : PySem.W.Frag} {elts : List Expr} {kk : Nat} {tpos : Pos} (k l : Bool) {a b z TI TO i1 i2 : Addr} (S : ZipSep2 z TI TO i1 i2 [i1, a] [i2, b]) (na : a ≠ i1) (nb : b ≠ i2) :
    Turn P w K (.Tuple elts kk tpos) (Izk K k a l b) [z, TI, TO, i1, i2] z (fun i h => IsZip h z TI TO .none ∧ IsTupOf2 h TI (.ref i1) (.ref i2) ∧ (∃ x y, IsTupOf2 h TO x y) ∧ KIt h k i1 a i ∧ KIt h l i2 b i) where
  mem := List.mem_cons_self
  obj := fun i h st c hc => by
    obtain ⟨hz, hTI, ⟨x, y, hTO⟩, h1, h2⟩ := st
    have e' : c = z ∨ c = TI ∨ c = TO ∨ c = i1 ∨ c = i2 := by simpa using hc
    rcases e' with q | q | q | q | q
    · rw [q]; exact ⟨_, hz, fun v q => nomatch q⟩
    · rw [q]; exact ⟨_, hTI, fun v q => nomatch q⟩
    · rw [q]; exact ⟨_, hTO, fun v q => nomatch q⟩
    · rw [q]; exact h1.obj
    · rw [q]; exact h2.obj
  keep := fun i h h' ⟨hz, hTI, ⟨x, y, hTO⟩, h1, h2⟩ kp =>
    ⟨kp z (by simp) _ hz, kp TI (by simp) _ hTI, ⟨x, y, kp TO (by simp) _ hTO⟩, h1.at fun o q => kp i1 (by simp) o q, h2.at fun o q => kp i2 (by simp) o q⟩
  item := by
    intro X hP hw hK hc i pins s σ H E I hf st hg
    subst hP hw hK
    obtain ⟨hz, hTI, ⟨x0, y0, hTO⟩, h1, h2⟩ := st
    obtain ⟨xs, ys, x, y, hqx, hqy, hx, hy⟩ := hg
    obtain ⟨its, rv, p, _⟩ := hqx.has I
    obtain ⟨its2, rv2, p2, _⟩ := hqy.has I
    obtain ⟨u, hu, ru⟩ := rv.get hx
    obtain ⟨u2, hu2, ru2⟩ := rv2.get hy
    have hzl : z < s.heap.objs.size := Heap.lt_size hz
    have l1 : i < its.toArray.size := by have := (List.getElem?_eq_some_iff.mp hu).1; simpa using this
    have l2 : i < its2.toArray.size := by have := (List.getElem?_eq_some_iff.mp hu2).1; simpa using this
    have D1 := draws_k (prog := X.prog) (w := X.w) (A := X.A.in1) (I.ok.hd hc) k i1 a na its.toArray
    have D2 := draws_k (prog := X.prog) (w := X.w) (A := X.A.in1) (I.ok.hd hc) l i2 b nb its2.toArray
    refine wpAny_pyNext_zipD2_item S D1 D2 hz hTI hTO ⟨h1, p⟩ ⟨h2, p2⟩ l1 l2 fun y1 y2 h' tk e1 e2 z' TO' t1 t2 hT hsz hk => ?_
    have ey1 : y1 = u := by
      have q : its[i]? = some y1 := by simpa using e1
      rw [hu] at q; exact (Option.some.inj q).symm
    have ey2 : y2 = u2 := by
      have q : its2[i]? = some y2 := by simpa using e2
      rw [hu2] at q; exact (Option.some.inj q).symm
    subst ey1 ey2
    refine ⟨_, rfl, wpAny_letOwnedTupleGo_zip (s := { s with heap := h', toks := tk }) z' fun h'' z'' sb => ?_⟩
    have hT2 : h''.get? s.heap.objs.size = some { cls := .type "tuple", data := .seq #[y1, y2] } := (sb.2 _ (Nat.ne_of_gt hzl)).trans hT
    have nw : ObjOk X.prog X.w (upd H s.heap.objs.size (.tup [x, y])) h'' s.heap.objs.size (.tup [x, y]) :=
      ⟨by show 2 ≤ sizeLine; decide, [y1, y2], .cons ru (.cons ru2 .nil), ⟨_, hT2, rfl, _, rfl⟩⟩
    have I1 : Inv X pins σ (upd H s.heap.objs.size (.tup [x, y])) { s with heap := h'', toks := tk } :=
      I.turnedNew (t' := tk) (ch := [z, TI, TO, i1, i2]) (fun c o hb q => by
        simp only [List.mem_cons, List.not_mem_nil, or_false, not_or] at hb
        exact (sb.2 c hb.1).trans (hk c o hb.1 hb.2.2.1 hb.2.2.2.1 hb.2.2.2.2 q)) hf (Nat.le_refl _) nw
    have nz1 : i1 ≠ z := fun q => S.zf1 (q ▸ List.mem_cons_self)
    have nz2 : i2 ≠ z := fun q => S.zf2 (q ▸ List.mem_cons_self)
    have nt1 : TO ≠ i1 := fun q => S.Tf1 (q ▸ List.mem_cons_self)
    have nt2 : TO ≠ i2 := fun q => S.Tf2 (q ▸ List.mem_cons_self)
    refine ⟨.ref s.heap.objs.size, _, I1, rfl, ⟨_, x, y, rfl, I.hok.fresh (Nat.le_refl _), rfl, fun r hr => by rw [hr.inj I hqx]; exact hx, fun r hr => by rw [hr.inj I hqy]; exact hy⟩, ⟨z'', ?_, ⟨y1, y2, ?_⟩, ?_, ?_⟩, fun c hcm => ?_⟩
    · exact (sb.2 _ S.TIz).trans (hk _ _ S.TIz S.TITO S.TIi1 S.TIi2 hTI)
    · exact (sb.2 _ S.TOz).trans TO'
    · exact t1.1.at fun o q => (sb.2 _ nz1).trans q
    · exact t2.1.at fun o q => (sb.2 _ nz2).trans q
    · have hlt : c < s.heap.objs.size := by
        have e' : c = z ∨ c = TI ∨ c = TO ∨ c = i1 ∨ c = i2 := by simpa using hcm
        rcases e' with q | q | q | q | q
        · rw [q]; exact hzl
        · rw [q]; exact Heap.lt_size hTI
        · rw [q]; exact Heap.lt_size hTO
        · rw [q]; obtain ⟨_, e1, _⟩ := h1.obj; exact Heap.lt_size e1
        · rw [q]; obtain ⟨_, e2, _⟩ := h2.obj; exact Heap.lt_size e2
      rw [upd_ne (Nat.ne_of_lt hlt)]
      exact (hf c hcm).1
  done := by
    intro X hP hw hK hc i pins s σ H E I hf st hg
    subst hP hw hK
    obtain ⟨hz, hTI, ⟨x0, y0, hTO⟩, h1, h2⟩ := st
    obtain ⟨xs, ys, hqx, hqy, le1, le2, hend⟩ := hg
    obtain ⟨its, rv, p, _⟩ := hqx.has I
    obtain ⟨its2, rv2, p2, _⟩ := hqy.has I
    have n1 : its.toArray.size = xs.length := by rw [rv.length]; simp
    have n2 : its2.toArray.size = ys.length := by rw [rv2.length]; simp
    have D1 := draws_k (prog := X.prog) (w := X.w) (A := X.A.in1) (I.ok.hd hc) k i1 a na its.toArray
    have D2 := draws_k (prog := X.prog) (w := X.w) (A := X.A.in1) (I.ok.hd hc) l i2 b nb its2.toArray
    exact wpAny_pyNext_zipD2_end S D1 D2 hz hTI hTO ⟨h1, p⟩ ⟨h2, p2⟩ (by omega) (by omega) (by omega) fun h' tk hk => ⟨rfl, I.turnedL (t' := tk) (ch := [z, TI, TO, i1, i2]) (fun c o hb q => by
      simp only [List.mem_cons, List.not_mem_nil, or_false, not_or] at hb
      exact hk c o hb.1 hb.2.2.1 hb.2.2.2.1 hb.2.2.2.2 q) hf⟩
  self := fun A i s Q E st h => wpAny_pyIter_zip st.1 h
theorem zk_sep {N a b : Nat} (la : a < N) (lb : b < N) : ZipSep2 (N + 4) (N + 2) (N + 3) N (N + 1) [N, a] [N + 1, b] :=
  zip_sep2 (fp1 := [a]) (fp2 := [b]) (fun c hc => by rw [List.mem_singleton.mp hc]; exact la) (fun c hc => by rw [List.mem_singleton.mp hc]; exact lb)
theorem zk_ne {N b : Nat} (lb : b < N) : b ≠ N + 1 := by omega
def iZk (K : PySem.W.Frag) (ta : TA) : TI := fun σ H R => ta σ H fun vs H1 => ∃ k a xs l b ys, vs = [.ref a, .ref b] ∧ SqK K H1 k a xs ∧ SqK K H1 l b ys ∧ R (Izk K k a l b) H1
theorem pi_zk {X : Cx} {e e2 : Expr} {ta : TA} {p pos tpos : Pos} {elts : List Expr} {kk : Nat} (hg : Gl X "zip") (hm : X.mg "zip" = none) (ha : PA X [e, e2] ta)
    (hs : starEach [e, e2] X.env = (false, eval e X.env) :: starEach [e2] X.env := by rfl) (hpl : (backTo pos (starEach [e2] X.env)).any (·.1) = false := by rfl) :
    PI X (.Tuple elts kk tpos) (.Call (.Name "zip" p) [e, e2] [] pos) (iZk X.K ta) := by
  refine ⟨fun pins s σ H R I h => ?_⟩
  refine Call_ (ld_blt I hg hm PyProof.Rows.boot_zip (PyProof.Rows.callWith_type1 (thn (ha.run pos pins s σ H _ I h) fun us s1 ⟨vs, H1, I1, r1, q1⟩ => ?_) hs hpl))
  obtain ⟨k, a, xs, l, b, ys, ex, hqx, hqy, q⟩ := q1
  subst ex
  cases r1 with
  | cons r rr =>
    cases rr with
    | cons r' rr =>
      cases rr
      cases r
      cases r'
      obtain ⟨its, rv, p1, la⟩ := hqx.has I1
      obtain ⟨its2, rv2, p2, lb⟩ := hqy.has I1
      have tn := turn_zk (P := X.prog) (w := X.w) (K := X.K) (elts := elts) (kk := kk) (tpos := tpos) k l (zk_sep la lb) (Nat.ne_of_lt la) (zk_ne lb)
      refine zip_begins2 (s := s1) (begins_k k a its.toArray) (begins_k l b its2.toArray) p1 p2 ?_
      intro h' hz hTI hTO ho1 ho2 hsz hk
      refine wpAny_pyIter_zip hz ?_
      have I2 : Inv X pins σ H1 { s1 with heap := h' } := I1.kept (t' := s1.toks) hk
      refine ⟨_, _, _, _, H1, rfl, I2, tn, ⟨hz, hTI, ⟨_, _, hTO⟩, kIt_new ho1, kIt_new ho2⟩, fun c hcm => ?_, q⟩
      have hle : s1.heap.objs.size ≤ c := by
        have e' : c = s1.heap.objs.size + 4 ∨ c = s1.heap.objs.size + 2 ∨ c = s1.heap.objs.size + 3 ∨ c = s1.heap.objs.size ∨ c = s1.heap.objs.size + 1 := by simpa using hcm
        rcases e' with z | z | z | z | z
        · rw [z]; exact Nat.le_add_right _ _
        · rw [z]; exact Nat.le_add_right _ _
        · rw [z]; exact Nat.le_add_right _ _
        · rw [z]; exact Nat.le_refl _
        · rw [z]; exact Nat.le_add_right _ _
      exact I1.fpOk hle (I1.hok.fresh hle)
end W8

set_option Elab.async false
set_option linter.all false
set_option maxRecDepth 100000
namespace W8
open PySem L2 PySem.Spec PyProof.Rows

/-! ### what is walked -/
def signs (z : Str) : List D := z.cps.toList.map fun c => .str ⟨#[c]⟩
/-- the items of a value that is a list or a tuple, and what has to stay -/
def itOf (d : D) (M : Mem) : Option W8.Its := match d with
  | .tup ds => some ⟨ds, []⟩
  | .rol ds => some ⟨ds, []⟩
  | .str z => some ⟨signs z, []⟩
  | .ref n => match M[n]? with
    | some (.lst ds) => some ⟨ds, [(n, ds)]⟩
    | _ => none
  | _ => none
def itR (r : Option W8.Its) (M : Mem) : R W8.Its := match r with
  | some x => .ok x M
  | none => .bad
def valI (a : Ex) : Ie := fun ρ M => (a ρ M).bind fun d M => itR (itOf d M) M
section
variable {g : G} {φ : List Addr} {H : Hp} {M : Mem} {a : Addr} {ds : List D} {xs : List V}
theorem itR_tup (m : MR g φ M H) (h : SqT g.K H a xs) (r : DVs g φ H ds xs) : ItR g φ H (Itt g.K a) ⟨ds, []⟩ := fun φ' H' M' s m' _ i => by
  have h' := sqT_step (fun _ _ => m.notIn) s h
  have r' := r.step m s
  refine ⟨fun d e => ?_, fun e => ⟨xs, h', by rw [← r.length]; exact Nat.le_of_eq e.symm⟩⟩
  obtain ⟨v, e1, dv⟩ := r'.get e
  refine ⟨⟨xs, v, h', e1⟩, fun w H2 hy => ?_⟩
  obtain ⟨rfl, q⟩ := hy
  have e2 := q xs h'
  rw [e1] at e2; cases e2
  exact ⟨Step.refl _ _, m', dv⟩
theorem itR_rol (m : MR g φ M H) (h : RoL g.K H a xs) (r : DVs g φ H ds xs) : ItR g φ H (Itl g.K a) ⟨ds, []⟩ := fun φ' H' M' s m' _ i => by
  have h' := (roL_step (g := g) (fun _ _ => m.notIn) s h).seq
  have r' := r.step m s
  refine ⟨fun d e => ?_, fun e => ⟨xs, h', by rw [← r.length]; exact Nat.le_of_eq e.symm⟩⟩
  obtain ⟨v, e1, dv⟩ := r'.get e
  refine ⟨⟨xs, v, h', e1⟩, fun w H2 hy => ?_⟩
  obtain ⟨rfl, q⟩ := hy
  have e2 := q xs h'
  rw [e1] at e2; cases e2
  exact ⟨Step.refl _ _, m', dv⟩
theorem itR_lst {n : Nat} (h : φ[n]? = some a) : ItR g φ H (Itl g.K a) ⟨ds, [(n, ds)]⟩ := fun φ' H' M' s m' ok i => by
  obtain ⟨ys, e0, r'⟩ := m'.lst (ok (n, ds) List.mem_cons_self) (s.at h)
  have h' : SqL g.K H' a ys := SqL.of e0
  refine ⟨fun d e => ?_, fun e => ⟨ys, h', by rw [← r'.length]; exact Nat.le_of_eq e.symm⟩⟩
  obtain ⟨v, e1, dv⟩ := r'.get e
  refine ⟨⟨ys, v, h', e1⟩, fun w H2 hy => ?_⟩
  obtain ⟨rfl, q⟩ := hy
  have e2 := q ys h'
  rw [e1] at e2; cases e2
  exact ⟨Step.refl _ _, m', dv⟩
theorem itR_str (z : Str) : ItR g φ H (L2.Its z) ⟨signs z, []⟩ := fun φ' H' M' s m' ok i => by
  have hz : ∀ i : Nat, (signs z)[i]? = z.cps[i]?.map fun c => D.str ⟨#[c]⟩ := fun i => by simp [signs]
  refine ⟨fun d e => ?_, fun e => ?_⟩
  · have e : (signs z)[i]? = some d := e
    rw [hz] at e
    cases q : z.cps[i]? with
    | none => rw [q] at e; cases e
    | some c =>
      rw [q] at e; cases e
      refine ⟨(Array.getElem?_eq_some_iff.mp q).1, fun w H2 hy => ?_⟩
      obtain ⟨rfl, c', e1, rfl⟩ := hy
      rw [q] at e1; cases e1
      exact ⟨Step.refl _ _, m', .str _⟩
  · have e : i = (signs z).length := e
    show z.cps.size ≤ i
    rw [e]; simp [signs]
end
section
variable {X : Cx} {W : XK} {tg : Expr} {p pos tpos : Pos}
theorem si_val {x : Expr} {a : Ex} (h : SE X W x a) : SI X W tg x (valI a) := by
  refine ⟨fun pins s σ H Q I ⟨φ, ρ, M, e, m, w⟩ => ?_⟩
  have w : Wp (gX X) W φ H ((a ρ M).bind fun d M => itR (itOf d M) M) (fun φ' H' x _ => ∀ J, ItR (gX X) φ' H' J x → Q J H') := w
  cases hm : a ρ M with
  | bad => rw [hm] at w; exact w.elim
  | err c t M1 =>
    rw [hm] at w
    exact (pi_tup (tg := tg) h).run pins s σ H Q I ⟨φ, ρ, M, e, m, by rw [hm]; exact w⟩
  | ok d M1 =>
    rw [hm] at w
    have w : Wp (gX X) W φ H (itR (itOf d M1) M1) (fun φ' H' x _ => ∀ J, ItR (gX X) φ' H' J x → Q J H') := w
    cases d with
    | tup ds =>
      refine (pi_tup (tg := tg) h).run pins s σ H Q I ⟨φ, ρ, M, e, m, ?_⟩
      rw [hm]
      intro φ' H' s' m' v dv
      cases dv with
      | tup hq dvs => exact ⟨_, rfl, ⟨_, hq⟩, w φ' H' s' m' _ (itR_tup m' hq dvs)⟩
    | rol ds =>
      refine (pi_list (tg := tg) h).run pins s σ H Q I ⟨φ, ρ, M, e, m, ?_⟩
      rw [hm]
      intro φ' H' s' m' v dv
      cases dv with
      | rol hq dvs => exact ⟨_, rfl, ⟨_, hq.seq⟩, w φ' H' s' m' _ (itR_rol m' hq dvs)⟩
    | str z =>
      refine (pi_str (tg := tg) h).run pins s σ H Q I ⟨φ, ρ, M, e, m, ?_⟩
      rw [hm]
      intro φ' H' s' m' v dv
      cases dv with
      | str z => exact ⟨z, rfl, w φ' H' s' m' _ (itR_str z)⟩
    | ref n =>
      have w : Wp (gX X) W φ H (itR (match M1[n]? with | some (.lst ds) => some ⟨ds, [(n, ds)]⟩ | _ => none) M1) (fun φ' H' x _ => ∀ J, ItR (gX X) φ' H' J x → Q J H') := w
      split at w
      · rename_i ds hd
        refine (pi_list (tg := tg) h).run pins s σ H Q I ⟨φ, ρ, M, e, m, ?_⟩
        rw [hm]
        intro φ' H' s' m' v dv
        cases dv with
        | ref hq =>
          obtain ⟨ys, e0, r'⟩ := m'.lst hd hq
          exact ⟨_, rfl, ⟨ys, SqL.of e0⟩, w φ' H' s' m' _ (itR_lst hq)⟩
      · exact w.elim
    | _ => exact w.elim
def rngD (lo : Int) (n : Nat) : List D := (List.range n).map fun i => .int (lo + (i : Nat))
theorem itR_rng {g : G} {φ : List Addr} {H : Hp} (lo : Int) (n : Nat) : ItR g φ H (Itr lo n) ⟨rngD lo n, []⟩ := fun φ' H' M' s m' ok i => by
  have hz : (rngD lo n)[i]? = if i < n then some (.int (lo + (i : Nat))) else none := by
    unfold rngD
    by_cases h : i < n
    · rw [if_pos h]; simp [h]
    · rw [if_neg h]; simp [h]
  refine ⟨fun d e => ?_, fun e => ?_⟩
  · have e : (rngD lo n)[i]? = some d := e
    rw [hz] at e
    by_cases h : i < n
    · rw [if_pos h] at e; cases e
      refine ⟨h, fun w H2 hy => ?_⟩
      obtain ⟨rfl, rfl⟩ := hy
      exact ⟨Step.refl _ _, m', .int _⟩
    · rw [if_neg h] at e; cases e
  · have e : i = (rngD lo n).length := e
    show n ≤ i
    rw [e]; simp [rngD]
def rng1I (as : Exs) : Ie := fun ρ M => (as ρ M).bind fun ds M => match ds with
  | [.int j] => if -(2 ^ 62) ≤ j ∧ j < 2 ^ 62 then .ok ⟨rngD 0 j.toNat, []⟩ M else .bad
  | _ => .bad
def rng2I (as : Exs) : Ie := fun ρ M => (as ρ M).bind fun ds M => match ds with
  | [.int i, .int j] => if -(2 ^ 62) ≤ i ∧ i < 2 ^ 62 ∧ -(2 ^ 62) ≤ j ∧ j < 2 ^ 62 then .ok ⟨rngD i (j - i).toNat, []⟩ M else .bad
  | _ => .bad
theorem si_rng1 {x : Expr} {as : Exs} (hg : Gl X "range") (hm : X.mg "range" = none) (h : SA X W [x] as) (hs : starEach [x] X.env = [(false, eval x X.env)] := by rfl) : SI X W tg (.Call (.Name "range" p) [x] [] pos) (rng1I as) := by
  refine PI.imp (pi_range1 hg hm h hs) fun σ H Q ⟨φ, ρ, M, e, m, w⟩ => ?_
  refine ⟨φ, ρ, M, e, m, w.bind.mono fun φ1 H1 ds M1 s1 m1 h1 vs dvs => ?_⟩
  split at h1
  · rename_i j
    cases dvs with
    | cons a b =>
      cases b
      cases a
      split at h1
      · rename_i hj
        exact ⟨j, rfl, hj.1, hj.2, h1.here m1 _ (itR_rng 0 j.toNat)⟩
      · exact h1.elim
  · exact h1.elim
theorem si_rng2 {x y : Expr} {as : Exs} (hg : Gl X "range") (hm : X.mg "range" = none) (h : SA X W [x, y] as) (hs : starEach [x, y] X.env = [(false, eval x X.env), (false, eval y X.env)] := by rfl) (hs2 : starEach [y] X.env = [(false, eval y X.env)] := by rfl) : SI X W tg (.Call (.Name "range" p) [x, y] [] pos) (rng2I as) := by
  refine PI.imp (pi_range2 hg hm h hs hs2) fun σ H Q ⟨φ, ρ, M, e, m, w⟩ => ?_
  refine ⟨φ, ρ, M, e, m, w.bind.mono fun φ1 H1 ds M1 s1 m1 h1 vs dvs => ?_⟩
  split at h1
  · rename_i i j
    cases dvs with
    | cons a b =>
      cases b with
      | cons b c =>
        cases c
        cases a
        cases b
        split at h1
        · rename_i hj
          exact ⟨i, j, rfl, hj, h1.here m1 _ (itR_rng i (j - i).toNat)⟩
        · exact h1.elim
  · exact h1.elim

/-! ### enumerate, zip -/
/-- a value that is a list or a tuple: its items, and what has to stay -/
def seqOf (d : D) (M : Mem) : Option W8.Its := match d with
  | .tup ds => some ⟨ds, []⟩
  | .rol ds => some ⟨ds, []⟩
  | .ref n => match M[n]? with
    | some (.lst ds) => some ⟨ds, [(n, ds)]⟩
    | _ => none
  | _ => none
/-- at each later state it is still that sequence -/
theorem seq_at {g : G} {φ0 : List Addr} {H0 : Hp} {M0 : Mem} (m0 : MR g φ0 M0 H0) {d : D} {v : V} {x : W8.Its} (dv : DV g φ0 H0 d v) (e : seqOf d M0 = some x) :
    ∃ (k : Bool) (a : Addr), v = .ref a ∧ (∃ xs, SqK g.K H0 k a xs ∧ DVs g φ0 H0 x.items xs) ∧ ∀ φ H M, Step φ0 H0 φ H → MR g φ M H → x.ok M → ∃ xs, SqK g.K H k a xs ∧ DVs g φ H x.items xs := by
  cases dv with
  | tup hq dvs =>
    cases e
    exact ⟨true, _, rfl, ⟨_, hq, dvs⟩, fun φ H M s m ok => ⟨_, sqT_step (fun _ _ => m0.notIn) s hq, dvs.step m0 s⟩⟩
  | rol hq dvs =>
    cases e
    exact ⟨false, _, rfl, ⟨_, hq.seq, dvs⟩, fun φ H M s m ok => ⟨_, (roL_step (g := g) (fun _ _ => m0.notIn) s hq).seq, dvs.step m0 s⟩⟩
  | @ref n a hq =>
    have e : (match M0[n]? with | some (.lst ds) => some (⟨ds, [(n, ds)]⟩ : W8.Its) | _ => none) = some x := e
    split at e
    · rename_i ds hd
      cases e
      obtain ⟨ys, e0, r⟩ := m0.lst hd hq
      refine ⟨false, _, rfl, ⟨ys, SqL.of e0, r⟩, fun φ H M s m ok => ?_⟩
      obtain ⟨ys', e0', r'⟩ := m.lst (ok (n, ds) List.mem_cons_self) (s.at hq)
      exact ⟨ys', SqL.of e0', r'⟩
    · cases e
  | _ => cases e
def enD : Nat → List D → List D
  | _, [] => []
  | k, d :: ds => .tup [.int (k : Int), d] :: enD (k + 1) ds
theorem enD_at : ∀ (ds : List D) (k i : Nat), (enD k ds)[i]? = ds[i]?.map fun d => .tup [.int ((k + i : Nat) : Int), d]
  | [], k, i => by simp [enD]
  | d :: ds, k, 0 => by simp [enD]
  | d :: ds, k, i + 1 => by
    show (enD (k + 1) ds)[i]? = _
    rw [enD_at ds (k + 1) i]
    have : k + 1 + i = k + (i + 1) := by omega
    rw [this]; simp
theorem enD_len : ∀ (ds : List D) (k : Nat), (enD k ds).length = ds.length
  | [], _ => rfl
  | _ :: ds, k => by show (enD (k + 1) ds).length + 1 = _; rw [enD_len ds]; rfl
def enI (as : Exs) : Ie := fun ρ M => (as ρ M).bind fun ds M => match ds with
  | [d] => itR ((seqOf d M).map fun x => ⟨enD 0 x.items, x.held⟩) M
  | _ => .bad
/-- a pair that a turn makes -/
theorem pair_new {g : G} {φ : List Addr} {H : Hp} {M : Mem} (m : MR g φ M H) {x y : D} {v w : V} (a : DV g φ H x v) (b : DV g φ H y w) {T : Addr} (hT : H T = none) :
    Step φ H φ (upd H T (.tup [v, w])) ∧ MR g φ M (upd H T (.tup [v, w])) ∧ DV g φ (upd H T (.tup [v, w])) (.tup [x, y]) (.ref T) :=
  ⟨Step.lay m hT, m.lay hT, .tup (SqT.of upd_same) (.cons (a.step m (Step.lay m hT)) (.cons (b.step m (Step.lay m hT)) .nil))⟩
theorem si_en {x : Expr} {elts : List Expr} {kk : Nat} {as : Exs} (hg : Gl X "enumerate") (hm : X.mg "enumerate" = none) (h : SA X W [x] as) (hs : starEach [x] X.env = [(false, eval x X.env)] := by rfl) :
    SI X W (.Tuple elts kk tpos) (.Call (.Name "enumerate" p) [x] [] pos) (enI as) := by
  refine PI.imp (pi_ek hg hm h hs) fun σ H Q ⟨φ, ρ, M, e, m, w⟩ => ?_
  refine ⟨φ, ρ, M, e, m, w.bind.mono fun φ1 H1 ds M1 s1 m1 h1 vs dvs => ?_⟩
  split at h1
  · rename_i d
    cases dvs with
    | cons dv r =>
      cases r
      cases hx : seqOf d M1 with
      | none => rw [hx] at h1; exact h1.elim
      | some x =>
        rw [hx] at h1
        obtain ⟨k, a, rfl, ⟨xs, hq, _⟩, later⟩ := seq_at m1 dv hx
        refine ⟨k, a, xs, rfl, hq, h1.here m1 _ fun φ' H' M' s' m' ok i => ?_⟩
        obtain ⟨ys, hq', r'⟩ := later φ' H' M' s' m' ok
        refine ⟨fun d' e' => ?_, fun e' => ?_⟩
        · have e' : (enD 0 x.items)[i]? = some d' := e'
          rw [enD_at] at e'
          cases q : x.items[i]? with
          | none => rw [q] at e'; cases e'
          | some y =>
            rw [q] at e'; cases e'
            obtain ⟨v, e1, dv1⟩ := r'.get q
            refine ⟨⟨ys, v, hq', e1⟩, fun w H2 ⟨T, u, ew, hT, eH, hu⟩ => ?_⟩
            subst ew eH
            have e2 := hu ys hq'
            rw [e1] at e2; cases e2
            have e0 : ((0 + i : Nat) : Int) = (i : Nat) := by rw [Nat.zero_add]
            rw [e0]
            exact pair_new m' (.int _) dv1 hT
        · have e' : i = (enD 0 x.items).length := e'
          exact ⟨ys, hq', by rw [e', enD_len, r'.length]⟩
  · exact h1.elim
def zpI (as : Exs) : Ie := fun ρ M => (as ρ M).bind fun ds M => match ds with
  | [d, c] => itR ((seqOf d M).bind fun x => (seqOf c M).map fun y => ⟨List.zipWith (fun a b => .tup [a, b]) x.items y.items, x.held ++ y.held⟩) M
  | _ => .bad
theorem si_zp {x y : Expr} {elts : List Expr} {kk : Nat} {as : Exs} (hg : Gl X "zip") (hm : X.mg "zip" = none) (h : SA X W [x, y] as)
    (hs : starEach [x, y] X.env = (false, eval x X.env) :: starEach [y] X.env := by rfl) (hpl : (backTo pos (starEach [y] X.env)).any (·.1) = false := by rfl) :
    SI X W (.Tuple elts kk tpos) (.Call (.Name "zip" p) [x, y] [] pos) (zpI as) := by
  refine PI.imp (pi_zk hg hm h hs hpl) fun σ H Q ⟨φ, ρ, M, e, m, w⟩ => ?_
  refine ⟨φ, ρ, M, e, m, w.bind.mono fun φ1 H1 ds M1 s1 m1 h1 vs dvs => ?_⟩
  split at h1
  · rename_i d c
    cases dvs with
    | cons dv r =>
      cases r with
      | cons cv r =>
        cases r
        cases hx : seqOf d M1 with
        | none => rw [hx] at h1; exact h1.elim
        | some x =>
          cases hy : seqOf c M1 with
          | none => rw [hx, hy] at h1; exact h1.elim
          | some y =>
            rw [hx, hy] at h1
            obtain ⟨k, a, rfl, ⟨xs, hq, _⟩, later⟩ := seq_at m1 dv hx
            obtain ⟨l, b, rfl, ⟨ys, hq2, _⟩, later2⟩ := seq_at m1 cv hy
            refine ⟨k, a, xs, l, b, ys, rfl, hq, hq2, h1.here m1 _ fun φ' H' M' s' m' ok i => ?_⟩
            obtain ⟨xs', hq', r1⟩ := later φ' H' M' s' m' fun p hp => ok p (List.mem_append_left _ hp)
            obtain ⟨ys', hq2', r2⟩ := later2 φ' H' M' s' m' fun p hp => ok p (List.mem_append_right _ hp)
            refine ⟨fun d' e' => ?_, fun e' => ?_⟩
            · have e' : (List.zipWith (fun a b => D.tup [a, b]) x.items y.items)[i]? = some d' := e'
              rw [List.getElem?_zipWith] at e'
              cases q : x.items[i]? with
              | none => rw [q] at e'; cases e'
              | some u =>
                cases q2 : y.items[i]? with
                | none => rw [q, q2] at e'; cases e'
                | some u2 =>
                  rw [q, q2] at e'; cases e'
                  obtain ⟨v, e1, dv1⟩ := r1.get q
                  obtain ⟨v2, e2, dv2⟩ := r2.get q2
                  refine ⟨⟨xs', ys', v, v2, hq', hq2', e1, e2⟩, fun w H2 ⟨T, z1, z2, ew, hT, eH, hu, hu2⟩ => ?_⟩
                  subst ew eH
                  have f1 := hu xs' hq'
                  have f2 := hu2 ys' hq2'
                  rw [e1] at f1; cases f1
                  rw [e2] at f2; cases f2
                  exact pair_new m' dv1 dv2 hT
            · have e' : i = (List.zipWith (fun a b => D.tup [a, b]) x.items y.items).length := e'
              rw [List.length_zipWith, r1.length, r2.length] at e'
              exact ⟨xs', ys', hq', hq2', by omega, by omega, by omega⟩
  · exact h1.elim
end
end W8

set_option Elab.async false
set_option linter.all false
set_option maxRecDepth 100000
namespace W8
open PySem L2 PySem.Spec PyProof.Rows

/-! ### list comprehensions -/
/-- an error within a comprehension is nothing that is served -/
def noE {α : Type} : R α → R α
  | .err _ _ _ => .bad
  | r => r
@[simp] theorem noE_ok {α : Type} (a : α) (M : Mem) : noE (.ok a M) = .ok a M := rfl
open Classical in
noncomputable def lcL (x : W8.Its) (t : Tgt) (c : Te) (e : Ex) (ρ : Env) : List D → Mem → R (List D)
  | [], M => if x.ok M then .ok [] M else .bad
  | d :: r, M => if x.ok M then (match t.put d ρ M with
      | none => .bad
      | some ρ1 => (noE (c ρ1 M)).bind fun k M => if k = true then (noE (e ρ1 M)).bind fun y M => (lcL x t c e ρ r M).bind fun ys M => .ok (y :: ys) M else lcL x t c e ρ r M) else .bad
noncomputable def lcE (it : Ie) (vs : List Nat) (t : Tgt) (c : Te) (e : Ex) : Ex := fun ρ M => (it ρ M).bind fun x M => len? x.items.length ((lcL x t c e (wipeE ρ vs) x.items M).bind fun ys M => .ok (.ref M.length) (M ++ [.lst ys]))
def tru : Te := fun _ M => .ok true M

theorem wipe_len (σ : L2.St) (vs : List Nat) : (L2.wipe σ vs).length = σ.length := L2.wipe_length σ vs
theorem wipe_get (σ : L2.St) : ∀ (vs : List Nat) (j : Nat), (L2.wipe σ vs)[j]? = if j ∈ vs then (if j < σ.length then some none else none) else σ[j]?
  | [], j => by simp [L2.wipe]
  | v :: vs, j => by
    show ((L2.wipe σ vs).set v none)[j]? = _
    by_cases hj : v = j
    · subst hj
      rw [if_pos List.mem_cons_self]
      by_cases hl : v < σ.length
      · rw [if_pos hl, List.getElem?_set_self (by rw [wipe_len]; exact hl)]
      · rw [if_neg hl, List.getElem?_eq_none (by rw [List.length_set, wipe_len]; omega)]
    · rw [List.getElem?_set_ne hj, wipe_get σ vs j]
      by_cases hm : j ∈ vs
      · rw [if_pos hm, if_pos (List.mem_cons_of_mem _ hm)]
      · rw [if_neg hm, if_neg (fun z => (List.mem_cons.mp z).elim (fun q => hj q.symm) hm)]
theorem wipe_same {σ σ' : L2.St} {vs sl : List Nat} (hs : ∀ j ∈ sl, j ∈ vs) (hl : σ'.length = (L2.wipe σ vs).length) (h : ∀ j, j ∉ sl → σ'[j]? = (L2.wipe σ vs)[j]?) : L2.wipe σ' vs = L2.wipe σ vs := by
  refine List.ext_getElem? fun j => ?_
  rw [wipe_get]
  by_cases hm : j ∈ vs
  · rw [if_pos hm, wipe_get, if_pos hm, hl, wipe_len]
  · rw [if_neg hm, h j (fun z => hm (hs j z))]

theorem iteY {A B : Prop} (h : A) : if true = true then A else B := by rw [if_pos rfl]; exact h
theorem iteN {A B : Prop} (h : B) : if false = true then A else B := by rw [if_neg Bool.false_ne_true]; exact h
/-- a test list -/
def STs (X : Cx) (W : XK) (ifs : List Expr) (c : Te) : Prop := PTs X ifs (tTe (gX X) W c)
theorem PTs.imp {X : Cx} {e : List Expr} {t t' : TT} (h : PTs X e t) (k : ∀ σ H Q, t' σ H Q → t σ H Q) : PTs X e t' := ⟨fun pins s σ H Q I q => h.run pins s σ H Q I (k _ _ _ q)⟩
theorem sts_nil {X : Cx} {W : XK} : STs X W [] tru := PTs.imp pts_nil fun σ H Q ⟨φ, ρ, M, e, m, h⟩ => h.here m
theorem sts_one {X : Cx} {W : XK} {x : Expr} {c : Te} (h : ST X W x c) : STs X W [x] c := pts_one h

section
variable {X : Cx} {W : XK} {pos : Pos}
theorem lc_of {g : G} {K : PySem.W.Frag} {wi : Ie} {vs : List Nat} {t : Tgt} {c : Te} {e : Ex} {σ : L2.St} {H : Hp} {Q : VK} (hsl : ∀ j ∈ t.slots, j ∈ vs) (h : tE g W (lcE wi vs t c e) σ H Q) :
    tLc (tI g W wi) (tT g t) (tTe g W0 c) (tE g W0 e) vs σ H Q := by
  obtain ⟨φ, ρ, M, er, m, h⟩ := h
  refine ⟨φ, ρ, M, er, m, h.bind.mono fun φ1 H1 x M1 s1 m1 h1 J hJ D0 hD => ?_⟩
  obtain ⟨hlen, h1⟩ := h1.len
  let P : List Addr → Hp → D → Mem → Prop := fun φ' H' d _ => ∀ v, DV g φ' H' d v → Q v H'
  have er1 := er.step m s1
  refine ⟨fun i k H => k = x.items.length - i ∧ i ≤ x.items.length ∧ ∃ φ M acc ads, Step φ1 H1 φ H ∧ MR g φ M H ∧ D0 ∉ φ ∧ H D0 = some (.lst acc) ∧ DVs g φ H ads acc ∧ acc.length ≤ i ∧
    Wp g W φ1 H1 ((lcL x t c e (wipeE ρ vs) (x.items.drop i) M).bind fun ys M => .ok (.ref M.length) (M ++ [.lst (ads ++ ys)])) P, ?_, ?_⟩
  · have nD : D0 ∉ φ1 := fun z => by obtain ⟨u, q, _⟩ := m1.mut z; rw [hD] at q; cases q
    exact ⟨_, rfl, Nat.zero_le _, φ1, M1, [], [], Step.lay m1 hD, m1.lay hD, nD, upd_same, .nil, Nat.le_refl _, by simpa using h1⟩
  · rintro i k H ⟨rfl, hi, φ, M, acc, ads, s, m, nD, eD, rD, la, h⟩
    cases hd : x.items[i]? with
    | none =>
      have hl : x.items.length ≤ i := List.getElem?_eq_none_iff.mp hd
      rw [List.drop_eq_nil_of_le hl] at h
      unfold lcL at h
      split at h
      · rename_i hok
        refine .inl ⟨(hJ φ H M s m hok i).2 (Nat.le_antisymm hi hl), ?_⟩
        have h : Wp g W φ1 H1 (.ok (.ref M.length) (M ++ [.lst (ads ++ [])])) P := h
        rw [List.append_nil] at h
        have sD : Step φ1 H1 (φ ++ [D0]) H := by
          obtain ⟨ψ, e1, h0⟩ := s.pre
          exact ⟨⟨ψ ++ [D0], by rw [e1, List.append_assoc], fun a ha => (List.mem_append.mp ha).elim (h0 a) fun q => by rw [List.mem_singleton.mp q]; exact Nw.of hD⟩, s.keep, s.there⟩
        have mD : MR g (φ ++ [D0]) (M ++ [.lst ads]) H := by
          refine ⟨by simp [m.len], List.nodup_append.mpr ⟨m.nd, by simp, fun a ha b hb => by rw [List.mem_singleton.mp hb]; exact fun z => nD (z ▸ ha)⟩, m.tabs, fun n w q => ?_⟩
          by_cases hn : n < M.length
          · rw [List.getElem?_append_left hn] at q
            obtain ⟨a, q1, q2⟩ := m.obj n w q
            exact ⟨a, by rw [List.getElem?_append_left (by rw [m.len]; exact hn)]; exact q1, q2.grow⟩
          · have hn' : n = M.length := by
              have := (List.getElem?_eq_some_iff.mp q).1
              simp at this; omega
            subst hn'
            simp at q
            subst q
            exact ⟨D0, by rw [← m.len]; simp, acc, eD, rD.grow⟩
        exact h (φ ++ [D0]) H sD mD _ (.ref (by rw [← m.len]; simp))
      · exact h.elim
    | some d =>
      have hl : i < x.items.length := (List.getElem?_eq_some_iff.mp hd).1
      have ed : x.items.drop i = d :: x.items.drop (i + 1) := by rw [List.drop_eq_getElem_cons hl, (List.getElem?_eq_some_iff.mp hd).2]
      rw [ed] at h
      unfold lcL at h
      split at h
      · rename_i hok
        obtain ⟨hgo, hy⟩ := (hJ φ H M s m hok i).1 d hd
        refine .inr ⟨hgo, fun H' => i + 1 ≤ x.items.length ∧ ∃ φ M acc ads, Step φ1 H1 φ H' ∧ MR g φ M H' ∧ D0 ∉ φ ∧ H' D0 = some (.lst acc) ∧ DVs g φ H' ads acc ∧ acc.length ≤ i + 1 ∧
          Wp g W φ1 H1 ((lcL x t c e (wipeE ρ vs) (x.items.drop (i + 1)) M).bind fun ys M => .ok (.ref M.length) (M ++ [.lst (ads ++ ys)])) P, fun H' q => ⟨_, by omega, rfl, q⟩, fun v H' hyl => ?_⟩
        obtain ⟨s2, m2, dv⟩ := hy v H' hyl
        split at h
        · exact h.elim
        · rename_i ρ1 hp
          have er2 := ((er1.step m1 s).step m s2)
          refine ⟨φ, wipeE ρ vs, M, d, ρ1, er_wipe er2 vs, m2, dv, hp, fun σ2 e2 hl2 hk2 => ⟨wipe_same hsl hl2 hk2, ?_⟩⟩
          have eD2 : H' D0 = some (.lst acc) := s2.keep _ _ eD nD rfl
          have rD2 := rD.step m s2
          cases hc : c ρ1 M with
          | bad => rw [hc] at h; exact h.elim
          | err _ _ _ => rw [hc] at h; exact h.elim
          | ok k M3 =>
            rw [hc] at h
            refine ⟨φ, ρ1, M, e2, m2, ?_⟩
            rw [hc]
            intro φ3 H3 s3 m3
            have nD3 : D0 ∉ φ3 := s3.mem eD2 nD
            have eD3 : H3 D0 = some (.lst acc) := s3.keep _ _ eD2 nD rfl
            have rD3 := rD2.step m2 s3
            have st3 : Step φ1 H1 φ3 H3 := (s.trans s2).trans s3
            cases k with
            | false =>
              refine iteN ?_
              exact ⟨hl, φ3, M3, acc, ads, st3, m3, nD3, eD3, rD3, Nat.le_succ_of_le la, h⟩
            | true =>
              refine iteY ?_
              have h : Wp g W φ1 H1 ((((noE (e ρ1 M3)).bind fun y M => (lcL x t c e (wipeE ρ vs) (x.items.drop (i + 1)) M).bind fun ys M => .ok (y :: ys) M)).bind fun ys M => .ok (.ref M.length) (M ++ [.lst (ads ++ ys)])) P := h
              cases he : e ρ1 M3 with
              | bad => rw [he] at h; exact h.elim
              | err _ _ _ => rw [he] at h; exact h.elim
              | ok y M4 =>
                rw [he] at h
                refine ⟨φ3, ρ1, M3, e2.step m2 s3, m3, ?_⟩
                rw [he]
                intro φ4 H4 s4 m4 w dw
                have nD4 : D0 ∉ φ4 := s4.mem eD3 nD3
                have eD4 : H4 D0 = some (.lst acc) := s4.keep _ _ eD3 nD3 rfl
                have rD4 := rD3.step m3 s4
                refine ⟨acc, eD4, by have := hlen; omega, hl, φ4, M4, acc ++ [w], ads ++ [y], (st3.trans s4).over eD4 rfl hD, m4.over eD4 rfl nD4, nD4, upd_same, (rD4.snoc dw).over eD4 rfl, by simp; omega, ?_⟩
                have h : Wp g W φ1 H1 ((((lcL x t c e (wipeE ρ vs) (x.items.drop (i + 1)) M4).bind fun ys M => .ok (y :: ys) M)).bind fun ys M => .ok (.ref M.length) (M ++ [.lst (ads ++ ys)])) P := h
                cases hr : lcL x t c e (wipeE ρ vs) (x.items.drop (i + 1)) M4 with
                | bad => rw [hr] at h; exact h
                | err _ _ _ => rw [hr] at h; exact h
                | ok ys M5 =>
                  rw [hr] at h
                  simp only [R.bind_ok] at h ⊢
                  rw [List.append_assoc]
                  exact h
      · exact h.elim
theorem se_lc {elt tg iter : Expr} {ifs : List Expr} {scope : Scope} {own : List (Str × Nat)} {wi : Ie} {t : Tgt} {c : Te} {a : Ex} (C : Cok X W) (hi : SI X W tg iter wi) (ok : BlkOk X.N X.env.scope scope own)
    (hg : ∀ (s : Shared) (H : Hp) (C : Addr) (cl : List (Str × Addr)) (fp : List Addr), SG (X.blk s H scope (compEnvC scope cl C X.env) fp) tg t)
    (ht : ∀ (s : Shared) (H : Hp) (C : Addr) (cl : List (Str × Addr)) (fp : List Addr), STs (X.blk s H scope (compEnvC scope cl C X.env) fp) W0 ifs c)
    (he : ∀ (s : Shared) (H : Hp) (C : Addr) (cl : List (Str × Addr)) (fp : List Addr), SE (X.blk s H scope (compEnvC scope cl C X.env) fp) W0 elt a)
    (hsl : ∀ j ∈ t.slots, j ∈ own.map (·.2)) (hs : ∀ x, foldedSetIterable iter X.env x = pure x := by intro _; rfl) :
    SE X W (.ListComp elt [⟨tg, iter, ifs, 0⟩] scope pos) (lcE wi (own.map (·.2)) t c a) :=
  PE.imp (pe_lc (g := tT (gX X) t) (tt := tTe (gX X) W0 c) (te := tE (gX X) W0 a) C.calm C.nd hi ok hg ht he hs) fun σ H Q h => lc_of (K := X.K) hsl h
theorem Cok.blk (C : Cok X W) (s : Shared) (H : Hp) (scope : Scope) (env : PySem.Env) (fp : List Addr) : Cok (X.blk s H scope env fp) W0 :=
  ⟨C.calm, C.nd, takes0, PassesOwn.never⟩
end
end W8

set_option Elab.async false
set_option linter.all false
set_option maxRecDepth 100000
namespace W8
open PySem L2 PySem.Spec PyProof.Rows

/-! ### what a call leaves behind is dropped where nothing names it -/
mutual
def D.lo (n : Nat) : D → Bool
  | .ref m => decide (m < n)
  | .tup ds => losD n ds
  | .rol ds => losD n ds
  | _ => true
def losD (n : Nat) : List D → Bool
  | [] => true
  | d :: ds => D.lo n d && losD n ds
end
def MO.lo (n : Nat) : MO → Bool
  | .lst ds => losD n ds
  | .dic kvs => kvs.all fun p => p.2.lo n
def Tr (M M' : Mem) : Prop := M.length ≤ M'.length ∧ ∀ (i : Nat) (o : MO), i < M.length → M'[i]? = some o → M[i]? = some o ∨ o.lo M.length = true
open Classical in
noncomputable def trunc (M : Mem) : R D → R D
  | .ok d M' => if d.lo M.length = true ∧ Tr M M' then .ok d (M'.take M.length) else .ok d M'
  | .err c t M' => if t.lo M.length = true ∧ Tr M M' then .err c t (M'.take M.length) else .err c t M'
  | .bad => .bad
open Classical in
theorem trunc_ok (M : Mem) (d : D) (M' : Mem) : trunc M (.ok d M') = if d.lo M.length = true ∧ Tr M M' then .ok d (M'.take M.length) else .ok d M' := by
  unfold trunc; rfl
open Classical in
theorem trunc_err (M : Mem) (c : Str) (t : D) (M' : Mem) : trunc M (.err c t M') = if t.lo M.length = true ∧ Tr M M' then .err c t (M'.take M.length) else .err c t M' := by
  unfold trunc; rfl
section
variable {g : G} {φ ψ : List Addr} {H : Hp}
mutual
theorem DV.shrink : ∀ (d : D) {v : V}, d.lo φ.length = true → DV g (φ ++ ψ) H d v → DV g φ H d v
  | .non, _, _, .non => .non
  | .bl _, _, _, .bl b => .bl b
  | .int _, _, _, .int i => .int i
  | .str _, _, _, .str z => .str z
  | .tup ds, _, h, .tup q r => .tup q (DVs.shrink ds h r)
  | .rol ds, _, h, .rol q r => .rol q (DVs.shrink ds h r)
  | .ref n, _, h, .ref q => .ref (by
    have hn : n < φ.length := of_decide_eq_true h
    rw [List.getElem?_append_left hn] at q; exact q)
  | .fn _, _, _, .fn h => .fn h
  | .ty _, _, _, .ty n => .ty n
theorem DVs.shrink : ∀ (ds : List D) {vs : List V}, losD φ.length ds = true → DVs g (φ ++ ψ) H ds vs → DVs g φ H ds vs
  | [], _, _, .nil => .nil
  | d :: ds, _, h, .cons a b => by
    have h : (d.lo φ.length && losD φ.length ds) = true := h
    rw [Bool.and_eq_true] at h
    exact .cons (DV.shrink d h.1 a) (DVs.shrink ds h.2 b)
end
mutual
theorem DV.isLo : ∀ (d : D) {v : V}, DV g φ H d v → d.lo φ.length = true
  | .non, _, .non => rfl
  | .bl _, _, .bl b => rfl
  | .int _, _, .int i => rfl
  | .str _, _, .str z => rfl
  | .tup ds, _, .tup q r => DVs.isLo ds r
  | .rol ds, _, .rol q r => DVs.isLo ds r
  | .ref n, _, .ref q => decide_eq_true (List.getElem?_eq_some_iff.mp q).1
  | .fn _, _, .fn h => rfl
  | .ty _, _, .ty n => rfl
theorem DVs.isLo : ∀ (ds : List D) {vs : List V}, DVs g φ H ds vs → losD φ.length ds = true
  | [], _, .nil => rfl
  | d :: ds, _, .cons a b => by
    show (d.lo φ.length && losD φ.length ds) = true
    rw [DV.isLo d a, DVs.isLo ds b]; rfl
end
theorem KVs.shrink : ∀ {ds : List (Key × D)} {vs : List (Key × V)}, (ds.all fun p => p.2.lo φ.length) = true → KVs g (φ ++ ψ) H ds vs → KVs g φ H ds vs
  | _, _, _, .nil => .nil
  | _, _, h, .cons a b => by
    rw [List.all_cons, Bool.and_eq_true] at h
    exact .cons (DV.shrink _ h.1 a) (KVs.shrink h.2 b)
theorem KVs.isLo : ∀ {ds : List (Key × D)} {vs : List (Key × V)}, KVs g φ H ds vs → (ds.all fun p => p.2.lo φ.length) = true
  | _, _, .nil => rfl
  | _, _, .cons a b => by rw [List.all_cons, DV.isLo _ a, KVs.isLo b]; rfl
theorem OR.shrink {a : Addr} {w : MO} (h : w.lo φ.length = true) (r : OR g (φ ++ ψ) H a w) : OR g φ H a w := by
  cases w with
  | lst ds => obtain ⟨xs, q, r⟩ := r; exact ⟨xs, q, DVs.shrink ds h r⟩
  | dic kvs => obtain ⟨xs, q, r⟩ := r; exact ⟨xs, q, KVs.shrink h r⟩
theorem OR.isLo {a : Addr} {w : MO} (r : OR g φ H a w) : w.lo φ.length = true := by
  cases w with
  | lst ds => obtain ⟨xs, q, r⟩ := r; exact DVs.isLo ds r
  | dic kvs => obtain ⟨xs, q, r⟩ := r; exact KVs.isLo r
theorem MR.drop {φ' : List Addr} {H' : Hp} {M M' : Mem} (m : MR g φ M H) (s : Step φ H φ' H') (m' : MR g φ' M' H') (t : Tr M M') : Step φ H φ H' ∧ MR g φ (M'.take M.length) H' := by
  obtain ⟨ψ, e, hn⟩ := s.pre
  subst e
  refine ⟨⟨⟨[], by simp⟩, s.keep, s.there⟩, by rw [List.length_take, m.len, Nat.min_eq_left t.1], m.nd, m'.tabs, fun i w q => ?_⟩
  have hi : i < M.length := by
    have := (List.getElem?_eq_some_iff.mp q).1
    rw [List.length_take] at this; omega
  rw [List.getElem?_take_of_lt hi] at q
  obtain ⟨a, q1, q2⟩ := m'.obj i w q
  rw [List.getElem?_append_left (by rw [m.len]; exact hi)] at q1
  refine ⟨a, q1, q2.shrink ?_⟩
  rcases t.2 i w hi q with z | z
  · obtain ⟨b, _, z2⟩ := m.obj i w z
    exact z2.isLo
  · rw [m.len]; exact z
theorem Wp.trunc {W : XK} {M : Mem} (m : MR g φ M H) {r : R D} {Q : VK} (h : Wp g W φ H (W8.trunc M r) fun φ' H' d _ => ∀ v, DV g φ' H' d v → Q v H') : Wp g W φ H r fun φ' H' d _ => ∀ v, DV g φ' H' d v → Q v H' := by
  cases r with
  | bad => exact h
  | ok d M' =>
    rw [trunc_ok] at h
    split at h
    · rename_i c
      intro φ' H' s m' v dv
      obtain ⟨s2, m2⟩ := m.drop s m' c.2
      obtain ⟨ψ, e, _⟩ := s.pre
      subst e
      exact h φ H' s2 m2 v (DV.shrink d (by rw [m.len]; exact c.1) dv)
    · exact h
  | err cl t M' =>
    rw [trunc_err] at h
    split at h
    · rename_i c
      intro φ' H' cls dx s m' ⟨C, a, v, e1, e2, e3, e4, dv⟩
      obtain ⟨s2, m2⟩ := m.drop s m' c.2
      obtain ⟨ψ, e, _⟩ := s.pre
      subst e
      exact h φ H' cls dx s2 m2 ⟨C, a, v, e1, e2, e3, e4, DV.shrink t (by rw [m.len]; exact c.1) dv⟩
    · exact h
end

/-! ### a def: what it promises, and how it keeps it -/
def spD (g : G) (c : List D → Mem → R D) : Sp := fun vs H Q E => ∃ φ M ds, MR g φ M H ∧ DVs g φ H ds vs ∧ Wp g E φ H (c ds M) fun φ' H' d _ => ∀ v, DV g φ' H' d v → Q v H'
def outD : Out → Mem → R D
  | .rt d, M => .ok d M
  | .nx _, M => .ok .non M
  | _, _ => .bad
noncomputable def runD (ar sl : Nat) (m : Stt) (ds : List D) (M : Mem) : R D := if ds.length = ar then trunc M ((m (ds.map some ++ List.replicate (sl - ar) none) M).bind outD) else .bad
theorem er_start {g : G} {φ : List Addr} {H : Hp} {N : List Str} {ds : List D} {vs : List V} (r : DVs g φ H ds vs) : ER g φ H (ds.map some ++ List.replicate (N.length - ds.length) none) (L2.start N vs) := by
  unfold L2.start
  refine ⟨by simp [r.length], fun i d h => ?_⟩
  have hl : i < ds.length := by
    by_cases q : i < ds.length
    · exact q
    · rw [List.getElem?_append_right (by simpa using q), List.getElem?_replicate] at h
      split at h <;> cases h
  rw [List.getElem?_append_left (by simpa using hl), List.getElem?_map] at h
  cases e : ds[i]? with
  | none => rw [e] at h; cases h
  | some c =>
    rw [e] at h; cases h
    obtain ⟨v, h1, h2⟩ := r.get e
    exact ⟨v, by rw [List.getElem?_append_left (by rw [List.length_map, ← r.length]; exact hl), List.getElem?_map, h1]; rfl, h2⟩
section
variable {P : Program} {w : World} {K : PySem.W.Frag} {mg : Str → Option Value} {base : Heap}
/-- the context of a def's body -/
abbrev dX (P : Program) (w : World) (K : PySem.W.Frag) (mg : Str → Option Value) (base : Heap) (N : List Str) (x : Str) (st : Stmt) (f : Addr) (cdv : Value) (A : Around) (outer : List PySem.Env) (s : Shared) (H : Hp) (E : XK) : Cx :=
  cxOf (L2.CX P w) P w K mg base N x (defScope st) f cdv A outer s H E
theorem cok_def {N ps : List Str} {x : Str} {st : Stmt} (S : FnScope N ps (defScope st)) (f : Addr) (cdv : Value) (A : Around) (outer : List PySem.Env) (s : Shared) (H : Hp) (E : XK) : Cok (dX P w K mg base N x st f cdv A outer s H E) E :=
  ⟨rfl, S.nd, takes_of rfl rfl rfl rfl, passes_of rfl⟩
/-- what is known of a def of the text -/
structure FnD (P : Program) (w : World) (K : PySem.W.Frag) (mg : Str → Option Value) (base : Heap) (k : Nat) (x : Str) (st : Stmt) (ps : List Str) (f : Addr) (fd : FuncData) (c : List D → Mem → R D) : Prop where
  fu : Fun K x x st f fd
  mgf : mg x = some (.ref f)
  bd : Binds K fd ps []
  ok : FnOk P w K mg base (L2.CX P w) k f fd ps (spD ⟨K, mg, base⟩ c)
theorem fn_ok {k : Nat} {x : Str} {st : Stmt} {N ps : List Str} {f : Addr} {fd : FuncData} {m : Stt} (F : Fun K x x st f fd) (S : FnScope N ps (defScope st))
    (hb : ∀ (cdv : Value) (A : Around) (outer : List PySem.Env) (s : Shared) (H : Hp) (E : XK), Room k (A.deeper (envOfC x (defScope st) s.heap.objs.size f cdv)) → Cok (dX P w K mg base N x st f cdv A outer s H E) E →
      SSs (dX P w K mg base N x st f cdv A outer s H E) E (defBody st) m) : FnOk P w K mg base (L2.CX P w) (k + 1) f fd ps (spD ⟨K, mg, base⟩ (runD ps.length N.length m)) := by
  refine F.okX S (fun vs H Q E ⟨φ, M, ds, mr, dvs, h⟩ => ?_) fun cdv A outer s H vs Q E hr ⟨φ, M, ds, mr, dvs, h⟩ => ?_
  · unfold runD at h
    split at h
    · rename_i e; rw [← dvs.length]; exact e
    · exact h.elim
  · refine ⟨_, hb cdv A outer s H E hr (cok_def S f cdv A outer s H E), ?_⟩
    unfold runD at h
    split at h
    · rename_i e
      rw [← e] at h
      refine ⟨φ, _, M, er_start dvs, mr, (Wp.trunc mr h).bind.mono fun φ1 H1 o M1 s1 m1 h1 => ?_⟩
      cases o with
      | rt d => exact fun v dv => h1.here m1 v dv
      | nx ρ => exact fun σ' _ => h1.here m1 _ .non
      | bk ρ => exact h1.elim
      | ct ρ => exact h1.elim
    · exact h.elim
end
/-- no call is left -/
theorem fn_zero {P : Program} {w : World} {K : PySem.W.Frag} {mg : Str → Option Value} {base : Heap} {f : Addr} {fd : FuncData} {ps : List Str} {k : Nat} : FnOk P w K mg base (L2.CX P w) k f fd ps (spD ⟨K, mg, base⟩ fun _ _ => .bad) :=
  ⟨fun vs H Q E ⟨φ, M, ds, mr, dvs, h⟩ => h.elim, fun A outer s H args us vs Q E _ _ _ _ ⟨φ, M, ds, mr, dvs, h⟩ => h.elim⟩

/-! ### calls -/
def callE (c : List D → Mem → R D) (as : Exs) : Ex := fun ρ M => (as ρ M).bind fun ds M => c ds M
section
variable {X : Cx} {W : XK} {p pos : Pos} {x : Str} {st : Stmt} {ps : List Str} {k : Nat} {f : Addr} {fd : FuncData} {c : List D → Mem → R D}
theorem call_of {as : Exs} {σ : L2.St} {H : Hp} {Q : VK} (h : tE (gX X) W (callE c as) σ H Q) : tEs (gX X) W as σ H fun vs H1 => spD (gX X) c vs H1 Q W := by
  obtain ⟨φ, ρ, M, e, m, h⟩ := h
  exact ⟨φ, ρ, M, e, m, h.bind.mono fun φ1 H1 ds M1 s1 m1 h1 vs dvs => ⟨φ1, M1, ds, m1, dvs, h1⟩⟩
theorem se_call {e : Expr} {es : List Expr} {as : Exs} (F : FnD X.prog X.w X.K X.mg X.base k x st ps f fd c) (C : Cok X W) (hr : Room k X.A) (hg : Gl X x) (ha : SA X W (e :: es) as) (hdb : (x == ("__debug__" : Str)) = false := by decide)
    (he : starEach (e :: es) X.env = (false, eval e X.env) :: starEach es X.env := by rfl) (hpl : (backTo pos (starEach es X.env)).any (·.1) = false := by rfl) : SE X W (.Call (.Name x p) (e :: es) [] pos) (callE c as) := by
  refine PE.imp (pe_call (E := W) F.ok hr hg F.mgf F.fu.kp F.bd .nil (passes_call C.tk (fun _ _ _ _ h => h)) ha hdb he hpl) fun σ H Q h => ?_
  have h1 := call_of h
  show tEs (gX X) W as σ H fun vs H1 => spD (gX X) c (vs ++ []) H1 Q W
  simp only [List.append_nil]
  exact h1
theorem se_call0 (F : FnD X.prog X.w X.K X.mg X.base k x st ps f fd c) (C : Cok X W) (hr : Room k X.A) (hg : Gl X x) (hdb : (x == ("__debug__" : Str)) = false := by decide) : SE X W (.Call (.Name x p) [] [] pos) (callE c nilE) := by
  refine PE.imp (pe_call0 (E := W) F.ok hr hg F.mgf F.fu.kp F.bd .nil (passes_call C.tk (fun _ _ _ _ h => h)) hdb) fun σ H Q ⟨φ, ρ, M, e, m, h⟩ => ?_
  exact ⟨φ, M, [], m, .nil, h⟩
/-! keywords -/
def permL {α : Type} (is : List Nat) (xs : List α) : List α := is.filterMap fun i => xs[i]?
theorem DVs.perm {g : G} {φ : List Addr} {H : Hp} {ds : List D} {vs : List V} (r : DVs g φ H ds vs) : ∀ is : List Nat, DVs g φ H (permL is ds) (permL is vs)
  | [] => .nil
  | i :: is => by
    unfold permL
    cases e : ds[i]? with
    | none =>
      have e2 : vs[i]? = none := by rw [List.getElem?_eq_none_iff] at e ⊢; rw [← r.length]; exact e
      rw [List.filterMap_cons_none e, List.filterMap_cons_none e2]; exact DVs.perm r is
    | some d =>
      obtain ⟨v, e2, dv⟩ := r.get e
      rw [List.filterMap_cons_some e, List.filterMap_cons_some e2]; exact .cons dv (DVs.perm r is)
theorem vals_perm {vs : List V} {us : List Value} (r : Vals vs us) : ∀ is : List Nat, Vals (permL is vs) (permL is us)
  | [] => .nil
  | i :: is => by
    unfold permL
    cases e : vs[i]? with
    | none => rw [List.filterMap_cons_none e, List.filterMap_cons_none (r.none_of e)]; exact vals_perm r is
    | some d =>
      obtain ⟨v, e2, dv⟩ := r.get e
      rw [List.filterMap_cons_some e, List.filterMap_cons_some e2]; exact .cons dv (vals_perm r is)
def SK (X : Cx) (W : XK) (kws : List Keyword) (m : Exs) : Prop := PK X kws (tEs (gX X) W m)
theorem PK.imp {X : Cx} {e : List Keyword} {t t' : TA} (h : PK X e t) (k : ∀ σ H Q, t' σ H Q → t σ H Q) : PK X e t' := ⟨fun pos pins s σ H Q I q => h.run pos pins s σ H Q I (k _ _ _ q)⟩
theorem sk_nil : SK X W [] nilE := PK.imp pk_nil fun σ H Q ⟨φ, ρ, M, e, m, h⟩ => h.here m [] .nil
theorem sk_cons {nm : Option Str} {e : Expr} {kpos : Pos} {kws : List Keyword} {a : Ex} {r : Exs} (ha : SE X W e a) (hr : SK X W kws r) : SK X W (⟨nm, e, kpos⟩ :: kws) (consE a r) := by
  refine PK.imp (pk_cons ha hr) fun σ H Q ⟨φ, ρ, M, e, m, h⟩ => ?_
  refine ⟨φ, ρ, M, e, m, h.bind.mono fun φ1 H1 d M1 s1 m1 h1 v dv => ?_⟩
  refine ⟨φ1, ρ, M1, e.step m s1, m1, h1.bind.mono fun φ2 H2 ds M2 s2 m2 h2 vs dvs => ?_⟩
  exact h2.here m2 _ (.cons (dv.step m1 s2) dvs)
def callKE (c : List D → Mem → R D) (n l : Nat) (is : List Nat) (as zs : Exs) : Ex := fun ρ M => (as ρ M).bind fun ds M => (zs ρ M).bind fun es M => if ds.length = n ∧ es.length = l then c (permL is (ds ++ es)) M else .bad
theorem kw_of {n l : Nat} {is : List Nat} {as zs : Exs} {σ : L2.St} {H : Hp} {Q : VK} (h : tE (gX X) W (callKE c n l is as zs) σ H Q) :
    tEs (gX X) W as σ H fun vs H1 => tEs (gX X) W zs σ H1 fun ws H2 => vs.length = n ∧ ws.length = l ∧ spD (gX X) c (permL is (vs ++ ws)) H2 Q W := by
  obtain ⟨φ, ρ, M, e, m, h⟩ := h
  refine ⟨φ, ρ, M, e, m, h.bind.mono fun φ1 H1 ds M1 s1 m1 h1 vs dvs => ?_⟩
  refine ⟨φ1, ρ, M1, e.step m s1, m1, h1.bind.mono fun φ2 H2 es M2 s2 m2 h2 ws dws => ?_⟩
  split at h2
  · rename_i q
    exact ⟨by rw [← dvs.length]; exact q.1, by rw [← dws.length]; exact q.2, φ2, M2, _, m2, ((dvs.step m1 s2).append dws).perm is, h2⟩
  · exact h2.elim
/-- the callee runs -/
theorem run_kw {pins : List (Addr × Obj)} {σ : L2.St} {H : Hp} {s : Shared} {Q : VK} {us ws : List Value} {vs zs : List V} {ks : List Str} {is : List Nat} {n : Nat} (F : FnD X.prog X.w X.K X.mg X.base k x st ps f fd c) (C : Cok X W) (hr : Room k X.A)
    (hb : ∀ (kV doc pm : Value) (an : Option Addr) (cdv ct : Value) (us ws : List Value), us.length = n → ws.length = ks.length → bindArgs (PySem.W.fnOf x x (defArgs st) (defBody st) (defScope st) .none kV doc pm an cdv ct) ⟨us, ks.zip ws⟩ = pure (ps.zip (permL is (us ++ ws))))
    (I : Inv X pins σ H s) (r : Vals vs us) (rz : Vals zs ws) (h : vs.length = n ∧ zs.length = ks.length ∧ spD (gX X) c (permL is (vs ++ zs)) H Q W) : wpAny (model X.prog X.w) X.A (call (.ref f) us (ks.zip ws)) (EP X pins σ Q) X.xe s := by
  obtain ⟨h1, h2, h3⟩ := h
  obtain ⟨oc, od, kV, doc, pm, an, cdv, ct, osl, efd, lk, hcd⟩ := F.fu.ex
  have hbt : BindsTo s fd ⟨us, ks.zip ws⟩ (ps.zip (permL is (us ++ ws))) := by
    rw [efd]; exact .of_eq (hb kV doc pm an cdv ct us ws (by rw [← r.length]; exact h1) (by rw [← rz.length]; exact h2))
  refine wpAny_call (codeAny_mono (F.ok.run X.A X.stack s H ⟨us, ks.zip ws⟩ _ _ Q W hr I.env0 hbt (vals_perm (r.append rz) is) h3) fun r s' hq => ?_)
  cases r with
  | error e => exact passes_call C.tk (fun _ _ _ _ h => h) pins σ H s e s' I hq
  | ok fl =>
    cases fl with
    | ret u => exact I.after hq
    | next => exact False.elim hq
    | brk => exact False.elim hq
    | cont => exact False.elim hq
theorem se_callK {e : Expr} {es : List Expr} {kws : List Keyword} {as zs : Exs} {ks : List Str} {is : List Nat} {n : Nat} (F : FnD X.prog X.w X.K X.mg X.base k x st ps f fd c) (C : Cok X W) (hr : Room k X.A) (hg : Gl X x)
    (hb : ∀ (kV doc pm : Value) (an : Option Addr) (cdv ct : Value) (us ws : List Value), us.length = n → ws.length = ks.length → bindArgs (PySem.W.fnOf x x (defArgs st) (defBody st) (defScope st) .none kV doc pm an cdv ct) ⟨us, ks.zip ws⟩ = pure (ps.zip (permL is (us ++ ws))))
    (ha : SA X W (e :: es) as) (hkw : SK X W kws zs) (hall : (backToKw pos (keywordEach kws X.env)).all (·.1.isSome) = true := by rfl) (hks : (backToKw pos (keywordEach kws X.env)).filterMap (·.1) = ks := by rfl)
    (hdb : (x == ("__debug__" : Str)) = false := by decide) (he : starEach (e :: es) X.env = (false, eval e X.env) :: starEach es X.env := by rfl)
    (hpl : ((backTo pos (starEach (e :: es) X.env)).any (·.1) || (backToKw pos (keywordEach kws X.env)).any (·.1.isNone)) = false := by rfl) :
    SE X W (.Call (.Name x p) (e :: es) kws pos) (callKE c n ks.length is as zs) := by
  refine ⟨fun pins s σ H Q I h => ?_⟩
  refine wpAny_Call_Name_kw (ld_glob I hg F.mgf ?_ hdb)
  refine PySem.W.callWith_KW (h₀ := X.base) I.ok.mod.kin F.fu.kp hall (thn (ha.run pos pins s σ H _ I (kw_of h)) fun us s1 ⟨vs, H1, I1, r, q⟩ => ?_) hpl he
  refine thn (hkw.run pos pins s1 σ H1 _ I1 q) fun ws s2 ⟨zs, H2, I2, rz, q2⟩ => ⟨I2.kIn, ?_⟩
  rw [hks]
  exact run_kw F C hr hb I2 r rz q2
theorem se_callK0 {kws : List Keyword} {zs : Exs} {ks : List Str} {is : List Nat} (F : FnD X.prog X.w X.K X.mg X.base k x st ps f fd c) (C : Cok X W) (hr : Room k X.A) (hg : Gl X x)
    (hb : ∀ (kV doc pm : Value) (an : Option Addr) (cdv ct : Value) (us ws : List Value), us.length = 0 → ws.length = ks.length → bindArgs (PySem.W.fnOf x x (defArgs st) (defBody st) (defScope st) .none kV doc pm an cdv ct) ⟨us, ks.zip ws⟩ = pure (ps.zip (permL is (us ++ ws))))
    (hkw : SK X W kws zs) (hall : (backToKw pos (keywordEach kws X.env)).all (·.1.isSome) = true := by rfl) (hks : (backToKw pos (keywordEach kws X.env)).filterMap (·.1) = ks := by rfl)
    (hdb : (x == ("__debug__" : Str)) = false := by decide)
    (hpl : ((backTo pos (starEach [] X.env)).any (·.1) || (backToKw pos (keywordEach kws X.env)).any (·.1.isNone)) = false := by rfl) :
    SE X W (.Call (.Name x p) [] kws pos) (callKE c 0 ks.length is nilE zs) := by
  refine ⟨fun pins s σ H Q I h => ?_⟩
  refine wpAny_Call_Name_kw (ld_glob I hg F.mgf ?_ hdb)
  obtain ⟨φ, ρ, M, e, m, h⟩ := kw_of h
  have h := h.here m [] .nil
  refine PySem.W.callWith_KW0 (h₀ := X.base) I.ok.mod.kin F.fu.kp hall ?_ hpl
  refine thn (hkw.run pos pins s σ H _ I h) fun ws s2 ⟨zs, H2, I2, rz, q2⟩ => ⟨I2.kIn, ?_⟩
  rw [hks]
  exact run_kw (us := []) (vs := []) F C hr hb I2 .nil rz q2
/-! a def that a local name holds -/
/-- the defs that a name may hold -/
structure Held1 (X : Cx) (k : Nat) (x : Str) (c : List D → Mem → R D) : Prop where
  ex : ∃ (st : Stmt) (ps : List Str) (f : Addr) (fd : FuncData), FnD X.prog X.w X.K X.mg X.base k x st ps f fd c
def callVE (L : List (Str × (List D → Mem → R D))) (i : Nat) (as : Exs) : Ex := fun ρ M => match ρ[i]? with
  | some (some (.fn x)) => (match L.lookup x with
    | some c => callE c as ρ M
    | none => .bad)
  | _ => .bad
theorem se_callV {e : Expr} {es : List Expr} {as : Exs} {L : List (Str × (List D → Mem → R D))} {i : Nat} (hL : ∀ x c, L.lookup x = some c → Held1 X k x c) (C : Cok X W) (hr : Room k X.A) (hN : X.N[i]? = some x) (hv : Vis X.env.scope x) (ha : SA X W (e :: es) as)
    (hdb : (x == ("__debug__" : Str)) = false := by decide) (hcd : (x == ("__classdict__" : Str)) = false := by decide) (he : starEach (e :: es) X.env = (false, eval e X.env) :: starEach es X.env := by rfl) (hpl : (backTo pos (starEach es X.env)).any (·.1) = false := by rfl) : SE X W (.Call (.Name x p) (e :: es) [] pos) (callVE L i as) := by
  refine ⟨fun pins s σ H Q I ⟨φ, ρ, M, er, m, h⟩ => ?_⟩
  unfold callVE at h
  split at h
  · rename_i y hy
    split at h
    · rename_i c hc
      obtain ⟨st, ps, f, fd, F⟩ := (hL y c hc).ex
      obtain ⟨v, h1, h2⟩ := er.at' i _ hy
      cases h2 with
      | fn q =>
        have q : X.mg y = some (.ref _) := q
        rw [F.mgf] at q; cases q
        have hh := call_of (X := X) (W := W) (c := c) (as := as) (σ := σ) (H := H) (Q := Q) ⟨φ, ρ, M, er, m, h⟩
        refine (pe_callL (E := W) F.ok hr hN hv F.fu.kp F.bd .nil (passes_call C.tk (fun _ _ _ _ h => h)) ha hdb hcd he hpl).run pins s σ H Q I ⟨h1, ?_⟩
        simp only [List.append_nil]
        exact hh
    · exact h.elim
  · exact h.elim
end
end W8

set_option Elab.async false
set_option linter.all false
set_option maxRecDepth 100000
namespace W8
open PySem L2 PySem.Spec PyProof.Rows

/-! ### data as the library's data -/
mutual
def D.py : D → Option PyData
  | .non => some .none
  | .bl b => some (.bool b)
  | .int i => some (.int i)
  | .str x => some (.str x)
  | .tup ds => match pys ds with
    | some ps => some (.tuple ps)
    | none => none
  | _ => none
def pys : List D → Option (List PyData)
  | [] => some []
  | d :: ds => match D.py d with
    | some p => (match pys ds with
      | some ps => some (p :: ps)
      | none => none)
    | none => none
end
section
variable {g : G} {φ : List Addr} {H : Hp}
mutual
theorem DV.dp : ∀ (d : D) {v : V} {p : PyData}, d.py = some p → DV g φ H d v → Dp g.K H v p
  | .non, _, _, e, .non => by cases e; exact .non
  | .bl _, _, _, e, .bl _ => by cases e; exact .bl _
  | .int _, _, _, e, .int _ => by cases e; exact .int _
  | .str _, _, _, e, .str _ => by cases e; exact .str _
  | .tup ds, _, p, e, .tup q r => by
    have e : (match pys ds with | some ps => some (PyData.tuple ps) | none => none) = some p := e
    split at e
    · rename_i ps h
      cases e
      exact .tup q (DVs.dp ds h r)
    · cases e
  | .rol _, _, _, e, _ => by cases e
  | .ref _, _, _, e, _ => by cases e
  | .fn _, _, _, e, _ => by cases e
  | .ty _, _, _, e, _ => by cases e
theorem DVs.dp : ∀ (ds : List D) {vs : List V} {ps : List PyData}, pys ds = some ps → DVs g φ H ds vs → DpAll g.K H vs ps
  | [], _, _, e, .nil => by cases e; exact .nil
  | d :: ds, _, ps, e, .cons a b => by
    have e : (match D.py d with | some p => (match pys ds with | some ps => some (p :: ps) | none => none) | none => none) = some ps := e
    split at e
    · rename_i p h1
      split at e
      · rename_i qs h2
        cases e
        exact .cons (DV.dp d h1 a) (DVs.dp ds h2 b)
      · cases e
    · cases e
end
end
/-- equality by values -/
def eqB (M : Mem) (d e : D) : Option Bool := match d, e with
  | .int i, .int j => some (decide (i = j))
  | .str a, .str b => some (decide (a = b))
  | .bl a, .bl b => some (decide (a = b))
  | .ref n, .ref m => (match M[n]?, M[m]? with
    | some (.lst ds), some (.lst es) => if ds.length ≠ es.length then some false else if ds.length = 0 then some true else (match pys ds, pys es with
      | some p, some q => if SeqAt.shaped (.list p) && SeqAt.shaped (.list q) then some (PyData.eqvAll p q) else none
      | _, _ => none)
    | _, _ => none)
  | d, e => match d.py, e.py with
    | some p, some q => if SeqAt.shaped p && SeqAt.shaped q then some (PyData.eqv p q) else none
    | _, _ => none
def boolR (r : Option Bool) (M : Mem) : Option (D × Mem) := match r with
  | some b => some (.bl b, M)
  | none => none
def eqD : Op2 := fun d e M => boolR (eqB M d e) M
def neD : Op2 := fun d e M => boolR ((eqB M d e).map not) M
section
variable {X : Cx}
theorem Wo.boolR {g : G} {φ : List Addr} {H : Hp} {M : Mem} (m : MR g φ M H) {r : Option Bool} {Q : VK} (h : Wo g φ H (boolR r M) fun φ' H' d _ => ∀ v, DV g φ' H' d v → Q v H') : ∃ b, r = some b ∧ Q (.bl b) H := by
  cases r with
  | none => exact h.elim
  | some b => exact ⟨b, rfl, h φ H (Step.refl _ _) m _ (.bl b)⟩
/-- what two values come to -/
theorem eqB_cases {g : G} {φ : List Addr} {H : Hp} {M : Mem} (m : MR g φ M H) {d e : D} {x y : V} {b : Bool} (dx : DV g φ H d x) (dy : DV g φ H e y) (h : eqB M d e = some b) :
    (scal x y = true ∧ b = decide (x = y)) ∨ (∃ p q, Dp g.K H x p ∧ Dp g.K H y q ∧ SeqAt.shaped p = true ∧ SeqAt.shaped q = true ∧ b = PyData.eqv p q) ∨
    (∃ a c xs ys, x = .ref a ∧ y = .ref c ∧ H a = some (.lst xs) ∧ H c = some (.lst ys) ∧ ((xs.length ≠ ys.length ∧ b = false) ∨ (xs.length = 0 ∧ ys.length = 0 ∧ b = true))) := by
  unfold eqB at h
  split at h
  · cases dx; cases dy; cases h; exact .inl ⟨rfl, by simp⟩
  · cases dx; cases dy; cases h; exact .inl ⟨rfl, by simp⟩
  · cases dx; cases dy; cases h; exact .inl ⟨rfl, by simp⟩
  · cases dx with
    | ref ha =>
      cases dy with
      | ref hb =>
        split at h
        · rename_i ds es h1 h2
          obtain ⟨xs, e1, r1⟩ := m.lst h1 ha
          obtain ⟨ys, e2, r2⟩ := m.lst h2 hb
          split at h
          · rename_i hl
            cases h
            exact .inr (.inr ⟨_, _, xs, ys, rfl, rfl, e1, e2, .inl ⟨by rw [← r1.length, ← r2.length]; exact hl, rfl⟩⟩)
          · rename_i hl
            split at h
            · rename_i h0
              cases h
              exact .inr (.inr ⟨_, _, xs, ys, rfl, rfl, e1, e2, .inr ⟨by rw [← r1.length]; exact h0, by rw [← r2.length]; omega, rfl⟩⟩)
            · split at h
              · rename_i p q hp hq
                split at h
                · rename_i hs
                  rw [Bool.and_eq_true] at hs
                  cases h
                  exact .inr (.inl ⟨.list p, .list q, .lst (SqL.of e1) (DVs.dp _ hp r1), .lst (SqL.of e2) (DVs.dp _ hq r2), hs.1, hs.2, rfl⟩)
                · cases h
              · cases h
        · cases h
  · split at h
    · rename_i p q hp hq
      split at h
      · rename_i hs
        rw [Bool.and_eq_true] at hs
        cases h
        exact .inr (.inl ⟨p, q, DV.dp _ hp dx, DV.dp _ hq dy, hs.1, hs.2, rfl⟩)
      · cases h
    · cases h
theorem len_ne {xs ys : List V} {us ws : List Value} (r : Vals xs us) (r' : Vals ys ws) (h : xs.length ≠ ys.length) : (us.toArray.size != ws.toArray.size) = true := by
  have e1 : xs.length = us.length := r.length
  have e2 : ys.length = ws.length := r'.length
  rw [List.size_toArray, List.size_toArray, bne_iff_ne, ← e1, ← e2]
  exact h
theorem len_zero {xs : List V} {us : List Value} (r : Vals xs us) (h : xs.length = 0) : us.toArray.size = 0 := by
  have e1 : xs.length = us.length := r.length
  rw [List.size_toArray, ← e1]; exact h
theorem os_eq (hu : X.A.units + 64 < cLine) : OS X (compareOp .Eq) eqD := by
  intro pins s σ H x y v u Q I rx ry ⟨φ, M, a, b, m, dx, dy, h⟩
  obtain ⟨k, hk, q⟩ := h.boolR m
  rcases eqB_cases m dx dy hk with ⟨h1, h2⟩ | ⟨p, q', h1, h2, h3, h4, h5⟩ | ⟨c, d, xs, ys, rfl, rfl, e1, e2, h⟩
  · subst h2
    exact op_eq pins s σ H x y v u Q I rx ry ⟨h1, q⟩
  · subst h5
    exact op_eqD hu pins s σ H x y v u Q I rx ry ⟨p, q', h1, h2, h3, h4, q⟩
  · cases rx
    cases ry
    obtain ⟨i1, r1, p1, _⟩ := I.list (SqL.of e1)
    obtain ⟨i2, r2, p2, _⟩ := I.list (SqL.of e2)
    rcases h with ⟨hl, rfl⟩ | ⟨l1, l2, rfl⟩
    · exact SeqAt.eq_list_lengthsAt p1.isList p2.isList (len_ne r1 r2 hl) (by omega) ⟨.bl false, H, I, rfl, q⟩
    · have n1 : i1.toArray.size = 0 := len_zero r1 l1
      have n2 : i2.toArray.size = 0 := len_zero r2 l2
      refine SeqAt.eq_listAt (e := fun _ => true) p1.isList p2.isList (by omega) (by omega) (fun j h1 _ => absurd h1 (by omega)) ⟨.bl _, H, I, rfl, ?_⟩
      rw [n1]; exact q
theorem os_ne (hu : X.A.units + 64 < cLine) : OS X (compareOp .NotEq) neD := by
  intro pins s σ H x y v u Q I rx ry ⟨φ, M, a, b, m, dx, dy, h⟩
  obtain ⟨k, hk, q⟩ := h.boolR m
  cases he : eqB M a b with
  | none => rw [he] at hk; cases hk
  | some b' =>
    rw [he] at hk
    cases hk
    rcases eqB_cases m dx dy he with ⟨h1, h2⟩ | ⟨p, q', h1, h2, h3, h4, h5⟩ | ⟨c, d, xs, ys, rfl, rfl, e1, e2, h⟩
    · subst h2
      exact op_ne pins s σ H x y v u Q I rx ry ⟨h1, q⟩
    · subst h5
      exact op_neD hu pins s σ H x y v u Q I rx ry ⟨p, q', h1, h2, h3, h4, q⟩
    · cases rx
      cases ry
      obtain ⟨i1, r1, p1, _⟩ := I.list (SqL.of e1)
      obtain ⟨i2, r2, p2, _⟩ := I.list (SqL.of e2)
      rcases h with ⟨hl, rfl⟩ | ⟨l1, l2, rfl⟩
      · exact PySem.EqBoolInt.of_rcne (SeqAt.RcNeAt.lists_lengths p1.isList p2.isList (len_ne r1 r2 hl) (by omega)) ⟨.bl true, H, I, rfl, q⟩
      · have n1 : i1.toArray.size = 0 := len_zero r1 l1
        have n2 : i2.toArray.size = 0 := len_zero r2 l2
        refine PySem.EqBoolInt.of_rcne (SeqAt.RcNeAt.lists (e := fun _ => true) p1.isList p2.isList (by omega) (by omega) (fun j h1 _ => absurd h1 (by omega))) ⟨.bl _, H, I, rfl, ?_⟩
        rw [n1]; exact q
/-- is None -/
def isN : D → Bool
  | .non => true
  | _ => false
theorem DV.isN {g : G} {φ : List Addr} {H : Hp} {d : D} {v : V} (h : DV g φ H d v) : decide (v = .non) = W8.isN d := by
  cases h <;> simp [W8.isN]
def isD : Op2 := fun d e M => if isN e = true then some (.bl (isN d), M) else none
def isNotD : Op2 := fun d e M => if isN e = true then some (.bl (!isN d), M) else none
theorem os_is : OS X (compareOp .Is) isD := by
  intro pins s σ H x y v u Q I rx ry ⟨φ, M, a, b, m, dx, dy, h⟩
  unfold isD at h
  split at h
  · rename_i hb
    have e : y = .non := by have := dy.isN; rw [hb] at this; exact of_decide_eq_true this
    refine op_isN pins s σ H x y v u Q I rx ry ⟨e, ?_⟩
    rw [dx.isN]; exact h φ H (Step.refl _ _) m _ (.bl _)
  · exact h.elim
theorem os_isNot : OS X (compareOp .IsNot) isNotD := by
  intro pins s σ H x y v u Q I rx ry ⟨φ, M, a, b, m, dx, dy, h⟩
  unfold isNotD at h
  split at h
  · rename_i hb
    have e : y = .non := by have := dy.isN; rw [hb] at this; exact of_decide_eq_true this
    refine op_notN pins s σ H x y v u Q I rx ry ⟨e, ?_⟩
    rw [dx.isN]; exact h φ H (Step.refl _ _) m _ (.bl _)
  · exact h.elim
/-- < -/
def ltB (d e : D) : Option Bool := match d, e with
  | .int i, .int j => some (decide (i < j))
  | .str a, .str b => some (decide (a.cps.toList < b.cps.toList))
  | .tup ds, .tup es => (match pys ds, pys es with
    | some p, some q => if PySem.W.alikeAll p q && decide ((PyData.tuple p).depth ≤ 64) then some (PySem.W.dataLt (.tuple p) (.tuple q)) else none
    | _, _ => none)
  | _, _ => none
def ltD : Op2 := fun d e M => boolR (ltB d e) M
theorem os_lt (hu : X.A.units + 64 < cLine) : OS X (compareOp .Lt) ltD := by
  intro pins s σ H x y v u Q I rx ry ⟨φ, M, a, b, m, dx, dy, h⟩
  obtain ⟨k, hk, q⟩ := h.boolR m
  unfold ltB at hk
  split at hk
  · cases dx; cases dy; cases hk
    exact op_lt pins s σ H _ _ v u Q I rx ry ⟨_, _, rfl, rfl, q⟩
  · cases dx; cases dy; cases hk
    exact op_lt_str pins s σ H _ _ v u Q I rx ry ⟨_, _, rfl, rfl, q⟩
  · split at hk
    · rename_i ds es _ _ p q' hp hq
      split at hk
      · rename_i hs
        rw [Bool.and_eq_true] at hs
        cases hk
        have d1 : (D.tup ds).py = some (.tuple p) := by show (match pys ds with | some ps => some (PyData.tuple ps) | none => none) = _; rw [hp]
        have d2 : (D.tup es).py = some (.tuple q') := by show (match pys es with | some ps => some (PyData.tuple ps) | none => none) = _; rw [hq]
        obtain ⟨as, r1⟩ := Dp.reads I _ _ _ (DV.dp _ d1 dx) rx
        obtain ⟨bs, r2⟩ := Dp.reads I _ _ _ (DV.dp _ d2 dy) ry
        refine PySem.W.rcLt_alike (.tuple p) (.tuple q') X.A s v u as bs r1 r2 hs.1 (fun z => nomatch z) ?_ X.prog X.w X.xe _ ⟨.bl _, H, I, rfl, q⟩
        have := of_decide_eq_true hs.2
        omega
      · cases hk
    · cases hk
  · cases hk
def leB (d e : D) : Option Bool := match d, e with
  | .int i, .int j => some (decide (i ≤ j))
  | _, _ => none
def leD : Op2 := fun d e M => boolR (leB d e) M
def gtB (d e : D) : Option Bool := match d, e with
  | .int i, .int j => some (decide (j < i))
  | .str a, .str b => some (decide (b.cps.toList < a.cps.toList))
  | _, _ => none
def gtD : Op2 := fun d e M => boolR (gtB d e) M
def geB (d e : D) : Option Bool := match d, e with
  | .int i, .int j => some (decide (j ≤ i))
  | _, _ => none
def geD : Op2 := fun d e M => boolR (geB d e) M
theorem os_le : OS X (compareOp .LtE) leD := by
  intro pins s σ H x y v u Q I rx ry ⟨φ, M, a, b, m, dx, dy, h⟩
  obtain ⟨k, hk, q⟩ := h.boolR m
  unfold leB at hk
  split at hk
  · cases dx; cases dy; cases hk
    exact op_le pins s σ H _ _ v u Q I rx ry ⟨_, _, rfl, rfl, q⟩
  · cases hk
theorem os_gt : OS X (compareOp .Gt) gtD := by
  intro pins s σ H x y v u Q I rx ry ⟨φ, M, a, b, m, dx, dy, h⟩
  obtain ⟨k, hk, q⟩ := h.boolR m
  unfold gtB at hk
  split at hk
  · cases dx; cases dy; cases hk
    exact op_gt pins s σ H _ _ v u Q I rx ry ⟨_, _, rfl, rfl, q⟩
  · cases dx; cases dy; cases hk
    exact op_gt_str pins s σ H _ _ v u Q I rx ry ⟨_, _, rfl, rfl, q⟩
  · cases hk
theorem os_ge : OS X (compareOp .GtE) geD := by
  intro pins s σ H x y v u Q I rx ry ⟨φ, M, a, b, m, dx, dy, h⟩
  obtain ⟨k, hk, q⟩ := h.boolR m
  unfold geB at hk
  split at hk
  · cases dx; cases dy; cases hk
    exact op_ge pins s σ H _ _ v u Q I rx ry ⟨_, _, rfl, rfl, q⟩
  · cases hk
/-! ### in -/
def flatD : D → Bool
  | .non | .bl _ | .int _ | .str _ => true
  | _ => false
def eqF : D → D → Bool
  | .non, .non => true
  | .bl a, .bl b => a == b
  | .bl a, .int b => (if a then 1 else 0) == b
  | .int a, .bl b => a == (if b then 1 else 0)
  | .int a, .int b => a == b
  | .str a, .str b => a == b
  | _, _ => false
theorem DV.flat {g : G} {φ : List Addr} {H : Hp} {d : D} {v : V} (h : DV g φ H d v) (f : flatD d = true) : flatV v = true := by
  cases h <;> first | rfl | cases f
theorem DV.eqF {g : G} {φ : List Addr} {H : Hp} {d e : D} {v w : V} (h : DV g φ H d v) (h' : DV g φ H e w) (f : flatD d = true) (f' : flatD e = true) : eqV v w = W8.eqF d e := by
  cases h <;> first | (cases f; done) | (cases h' <;> first | rfl | (cases f'; done))
theorem DVs.inF {g : G} {φ : List Addr} {H : Hp} {d : D} {v : V} (h : DV g φ H d v) (f : flatD d = true) : ∀ {ds : List D} {vs : List V}, DVs g φ H ds vs → ds.all flatD = true → vs.all flatV = true ∧ inV v vs = ds.any fun e => W8.eqF e d
  | _, _, .nil, _ => ⟨rfl, rfl⟩
  | _, _, .cons a b, q => by
    rw [List.all_cons, Bool.and_eq_true] at q
    obtain ⟨h1, h2⟩ := DVs.inF h f b q.2
    refine ⟨by rw [List.all_cons, a.flat q.1, h1]; rfl, ?_⟩
    show (eqV _ v || inV v _) = _
    rw [List.any_cons, a.eqF h q.1 f, h2]
def inB (M : Mem) (d e : D) : Option Bool := match d, e with
  | .str a, .str z => if a.cps.size = 1 then some (decide (a.cps.getD 0 0 ∈ z.cps.toList)) else none
  | d, .tup es => if flatD d && es.all flatD then some (es.any fun e => eqF e d) else none
  | d, .ref n => (match M[n]? with
    | some (.lst es) => if flatD d && es.all flatD then some (es.any fun e => eqF e d) else none
    | _ => none)
  | _, _ => none
def inD : Op2 := fun d e M => boolR (inB M d e) M
def notInD : Op2 := fun d e M => boolR ((inB M d e).map not) M
theorem inB_cases {g : G} {φ : List Addr} {H : Hp} {M : Mem} (m : MR g φ M H) {d e : D} {x y : V} {b : Bool} (dx : DV g φ H d x) (dy : DV g φ H e y) (h : inB M d e = some b) :
    (∃ c z, x = .str ⟨#[c]⟩ ∧ y = .str z ∧ b = decide (c ∈ z.cps.toList)) ∨ (∃ p xs, y = .ref p ∧ (SqL g.K H p xs ∨ SqT g.K H p xs) ∧ flatV x = true ∧ xs.all flatV = true ∧ b = inV x xs) := by
  unfold inB at h
  split at h
  · cases dx; cases dy
    split at h
    · rename_i a z hs
      cases h
      refine .inl ⟨a.cps.getD 0 0, z, ?_, rfl, rfl⟩
      obtain ⟨cps⟩ := a
      have : cps = #[cps.getD 0 0] := by
        apply Array.ext
        · simpa using hs
        · intro i h1 h2
          have : i = 0 := by simp at h2; exact h2
          subst this
          simp [Array.getD, h1]
      rw [← this]
    · cases h
  · split at h
    · rename_i hf
      rw [Bool.and_eq_true] at hf
      cases h
      cases dy with
      | tup hq r =>
        obtain ⟨h1, h2⟩ := r.inF dx hf.1 hf.2
        exact .inr ⟨_, _, rfl, .inr hq, dx.flat hf.1, h1, h2.symm⟩
    · cases h
  · split at h
    · rename_i es he
      split at h
      · rename_i hf
        rw [Bool.and_eq_true] at hf
        cases h
        cases dy with
        | ref hq =>
          obtain ⟨ys, e0, r⟩ := m.lst he hq
          obtain ⟨h1, h2⟩ := r.inF dx hf.1 hf.2
          exact .inr ⟨_, _, rfl, .inl (SqL.of e0), dx.flat hf.1, h1, h2.symm⟩
      · cases h
    · cases h
  · cases h
theorem os_in : OS X (compareOp .In) inD := by
  intro pins s σ H x y v u Q I rx ry ⟨φ, M, a, b, m, dx, dy, h⟩
  obtain ⟨k, hk, q⟩ := h.boolR m
  rcases inB_cases m dx dy hk with ⟨c, z, rfl, rfl, rfl⟩ | ⟨p, xs, rfl, h1, h2, h3, rfl⟩
  · exact op_in_sign pins s σ H _ _ v u Q I rx ry ⟨c, z, rfl, rfl, q⟩
  · exact op_in_seq pins s σ H _ _ v u Q I rx ry ⟨p, xs, rfl, h1, h2, h3, q⟩
theorem os_notIn : OS X (compareOp .NotIn) notInD := by
  intro pins s σ H x y v u Q I rx ry ⟨φ, M, a, b, m, dx, dy, h⟩
  obtain ⟨k, hk, q⟩ := h.boolR m
  cases he : inB M a b with
  | none => rw [he] at hk; cases hk
  | some b' =>
    rw [he] at hk
    cases hk
    rcases inB_cases m dx dy he with ⟨c, z, rfl, rfl, rfl⟩ | ⟨p, xs, rfl, h1, h2, h3, rfl⟩
    · exact op_notIn_sign pins s σ H _ _ v u Q I rx ry ⟨c, z, rfl, rfl, q⟩
    · exact op_notIn_seq pins s σ H _ _ v u Q I rx ry ⟨p, xs, rfl, h1, h2, h3, q⟩
end
end W8

set_option Elab.async false
set_option linter.all false
set_option maxRecDepth 100000
namespace W8
open PySem L2 PySem.Spec PyProof.Rows

/-! ### operators -/
def addD : Op2 := fun d e M => match d, e with
  | .int i, .int j => some (.int (i + j), M)
  | .str a, .str b => if a.length + b.length ≤ sizeLine then some (.str (a ++ b), M) else none
  | .tup xs, .tup ys => if xs.length + ys.length ≤ sizeLine then some (.tup (xs ++ ys), M) else none
  | .ref n, .ref m => (match M[n]?, M[m]? with
    | some (.lst xs), some (.lst ys) => if xs.length + ys.length ≤ sizeLine then some (.ref M.length, M ++ [.lst (xs ++ ys)]) else none
    | _, _ => none)
  | _, _ => none
def subD : Op2 := fun d e M => match d, e with
  | .int i, .int j => some (.int (i - j), M)
  | _, _ => none
def mulD : Op2 := fun d e M => match d, e with
  | .int i, .int j => if i.natAbs.log2 + j.natAbs.log2 < 1000000 then some (.int (i * j), M) else none
  | .ref n, .int k => (match M[n]? with
    | some (.lst xs) => if -(2 ^ 63) ≤ k ∧ k < 2 ^ 63 ∧ xs.length * k.toNat ≤ sizeLine then some (.ref M.length, M ++ [.lst (List.replicate k.toNat xs).flatten]) else none
    | _ => none)
  | _, _ => none
def modD : Op2 := fun d e M => match d, e with
  | .int i, .int j => if j ≠ 0 then some (.int (i.fmod j), M) else none
  | _, _ => none
def fdvD : Op2 := fun d e M => match d, e with
  | .int i, .int j => if j ≠ 0 ∧ j.natAbs < 1073741824 then some (.int (i.fdiv j), M) else none
  | _, _ => none
def powD : Op2 := fun d e M => match d, e with
  | .int i, .int j => if 0 ≤ j ∧ j ≤ 1000000 ∧ i.natAbs < 2 ^ 64 then some (.int (i ^ j.toNat), M) else none
  | _, _ => none
section
variable {X : Cx}
/-- a plain value -/
theorem wo_at {g : G} {φ : List Addr} {H : Hp} {M : Mem} {d : D} {v : V} {Q : VK} (m : MR g φ M H) (r : DV g φ H d v) (h : Wo g φ H (some (d, M)) fun φ' H' d _ => ∀ v, DV g φ' H' d v → Q v H') : Q v H :=
  h φ H (Step.refl _ _) m v r
/-- a new list -/
theorem wo_lst {g : G} {φ : List Addr} {H : Hp} {M : Mem} {ds : List D} {vs : List V} {Q : VK} (m : MR g φ M H) (r : DVs g φ H ds vs) (h : Wo g φ H (some (D.ref M.length, M ++ [.lst ds])) fun φ' H' d _ => ∀ v, DV g φ' H' d v → Q v H') {p : Addr} (hp : H p = none) : Q (.ref p) (upd H p (.lst vs)) := by
  obtain ⟨a, b, c⟩ := new_lst m r hp
  exact h _ _ a b _ c
/-- a new tuple -/
theorem wo_tup {g : G} {φ : List Addr} {H : Hp} {M : Mem} {ds : List D} {vs : List V} {Q : VK} (m : MR g φ M H) (r : DVs g φ H ds vs) (h : Wo g φ H (some (D.tup ds, M)) fun φ' H' d _ => ∀ v, DV g φ' H' d v → Q v H') {p : Addr} (hp : H p = none) : Q (.ref p) (upd H p (.tup vs)) :=
  h φ _ (Step.lay m hp) (m.lay hp) _ (.tup (SqT.of upd_same) (r.step m (Step.lay m hp)))
theorem os_add : OS X (binaryOp .Add) addD := by
  intro pins s σ H x y v u Q I rx ry ⟨φ, M, a, b, m, dx, dy, h⟩
  unfold addD at h
  split at h
  · cases dx; cases dy
    exact op_add pins s σ H _ _ v u Q I rx ry ⟨_, _, rfl, rfl, wo_at m (.int _) h⟩
  · cases dx; cases dy
    split at h
    · rename_i hz
      exact op_add_str pins s σ H _ _ v u Q I rx ry ⟨_, _, rfl, rfl, hz, wo_at m (.str _) h⟩
    · exact h.elim
  · split at h
    · rename_i xs ys hz
      cases dx with
      | tup hx r1 =>
        cases dy with
        | tup hy r2 =>
          refine op_catA pins s σ H _ _ v u Q I rx ry ⟨_, _, _, _, rfl, rfl, hx, hy, by rw [← r1.length, ← r2.length]; exact hz, fun e => ?_, fun _ e => ?_, fun _ _ p hp => wo_tup m (r1.append r2) h hp⟩
          · subst e
            have : xs = [] := List.eq_nil_of_length_eq_zero r1.length
            subst this
            exact wo_at m (.tup hy r2) h
          · subst e
            have : ys = [] := List.eq_nil_of_length_eq_zero r2.length
            subst this
            rw [List.append_nil] at h
            exact wo_at m (.tup hx r1) h
    · exact h.elim
  · split at h
    · rename_i xs ys h1 h2
      split at h
      · rename_i hz
        cases dx with
        | ref ha =>
          cases dy with
          | ref hb =>
            obtain ⟨us, e1, r1⟩ := m.lst h1 ha
            obtain ⟨ws, e2, r2⟩ := m.lst h2 hb
            exact op_cat pins s σ H _ _ v u Q I rx ry ⟨_, _, _, _, rfl, rfl, e1, e2, by rw [← r1.length, ← r2.length]; exact hz, fun p hp => wo_lst m (r1.append r2) h hp⟩
      · exact h.elim
    · exact h.elim
  · exact h.elim
theorem os_sub : OS X (binaryOp .Sub) subD := by
  intro pins s σ H x y v u Q I rx ry ⟨φ, M, a, b, m, dx, dy, h⟩
  unfold subD at h
  split at h
  · cases dx; cases dy
    exact op_sub pins s σ H _ _ v u Q I rx ry ⟨_, _, rfl, rfl, wo_at m (.int _) h⟩
  · exact h.elim
theorem os_mul : OS X (binaryOp .Mult) mulD := by
  intro pins s σ H x y v u Q I rx ry ⟨φ, M, a, b, m, dx, dy, h⟩
  unfold mulD at h
  split at h
  · split at h
    · rename_i hz
      cases dx; cases dy
      exact op_mulW pins s σ H _ _ v u Q I rx ry ⟨_, _, rfl, rfl, hz, wo_at m (.int _) h⟩
    · exact h.elim
  · split at h
    · rename_i xs h1
      split at h
      · rename_i hz
        cases dx with
        | ref ha =>
          cases dy
          obtain ⟨us, e1, r1⟩ := m.lst h1 ha
          exact op_rep pins s σ H _ _ v u Q I rx ry ⟨_, _, _, rfl, rfl, e1, hz.1, hz.2.1, by rw [← r1.length]; exact hz.2.2, fun p hp => wo_lst m (r1.rep _) h hp⟩
      · exact h.elim
    · exact h.elim
  · exact h.elim
theorem os_mod : OS X (binaryOp .Mod) modD := by
  intro pins s σ H x y v u Q I rx ry ⟨φ, M, a, b, m, dx, dy, h⟩
  unfold modD at h
  split at h
  · split at h
    · rename_i hz
      cases dx; cases dy
      exact op_modN pins s σ H _ _ v u Q I rx ry ⟨_, _, rfl, rfl, hz, wo_at m (.int _) h⟩
    · exact h.elim
  · exact h.elim
theorem os_fdv : OS X (binaryOp .FloorDiv) fdvD := by
  intro pins s σ H x y v u Q I rx ry ⟨φ, M, a, b, m, dx, dy, h⟩
  unfold fdvD at h
  split at h
  · split at h
    · rename_i hz
      cases dx; cases dy
      exact op_fdivN pins s σ H _ _ v u Q I rx ry ⟨_, _, rfl, rfl, hz, wo_at m (.int _) h⟩
    · exact h.elim
  · exact h.elim
theorem os_pow : OS X (binaryOp .Pow) powD := by
  intro pins s σ H x y v u Q I rx ry ⟨φ, M, a, b, m, dx, dy, h⟩
  unfold powD at h
  split at h
  · split at h
    · rename_i hz
      cases dx; cases dy
      exact op_pow pins s σ H _ _ v u Q I rx ry ⟨_, _, rfl, rfl, hz, wo_at m (.int _) h⟩
    · exact h.elim
  · exact h.elim
/-- -x -/
def negE (a : Ex) : Ex := fun ρ M => (a ρ M).bind fun d M => match d with
  | .int i => .ok (.int (-i)) M
  | _ => .bad
theorem se_neg {W : XK} {x : Expr} {a : Ex} {pos : Pos} (ha : SE X W x a) : SE X W (.UnaryOp .USub x pos) (negE a) := by
  refine PE.imp (pe_un un_neg ha) fun σ H Q ⟨φ, ρ, M, e, m, h⟩ => ?_
  refine ⟨φ, ρ, M, e, m, h.bind.mono fun φ1 H1 d M1 s1 m1 h1 v dv => ?_⟩
  split at h1
  · cases dv
    exact ⟨_, rfl, h1.here m1 _ (.int _)⟩
  · exact h1.elim

/-! ### a[b] -/
def ixB (M : Mem) (d e : D) : Option D := match d, e with
  | .tup xs, .int i => atI xs i
  | .rol xs, .int i => atI xs i
  | .ref n, .int i => (match M[n]? with
    | some (.lst xs) => atI xs i
    | _ => none)
  | .str z, .int i => if z.length ≤ sizeLine then (atI z.cps.toList i).map fun c => .str ⟨#[c]⟩ else none
  | _, _ => none
def ixD : Op2 := fun d e M => match ixB M d e with
  | some x => some (x, M)
  | none => none
theorem DVs.atI {g : G} {φ : List Addr} {H : Hp} {ds : List D} {vs : List V} {i : Int} {d : D} (r : DVs g φ H ds vs) (h : L2.atI ds i = some d) : ∃ v, L2.atI vs i = some v ∧ DV g φ H d v := by
  unfold L2.atI at h ⊢
  rw [← r.length]
  cases e : ixN ds.length i with
  | none => rw [e] at h; cases h
  | some j => rw [e] at h; exact r.get h
theorem se_ix {W : XK} {x y : Expr} {a b : Ex} {pos : Pos} (ha : SE X W x a) (hb : SE X W y b) (hs : PlainIx y := by exact fun _ _ => rfl) : SE X W (.Subscript x y pos) (opE ixD a b) := by
  refine PE.imp (pe_ix ix_seq ha hb hs) fun σ H Q h => ?_
  have h1 := op_of h
  revert h1
  show tE (gX X) W a σ H _ → tE (gX X) W a σ H _
  rintro ⟨φ, ρ, M, e, m, h1⟩
  refine ⟨φ, ρ, M, e, m, h1.mono fun φ1 H1 d M1 s1 m1 h2 v dv => ?_⟩
  obtain ⟨φ, ρ, M, e, m, h2⟩ := h2 v dv
  refine ⟨φ, ρ, M, e, m, h2.mono fun φ2 H2 d2 M2 s2 m2 h3 w dw => ?_⟩
  obtain ⟨φ, M, a, b, m, dx, dy, h⟩ := h3 w dw
  unfold ixD at h
  split at h
  · rename_i x0 hx
    unfold ixB at hx
    split at hx
    · cases dx with
      | tup hq r =>
        cases dy
        obtain ⟨z, e1, r1⟩ := r.atI hx
        exact .inr (.inl ⟨_, _, _, _, rfl, rfl, hq, e1, wo_at m r1 h⟩)
    · cases dx with
      | rol hq r =>
        cases dy
        obtain ⟨z, e1, r1⟩ := r.atI hx
        exact .inl ⟨_, _, _, _, rfl, rfl, hq.seq, e1, wo_at m r1 h⟩
    · split at hx
      · rename_i h0
        cases dx with
        | ref ha =>
          cases dy
          obtain ⟨us, e0, r⟩ := m.lst h0 ha
          obtain ⟨z, e1, r1⟩ := r.atI hx
          exact .inl ⟨_, _, _, _, rfl, rfl, SqL.of e0, e1, wo_at m r1 h⟩
      · cases hx
    · split at hx
      · rename_i hz
        cases dx
        cases dy
        obtain ⟨c, e1, e2⟩ := Option.map_eq_some_iff.mp hx
        subst e2
        exact .inr (.inr ⟨_, _, _, rfl, rfl, hz, e1, wo_at m (.str _) h⟩)
      · cases hx
    · cases hx
  · exact h.elim
end
end W8

set_option Elab.async false
set_option linter.all false
set_option maxRecDepth 100000
namespace W8
open PySem L2 PySem.Spec PyProof.Rows

/-! ### dicts -/
def keyD : D → Option Key
  | .int i => some (.inl i)
  | .str x => some (.inr x)
  | _ => none
def valD (kvs : List (Key × D)) (k : Key) : Option D := (kvs.find? fun kv => decide (kv.1 = k)).map (·.2)
def putD (kvs : List (Key × D)) (k : Key) (v : D) : List (Key × D) :=
  if (kvs.any fun kv => decide (kv.1 = k)) = true then kvs.map (fun kv => if kv.1 = k then (kv.1, v) else kv) else kvs ++ [(k, v)]
section
variable {g : G} {φ : List Addr} {H : Hp}
theorem KVs.val {k : Key} {d : D} : ∀ {ds : List (Key × D)} {vs : List (Key × V)}, KVs g φ H ds vs → valD ds k = some d → ∃ v, valV vs k = some v ∧ DV g φ H d v
  | _, _, .nil, e => by cases e
  | _, _, .cons (k := j) (d := d0) (v := v0) (ds := ds) (vs := vs) a b, e => by
    by_cases hj : j = k
    · subst hj
      have : d0 = d := by
        have e' : valD ((j, d0) :: ds) j = some d0 := by simp [valD]
        rw [e'] at e
        exact Option.some.inj e
      subst this
      exact ⟨v0, valV_pos rfl, a⟩
    · have e' : valD ((j, d0) :: ds) k = valD ds k := by simp [valD, List.find?_cons, hj]
      rw [e'] at e
      obtain ⟨v, h1, h2⟩ := KVs.val b e
      exact ⟨v, by rw [valV_neg hj]; exact h1, h2⟩
theorem KVs.length : ∀ {ds : List (Key × D)} {vs : List (Key × V)}, KVs g φ H ds vs → ds.length = vs.length
  | _, _, .nil => rfl
  | _, _, .cons _ r => by simp [KVs.length r]
theorem KVs.any {k : Key} : ∀ {ds : List (Key × D)} {vs : List (Key × V)}, KVs g φ H ds vs → (ds.any fun kv => decide (kv.1 = k)) = (vs.any fun kv => decide (kv.1 = k))
  | _, _, .nil => rfl
  | _, _, .cons _ r => by rw [List.any_cons, List.any_cons, KVs.any r]
theorem KVs.maps {k : Key} {d : D} {v : V} (r : DV g φ H d v) : ∀ {ds : List (Key × D)} {vs : List (Key × V)}, KVs g φ H ds vs → KVs g φ H (ds.map fun kv => if kv.1 = k then (kv.1, d) else kv) (vs.map fun kv => if kv.1 = k then (kv.1, v) else kv)
  | _, _, .nil => .nil
  | _, _, .cons (k := j) a b => by
    rw [List.map_cons, List.map_cons]
    by_cases hj : j = k
    · rw [if_pos hj, if_pos hj]; exact .cons r (KVs.maps r b)
    · rw [if_neg hj, if_neg hj]; exact .cons a (KVs.maps r b)
theorem KVs.snoc {k : Key} {d : D} {v : V} (r : DV g φ H d v) : ∀ {ds : List (Key × D)} {vs : List (Key × V)}, KVs g φ H ds vs → KVs g φ H (ds ++ [(k, d)]) (vs ++ [(k, v)])
  | _, _, .nil => .cons r .nil
  | _, _, .cons a b => .cons a (KVs.snoc r b)
theorem KVs.put {k : Key} {d : D} {v : V} {ds : List (Key × D)} {vs : List (Key × V)} (b : KVs g φ H ds vs) (r : DV g φ H d v) : KVs g φ H (putD ds k d) (putK vs k v) := by
  unfold putD putK
  rw [b.any]
  split
  · exact b.maps r
  · exact b.snoc r
theorem DV.key {d : D} {v : V} {k : Key} (r : DV g φ H d v) (h : keyD d = some k) : v = kV k := by
  cases r <;> cases h <;> rfl
end
def dgD : Op2 := fun d e M => match d, keyD e with
  | .ref n, some k => (match M[n]? with
    | some (.dic kvs) => (match valD kvs k with
      | some x => some (x, M)
      | none => none)
    | _ => none)
  | _, _ => none
def dputS (c a b : Ex) : Stt := fun ρ M => (c ρ M).bind fun z M => (a ρ M).bind fun d M => (b ρ M).bind fun e M => match d, keyD e with
  | .ref n, some k => (match M[n]? with
    | some (.dic kvs) => if kvs.length < sizeLine then .ok (.nx ρ) (M.set n (.dic (putD kvs k z))) else .bad
    | _ => .bad)
  | _, _ => .bad
section
variable {X : Cx} {W : XK} {pos : Pos}
theorem se_dget {x y : Expr} {a b : Ex} (hu : X.A.units + 64 < cLine) (ha : SE X W x a) (hb : SE X W y b) (hs : NoSl y := by exact fun _ _ => rfl) : SE X W (.Subscript x y pos) (opE dgD a b) := by
  refine PE.imp (pe_dget (by omega) ha hb hs) fun σ H Q h => ?_
  have h1 := op_of h
  revert h1
  show tE (gX X) W a σ H _ → tE (gX X) W a σ H _
  rintro ⟨φ, ρ, M, e, m, h1⟩
  refine ⟨φ, ρ, M, e, m, h1.mono fun φ1 H1 d M1 s1 m1 h2 v dv => ?_⟩
  obtain ⟨φ, ρ, M, e, m, h2⟩ := h2 v dv
  refine ⟨φ, ρ, M, e, m, h2.mono fun φ2 H2 d2 M2 s2 m2 h3 w dw => ?_⟩
  obtain ⟨φ, M, a, b, m, dx, dy, h⟩ := h3 w dw
  unfold dgD at h
  split at h
  · rename_i k hk
    split at h
    · rename_i kvs he
      split at h
      · rename_i z hv
        cases dx with
        | ref hq =>
          obtain ⟨kxs, e0, r⟩ := m.dic he hq
          obtain ⟨v0, e1, r1⟩ := r.val hv
          have ey := dy.key hk
          exact ⟨_, v0, rfl, by rw [ey, ← e1]; exact DGet.k e0, wo_at m r1 h⟩
      · exact h.elim
    · exact h.elim
  · exact h.elim
theorem ss_dput {x y z : Expr} {a b c : Ex} {pos' : Pos} (hu : X.A.units + 64 < cLine) (ha : SE X W x a) (hb : SE X W y b) (hc : SE X W z c)
    (hs : swapsWith z (some (.Subscript x y pos')) pos.line X.env = pure false := by rfl) : SS X W (.Assign [.Subscript x y pos'] z pos) (dputS c a b) := by
  refine PS.imp (ps_dput (by omega) ha hb hc hs) fun D σ H ⟨φ, ρ, M, e, m, h⟩ => ?_
  refine ⟨φ, ρ, M, e, m, h.bind.mono fun φ1 H1 d1 M1 s1 m1 h1 v1 r1 => ?_⟩
  refine ⟨φ1, ρ, M1, e.step m s1, m1, h1.bind.mono fun φ2 H2 d2 M2 s2 m2 h2 v2 r2 => ?_⟩
  refine ⟨φ2, ρ, M2, (e.step m s1).step m1 s2, m2, h2.bind.mono fun φ3 H3 d3 M3 s3 m3 h3 v3 r3 => ?_⟩
  split at h3
  · rename_i k hk
    split at h3
    · rename_i kvs he
      split at h3
      · rename_i hl
        have r2 := r2.step m2 s3
        have r1 := (r1.step m1 s2).step m2 s3
        cases r2 with
        | @ref _ p hq =>
          obtain ⟨kxs, e0, r⟩ := m3.dic he hq
          have ey := r3.key hk
          subst ey
          have hp : p ∈ φ3 := List.mem_of_getElem? hq
          have s4 : Step φ3 H3 φ3 (upd H3 p (.dK (putK kxs k v1))) := Step.write m3 hp
          have m4 := m3.write (o := .dK (putK kxs k v1)) (u := .dic (putD kvs k d1)) hq ⟨_, upd_same, (r.step m3 s4).put (r1.step m3 s4)⟩
          exact ⟨p, _, rfl, DPut.k e0 (by rw [← r.length]; exact hl), h3 _ _ s4 m4 σ ((((e.step m s1).step m1 s2).step m2 s3).step m3 s4)⟩
      · exact h3.elim
    · exact h3.elim
  · exact h3.elim
end

/-! ### slices -/
abbrev Op := Env → Mem → R (Option Int)
def tOp' (g : G) (W : XK) (m : Op) : TO := fun σ H Q => ∃ φ ρ M, ER g φ H ρ σ ∧ MR g φ M H ∧ Wp g W φ H (m ρ M) fun _ H' o _ => Q o H'
def SO (X : Cx) (W : XK) (e : Option Expr) (m : Op) : Prop := PO X e (tOp' (gX X) W m)
theorem PO.imp {X : Cx} {e : Option Expr} {t t' : TO} (h : PO X e t) (k : ∀ σ H Q, t' σ H Q → t σ H Q) : PO X e t' := ⟨fun pins s σ H Q I q => h.run pins s σ H Q I (k _ _ _ q)⟩
def noP : Op := fun _ M => .ok none M
def smP (a : Ex) : Op := fun ρ M => (a ρ M).bind fun d M => match d with
  | .int i => .ok (some i) M
  | _ => .bad
def cutD (xs : List D) (lo hi : Option Int) : List D := (xs.drop (HT.sIx xs.length 0 lo)).take (HT.sIx xs.length xs.length hi - HT.sIx xs.length 0 lo)
def slB (M : Mem) (d : D) (lo hi : Option Int) : Option (D × Mem) := match d with
  | .tup xs => some (.tup (cutD xs lo hi), M)
  | .rol xs => some (.ref M.length, M ++ [.lst (cutD xs lo hi)])
  | .ref n => (match M[n]? with
    | some (.lst xs) => some (.ref M.length, M ++ [.lst (cutD xs lo hi)])
    | _ => none)
  | .str z => if z.length ≤ sizeLine then some (.str (cutS z lo hi), M) else none
  | _ => none
def slE (a : Ex) (l u : Op) : Ex := fun ρ M => (a ρ M).bind fun d M => (l ρ M).bind fun lo M => (u ρ M).bind fun hi M => lift (slB M d lo hi)
theorem DVs.cut {g : G} {φ : List Addr} {H : Hp} {ds : List D} {vs : List V} (r : DVs g φ H ds vs) (lo hi : Option Int) : DVs g φ H (cutD ds lo hi) (cutV vs lo hi) := by
  unfold cutD cutV
  rw [r.length]
  exact (r.drop _).take _
theorem cutD_whole {ds : List D} {lo hi : Option Int} (h : HT.sIx ds.length 0 lo = 0 ∧ HT.sIx ds.length ds.length hi = ds.length) : cutD ds lo hi = ds := by
  unfold cutD
  rw [h.1, h.2]
  simp
section
variable {X : Cx} {W : XK} {pos : Pos}
theorem so_none : SO X W none noP := PO.imp po_none fun σ H Q ⟨φ, ρ, M, e, m, h⟩ => h.here m
theorem so_some {x : Expr} {a : Ex} (ha : SE X W x a) : SO X W (some x) (smP a) := by
  refine PO.imp (po_some ha) fun σ H Q ⟨φ, ρ, M, e, m, h⟩ => ?_
  refine ⟨φ, ρ, M, e, m, h.bind.mono fun φ1 H1 d M1 s1 m1 h1 v dv => ?_⟩
  split at h1
  · cases dv
    exact ⟨_, rfl, h1.here m1⟩
  · exact h1.elim
theorem se_sl {x : Expr} {lo hi : Option Expr} {a : Ex} {l u : Op} {p2 : Pos} (ha : SE X W x a) (hl : SO X W lo l) (hh : SO X W hi u) : SE X W (.Subscript x (.Slice lo hi none p2) pos) (slE a l u) := by
  refine PE.imp (pe_slice ((sl_tupA.or sl_list).or sl_str) ha hl hh) fun σ H Q ⟨φ, ρ, M, e, m, h⟩ => ?_
  refine ⟨φ, ρ, M, e, m, h.bind.mono fun φ1 H1 d1 M1 s1 m1 h1 v1 r1 => ?_⟩
  refine ⟨φ1, ρ, M1, e.step m s1, m1, h1.bind.mono fun φ2 H2 o2 M2 s2 m2 h2 => ?_⟩
  refine ⟨φ2, ρ, M2, (e.step m s1).step m1 s2, m2, h2.bind.mono fun φ3 H3 o3 M3 s3 m3 h3 => ?_⟩
  have r1 := (r1.step m1 s2).step m2 s3
  have h3 := wp_lift h3
  unfold slB at h3
  split at h3
  · cases r1 with
    | tup hq r =>
      refine .inl (.inl ⟨_, _, rfl, hq, fun hw => ?_, fun _ p hp => wo_tup m3 (r.cut _ _) h3 hp⟩)
      rw [← r.length] at hw
      rw [cutD_whole hw] at h3
      exact wo_at m3 (.tup hq r) h3
  · cases r1 with
    | rol hq r => exact .inl (.inr ⟨_, _, rfl, hq.seq, fun p hp => wo_lst m3 (r.cut _ _) h3 hp⟩)
  · split at h3
    · rename_i he
      cases r1 with
      | ref hq =>
        obtain ⟨us, e0, r⟩ := m3.lst he hq
        exact .inl (.inr ⟨_, _, rfl, SqL.of e0, fun p hp => wo_lst m3 (r.cut _ _) h3 hp⟩)
    · exact h3.elim
  · split at h3
    · rename_i hz
      cases r1
      exact .inr ⟨_, rfl, hz, wo_at m3 (.str _) h3⟩
    · exact h3.elim
  · exact h3.elim
end

/-! ### slices with a step -/
/-- the places of a slice with a step, of any list -/
def stepP {α : Type} (xs : List α) (lo hi st : Option Int) : List α := (sliceRange (sliceBounds lo hi st xs.length).1 (sliceBounds lo hi st xs.length).2.1 (sliceBounds lo hi st xs.length).2.2).filterMap (xs[·]?)
theorem stepP_pick (xs : List Value) (lo hi st : Option Int) : slicePick xs.toArray lo hi st = (stepP xs lo hi st).toArray := by
  unfold slicePick stepP
  simp
theorem vals_pick {xs : List V} {us : List Value} (r : Vals xs us) : ∀ is : List Nat, Vals (is.filterMap (xs[·]?)) (is.filterMap (us[·]?))
  | [] => .nil
  | i :: is => by
    have ih := vals_pick r is
    rw [List.filterMap_cons, List.filterMap_cons]
    cases h : xs[i]? with
    | none => rw [r.none_of h]; exact ih
    | some x =>
      obtain ⟨u, e, ru⟩ := r.get h
      rw [e]
      exact .cons ru ih
theorem dvs_pick {g : G} {φ : List Addr} {H : Hp} {xs : List D} {us : List V} (r : DVs g φ H xs us) : ∀ is : List Nat, DVs g φ H (is.filterMap (xs[·]?)) (is.filterMap (us[·]?))
  | [] => .nil
  | i :: is => by
    have ih := dvs_pick r is
    rw [List.filterMap_cons, List.filterMap_cons]
    cases h : xs[i]? with
    | none =>
      have : us[i]? = none := List.getElem?_eq_none_iff.mpr (by rw [← r.length]; exact List.getElem?_eq_none_iff.mp h)
      rw [this]; exact ih
    | some x =>
      obtain ⟨u, e, ru⟩ := r.get h
      rw [e]
      exact .cons ru ih
theorem vals_step {xs : List V} {us : List Value} (r : Vals xs us) (lo hi st : Option Int) : Vals (stepP xs lo hi st) (stepP us lo hi st) := by
  unfold stepP
  have e : xs.length = us.length := r.length
  rw [e]
  exact vals_pick r _
theorem dvs_step {g : G} {φ : List Addr} {H : Hp} {xs : List D} {us : List V} (r : DVs g φ H xs us) (lo hi st : Option Int) : DVs g φ H (stepP xs lo hi st) (stepP us lo hi st) := by
  unfold stepP
  rw [r.length]
  exact dvs_pick r _
theorem stepP_le {xs : List V} {us : List Value} (r : Vals xs us) (lo hi st : Option Int) : (stepP xs lo hi st).length ≤ xs.length := by
  have h1 : (stepP xs lo hi st).length = (stepP us lo hi st).length := (vals_step r lo hi st).length
  have h2 := slicePick_size_le us.toArray lo hi st
  have e : xs.length = us.length := r.length
  rw [stepP_pick] at h2
  rw [h1, e]
  simpa using h2
theorem stepP_rev {α : Type} (xs : List α) : stepP xs none none (some (-1)) = xs.reverse := by
  have h := PySem.W.krv_all xs.toArray
  unfold stepP
  have hb : sliceBounds none none (some (-1)) xs.length = ((xs.length : Int) - 1, -1, -1) := rfl
  rw [hb]
  show (sliceRange ((xs.length : Int) - 1) (-1) (-1)).filterMap (xs[·]?) = xs.reverse
  rw [PySem.W.krv_sliceRange, PySem.W.krv_range, List.filterMap_reverse]
  have e : (List.range xs.length).filterMap (fun j => xs[j]?) = xs := by
    simpa using h
  rw [e]
theorem fm_congr {α β : Type} {f g : α → Option β} : ∀ {l : List α}, (∀ x ∈ l, f x = g x) → l.filterMap f = l.filterMap g
  | [], _ => rfl
  | x :: l, h => by
    rw [List.filterMap_cons, List.filterMap_cons, h x List.mem_cons_self, fm_congr fun y hy => h y (List.mem_cons_of_mem _ hy)]
/-- a whole tuple from its end -/
theorem get_tup_rev {prog : Program} {w : World} {A : Around} {E : Value → Shared → Prop} {s : Shared} {t sl : Addr} {items : Array Value} {vs : Value} {Q : Value → Shared → Prop} (ht : IsTup s.heap t items) (hs : s.heap.IsSliceOf sl .none .none vs) (ps : IsPart vs (some (-1)))
    (h : Q (.ref s.heap.objs.size) { s with heap := s.heap.push { cls := .type "tuple", data := .seq items.toList.reverse.toArray } }) (hsz : items.size ≤ sizeLine) : wpAny (model prog w) A (getItem (.ref t) (.ref sl)) Q E s := by
  have hfit : sizeOk (.seq items.toList.reverse.toArray) := by
    show items.toList.reverse.toArray.size ≤ sizeLine
    simpa using hsz
  obtain ⟨os, hos, hcs, hds⟩ := id hs
  have hTs : s.TypeIs (.ref sl) "slice" := ⟨os, hos, hcs⟩
  have hap : ∀ {A : Around} {E : Value → Shared → Prop} {Q : Int × Int × Nat → Shared → Prop}, Q ((items.size : Int) - 1, -1, items.size) s → wpAny (model prog w) A (Builtin.Slice.sliceApplied (.ref sl) (pure (items.size : Int))) Q E s := by
    intro A E Q hq
    unfold Builtin.Slice.sliceApplied Builtin.Slice.sliceFields
    refine wpAny_bind (wpAny_bind (wpAny_field hos hds (x := Value.none) rfl (wpAny_bind (wpAny_field hos hds (x := Value.none) rfl (wpAny_bind (wpAny_field hos hds (x := vs) rfl (wpAny_pure ?_)))))))
    refine wpAny_bind (HT.slicePart_ ps ?_)
    show wpAny _ _ (if ((-1 : Int) == 0) = true then _ else _) _ _ s
    rw [if_neg (by decide)]
    refine wpAny_bind (HT.slicePart_ .none (wpAny_bind (HT.slicePart_ .none (wpAny_bind (wpAny_pure ?_)))))
    show wpAny _ _ (pure ((items.size : Int) - 1, (-1 : Int), Builtin.Slice.slicePlaces ((items.size : Int) - 1) (-1) (-1))) _ _ s
    have e : Builtin.Slice.slicePlaces ((items.size : Int) - 1) (-1) (-1) = items.size := by
      unfold Builtin.Slice.slicePlaces
      have h1 : ¬ ((-1 : Int) > 0) := by decide
      have h2 : (- -1 : Int) = 1 := by decide
      simp only [h1, if_false, h2, Int.ediv_one]
      split <;> omega
    rw [e]
    exact wpAny_pure hq
  unfold getItem
  try with_reducible refine wpAny_holding ?_
  first | refine wpAny_bind (wpAny_pure ?_) | skip
  refine wpAny_bind (wpAny_sequenceKey ht.typeIs (by decide) ?_)
  refine wpAny_bind (wpAny_callSpecial?_slot (name := Str.ofString "__getitem__") ht.typeIs PyProof.Rows.slot_tuple_getitem
    (wpAny_call_entry PyProof.Rows.slot_tuple_getitem ht.typeIs entry_tuple_getitem ?_ (args_tuple_getitem _ _)))
  show wpAny _ _ (Builtin.Tuple.tupleItemsOf (.ref t) >>= _) _ _ s
  refine wpAny_bind (tupleItemsOf_ ht ?_)
  refine wpAny_bind (wpAny_typeOf hTs ?_)
  rw [if_pos (by decide)]
  refine wpAny_bind (hap ?_)
  show wpAny _ _ (if (((items.size : Int) - 1) == 0 && (-1 : Int) == 1 && items.size == items.size) = true then _ else _) _ _ s
  have hno : ¬ ((((items.size : Int) - 1) == 0 && (-1 : Int) == 1 && items.size == items.size) = true) := by
    have : ((-1 : Int) == 1) = false := by decide
    rw [this, Bool.and_false, Bool.false_and]
    exact Bool.false_ne_true
  rw [if_neg hno]
  have e : ((List.range items.size).filterMap fun (m : Nat) => items[(((items.size : Int) - 1) + (m : Int) * -1).toNat]?).toArray = items.toList.reverse.toArray := by
    congr 1
    have h1 := stepP_rev items.toList
    unfold stepP at h1
    have hb : sliceBounds none none (some (-1)) items.toList.length = ((items.size : Int) - 1, -1, -1) := by rw [Array.length_toList]; rfl
    rw [hb] at h1
    have h1 : (sliceRange ((items.size : Int) - 1) (-1) (-1)).filterMap (items.toList[·]?) = items.toList.reverse := h1
    rw [← h1, PySem.W.krv_sliceRange, List.filterMap_map]
    apply fm_congr
    intro j hj
    have hj := List.mem_range.mp hj
    show items[(((items.size : Int) - 1) + (j : Int) * -1).toNat]? = items.toList[items.size - 1 - j]?
    have e2 : (((items.size : Int) - 1) + (j : Int) * -1).toNat = items.size - 1 - j := by omega
    rw [e2, Array.getElem?_toList]
  rw [e]
  first
    | exact wpAny_bind (m := Builtin.Tuple.tupleExact _) (wpAny_newObj_type (wpAny_pure ⟨_, rfl, wpAny_pure h⟩) hfit)
    | exact wpAny_bind (m := Builtin.Tuple.tupleExact _) (wpAny_newObj_type (wpAny_bind (wpAny_pure (wpAny_pure ⟨_, rfl, wpAny_pure h⟩))) hfit)
    | exact wpAny_bind (wpAny_bind (m := Builtin.Tuple.tupleExact _) (wpAny_newObj_type (wpAny_pure (wpAny_pure ⟨_, rfl, wpAny_pure h⟩)) hfit))
    | exact wpAny_bind (wpAny_bind (m := Builtin.Tuple.tupleExact _) (wpAny_newObj_type (wpAny_pure ⟨_, rfl, wpAny_pure h⟩) hfit))
def stB (M : Mem) (d : D) (lo hi st : Option Int) : Option (D × Mem) := if st = some 0 then none else match d with
  | .tup xs => (match lo, hi, st with
    | none, none, some (-1) => some (.tup xs.reverse, M)
    | _, _, _ => none)
  | .rol xs => some (.ref M.length, M ++ [.lst (stepP xs lo hi st)])
  | .ref n => (match M[n]? with
    | some (.lst xs) => some (.ref M.length, M ++ [.lst (stepP xs lo hi st)])
    | _ => none)
  | _ => none
def stE (a : Ex) (l u t : Op) : Ex := fun ρ M => (a ρ M).bind fun d M => (l ρ M).bind fun lo M => (u ρ M).bind fun hi M => (t ρ M).bind fun st M => lift (stB M d lo hi st)
def rSt (K : PySem.W.Frag) : V → Option Int → Option Int → Option Int → Hp → VK → Prop := fun x lo hi st H Q => st ≠ some 0 ∧
  ((∃ a xs, x = .ref a ∧ SqL K H a xs ∧ ∀ p, H p = none → Q (.ref p) (upd H p (.lst (stepP xs lo hi st)))) ∨
   (∃ a xs, x = .ref a ∧ SqT K H a xs ∧ lo = none ∧ hi = none ∧ st = some (-1) ∧ ∀ p, H p = none → Q (.ref p) (upd H p (.tup xs.reverse))))
theorem part_none {v : Value} (p : IsPart v none) : v = .none := by cases p; rfl
theorem pe_step3 {X : Cx} {pos p2 : Pos} {e : Expr} {lo hi st : Option Expr} {te : TE} {tl th ts : TO} (he : PE X e te) (hl : PO X lo tl) (hh : PO X hi th) (hst : PO X st ts)
    (hs : ∀ a b, subscripted (.Slice lo hi st p2) false a b = operate [a, b] (getItem a b)) :
    PE X (.Subscript e (.Slice lo hi st p2) pos) (fun σ H Q => te σ H fun x H1 => tl σ H1 fun l H2 => th σ H2 fun u H3 => ts σ H3 fun t H4 => rSt X.K x l u t H4 Q) := by
  refine ⟨fun pins s σ H Q I h => ?_⟩
  refine Subscript_ (thn (he.run pins s σ H _ I h) fun v s1 ⟨x, H1, I1, r1, q1⟩ => ?_)
  refine wpAny_Slice (thn (hl.run pins s1 σ H1 _ I1 q1) fun vl s2 ⟨l, H2, I2, pl, q2⟩ => ?_)
  refine thn (hh.run pins s2 σ H2 _ I2 q2) fun vu s3 ⟨u, H3, I3, pu, q3⟩ => ?_
  refine thn (hst.run pins s3 σ H3 _ I3 q3) fun vs s4 ⟨t, H4, I4, ps, h0, q4⟩ => ?_
  have I5 : Inv X pins σ H4 { s4 with heap := s4.heap.push { cls := .type "slice", data := .fields #[vl, vu, vs] } } := I4.kept (t' := s4.toks) fun b ob q => Heap.get?_push_of_some _ q
  rcases q4 with ⟨a, xs, ex, hx, q⟩ | ⟨a, xs, ex, hx, e1, e2, e3, q⟩
  · subst ex
    cases r1
    obtain ⟨its, r, ht, hz⟩ := I5.list hx
    have hlen := r.length
    refine tail_any (ops := [.ref a, .ref s4.heap.objs.size]) ht.isList.typeIs (PySem.slot_list_getitem.lookup) ?_ (hs _ _)
    refine wpAny_getItem_list_slice ht.isList (Heap.IsSliceOf.new _ vl vu vs) pl pu ps h0 ?_ (by rw [List.size_toArray]; omega)
    rw [stepP_pick]
    refine ⟨.ref _, _, I5.laid (t' := s4.toks) (o := .lst (stepP xs l u t)) (fun b ob q => Heap.get?_push_of_some _ q) (Nat.le_refl _) ?_, rfl, q _ (I5.hok.fresh (Nat.le_refl _))⟩
    exact ⟨Nat.le_trans (stepP_le r l u t) hz, _, 0, vals_step r l u t, Heap.get?_push_size _ rfl⟩
  · subst ex e1 e2 e3
    cases r1
    have el := part_none pl
    have eu := part_none pu
    subst el eu
    obtain ⟨its, r, ht, hz⟩ := I5.tuple hx
    have hlen := r.length
    refine tail_any (ops := [.ref a, .ref s4.heap.objs.size]) ht.typeIs (PyProof.Rows.slot_tuple_getitem.lookup) ?_ (hs _ _)
    refine get_tup_rev ht (Heap.IsSliceOf.new _ .none .none vs) ps ?_ (by rw [List.size_toArray]; omega)
    refine ⟨.ref _, _, I5.laid (t' := s4.toks) (o := .tup xs.reverse) (fun b ob q => Heap.get?_push_of_some _ q) (Nat.le_refl _) ?_, rfl, q _ (I5.hok.fresh (Nat.le_refl _))⟩
    exact ⟨by rw [List.length_reverse]; exact hz, _, r.reverse, IsTup.new _ _⟩
theorem se_st {X : Cx} {W : XK} {pos : Pos} {x : Expr} {lo hi st : Option Expr} {a : Ex} {l u t : Op} {p2 : Pos} (ha : SE X W x a) (hl : SO X W lo l) (hh : SO X W hi u) (hst : SO X W st t)
    (hs : ∀ o i, subscripted (.Slice lo hi st p2) false o i = operate [o, i] (getItem o i) := by intro _ _; with_unfolding_all rfl) : SE X W (.Subscript x (.Slice lo hi st p2) pos) (stE a l u t) := by
  refine PE.imp (pe_step3 ha hl hh hst hs) fun σ H Q ⟨φ, ρ, M, e, m, h⟩ => ?_
  refine ⟨φ, ρ, M, e, m, h.bind.mono fun φ1 H1 d1 M1 s1 m1 h1 v1 r1 => ?_⟩
  refine ⟨φ1, ρ, M1, e.step m s1, m1, h1.bind.mono fun φ2 H2 o2 M2 s2 m2 h2 => ?_⟩
  refine ⟨φ2, ρ, M2, (e.step m s1).step m1 s2, m2, h2.bind.mono fun φ3 H3 o3 M3 s3 m3 h3 => ?_⟩
  refine ⟨φ3, ρ, M3, ((e.step m s1).step m1 s2).step m2 s3, m3, h3.bind.mono fun φ4 H4 o4 M4 s4 m4 h4 => ?_⟩
  have r1 := ((r1.step m1 s2).step m2 s3).step m3 s4
  have h4 := wp_lift h4
  unfold stB at h4
  split at h4
  · exact h4.elim
  · rename_i h0
    refine ⟨h0, ?_⟩
    split at h4
    · split at h4
      · cases r1 with
        | tup hq r => exact .inr ⟨_, _, rfl, hq, rfl, rfl, rfl, fun p hp => wo_tup m4 r.reverse h4 hp⟩
      · exact h4.elim
    · cases r1 with
      | rol hq r => exact .inl ⟨_, _, rfl, hq.seq, fun p hp => wo_lst m4 (dvs_step r _ _ _) h4 hp⟩
    · split at h4
      · rename_i he
        cases r1 with
        | ref hq =>
          obtain ⟨us, e0, r⟩ := m4.lst he hq
          exact .inl ⟨_, _, rfl, SqL.of e0, fun p hp => wo_lst m4 (dvs_step r _ _ _) h4 hp⟩
      · exact h4.elim
    · exact h4.elim
end W8

set_option Elab.async false
set_option linter.all false
set_option maxRecDepth 100000
namespace W8
open PySem L2 PySem.Spec PyProof.Rows

/-! ### methods of a list -/
abbrev Opn := D → List D → Mem → Option (D × Mem)
def isL (M : Mem) : D → Bool
  | .ref n => match M[n]? with
    | some (.lst _) => true
    | _ => false
  | _ => false
def rM (g : G) (f : Opn) : V → List V → Hp → VK → Prop := fun x xs H Q => ∃ φ M d ds, MR g φ M H ∧ DV g φ H d x ∧ DVs g φ H ds xs ∧ Wo g φ H (f d ds M) fun φ' H' e _ => ∀ v, DV g φ' H' e v → Q v H'
def MS (X : Cx) (id : String) (f : Opn) : Prop := MtR X id (rM (gX X) f)
def mtE (f : Opn) (o : Ex) (as : Exs) : Ex := fun ρ M => (o ρ M).bind fun d M => if isL M d = true then (as ρ M).bind fun ds M => lift (f d ds M) else .bad
section
variable {X : Cx} {W : XK} {pos : Pos}
theorem isL_ty {g : G} {φ : List Addr} {H : Hp} {M : Mem} {d : D} {v : V} (m : MR g φ M H) (r : DV g φ H d v) (h : isL M d = true) : tyV g.K "list" v H := by
  unfold isL at h
  split at h
  · split at h
    · rename_i he
      cases r with
      | ref hq =>
        obtain ⟨us, e0, _⟩ := m.lst he hq
        exact .inl ⟨rfl, us, SqL.of e0⟩
    · cases h
  · cases h
theorem se_mt {o e : Expr} {es : List Expr} {a : Ex} {as : Exs} {name : Str} {apos : Pos} {id : String} {f : Opn} (slot : Slot "list" name id) (hty : typeOf (.builtin id) = pure (.type "method_descriptor")) (hm : MS X id f)
    (ho : SE X W o a) (ha : SA X W (e :: es) as)
    (hbase : attributeBase o name X.env (eval o X.env) = eval o X.env := by rfl)
    (hfew : ((backTo pos (starEach (e :: es) X.env)).all (fun x => !x.1) && (backToKw pos (keywordEach [] X.env)).all (fun x => x.1.isSome)
      && decide ((e :: es).length + ([] : List Keyword).length + (if ([] : List Keyword).isEmpty then 0 else 1) < 30)) = true := by rfl)
    (hline : (apos.endLine == pos.line) = true := by rfl) (hs : starEach (e :: es) X.env = (false, eval e X.env) :: starEach es X.env := by rfl) (hplain : (backTo pos (starEach es X.env)).any (·.1) = false := by rfl) :
    SE X W (.Call (.Attribute o name apos) (e :: es) [] pos) (mtE f a as) := by
  refine PE.imp (pe_bm PySem.F.plainAttrs_list slot hty hm ho ha hbase hfew hline hs hplain) fun σ H Q ⟨φ, ρ, M, e, m, h⟩ => ?_
  refine ⟨φ, ρ, M, e, m, h.bind.mono fun φ1 H1 d M1 s1 m1 h1 v dv => ?_⟩
  split at h1
  · rename_i hl
    refine ⟨isL_ty m1 dv hl, φ1, ρ, M1, e.step m s1, m1, h1.bind.mono fun φ2 H2 ds M2 s2 m2 h2 vs dvs => ?_⟩
    exact ⟨φ2, M2, d, ds, m2, dv.step m1 s2, dvs, wp_lift h2⟩
  · exact h1.elim
theorem se_mt0 {o : Expr} {a : Ex} {name : Str} {apos : Pos} {id : String} {f : Opn} (slot : Slot "list" name id) (hty : typeOf (.builtin id) = pure (.type "method_descriptor")) (hm : MS X id f)
    (ho : SE X W o a)
    (hbase : attributeBase o name X.env (eval o X.env) = eval o X.env := by rfl) (hline : (apos.endLine == pos.line) = true := by rfl) :
    SE X W (.Call (.Attribute o name apos) [] [] pos) (mtE f a nilE) := by
  refine PE.imp (pe_bm0 PySem.F.plainAttrs_list slot hty hm ho hbase hline) fun σ H Q ⟨φ, ρ, M, e, m, h⟩ => ?_
  refine ⟨φ, ρ, M, e, m, h.bind.mono fun φ1 H1 d M1 s1 m1 h1 v dv => ?_⟩
  split at h1
  · rename_i hl
    exact ⟨isL_ty m1 dv hl, φ1, M1, d, [], m1, dv, .nil, wp_lift h1⟩
  · exact h1.elim
def appD : Opn := fun d ds M => match d, ds with
  | .ref n, [y] => (match M[n]? with
    | some (.lst xs) => if xs.length < sizeLine then some (.non, M.set n (.lst (xs ++ [y]))) else none
    | _ => none)
  | _, _ => none
def popD : Opn := fun d ds M => match d, ds with
  | .ref n, [] => (match M[n]? with
    | some (.lst xs) => (match xs[xs.length - 1]? with
      | some y => some (y, M.set n (.lst xs.dropLast))
      | none => none)
    | _ => none)
  | _, _ => none
def popAtD : Opn := fun d ds M => match d, ds with
  | .ref n, [.int i] => (match M[n]? with
    | some (.lst xs) => (match seqIndex? i xs.length with
      | some k => (match xs[k]? with
        | some y => if -(2 ^ 63) ≤ i ∧ i < 2 ^ 63 then some (y, M.set n (.lst (xs.eraseIdx k))) else none
        | none => none)
      | none => none)
    | _ => none)
  | _, _ => none
/-- what a list takes over -/
def itemsOf (M : Mem) : D → Option (List D)
  | .tup ys => some ys
  | .ref n => (match M[n]? with
    | some (.lst ys) => some ys
    | _ => none)
  | _ => none
def extD : Opn := fun d ds M => match d, ds with
  | .ref n, [z] => (match M[n]? with
    | some (.lst xs) => (match itemsOf M z with
      | some ys => if xs.length + ys.length ≤ sizeLine then some (.non, M.set n (.lst (xs ++ ys))) else none
      | none => none)
    | _ => none)
  | _, _ => none
/-- a list of the memory is written -/
theorem wo_put {g : G} {φ : List Addr} {H : Hp} {M : Mem} {n : Nat} {a : Addr} {ds : List D} {vs : List V} {e : D} {v : V} {Q : VK} (m : MR g φ M H) (hq : φ[n]? = some a) (r : DVs g φ H ds vs) (re : DV g φ H e v)
    (h : Wo g φ H (some (e, M.set n (.lst ds))) fun φ' H' d _ => ∀ v, DV g φ' H' d v → Q v H') : Q v (upd H a (.lst vs)) := by
  have hp : a ∈ φ := List.mem_of_getElem? hq
  have s : Step φ H φ (upd H a (.lst vs)) := Step.write m hp
  have m4 := m.write (o := .lst vs) (u := .lst ds) hq ⟨_, upd_same, r.step m s⟩
  exact h _ _ s m4 v (re.step m s)
theorem ms_app : MS X "list.append" appD := by
  intro pins s σ H x xs v us Q I rx rv ⟨φ, M, d, ds, m, dx, dvs, h⟩
  unfold appD at h
  split at h
  · split at h
    · rename_i he
      split at h
      · rename_i hz
        cases dx with
        | ref hq =>
          obtain ⟨ws, e0, r⟩ := m.lst he hq
          cases dvs with
          | cons r1 t =>
            cases t
            exact mt_append pins s σ H _ _ v us Q I rx rv ⟨_, _, _, rfl, rfl, e0, by rw [← r.length]; exact hz, wo_put m hq (r.snoc r1) .non h⟩
      · exact h.elim
    · exact h.elim
  · exact h.elim
theorem ms_pop : MS X "list.pop" popD := by
  intro pins s σ H x xs v us Q I rx rv ⟨φ, M, d, ds, m, dx, dvs, h⟩
  unfold popD at h
  split at h
  · split at h
    · rename_i he
      split at h
      · rename_i y hy
        cases dx with
        | ref hq =>
          obtain ⟨ws, e0, r⟩ := m.lst he hq
          cases dvs
          obtain ⟨w, e1, r1⟩ := r.get hy
          exact mt_pop pins s σ H _ _ v us Q I rx rv ⟨_, _, _, rfl, rfl, e0, by rw [← r.length]; exact e1, wo_put m hq r.dropLast r1 h⟩
      · exact h.elim
    · exact h.elim
  · exact h.elim
theorem ms_popAt : MS X "list.pop" popAtD := by
  intro pins s σ H x xs v us Q I rx rv ⟨φ, M, d, ds, m, dx, dvs, h⟩
  unfold popAtD at h
  split at h
  · split at h
    · rename_i he
      split at h
      · rename_i k hk
        split at h
        · rename_i y hy
          split at h
          · rename_i hz
            cases dx with
            | ref hq =>
              obtain ⟨ws, e0, r⟩ := m.lst he hq
              cases dvs with
              | cons r1 t =>
                cases r1
                cases t
                obtain ⟨w, e1, r1⟩ := r.get hy
                exact mt_popAt pins s σ H _ _ v us Q I rx rv ⟨_, _, _, k, _, rfl, rfl, e0, hz.1, hz.2, by rw [← r.length]; exact hk, e1, wo_put m hq (r.eraseIdx k) r1 h⟩
          · exact h.elim
        · exact h.elim
      · exact h.elim
    · exact h.elim
  · exact h.elim
/-- l.extend(t), t a tuple of any form -/
theorem ext_tup (l : Addr) (items : Array Value) (n : Nat) (b : Addr) (o : Obj) (items2 : Array Value) (n2 : Nat) (hc : o.cls = .type "tuple") (hd : o.data = .seq items2 n2)
    (hs0 : ¬(!items.isEmpty && Builtin.List.listTooLong (items.size + items2.size)) = true) (hs1 : items.size ≤ sizeLine) (hs2 : items.size + items2.size ≤ sizeLine + 1) :
    Meets (Builtin.«list.extend» ⟨[.ref l, .ref b], []⟩) (fun _ R s => s.heap.get? l = some { cls := .type "list", dict := none, data := .seq items n, slots := #[] } ∧ s.heap.get? b = some o ∧
      R (.ok (.ret Value.none)) { s with heap := s.heap.update l (Obj.mapSeq fun x => x ++ items2), toks := s.toks }) :=
  .of_wp fun prog w A R s h => by
    obtain ⟨hl, hb, h⟩ := h
    have hz' : (items ++ items2).size ≤ sizeLine + 1 := by rw [Array.size_append]; exact hs2
    show wpAny _ A.in1 (Builtin.List.listExtendWith (.ref l) (.ref b) .none) _ _ s
    unfold Builtin.List.listExtendWith
    refine wpAny_bind (wpAny_typeOf ⟨o, hb, hc⟩ ?_)
    have h1 : (Builtin.List.listSameRef (.ref l) (.ref b) || Value.type "tuple" == Value.type "list" || Value.type "tuple" == Value.type "tuple") = true := by simp
    simp only [h1, if_true]
    refine wpAny_bind ?_
    unfold Builtin.List.listItems
    refine wpAny_bind (wpAny_seqItems hb hd (wpAny_pure ?_))
    refine wpAny_bind ?_
    refine wpAny_bind (wpAny_seqItems hl rfl (wpAny_pure ?_))
    rw [if_neg hs0]
    show wpAny _ A.in1 (updateSeq l (· ++ items2) >>= fun _ => ret .none) _ _ s
    refine wpAny_bind (wpAny_updateSeq hl rfl (hz := hs1) (_hz' := hz') ?_)
    exact wpAny_pure ⟨_, rfl, h⟩
theorem mt_extT : MtM X "list.extend" (fun x vs H Q => ∃ l b xs zs, x = .ref l ∧ vs = [.ref b] ∧ H l = some (.lst xs) ∧ SqT X.K H b zs ∧ xs.length + zs.length ≤ sizeLine ∧ Q .non (upd H l (.lst (xs ++ zs)))) := by
  intro pins s σ H x vs v us Q I rx rv h
  obtain ⟨l, b, xs, zs, rfl, rfl, hH, hB, hz, q⟩ := h
  cases rx
  obtain ⟨u, rfl, ru⟩ := rv.one
  cases ru
  obtain ⟨z, its, n, r, hl, e⟩ := I.lstM hH
  obtain ⟨its2, r2, ⟨o, e2, hc, n2, hd⟩, hl2⟩ := I.tuple hB
  have hlen2 := r2.length
  have hsz : its.toArray.size + its2.toArray.size ≤ sizeLine := by rw [List.size_toArray, List.size_toArray]; omega
  have hlong : ¬ (!its.toArray.isEmpty && Builtin.List.listTooLong (its.toArray.size + its2.toArray.size)) = true := by
    rw [notLongL hsz, Bool.and_false]
    exact Bool.false_ne_true
  refine call_meets PySem.F.slot_list_extend ⟨_, e, rfl⟩ PySem.F.entry_list_extend (PySem.F.args_list_extend_2 _ _)
    (ext_tup l its.toArray n b o its2.toArray n2 hc hd hlong (by rw [List.size_toArray]; omega) (by omega)) ⟨e, e2, ?_⟩
  refine ⟨.non, _, I.lset (its' := its ++ its2) hH e (by simp) (r.append r2) ?_, rfl, q⟩
  rw [List.length_append]
  omega
theorem ms_ext : MS X "list.extend" extD := by
  intro pins s σ H x xs v us Q I rx rv ⟨φ, M, d, ds, m, dx, dvs, h⟩
  unfold extD at h
  split at h
  · split at h
    · rename_i he
      split at h
      · rename_i ys hy
        split at h
        · rename_i hz
          cases dx with
          | ref hq =>
            obtain ⟨ws, e0, r⟩ := m.lst he hq
            cases dvs with
            | cons r1 t =>
              cases t
              unfold itemsOf at hy
              split at hy
              · cases hy
                cases r1 with
                | tup hb r2 => exact mt_extT pins s σ H _ _ v us Q I rx rv ⟨_, _, _, _, rfl, rfl, e0, hb, by rw [← r.length, ← r2.length]; exact hz, wo_put m hq (r.append r2) .non h⟩
              · split at hy
                · rename_i he2
                  cases hy
                  cases r1 with
                  | ref hq2 =>
                    obtain ⟨zs, e2, r2⟩ := m.lst he2 hq2
                    exact mt_extend pins s σ H _ _ v us Q I rx rv ⟨_, _, _, _, rfl, rfl, e0, e2, by rw [← r.length, ← r2.length]; exact hz, wo_put m hq (r.append r2) .non h⟩
                · cases hy
              · cases hy
        · exact h.elim
      · exact h.elim
    · exact h.elim
  · exact h.elim
end

/-! ### calls of built-ins -/
abbrev Opf := List D → Mem → Option (D × Mem)
def rF (g : G) (f : Opf) : List V → Hp → VK → Prop := fun xs H Q => ∃ φ M ds, MR g φ M H ∧ DVs g φ H ds xs ∧ Wo g φ H (f ds M) fun φ' H' e _ => ∀ v, DV g φ' H' e v → Q v H'
def CS (X : Cx) (u : Value) (f : Opf) : Prop := CallR X u (rF (gX X) f)
def fnE (f : Opf) (as : Exs) : Ex := fun ρ M => (as ρ M).bind fun ds M => lift (f ds M)
section
variable {X : Cx} {W : XK} {pos p : Pos}
theorem fn_of {g : G} {f : Opf} {as : Exs} {σ : L2.St} {H : Hp} {Q : VK} (h : tE g W (fnE f as) σ H Q) : tEs g W as σ H fun xs H1 => rF g f xs H1 Q := by
  obtain ⟨φ, ρ, M, e, m, h⟩ := h
  exact ⟨φ, ρ, M, e, m, h.bind.mono fun φ1 H1 ds M1 s1 m1 h1 vs dvs => ⟨φ1, M1, ds, m1, dvs, wp_lift h1⟩⟩
theorem se_bi {id : String} {x : Str} {f : Opf} {e : Expr} {es : List Expr} {as : Exs} (hc : CS X (.builtin id) f) (hg : Gl X x) (hm : X.mg x = none) (hv : bootBuiltins x = some (.builtin id)) (ha : SA X W (e :: es) as) (hn : x ≠ "__name__" := by decide) (hdb : (x == ("__debug__" : Str)) = false := by decide)
    (he : starEach (e :: es) X.env = (false, eval e X.env) :: starEach es X.env := by rfl) (hpl : (backTo pos (starEach es X.env)).any (·.1) = false := by rfl) : SE X W (.Call (.Name x p) (e :: es) [] pos) (fnE f as) :=
  PE.imp (pe_callB hc hg hm hv ha hn hdb he hpl) fun _ _ _ h => fn_of h
theorem se_bt {T : String} {x : Str} {f : Opf} {e : Expr} {es : List Expr} {as : Exs} (hc : CS X (.type T) f) (hg : Gl X x) (hm : X.mg x = none) (hv : bootBuiltins x = some (.type T)) (ha : SA X W (e :: es) as) (hn : x ≠ "__name__" := by decide) (hdb : (x == ("__debug__" : Str)) = false := by decide)
    (he : starEach (e :: es) X.env = (false, eval e X.env) :: starEach es X.env := by rfl) (hpl : (backTo pos (starEach es X.env)).any (·.1) = false := by rfl) : SE X W (.Call (.Name x p) (e :: es) [] pos) (fnE f as) :=
  PE.imp (pe_callTy hc hg hm hv ha hn hdb he hpl) fun _ _ _ h => fn_of h
def lenD : Opf := fun ds M => match ds with
  | [.tup xs] => some (.int xs.length, M)
  | [.rol xs] => some (.int xs.length, M)
  | [.str z] => if z.length ≤ sizeLine then some (.int z.length, M) else none
  | [.ref n] => (match M[n]? with
    | some (.lst xs) => some (.int xs.length, M)
    | _ => none)
  | _ => none
theorem cs_len : CS X (.builtin "len") lenD := by
  intro pins s σ H xs us Q I rv ⟨φ, M, ds, m, dvs, h⟩
  unfold lenD at h
  split at h
  · cases dvs with
    | cons r1 t =>
      cases t
      cases r1 with
      | tup hq r => exact call_len_seq pins s σ H _ us Q I rv ⟨_, _, rfl, .inr hq, by rw [← r.length]; exact wo_at m (.int _) h⟩
  · cases dvs with
    | cons r1 t =>
      cases t
      cases r1 with
      | rol hq r => exact call_len_seq pins s σ H _ us Q I rv ⟨_, _, rfl, .inl hq.seq, by rw [← r.length]; exact wo_at m (.int _) h⟩
  · split at h
    · rename_i hz
      cases dvs with
      | cons r1 t =>
        cases t
        cases r1
        exact call_len_str pins s σ H _ us Q I rv ⟨_, rfl, hz, wo_at m (.int _) h⟩
    · exact h.elim
  · split at h
    · rename_i he
      cases dvs with
      | cons r1 t =>
        cases t
        cases r1 with
        | ref hq =>
          obtain ⟨ws, e0, r⟩ := m.lst he hq
          exact call_len_seq pins s σ H _ us Q I rv ⟨_, _, rfl, .inl (SqL.of e0), by rw [← r.length]; exact wo_at m (.int _) h⟩
    · exact h.elim
  · exact h.elim
def intD : Opf := fun ds M => match ds with
  | [.int i] => some (.int i, M)
  | [.bl k] => some (.int (if k = true then 1 else 0), M)
  | _ => none
theorem cs_int : CS X (.type "int") intD := by
  intro pins s σ H xs us Q I rv ⟨φ, M, ds, m, dvs, h⟩
  unfold intD at h
  split at h
  · cases dvs with
    | cons r1 t =>
      cases t
      cases r1
      exact call_int1 pins s σ H _ us Q I rv (.inl ⟨_, rfl, wo_at m (.int _) h⟩)
  · cases dvs with
    | cons r1 t =>
      cases t
      cases r1
      exact call_int1 pins s σ H _ us Q I rv (.inr ⟨_, rfl, wo_at m (.int _) h⟩)
  · exact h.elim
def maxD : Opf := fun ds M => match ds with
  | [.int i, .int j] => some (.int (if j > i then j else i), M)
  | _ => none
theorem cs_max (hc : X.calm = true) : CS X (.builtin "max") maxD := by
  intro pins s σ H xs us Q I rv ⟨φ, M, ds, m, dvs, h⟩
  unfold maxD at h
  split at h
  · cases dvs with
    | cons r1 t =>
      cases r1
      cases t with
      | cons r2 t =>
        cases r2
        cases t
        exact call_max2 hc pins s σ H _ us Q I rv ⟨_, _, rfl, wo_at m (.int _) h⟩
  · exact h.elim
def allInt : List D → Option (List Int)
  | [] => some []
  | .int i :: r => (allInt r).map (i :: ·)
  | _ => none
def allBl : List D → Option (List Bool)
  | [] => some []
  | .bl i :: r => (allBl r).map (i :: ·)
  | _ => none
theorem allInt_eq : ∀ {ds : List D} {ns : List Int}, allInt ds = some ns → ds = ns.map D.int
  | [], _, h => by cases h; rfl
  | .int i :: r, _, h => by
    obtain ⟨l, h1, h2⟩ := Option.map_eq_some_iff.mp h
    subst h2
    rw [List.map_cons, allInt_eq h1]
  | .non :: _, _, h | .bl _ :: _, _, h | .str _ :: _, _, h | .tup _ :: _, _, h | .rol _ :: _, _, h | .ref _ :: _, _, h | .fn _ :: _, _, h | .ty _ :: _, _, h => by cases h
theorem allBl_eq : ∀ {ds : List D} {ns : List Bool}, allBl ds = some ns → ds = ns.map D.bl
  | [], _, h => by cases h; rfl
  | .bl i :: r, _, h => by
    obtain ⟨l, h1, h2⟩ := Option.map_eq_some_iff.mp h
    subst h2
    rw [List.map_cons, allBl_eq h1]
  | .non :: _, _, h | .int _ :: _, _, h | .str _ :: _, _, h | .tup _ :: _, _, h | .rol _ :: _, _, h | .ref _ :: _, _, h | .fn _ :: _, _, h | .ty _ :: _, _, h => by cases h
def sumD : Opf := fun ds M => match ds with
  | [.ref n] => (match M[n]? with
    | some (.lst xs) => (allInt xs).map fun ns => (.int ns.sum, M)
    | _ => none)
  | _ => none
theorem cs_sum (hc : X.calm = true) : CS X (.builtin "sum") sumD := by
  intro pins s σ H xs us Q I rv ⟨φ, M, ds, m, dvs, h⟩
  unfold sumD at h
  split at h
  · split at h
    · rename_i ws he
      cases hn : allInt ws with
      | none => rw [hn] at h; exact h.elim
      | some ns =>
        rw [hn] at h
        cases dvs with
        | cons r1 t =>
          cases t
          cases r1 with
          | ref hq =>
            obtain ⟨vs, e0, r⟩ := m.lst he hq
            have e := allInt_eq hn
            subst e
            have e := r.ints
            subst e
            exact cr_sum hc pins s σ H _ us Q I rv ⟨_, _, rfl, SqL.of e0, wo_at m (.int _) h⟩
    · exact h.elim
  · exact h.elim
def allD : Opf := fun ds M => match ds with
  | [.ref n] => (match M[n]? with
    | some (.lst xs) => (allBl xs).map fun bs => (.bl (bs.all id), M)
    | _ => none)
  | _ => none
theorem cs_all (hc : X.calm = true) : CS X (.builtin "all") allD := by
  intro pins s σ H xs us Q I rv ⟨φ, M, ds, m, dvs, h⟩
  unfold allD at h
  split at h
  · split at h
    · rename_i ws he
      cases hn : allBl ws with
      | none => rw [hn] at h; exact h.elim
      | some ns =>
        rw [hn] at h
        cases dvs with
        | cons r1 t =>
          cases t
          cases r1 with
          | ref hq =>
            obtain ⟨vs, e0, r⟩ := m.lst he hq
            have e := allBl_eq hn
            subst e
            have e := r.bools
            subst e
            exact cr_all hc pins s σ H _ us Q I rv ⟨_, _, rfl, SqL.of e0, wo_at m (.bl _) h⟩
    · exact h.elim
  · exact h.elim
/-- list(x) of a tuple or a list -/
def seqB (M : Mem) : D → Option (List D)
  | .tup ys => some ys
  | .rol ys => some ys
  | .ref n => (match M[n]? with
    | some (.lst ys) => some ys
    | _ => none)
  | _ => none
theorem seqB_at {g : G} {φ : List Addr} {H : Hp} {M : Mem} {d : D} {ds : List D} {v : V} (m : MR g φ M H) (r : DV g φ H d v) (h : seqB M d = some ds) : ∃ p xs, v = .ref p ∧ (SqL g.K H p xs ∨ SqT g.K H p xs) ∧ DVs g φ H ds xs := by
  unfold seqB at h
  split at h
  · cases h
    cases r with
    | tup hq r => exact ⟨_, _, rfl, .inr hq, r⟩
  · cases h
    cases r with
    | rol hq r => exact ⟨_, _, rfl, .inl hq.seq, r⟩
  · split at h
    · rename_i he
      cases h
      cases r with
      | ref hq =>
        obtain ⟨xs, e0, r⟩ := m.lst he hq
        exact ⟨_, _, rfl, .inl (SqL.of e0), r⟩
    · cases h
  · cases h
def listD : Opf := fun ds M => match ds with
  | [d] => (seqB M d).map fun xs => (.ref M.length, M ++ [.lst xs])
  | _ => none
theorem cs_list : CS X (.type "list") listD := by
  intro pins s σ H xs us Q I rv ⟨φ, M, ds, m, dvs, h⟩
  unfold listD at h
  split at h
  · rename_i d
    cases dvs with
    | cons r1 t =>
      cases t
      cases hs : seqB M d with
      | none => rw [hs] at h; exact h.elim
      | some ys =>
        rw [hs] at h
        obtain ⟨p, zs, rfl, hq, r⟩ := seqB_at m r1 hs
        exact call_list_of pins s σ H _ us Q I rv ⟨_, _, rfl, hq, fun l hl => wo_lst m r h hl⟩
  · exact h.elim
/-- tuple(x) of a tuple or a list -/
def tupleD : Opf := fun ds M => match ds with
  | [d] => (seqB M d).map fun xs => (.tup xs, M)
  | _ => none
theorem cs_tuple : CS X (.type "tuple") tupleD := by
  intro pins s σ H xs us Q I rv ⟨φ, M, ds, m, dvs, h⟩
  unfold tupleD at h
  split at h
  · rename_i d
    cases dvs with
    | cons r1 t =>
      cases t
      cases hs : seqB M d with
      | none => rw [hs] at h; exact h.elim
      | some ys =>
        rw [hs] at h
        obtain ⟨p, zs, rfl, hq, r⟩ := seqB_at m r1 hs
        refine call_tuple_of pins s σ H _ us Q I rv ⟨p, zs, rfl, ?_⟩
        rcases hq with hq | hq
        · exact .inl ⟨hq, fun l hl => wo_tup m r h hl⟩
        · exact .inr ⟨hq, wo_at m (.tup hq r) h⟩
  · exact h.elim
end
end W8

set_option Elab.async false
set_option linter.all false
set_option maxRecDepth 100000
namespace W8
open PySem L2 PySem.Spec PyProof.Rows

/-! ### isinstance -/
inductive Kd where
  | non | bl | int | str | tup | lst | dic
  deriving DecidableEq
def Kd.name : Kd → String
  | .non => "NoneType" | .bl => "bool" | .int => "int" | .str => "str" | .tup => "tuple" | .lst => "list" | .dic => "dict"
def kd (M : Mem) : D → Option Kd
  | .non => some .non
  | .bl _ => some .bl
  | .int _ => some .int
  | .str _ => some .str
  | .tup _ => some .tup
  | .rol _ => some .lst
  | .ref n => (match M[n]? with
    | some (.lst _) => some .lst
    | some (.dic _) => some .dic
    | none => none)
  | _ => none
/-- the built-in classes of the text -/
def tyK (n : String) : Option Kd := if n = "int" then some .int else if n = "bool" then some .bl else if n = "str" then some .str else if n = "tuple" then some .tup else if n = "list" then some .lst else if n = "dict" then some .dic else none
def isK (k c : Kd) : Bool := match k, c with
  | .bl, .int => true
  | k, c => k == c
theorem tyK_name {n : String} {c : Kd} (h : tyK n = some c) : n = c.name := by
  unfold tyK at h
  repeat' split at h
  all_goals first | (subst_vars; cases h; rfl) | cases h
theorem isK_kit : ∀ k c : Kd, c ≠ .non → kitB k.name c.name = some (isK k c) := by
  intro k c h
  cases k <;> cases c <;> first | exact absurd rfl h | decide +kernel
theorem tyK_ne {n : String} {c : Kd} (h : tyK n = some c) : c ≠ .non := by
  unfold tyK at h
  repeat' split at h
  all_goals first | (cases h; intro z; cases z) | cases h
theorem kd_ty {g : G} {φ : List Addr} {H : Hp} {M : Mem} {d : D} {v : V} {k : Kd} (m : MR g φ M H) (r : DV g φ H d v) (h : kd M d = some k) : TyX g.K H v (.type k.name) := by
  cases r with
  | non => cases h; exact .base .non
  | bl b => cases h; exact .base (.bl b)
  | int i => cases h; exact .base (.int i)
  | str x => cases h; exact .base (.str x)
  | tup hq r =>
    cases h
    rcases hq with hq | ⟨o, its, n, e, c, _⟩
    · rcases hq with hq | ⟨o, hq⟩
      · exact .base (.tup hq)
      · exact .fTuple hq
    · exact .kTuple e c
  | rol hq r =>
    cases h
    rcases hq with ⟨o, hq⟩ | ⟨o, its, n, e, c, _⟩
    · exact .base (.frz hq)
    · exact .kList e c
  | @ref n a hq =>
    have h : (match M[n]? with | some (.lst _) => some Kd.lst | some (.dic _) => some Kd.dic | none => none) = some k := h
    split at h
    · rename_i he
      cases h
      obtain ⟨xs, e0, _⟩ := m.lst he hq
      exact .base (.lst e0)
    · rename_i he
      cases h
      obtain ⟨xs, e0, _⟩ := m.dic he hq
      exact .base (.dK e0)
    · cases h
  | fn _ => cases h
  | ty _ => cases h
def isiD : Opf := fun ds M => match ds with
  | [d, .ty n] => (match kd M d, tyK n with
    | some k, some c => some (.bl (isK k c), M)
    | _, _ => none)
  | _ => none
section
variable {X : Cx} {W : XK} {pos p : Pos}
theorem cs_isi : CS X (.builtin "isinstance") isiD := by
  intro pins s σ H xs us Q I rv ⟨φ, M, ds, m, dvs, h⟩
  unfold isiD at h
  split at h
  · split at h
    · rename_i k c hk hc
      cases dvs with
      | cons r1 t =>
        cases t with
        | cons r2 t =>
          cases t
          cases r2
          have e := tyK_name hc
          subst e
          exact call_isi pins s σ H _ us Q I rv ⟨_, _, _, _, _, rfl, ClsV.ty _, kd_ty m r1 hk, kit_ty (isK_kit k c (tyK_ne hc)), wo_at m (.bl _) h⟩
    · exact h.elim
  · exact h.elim
/-- the classes of a tuple that stands in the call -/
def tysK : List D → Option (List Kd)
  | [] => some []
  | .ty n :: r => (match tyK n, tysK r with
    | some c, some cs => some (c :: cs)
    | _, _ => none)
  | _ => none
def isiT (a : Ex) (cs : Exs) : Ex := fun ρ M => (a ρ M).bind fun d M => (cs ρ M).bind fun ds M => len? ds.length (match kd M d, tysK ds with
  | some k, some cs => .ok (.bl (cs.any (isK k))) M
  | _, _ => .bad)
theorem anyK_kit {g : G} {φ : List Addr} {H : Hp} (k : Kd) : ∀ {ds : List D} {vs : List V} {cs : List Kd}, DVs g φ H ds vs → tysK ds = some cs → ∃ us, Paired ClsV vs us ∧ PySem.W.kitAny g.K (.type k.name) us = some (cs.any (isK k)) := by
  intro ds
  induction ds with
  | nil => intro vs cs r h; cases r; cases h; exact ⟨[], .nil, rfl⟩
  | cons d ds ih =>
    intro vs cs r h
    cases r with
    | cons r1 t =>
      unfold tysK at h
      split at h
      · rename_i e; cases e
      · rename_i n r e
        cases e
        cases r1
        split at h
        · rename_i c cs hc hcs
          cases h
          have e := tyK_name hc
          subst e
          have hk : PySem.W.kitOne g.K (.type k.name) (.type c.name) = some (isK k c) := kit_ty (isK_kit k c (tyK_ne hc))
          obtain ⟨us, pu, e⟩ := ih t hcs
          refine ⟨.type c.name :: us, .cons (ClsV.ty _) pu, ?_⟩
          unfold PySem.W.kitAny
          rw [hk, List.any_cons]
          cases isK k c with
          | true => rfl
          | false => exact e
        · cases h
      · cases h
theorem se_isiT {x : Str} {e : Expr} {es : List Expr} {a : Ex} {as : Exs} {kt : Nat} {pt : Pos} (hg : Gl X x) (hm : X.mg x = none) (hv : bootBuiltins x = some (.builtin "isinstance")) (ha : SE X W e a) (hb : SA X W es as) (hn : x ≠ "__name__" := by decide) (hdb : (x == ("__debug__" : Str)) = false := by decide)
    (h1 : starEach (e :: [.Tuple es kt pt]) X.env = (false, eval e X.env) :: starEach [.Tuple es kt pt] X.env := by rfl) (h2 : starEach [.Tuple es kt pt] X.env = (false, eval (.Tuple es kt pt) X.env) :: starEach [] X.env := by rfl) (hpl : (backTo pos (starEach [.Tuple es kt pt] X.env)).any (·.1) = false := by rfl) :
    SE X W (.Call (.Name x p) (e :: [.Tuple es kt pt]) [] pos) (isiT a as) := by
  refine PE.imp (pe_callB call_isiT hg hm hv (pa_cons ha (pa_cons (pe_tup hb) pa_nil h2) h1) hn hdb h1 hpl) fun σ H Q ⟨φ, ρ, M, e, m, h⟩ => ?_
  refine ⟨φ, ρ, M, e, m, h.bind.mono fun φ1 H1 d M1 s1 m1 h1 v dv => ?_⟩
  refine ⟨φ1, ρ, M1, e.step m s1, m1, h1.bind.mono fun φ2 H2 ds M2 s2 m2 h2 vs dvs => ?_⟩
  obtain ⟨hl, h2⟩ := h2.len
  refine ⟨by rw [← dvs.length]; exact hl, fun q hq => ?_⟩
  split at h2
  · rename_i k cs hk hcs
    obtain ⟨us, pu, e1⟩ := anyK_kit k dvs hcs
    have dv := (dv.step m1 s2).step m2 (Step.lay (o := .tup vs) m2 hq)
    exact ⟨_, _, _, _, _, _, rfl, upd_same, pu, kd_ty (m2.lay hq) dv hk, e1, h2 φ2 _ (Step.lay m2 hq) (m2.lay hq) _ (.bl _)⟩
  · exact h2.elim
end

/-! ### a starred item of a display -/
def starE (a : Ex) (r : Exs) : Exs := fun ρ M => (a ρ M).bind fun d M => match seqB M d with
  | some xs => (r ρ M).bind fun ds M => .ok (xs ++ ds) M
  | none => .bad
section
variable {X : Cx} {W : XK} {pos p : Pos}
theorem sa_star {e : Expr} {es : List Expr} {a : Ex} {r : Exs} (ha : SE X W e a) (hr : SA X W es r) (hs : starEach (.Starred e p :: es) X.env = (true, eval e X.env) :: starEach es X.env := by rfl) : SA X W (.Starred e p :: es) (starE a r) := by
  refine PA.imp (StX.pa_star ha hr hs) fun σ H Q ⟨φ, ρ, M, e, m, h⟩ => ?_
  refine ⟨φ, ρ, M, e, m, h.bind.mono fun φ1 H1 d M1 s1 m1 h1 v dv => ?_⟩
  split at h1
  · rename_i xs hx
    obtain ⟨q, ys, rfl, hq, r1⟩ := seqB_at m1 dv hx
    refine ⟨_, _, rfl, hq.symm, φ1, ρ, M1, e.step m s1, m1, h1.bind.mono fun φ2 H2 ds M2 s2 m2 h2 vs dvs => ?_⟩
    exact h2.here m2 _ ((r1.step m1 s2).append dvs)
  · exact h1.elim
end

/-! ### a display of a dict -/
abbrev Prs := Env → Mem → R (List (Key × D))
def prN : Prs := fun _ M => .ok [] M
def prC (k v : Ex) (r : Prs) : Prs := fun ρ M => (k ρ M).bind fun x M => (v ρ M).bind fun y M => (r ρ M).bind fun ps M => match keyD x with
  | some k => .ok ((k, y) :: ps) M
  | none => .bad
def mrgD (kvs : List (Key × D)) : List (Key × D) := kvs.foldl (fun acc kv => putD acc kv.1 kv.2) []
def dispE (r : Prs) : Ex := fun ρ M => (r ρ M).bind fun kvs M => if kvs.length ≤ 15 then .ok (.ref M.length) (M ++ [.dic (mrgD kvs)]) else .bad
structure SP (X : Cx) (W : XK) (pos : Pos) (ks : List (Option Expr)) (vs : List Expr) (m : Prs) : Prop where
  ex : ∃ trs, PPs X pos ks vs trs ∧ ∀ σ H Q, (∃ φ ρ M, ER (gX X) φ H ρ σ ∧ MR (gX X) φ M H ∧ Wp (gX X) W φ H (m ρ M) fun φ' H' kvs _ => ∀ kxs, KVs (gX X) φ' H' kvs kxs → Q (kxs.map fun kv => (kV kv.1, kv.2)) H') → tPairs trs σ H Q
section
variable {X : Cx} {W : XK} {pos p : Pos}
theorem sp_nil : SP X W pos [] [] prN := ⟨[], pps_nil, fun σ H Q ⟨φ, ρ, M, e, m, h⟩ => h.here m [] .nil⟩
theorem sp_cons {k v : Expr} {ks : List (Option Expr)} {vs : List Expr} {a b : Ex} {r : Prs} (ha : SE X W k a) (hb : SE X W v b) (hr : SP X W pos ks vs r) : SP X W pos (some k :: ks) (v :: vs) (prC a b r) := by
  obtain ⟨trs, h1, h2⟩ := hr
  refine ⟨_, pps_cons ha hb h1, fun σ H Q ⟨φ, ρ, M, e, m, h⟩ => ?_⟩
  refine ⟨φ, ρ, M, e, m, h.bind.mono fun φ1 H1 x M1 s1 m1 q1 v dv => ?_⟩
  refine ⟨φ1, ρ, M1, e.step m s1, m1, q1.bind.mono fun φ2 H2 y M2 s2 m2 q2 w dw => ?_⟩
  refine h2 _ _ _ ⟨φ2, ρ, M2, (e.step m s1).step m1 s2, m2, q2.bind.mono fun φ3 H3 ps M3 s3 m3 q3 kxs dk => ?_⟩
  split at q3
  · rename_i key hk
    have ev := dv.key hk
    subst ev
    exact q3.here m3 ((key, w) :: kxs) (.cons (dw.step m2 s3) dk)
  · exact q3.elim
theorem KVs.mrg {g : G} {φ : List Addr} {H : Hp} : ∀ {ds : List (Key × D)} {vs : List (Key × V)} {as : List (Key × D)} {bs : List (Key × V)}, KVs g φ H ds vs → KVs g φ H as bs → KVs g φ H (ds.foldl (fun acc kv => putD acc kv.1 kv.2) as) (mergeK bs vs) := by
  intro ds
  induction ds with
  | nil => intro vs as bs r h; cases r; exact h
  | cons d ds ih =>
    intro vs as bs r h
    cases r with
    | cons a b =>
      rename_i k0 d0 v0 vs0
      have z := ih b (h.put (k := k0) a)
      exact z
theorem se_disp {ks : List (Option Expr)} {vs : List Expr} {r : Prs} (h : SP X W pos ks vs r) (hall : ks.all (·.isSome) = true := by rfl) (hl : ks.length = vs.length := by rfl) (h0 : ks ≠ [] := by simp) (h15 : ks.length ≤ 15 := by decide) :
    SE X W (.Dict ks vs pos) (dispE r) := by
  obtain ⟨trs, h1, h2⟩ := h
  refine PE.imp (pe_disp h1 hall hl h0 h15) fun σ H Q ⟨φ, ρ, M, e, m, h⟩ p hp => ?_
  have s0 : Step φ H φ (upd H p (.dK [])) := Step.lay m hp
  have m0 := m.lay (o := .dK []) hp
  have n0 : p ∉ φ := fun z => by obtain ⟨u, q, _⟩ := m.mut z; rw [hp] at q; cases q
  refine h2 _ _ _ ⟨φ, ρ, M, e.step m s0, m0, ?_⟩
  unfold dispE at h
  cases hr : r ρ M with
  | bad => rw [hr] at h; exact h.elim
  | err c t M1 =>
    rw [hr] at h
    have h : Wp (gX X) W φ H (R.err (α := List (Key × D)) c t M1) (fun _ _ _ _ => True) := h
    exact fun φ2 H2 cls dx s m => h φ2 H2 cls dx (s0.trans s) m
  | ok kvs M1 =>
    rw [hr] at h
    rw [R.bind_ok] at h
    intro φ1 H1 s1 m1 kxs dk
    split at h
    · rename_i hz
      have n1 : p ∉ φ1 := s1.mem (o := .dK []) upd_same n0
      have e1 : H1 p = some (.dK []) := s1.keep _ _ upd_same n0 rfl
      have kl := dk.length
      have m2 : MR (gX X) φ1 M1 (upd H1 p (.dK (mergeK [] kxs))) := m1.over e1 rfl n1
      have s2 : Step φ H (φ1 ++ [p]) (upd H1 p (.dK (mergeK [] kxs))) := by
        have := (s0.trans s1).over (o := .dK (mergeK [] kxs)) e1 rfl hp
        obtain ⟨ψ, e3, h0⟩ := this.pre
        exact ⟨⟨ψ ++ [p], by rw [e3, List.append_assoc], fun a ha => (List.mem_append.mp ha).elim (h0 a) fun q => by rw [List.mem_singleton.mp q]; exact Nw.of hp⟩, this.keep, this.there⟩
      refine ⟨e1, kxs, rfl, by omega, h _ _ s2 ?_ _ (.ref (by rw [← m1.len]; simp))⟩
      refine ⟨by simp [m1.len], List.nodup_append.mpr ⟨m1.nd, by simp, fun a ha b hb => by rw [List.mem_singleton.mp hb]; exact fun z => n1 (z ▸ ha)⟩, m2.tabs, fun n w q => ?_⟩
      by_cases hn : n < M1.length
      · rw [List.getElem?_append_left hn] at q
        obtain ⟨a, q1, q2⟩ := m2.obj n w q
        exact ⟨a, by rw [List.getElem?_append_left (by rw [m1.len]; exact hn)]; exact q1, q2.grow⟩
      · have hn' : n = M1.length := by
          have := (List.getElem?_eq_some_iff.mp q).1
          simp at this; omega
        subst hn'
        simp at q
        subst q
        exact ⟨p, by rw [← m1.len]; simp, mergeK [] kxs, upd_same, ((KVs.mrg dk .nil).over e1 rfl).grow⟩
    · exact h.elim
end
end W8

set_option Elab.async false
set_option linter.all false
set_option maxRecDepth 100000
set_option maxHeartbeats 1000000
namespace W8
open PySem L2 PySem.Spec PyProof.Rows RT

/-! ### list(reversed(t)), t a tuple -/
theorem rt_nolen : typeLookup (.type "reversed") "__len__" = pure none := by rw [typeLookup_type, builtinLookup_eq_fast]; kernel_rfl
theorem rt_hint : typeLookup (.type "reversed") "__length_hint__" = pure (some (.builtin "reversed.__length_hint__")) := by rw [typeLookup_type, builtinLookup_eq_fast]; kernel_rfl
theorem slot_rt_hint : Slot "reversed" "__length_hint__" "reversed.__length_hint__" :=
  .of (owner := "reversed") (n := "__length_hint__") (by rw [typeLookup_type, builtinLookup_eq_fast]; kernel_rfl) (by decide +kernel) (by decide +kernel) (by decide +kernel)
    (by first | exact .inl (by decide +kernel) | exact .inr (by decide +kernel)) (by rw [isSubtype_type]; kernel_rfl)
theorem entry_rt_hint : entryFor table "reversed.__length_hint__" = some Builtin.«reversed.__length_hint__» := entryFor_of_tree (by kernel_rfl)
theorem args_rt_hint (a : Value) : argsOk "reversed.__length_hint__" ⟨[a], []⟩ := by
  unfold argsOk; rw [signature?_of (id := "reversed.__length_hint__") (n := ['_', '_', 't', 'n', 'i', 'h', '_', 'h', 't', 'g', 'n', 'e', 'l', '_', '_']) (o := ['d', 'e', 's', 'r', 'e', 'v', 'e', 'r']) (by kernel_rfl) owner_rt]; kernel_rfl
section
variable {prog : Program} {w : World} {A : Around} {E : Value → Shared → Prop} {s : Shared}
theorem walks_rt (hh : A.handled = none) (I t : Addr) (hne : t ≠ I) (items : Array Value) (hsz : items.size ≤ sizeLine) :
    Walks prog w A I [I, t] [I] items.size (fun i v => items[items.size - 1 - i]? = some v) (fun i h => i ≤ items.size ∧ IsRt h I t ((items.size : Int) - 1 - (i : Int)) ∧ IsTup h t items) where
  sub := fun b hb => by simp at hb; simp [hb]
  frame := fun _ _ _ x hk => ⟨x.1, x.2.1.at fun o e => hk I (by simp) o e, by obtain ⟨o, e, r⟩ := x.2.2; exact ⟨o, hk t (by simp) o e, r⟩⟩
  item := fun i s Q E hi x hQ => by
    obtain ⟨_, hit, ht⟩ := x
    have e : (items.size : Int) - 1 - (i : Int) = ((items.size - 1 - i : Nat) : Int) := by omega
    rw [e] at hit
    have hx : items[items.size - 1 - i]? = some (items[items.size - 1 - i]'(by omega)) := Array.getElem?_eq_getElem (by omega)
    refine next_rt_item hit ht hx hsz fun h' hit' hs' => ?_
    have e2 : ((items.size - 1 - i : Nat) : Int) - 1 = (items.size : Int) - 1 - ((i + 1 : Nat) : Int) := by omega
    rw [e2] at hit'
    refine hQ _ h' (s.toks + 1) hx ⟨hi, hit', ?_⟩ fun b o hb eo => hs'.extBut b o (fun h => hb (by simp [h])) eo
    obtain ⟨o, e, r⟩ := ht
    exact ⟨o, (hs'.2 t hne).trans e, r⟩
  done := fun s Q E x hQ => by
    have e : (items.size : Int) - 1 - (items.size : Int) = -1 := by omega
    have hit := x.2.1
    rw [e] at hit
    exact next_rt_end hh hit fun h' he' => hQ h' s.toks fun b o hb eo => he' b o (fun h => hb (by simp [h])) eo
  self := fun _ _ _ _ x hQ => iter_rt x.2.1 hQ
theorem hint_rt {it t : Addr} {items : Array Value} {Q : Value → Shared → Prop} (hit : IsRt s.heap it t ((items.size : Int) - 1)) (ht : IsTup s.heap t items) (hsz : items.size ≤ sizeLine)
    (hQ : ∀ tk u, s.toks ≤ tk → Q (.int items.size u) { s with toks := tk }) : wpAny (model prog w) A (call (.builtin "reversed.__length_hint__") [.ref it]) Q E s := by
  obtain ⟨o, ho, hc, hd⟩ := id hit
  have hn := line63
  refine wpAny_call_entry slot_rt_hint hit.typeIs entry_rt_hint ?_ (args_rt_hint _)
  unfold Builtin.«reversed.__length_hint__»
  refine wpAny_bind (wpAny_of_eq (a := Value.ref it) rfl ?_)
  refine wpAny_bind (wpAny_field ho hd (x := .ref t) rfl ?_)
  have hno : (Value.ref t == Value.none) = false := rfl
  try dsimp only
  rw [if_neg (by rw [hno]; exact Bool.false_ne_true)]
  refine wpAny_bind (len_tuple ht (by omega) ?_)
  refine wpAny_bind (wpAny_of_eq (a := some ((items.size : Nat) : Int)) rfl ?_)
  try dsimp only
  refine wpAny_bind (wpAny_field (s := { s with toks := s.toks + 1 + 1 }) ho hd (x := rawInt ((items.size : Int) - 1)) rfl ?_)
  try dsimp only
  show wpAny _ _ (if ((items.size : Nat) : Int) < ((items.size : Int) - 1) + 1 then _ else _) _ _ _
  rw [if_neg (by omega)]
  have e : ((items.size : Int) - 1) + 1 = items.size := by omega
  rw [e]
  show wpAny _ _ (mkInt ((items.size : Nat) : Int) >>= fun v => ret v) _ _ _
  refine wpAny_bind (wpAny_mkInt ?_)
  exact wpAny_pure ⟨_, rfl, hQ _ _ (by show s.toks ≤ s.toks + 1 + 1 + 1; omega)⟩
theorem ext_rt {R : Result → Shared → Prop} {I t : Addr} {items : Array Value} (hh : A.handled = none) (hne : t ≠ I) (hsz : items.size ≤ sizeLine) (S : Addr) (res : Value) (c₀ : Nat) (hit : IsRt s.heap I t ((items.size : Int) - 1)) (ht : IsTup s.heap t items) (hSI : S ≠ I) (hSt : S ≠ t)
    (hS : s.heap.get? S = some { cls := .type "list", data := .seq #[] c₀ })
    (hR : ∀ (h' : Heap) (tk : Nat) acc' c', (∀ b o, b ≠ S → b ≠ I → s.heap.get? b = some o → h'.get? b = some o) → h'.get? S = some { cls := .type "list", dict := none, data := .seq acc' c', slots := #[] } →
      ItemsOf (fun i v => items[items.size - 1 - i]? = some v) acc' items.size → R (.ok (.ret res)) { s with heap := h', toks := tk }) :
    wpAny (model prog w) A.in1 (Builtin.List.listExtendWith (.ref S) (.ref I) res)
      (fun fin s' => match fin with | .done f => R (.ok f) s' | .again c' => c'.quiet = true ∧ codeAny (model prog w) A c' R s') (fun e s' => R (.error e) s') s := by
  have hSf : S ∉ [I, t] := by simp only [List.mem_cons, List.not_mem_nil, or_false, not_or]; exact ⟨hSI, hSt⟩
  have hT : s.TypeIs (.ref I) "reversed" := hit.typeIs
  have W := (walks_rt (prog := prog) (w := w) (A := A.in1) hh I t hne items hsz).toS
  unfold Builtin.List.listExtendWith
  refine wpAny_bind (wpAny_typeOf hT ?_)
  have h1 : Builtin.List.listSameRef (.ref S) (.ref I) = false := by simp [Builtin.List.listSameRef, hSI]
  rw [if_neg (by rw [h1]; decide)]
  refine wpAny_bind (iter_rt hit ?_)
  refine wpAny_bind (wpAny_holding ?_)
  unfold Builtin.List.listLengthHint
  refine wpAny_bind (wpAny_specialOf hT rt_nolen ?_)
  show wpAny _ A.in1 (specialOf (Value.ref I) (Str.ofString "__length_hint__") >>= _) _ _ _
  refine wpAny_bind (wpAny_specialOf hT rt_hint ?_)
  generalize hid : ("reversed.__length_hint__" : String) = id0
  wp_delta
  rw [show splitId id0 = some ("reversed", "__length_hint__") from by subst hid; decide +kernel]
  subst hid
  refine wpAny_bind (wpAny_isInstance (b := true) hT (by rw [isSubtype_type]; kernel_rfl) ?_)
  rw [if_neg (by decide)]
  dsimp only
  rw [if_neg (by decide +kernel)]
  refine wpAny_bind (wpAny_rule ?_)
  refine wpAny_bind (wpAny_of_eq (slot_rt_hint.bind _) ?_)
  dsimp only
  refine wpAny_bind (wpAny_attempt (hint_rt hit ht hsz fun tk u htk => ?_))
  dsimp only
  refine wpAny_bind ?_
  have hai : asInt? (.int ((items.size : Nat) : Int) u) = (pure (some ((items.size : Nat) : Int)) : Sem (Option Int)) := rfl
  rw [hai]
  refine wpAny_pure ?_
  dsimp only
  have hn := line63
  have hf : Builtin.List.listFitsIndex ((items.size : Nat) : Int) = true := fitsIndex_both (by omega) (by omega)
  have hlong : Builtin.List.listTooLong (((items.size : Nat) : Int)).toNat = false := notLongL (by rw [Int.toNat_natCast]; exact hsz)
  have hneg : ¬ ((items.size : Nat) : Int) < 0 := by omega
  simp only [hf, hlong, hneg, Bool.not_true, Bool.false_eq_true, if_false]
  refine wpAny_pure ?_
  have fin : ∀ (h1 : Heap) (c1 : Nat), h1.get? S = some { cls := .type "list", data := .seq #[] c1 } → (∀ b o, b ≠ S → s.heap.get? b = some o → h1.get? b = some o) →
      wpAny (model prog w) A.in1 (again (.builtin "list.extend.loop" ⟨[.ref S, .ref I, res], []⟩))
        (fun fin s' => match fin with | .done f => R (.ok f) s' | .again c' => c'.quiet = true ∧ codeAny (model prog w) A c' R s') (fun e s' => R (.error e) s') { s with heap := h1, toks := tk } := by
    intro h1 c1 e1 k1
    have st : 0 ≤ items.size ∧ IsRt h1 I t ((items.size : Int) - 1 - ((0 : Nat) : Int)) ∧ IsTup h1 t items := by
      refine ⟨Nat.zero_le _, ?_, ?_⟩
      · have e : (items.size : Int) - 1 - ((0 : Nat) : Int) = (items.size : Int) - 1 := by omega
        rw [e]; exact hit.at fun o eo => k1 I o (Ne.symm hSI) eo
      · obtain ⟨o, e, r⟩ := ht
        exact ⟨o, k1 t o (Ne.symm hSt) e, r⟩
    refine wpAny_pure ⟨plainId_quiet PySem.F.plain_extend_loop _, codeAny_extend_loopS W hsz _ hSf _ items.size 0 _ _ _ rfl (Nat.zero_le _) st e1 (ItemsOf.nil _) fun s' acc' c' hm hS' hacc => ?_⟩
    rw [Moved.eq_with hm]
    refine hR s'.heap s'.toks acc' c' (fun b ob hb hbI e => hm.heap b ob (fun hmem => ?_) (k1 b ob hb e)) hS' hacc
    rcases List.mem_cons.mp hmem with e' | hmem
    · exact hb e'
    · exact hbI (List.mem_singleton.mp hmem)
  clear hn hf hlong hneg hai
  split
  · refine wpAny_bind (wpAny_rule ?_)
    refine wpAny_bind ?_
    show wpAny _ A.in1 (updateSeq S (·.push .none) >>= fun _ => updateSeq S (·.pop)) _ _ _
    refine wpAny_bind (wpAny_updateSeq hS rfl ?_)
    have hS₂ := Heap.get?_update_self (Obj.mapSeq (·.push Value.none)) hS rfl
    refine wpAny_updateSeq (hz := by seq_fits) hS₂ rfl ?_
    have hS₃ := Heap.get?_update_self (Obj.mapSeq (·.pop)) hS₂ rfl
    exact fin _ _ hS₃ fun b o hb e => (Heap.get?_update_other _ _ (Ne.symm hb)).trans ((Heap.get?_update_other _ _ (Ne.symm hb)).trans e)
  · exact fin _ _ hS fun b o _ e => e
theorem call_list_rt {I t : Addr} {items : Array Value} {Q : Value → Shared → Prop} (hh : A.handled = none) (hne : t ≠ I) (hsz : items.size ≤ sizeLine) (hit : IsRt s.heap I t ((items.size : Int) - 1)) (ht : IsTup s.heap t items)
    (hQ : ∀ (h' : Heap) (tk : Nat) acc' c', (∀ b o, b ≠ I → s.heap.get? b = some o → h'.get? b = some o) → h'.get? s.heap.objs.size = some { cls := .type "list", dict := none, data := .seq acc' c', slots := #[] } →
      ItemsOf (fun i v => items[items.size - 1 - i]? = some v) acc' items.size → Q (.ref s.heap.objs.size) { s with heap := h', toks := tk }) :
    wpAny (model prog w) A (call (.type "list") [.ref I]) Q E s := by
  obtain ⟨oi, hoi, _⟩ := id hit
  obtain ⟨ot, hot, _⟩ := id ht
  refine callType_codes (Q₁ := fun obj s₁ => obj = .ref s.heap.objs.size ∧ s₁ = { s with heap := s.heap.push { cls := .type "list", data := .seq #[] } }) PySem.F.called_list (PySem.F.typeCall_list_1 _) PySem.F.entry_list_init
    (code_list_new _ ⟨rfl, rfl⟩) fun obj s₁ h₁ => ?_
  obtain ⟨rfl, rfl⟩ := h₁
  have hS : (s.heap.push { cls := .type "list", data := .seq #[] }).get? s.heap.objs.size = some { cls := .type "list", data := .seq #[] } := Heap.get?_push_size _ rfl
  refine ⟨⟨_, hS, rfl⟩, PySem.F.args_list_init_2 _ _, ?_⟩
  show wpAny _ A.in1.in1 (do let old ← Builtin.List.listItems (.ref s.heap.objs.size); Builtin.List.listUpdate (.ref s.heap.objs.size) (fun _ => #[]); letGo old.toList.reverse; Builtin.List.listExtendWith (.ref s.heap.objs.size) (.ref I) .none) _ _ _
  refine wpAny_bind ?_
  unfold Builtin.List.listItems
  refine wpAny_bind (wpAny_seqItems hS rfl (wpAny_pure ?_))
  show wpAny _ A.in1.in1 (updateSeq s.heap.objs.size (fun _ => #[]) >>= fun _ => letGo (#[] : Array Value).toList.reverse >>= fun _ => Builtin.List.listExtendWith (.ref s.heap.objs.size) (.ref I) .none) _ _ _
  refine wpAny_bind (wpAny_updateSeq hS rfl ?_)
  have hS₂ := Heap.get?_update_self (Obj.mapSeq (fun _ => (#[] : Array Value))) hS rfl
  have oth : ∀ b o, b ≠ s.heap.objs.size → s.heap.get? b = some o → ((s.heap.push { cls := .type "list", data := .seq #[] }).update s.heap.objs.size (Obj.mapSeq (fun _ => (#[] : Array Value)))).get? b = some o :=
    fun b o hb e => (Heap.get?_update_other _ _ (Ne.symm hb)).trans (Heap.get?_push_of_some _ e)
  refine wpAny_bind (wpAny_letGo ?_)
  have nI : s.heap.objs.size ≠ I := Nat.ne_of_gt (Heap.lt_size hoi)
  have nt : s.heap.objs.size ≠ t := Nat.ne_of_gt (Heap.lt_size hot)
  refine ext_rt (A := A.in1) hh hne hsz _ _ _ (hit.at fun o e => oth I o (Ne.symm nI) e) (by obtain ⟨o, e, r⟩ := ht; exact ⟨o, oth t o (Ne.symm nt) e, r⟩) nI nt hS₂ fun h' tk acc' c' hk hS' hacc => ?_
  exact ⟨rfl, hQ h' tk acc' c' (fun b o hb e => hk b o (Nat.ne_of_lt (Heap.lt_size e)) hb (oth b o (Nat.ne_of_lt (Heap.lt_size e)) e)) hS' hacc⟩
end
section
variable {X : Cx}
theorem pe_listRev {e : Expr} {te : TE} {p p2 pos pos2 : Pos} (hc : X.calm = true) (hg : Gl X "list") (hm : X.mg "list" = none) (hg2 : Gl X "reversed") (hm2 : X.mg "reversed" = none) (he : PE X e te)
    (hs : starEach [e] X.env = (false, eval e X.env) :: starEach [] X.env := by rfl)
    (hs2 : starEach [.Call (.Name "reversed" p2) [e] [] pos2] X.env = (false, eval (.Call (.Name "reversed" p2) [e] [] pos2) X.env) :: starEach [] X.env := by rfl) :
    PE X (.Call (.Name "list" p) [.Call (.Name "reversed" p2) [e] [] pos2] [] pos) (fun σ H Q => te σ H fun v H1 => ∃ (a : Addr) (xs : List V), v = .ref a ∧ SqT X.K H1 a xs ∧ ∀ q, H1 q = none → Q (.ref q) (upd H1 q (.lst xs.reverse))) := by
  refine ⟨fun pins s σ H Q I h => ?_⟩
  refine Call_ (ld_blt I hg hm boot_list (PyProof.Rows.callWith_type1 (args_cons (Call_ (ld_blt I hg2 hm2 PyProof.Rows.boot_reversed (PyProof.Rows.callWith_type1 (args_cons (thn (he.run pins s σ H _ I h) fun u s1 ⟨v, H1, I1, r1, q1⟩ => args_nil ?_) hs) hs rfl))) hs2) hs2 rfl))
  obtain ⟨a, xs, ev, hq, q⟩ := q1
  subst ev
  obtain rfl : u = Value.ref a := r1
  obtain ⟨its, rv, p', hz⟩ := I1.tuple hq
  have hl := rv.length
  have hn := line63
  refine call_reversed_tup p' (fun A E Q k => len_tuple p' (by simp only [List.size_toArray] <;> omega) k) (args_nil ?_)
  have k0 : ∀ b o, s1.heap.get? b = some o → (s1.heap.push (rtObj a ((its.toArray.size : Int) - 1))).get? b = some o := fun b o e => Heap.get?_push_of_some _ e
  have I2 : Inv X pins σ H1 { s1 with heap := s1.heap.push (rtObj a ((its.toArray.size : Int) - 1)), toks := s1.toks + 1 + 1 } := I1.kept (t' := s1.toks + 1 + 1) k0
  obtain ⟨f0, f1, f2, f3, f4, f5⟩ := I1.fpOk (H' := H1) (b := s1.heap.objs.size) (Nat.le_refl _) (I1.hok.fresh (Nat.le_refl _))
  obtain ⟨ol, hol, hcl⟩ := id p'
  have hne : a ≠ s1.heap.objs.size := Nat.ne_of_lt (Heap.lt_size hol)
  have hsz : its.toArray.size ≤ sizeLine := by rw [List.size_toArray, ← rv.length]; exact hz
  refine call_list_rt (s := { s1 with heap := s1.heap.push (rtObj a ((its.toArray.size : Int) - 1)), toks := s1.toks + 1 + 1 }) (I1.ok.hd hc) hne hsz ⟨_, Heap.get?_push_size _ rfl, rfl, rfl⟩ ⟨ol, k0 _ _ hol, hcl⟩ fun h' tk acc c' hk hS hi => ?_
  refine ⟨.ref (s1.heap.push (rtObj a ((its.toArray.size : Int) - 1))).objs.size, _, I2.turnedNew (t' := tk) (ch := [s1.heap.objs.size]) (ob := .lst xs.reverse) (fun b o hb e => hk b o (fun z => hb (List.mem_singleton.mpr z)) e) (fun b hb => ?_) (Nat.le_refl _) ?_, rfl, q _ (I2.hok.fresh (Nat.le_refl _))⟩
  · rw [List.mem_singleton.mp hb]; exact ⟨f0, f1, f2, f3, f4, f5⟩
  · refine ⟨by rw [List.length_reverse]; exact hz, acc.toList, c', vals_rev rv hi, ?_⟩
    rw [Array.toArray_toList]
    exact hS
/-- list(reversed(t)) -/
def lrevE (a : Ex) : Ex := fun ρ M => (a ρ M).bind fun d M => match d with
  | .tup xs => .ok (.ref M.length) (M ++ [.lst xs.reverse])
  | _ => .bad
theorem se_lrev {W : XK} {e : Expr} {a : Ex} {p p2 pos pos2 : Pos} (hc : X.calm = true) (hg : Gl X "list") (hm : X.mg "list" = none) (hg2 : Gl X "reversed") (hm2 : X.mg "reversed" = none) (he : SE X W e a)
    (hs : starEach [e] X.env = (false, eval e X.env) :: starEach [] X.env := by rfl)
    (hs2 : starEach [.Call (.Name "reversed" p2) [e] [] pos2] X.env = (false, eval (.Call (.Name "reversed" p2) [e] [] pos2) X.env) :: starEach [] X.env := by rfl) :
    SE X W (.Call (.Name "list" p) [.Call (.Name "reversed" p2) [e] [] pos2] [] pos) (lrevE a) := by
  refine PE.imp (pe_listRev hc hg hm hg2 hm2 he hs hs2) fun σ H Q ⟨φ, ρ, M, e, m, h⟩ => ?_
  refine ⟨φ, ρ, M, e, m, h.bind.mono fun φ1 H1 d M1 s1 m1 h1 v dv => ?_⟩
  split at h1
  · cases dv with
    | tup hq r => exact ⟨_, _, rfl, hq, fun p hp => wo_lst m1 r.reverse h1 hp⟩
  · exact h1.elim
end
end W8

set_option Elab.async false
set_option linter.all false
set_option maxRecDepth 100000
set_option maxHeartbeats 2000000
namespace W8
open PySem L2 PySem.Spec PySem.Calls PyProof.Rows PySem.HandSPX
open PySem.W (Frag fnOf codeIn findIn typeIn keepIn subIn hasDictIn exmOne clsIn)

/-! ### own errors over Exception -/
abbrev exTail : List Value := [.type "Exception", .type "BaseException", .type "object"]
theorem chain_pass (self : Value) : ∀ cs : List Addr, refuseLoop self "__setattr__" (cs.map Value.ref ++ exTail) = pure ()
  | [] => PySem.F.store_Exception.passes self
  | c :: cs => by
    rw [List.map_cons, List.cons_append, refuseLoop_ref]
    exact chain_pass self cs
theorem chain_has (T : String) : ∀ cs : List Addr, (cs.map Value.ref ++ exTail).contains (.type T) = exTail.contains (.type T)
  | [] => rfl
  | c :: cs => by
    rw [List.map_cons, List.cons_append, List.contains_cons, chain_has T cs]
    rfl
theorem chain_ne (cs : List Addr) : (cs.map Value.ref ++ exTail).isEmpty = false := by
  cases cs <;> rfl
def iA (p1 p2 : Pos) : Arguments := { posonlyargs := [], args := [{ arg := "self", annotation := none, pos := p1 }, { arg := "thing", annotation := none, pos := p2 }], vararg := none, kwonlyargs := [], kw_defaults := [], kwarg := none, defaults := [] }
def iB (q1 q2 q3 q4 : Pos) : List Stmt := [.Assign [.Attribute (.Name "self" q1) "thing" q2] (.Name "thing" q3) q4]
def iS : Scope := { kind := .function, names := [(PySem.Str.ofString "self", .local), (PySem.Str.ofString "thing", .local)], isGenerator := false, isCoroutine := false, more := [] }
/-- what the written part says of the error class of that name, at C, and of its __init__, at fI -/
structure BadT (K : Frag) (mg : Str → Option Value) (x : Str) (C fI : Addr) : Prop where
  gC : mg x = some (.ref C)
  cls : ∃ nm q N bs cs sn sub ab col dd k0 k1 k2 k3 k5, K.lookup C = some (excClassObj nm q C N bs (List.map Value.ref cs ++ exTail) true sn sub ab col dd k0 k1 k2 k3 k5 "Exception.__new__")
  sa : findIn K (.ref C) "__setattr__" = some (some (.builtin "object.__setattr__"))
  ga : findIn K (.ref C) "__getattribute__" = some (some (.builtin "BaseException.__getattribute__"))
  gg : findIn K (.ref C) "__getattr__" = some none
  noN : findIn K (.ref C) "thing" = some none
  iC : findIn K (.ref C) "__init__" = some (some (.ref fI))
  tC : typeIn K (.ref fI) = some (.type "function")
  kC : keepIn K (.ref C) = true
  exC : subIn K (.ref C) (.type "BaseException") = some true
  tyC : typeIn K (.ref C) = some (.type "type")
  hdC : hasDictIn K C = true
  fn : ∃ (q : Str) (oc : Value) (od : Option Addr) (doc pm : Value) (an : Option Addr) (cdv ct : Value) (osl : Array (Option Value)) (p1 p2 q1 q2 q3 q4 : Pos),
    K.lookup fI = some ⟨oc, od, .func (fnOf "__init__" q (iA p1 p2) (iB q1 q2 q3 q4) iS .none .none doc pm an cdv ct), osl⟩ ∧ codeIn K cdv q = true
theorem one_fits (v : Value) : [v].length ≤ sizeLine := by
  rw [sizeLine_eq]
  exact (by decide : 1 ≤ 16777216)
theorem ldE {M : Model} {s : Shared} {name : Str} {scope : Scope} {L a : Addr} {cd : Value} {m : Str → Option Value} {x : Str} {pos : Pos} {v : Value} {Q : Value → Shared → Prop} {A : Around} {E : Value → Shared → Prop} (hn : s.heap.Ns L m) (hv : m x = some v) (h : Q v s)
    (hk : scope.kind = .function := by rfl) (hl : (envOfC name scope L a cd).kindOf x = some .local := by rfl) (hd : (x == ("__debug__" : Str)) = false := by decide) :
    wpAny M A (eval (.Name x pos) (envOfC name scope L a cd)) Q E s := wpAny_Name (wpAny_loadName_local hk hl hn hv h) hd
/-- what __init__ leaves of a fresh exception at x -/
structure BadIn (h h' : Heap) (x C dx t1 : Addr) (v : Value) : Prop where
  keep : ∀ b o, b ≠ x → h.get? b = some o → h'.get? b = some o
  obj : h'.get? x = some { cls := .ref C, dict := some dx, data := .fields #[.ref t1, .none, .none, .none, .bool false, .none] }
  dbig : h.objs.size ≤ dx
  dne : dx ≠ x
  ns : h'.Ns1 dx (fun y => if y = "thing" then some v else none)
/-- a made error -/
structure BadMade (h h' : Heap) (e C d : Addr) (v : Value) : Prop where
  keep : ∀ b o, h.get? b = some o → h'.get? b = some o
  new : h.objs.size ≤ e
  obj : ∃ oe vs, h'.get? e = some oe ∧ oe.cls = .ref C ∧ oe.dict = some d ∧ oe.data = .fields vs ∧ vs[1]? = some .none
  dbig : h.objs.size ≤ d
  dne : d ≠ e
  ns : h'.Ns1 d (fun y => if y = "thing" then some v else none)
section
variable {prog : Program} {w : World} {A : Around} {E : Value → Shared → Prop} {R : Result → Shared → Prop} {K : Frag} {mg : Str → Option Value} {C fI : Addr} {cn : Str} {hp : Heap} {g : Array GenState} {d : Drawn} {t : Nat} {os : OsState}
theorem bad_store {name : Str} {tk : Tok} {v : Value} {x C : Addr} {fv : Array Value} {cd : ClassData} {cs : List Addr}
    (X : K.In hp) (hx : hp.get? x = some { cls := .ref C, data := .fields fv }) (hcd : clsIn K C = some cd) (hm : cd.mro = cs.map Value.ref ++ exTail) (hh : cd.hasDict = true) (ha : findIn K (.ref C) name = some none)
    (hq : ∀ h' tk' dx, (∀ b o, b ≠ x → hp.get? b = some o → h'.get? b = some o) → hp.objs.size ≤ dx → dx ≠ x → h'.get? x = some { cls := .ref C, dict := some dx, data := .fields fv } →
      h'.Ns1 dx (fun y => if y = name then some v else none) → R (.ok (.ret .none)) ⟨h', g, d, tk', os⟩) :
    codeAny (model prog w) A (.call (.builtin "object.__setattr__") ⟨[.ref x, .str name tk, v], []⟩) R ⟨hp, g, d, t, os⟩ := by
  have I : PySem.W.InstAt hp x { cls := .ref C, data := .fields fv } C none := ⟨hx, rfl, rfl, trivial⟩
  have SF := PySem.F.store_object
  have hob : cd.mro.contains (.type "object") = true := by rw [hm, chain_has]; decide +kernel
  have ne : cd.mro.isEmpty = false := by rw [hm]; exact chain_ne cs
  have hxs : x ≠ hp.objs.size := Nat.ne_of_lt (Heap.lt_size hx)
  have sub : PySem.W.Looks (model prog w) hp (isInstance (.ref x) (.type "object")) true := I.type.andThen (PySem.W.looks_mroIn X (by unfold PySem.W.mroIn; rw [hcd, Option.bind_some, if_neg (by rw [ne]; decide), hob]))
  refine codeAny_call_builtin SF.slot.plain SF.entry (@PySem.W.check_slot (model prog w) _ _ ⟨hp, g, d, t, os⟩ "object.__setattr__" "object" "__setattr__" (.ref x) [.str name tk, v] [] _ SF.kind SF.split sub (SF.args (.ref x) (.str name tk) v) ?_)
  have hmr : PySem.W.Looks (model prog w) hp (mroOf (.ref C)) cd.mro := (PySem.W.looks_clsIn X hcd).andThen .now
  have L3 : PySem.W.Looks (model prog w) hp (Builtin.ObjectAttr.storeTaker? none) none := .now
  have hcls : PySem.W.Looks (model prog w) hp (classData C) cd := PySem.W.looks_clsIn X hcd
  rw [PySem.W.osa_eq, refuse_eq]
  refine wpAny_bind (wpAny_bind (I.type.at (wpAny_bind (hmr.at ?_))))
  rw [hm, chain_pass _ cs]
  refine wpAny_pure (wpAny_bind (I.type.at (wpAny_bind ((PySem.W.looks_findIn X ha).at (wpAny_bind (L3.at ?_))))))
  show wpAny _ _ (Builtin.ObjectAttr.storeInOwnDict (.ref x) (.ref C) (.str name tk) name v false) _ _ _
  obtain ⟨nm, bs, mro, ns, qn, hd, sn, sb, ab, col, del⟩ := cd
  have hh : hd = true := hh
  subst hh
  unfold Builtin.ObjectAttr.storeInOwnDict Builtin.ObjectAttr.ownDictForStores
  repeat (first | with_reducible refine store_in_new ?_ ?_ | with_reducible refine PySem.W.wpAny_loadPart_at hx ?_ | with_reducible refine hcls.at ?_ | wp_step)
  · exact ⟨_, #[], _, (Heap.get?_update_ne _ _ _ _ hxs.symm).trans (Heap.get?_push_at rfl rfl), rfl, fun e he => absurd he (by simp), fun _ => rfl⟩
  · intro h' tk' hn' hs
    have k1 : (hp.push { cls := .type "dict", data := .dict #[] }).get? x = some { cls := .ref C, data := .fields fv } := Heap.get?_push_of_some _ hx
    have old : ∀ b o, b ≠ x → hp.get? b = some o → h'.get? b = some o := fun b o hb ho =>
      (hs.2 b (Nat.ne_of_lt (Heap.lt_size ho))).trans ((Heap.get?_update_ne _ _ _ _ hb).trans (Heap.get?_push_of_some _ ho))
    exact hq h' tk' hp.objs.size old (Nat.le_refl _) hxs.symm ((hs.2 x hxs).trans (Heap.get?_update_self _ k1 rfl)) hn'
end
section
variable {prog : Program} {w : World} {A : Around} {E : Value → Shared → Prop} {R : Result → Shared → Prop} {s : Shared} {K : Frag} {mg : Str → Option Value} {C fI : Addr} {cn : Str}
theorem bad_init (T : BadT K mg cn C fI) {x t0 : Addr} {v : Value} (X : K.In s.heap) (hlim : s.heap.NoLimit) (hx : s.heap.get? x = some (excO C t0)) (hroom : A.depth < recursionLimit)
    (hq : ∀ h' tk dx, BadIn s.heap h' x C dx t0 v → R (.ok (.ret .none)) { s with heap := h', toks := tk }) :
    codeAny (model prog w) A (.call (.ref fI) ⟨[.ref x, v], []⟩) R s := by
  obtain ⟨qf, oc, od, doc, pm, an, cdv, ct, osl, p1, p2, q1, q2, q3, q4, ho, hcd⟩ := T.fn
  obtain ⟨nm, q, N, bs, cs, sn, sub, ab, col, dd, k0, k1, k2, k3, k5, hC⟩ := T.cls
  have hcl : clsIn K C = some { name := nm, bases := bs, mro := .ref C :: (cs.map Value.ref ++ exTail), ns := N, qualname := q, hasDict := true, slotNames := sn, subclasses := sub, abstract := ab, collection := col, hasDel := false } := by unfold clsIn; rw [hC] <;> rfl
  refine Att.call_fn (binds := [("self", .ref x), ("thing", v)]) X hlim ho hcd hroom (BindsTo.of_eq (by first | rfl | with_unfolding_all rfl)) (by first | rfl | decide | with_unfolding_all rfl) (fun s₁ IC => ?_) rfl rfl rfl
  obtain ⟨h₁, tk₁, rfl⟩ := IC.toInCall.same
  have k : ∀ b o, s.heap.get? b = some o → h₁.get? b = some o := IC.toInCall.keep
  have hn := IC.toInCall.ns
  have X₁ : K.In h₁ := X.keeps k
  have hx₁ := k _ _ hx
  show wpAny _ _ (execs _ _) _ _ _
  refine wpAny_execs_cons (plainObj_wpAny_Assign_Attribute ?_)
  refine ldE (v := v) hn (by first | rfl | with_unfolding_all rfl | kernel_rfl) (ldE (v := .ref x) hn (by first | rfl | with_unfolding_all rfl | kernel_rfl) ?_)
  refine PySem.W.set_plain X₁ (ox := excO C t0) (od := none) ⟨hx₁, rfl, rfl, trivial⟩ T.sa ?_
  refine bad_store (cs := C :: cs) X₁ hx₁ hcl rfl rfl T.noN (fun h₃ tk₃ dx k₃ dn dne hx₃ hn₃ => ?_)
  show wpAny _ _ (execs _ _) _ _ _
  have z : s.heap.objs.size < h₁.objs.size := hn.lt
  exact wpAny_execs_nil (hq h₃ tk₃ dx ⟨fun b o hb e => k₃ b o hb (k b o e), hx₃, Nat.le_of_lt (Nat.lt_of_lt_of_le z dn), dne, hn₃⟩)
theorem bad_made (T : BadT K mg cn C fI) {v : Value} (X : K.In s.heap) (hlim : s.heap.NoLimit) (hroom : A.depth + 1 < recursionLimit)
    (hq : ∀ h' tk e d, BadMade s.heap h' e C d v → R (.ok (.ret (.ref e))) { s with heap := h', toks := tk }) :
    codeAny (model prog w) A (.call (.ref C) ⟨[v], []⟩) R s := by
  obtain ⟨nm, q, N, bs, cs, sn, sub, ab, col, dd, k0, k1, k2, k3, k5, hC⟩ := T.cls
  obtain ⟨hp, g, dr, tk, os⟩ := s
  have k : ∀ b o, hp.get? b = some o → ((hp.push (PySem.W.kdv_tup [v])).push (excO C hp.objs.size)).get? b = some o := fun b o e => Heap.get?_push_of_some _ (Heap.get?_push_of_some _ e)
  have hget : ((hp.push (PySem.W.kdv_tup [v])).push (excO C hp.objs.size)).get? (hp.objs.size + 1) = some (excO C hp.objs.size) := by heap_get
  refine call_own PySem.F.excBase_Exception (fun Y => chain_has Y cs) (X _ _ hC) (PySem.W.looks_findIn X T.iC) (fun self => PySem.W.bind_fn X self T.tC) (one_fits v) ?_
  refine bad_init (s := ⟨(hp.push (PySem.W.kdv_tup [v])).push (excO C hp.objs.size), g, dr, tk, os⟩) T (X.keeps k) (hlim.keeps k) hget ?_ fun h' tk' dx ⟨k', hx, dn, dne, hns⟩ => ?_
  · show A.depth + 1 < recursionLimit
    exact hroom
  · have old : ∀ b o, hp.get? b = some o → h'.get? b = some o := fun b o e => k' b o (Nat.ne_of_lt (Nat.lt_succ_of_lt (Heap.lt_size e))) (k b o e)
    have z : hp.objs.size + 1 + 1 ≤ dx := by
      first
        | (simpa only [Heap.size_push] using dn)
        | exact dn
        | (have q := dn; rw [Heap.size_push, Heap.size_push] at q; exact q)
    exact ⟨rfl, hq h' tk' (hp.objs.size + 1) dx ⟨old, Nat.le_succ _, ⟨_, _, hx, rfl, rfl, rfl, rfl⟩, Nat.le_trans (Nat.le_trans (Nat.le_succ _) (Nat.le_succ _)) z, dne, hns⟩⟩
end
theorem relO_bad {v : V} {v' : Value} (r : RelV v v') (f : Str) : RelO (List.lookup f [(("thing" : Str), v)]) (if f = "thing" then some v' else none) := by
  by_cases hw : f = "thing"
  · subst hw
    rw [if_pos rfl]
    have q : List.lookup ("thing" : Str) [(("thing" : Str), v)] = some v := by simp [List.lookup]
    rw [q]
    exact r
  · rw [if_neg hw]
    have qw : (f == ("thing" : Str)) = false := by simpa using hw
    have q2 : List.lookup f [(("thing" : Str), v)] = none := by simp [List.lookup, qw]
    rw [q2]
    trivial
section
variable {X : Cx} {C fI : Addr} {W : XK} {cn : Str}
theorem pmk_bad {a : Expr} {ta : TA} {p pos : Pos} {k : Nat} (T : BadT X.K X.mg cn C fI) (hr : Room k X.A) (ha : PA X [a] ta) (hg : Gl X cn) (hdb : (cn == ("__debug__" : Str)) = false := by decide)
    (he : starEach (a :: []) X.env = (false, eval a X.env) :: starEach [] X.env := by rfl) (hpl : (backTo pos (starEach [] X.env)).any (·.1) = false := by rfl) :
    PMk X (.Call (.Name cn p) [a] [] pos) (fun σ H Q => ta σ H fun vs H1 => ∃ v, vs = [v] ∧ ∀ d, H1 d = none → Q (.ref C) (some d) (upd H1 d (.xd [(("thing" : Str), v)]))) := by
  intro pins s σ H Q I h
  refine wpAny_Call_Name_kw (ld_glob I hg T.gC ?_ hdb)
  refine PySem.W.callWith_K (h₀ := X.base) I.ok.mod.kin T.kC (thn (ha.run pos pins s σ H _ I h) fun us s1 hh => ?_) he hpl
  obtain ⟨vs, H1, I1, r1, v, ev, q1⟩ := hh
  subst ev
  refine ⟨I1.kIn, ?_⟩
  cases r1 with
  | cons rv rn =>
    rename_i v' us'
    cases rn
    show wpAny _ _ (call (.ref C) [v']) _ _ _
    have hlim := I1.nolimit
    obtain ⟨hp, g, dr, tk, os⟩ := s1
    refine wpAny_call (bad_made T I1.kIn hlim (by have := hr.dp; omega) fun h' tk' e d M => ?_)
    show MkP X pins σ Q (.ref e) ⟨h', g, dr, tk', os⟩
    obtain ⟨oe, fv, hoe, hc, hd, hdat, h1⟩ := M.obj
    have hns := M.ns
    obtain ⟨G', g1, g2⟩ := restrict h' fun b => decide (b ≠ e)
    have gk : ∀ b, b ≠ e → G'.get? b = h'.get? b := fun b hb => g1 b (decide_eq_true hb)
    have ge : G'.get? e = none := g2 e (by simp)
    have old : ∀ b o, hp.get? b = some o → G'.get? b = some o := fun b o q => (gk b (Nat.ne_of_lt (Nat.lt_of_lt_of_le (Heap.lt_size q) M.new))).trans (M.keep b o q)
    have ob : ObjOk X.prog X.w (upd H1 d (.xd [(("thing" : Str), v)])) G' d (.xd [(("thing" : Str), v)]) :=
      ⟨_, hns.at (fun o q => (gk d M.dne).trans q), fun f => relO_bad rv f⟩
    have J : Inv X pins σ (upd H1 d (.xd [(("thing" : Str), v)])) ⟨G', g, dr, tk', os⟩ := I1.laid (t' := tk') old M.dbig ob
    refine ⟨e, oe, fv, ⟨G', g, dr, tk', os⟩, _, .ref C, some d, rfl, J, fun b o q => ?_, ge, hoe, ⟨hc, hd⟩, hdat, h1, ?_, rfl, I1.bare, raises_own T.exC T.tyC, q1 d (I1.hok.fresh M.dbig)⟩
    · by_cases hb : b = e
      · have q' : G'.get? b = some o := q
        rw [hb, ge] at q'; cases q'
      · exact (gk b hb).symm.trans q
    · rw [upd_ne (Ne.symm M.dne)]
      exact I1.hok.fresh M.new
/-- raise c(a) -/
def raiseS (c : Str) (a : Ex) : Stt := fun ρ M => (a ρ M).bind fun d M => .err c d M
theorem ss_raise {a : Expr} {m : Ex} {p pos pos2 : Pos} {k : Nat} (Ck : Cok X W) (T : BadT X.K X.mg cn C fI) (hr : Room k X.A) (ha : SE X W a m) (hg : Gl X cn) (hdb : (cn == ("__debug__" : Str)) = false := by decide)
    (hs : starEach [a] X.env = (false, eval a X.env) :: starEach [] X.env := by rfl) : SS X W (.Raise (some (.Call (.Name cn p) [a] [] pos)) none pos2) (raiseS cn m) := by
  refine PS.imp (ps_raise Ck.calm Ck.tk (pmk_bad T hr (pa_cons ha pa_nil hs) hg hdb hs)) fun D σ H ⟨φ, ρ, M, e, m, h⟩ => ?_
  refine ⟨φ, ρ, M, e, m, h.bind.mono fun φ1 H1 d M1 s1 m1 h1 v dv => ?_⟩
  refine ⟨v, rfl, fun dx hd => ?_⟩
  have h1 : ∀ φ' H' cls dx, Step φ1 H1 φ' H' → MR (gX X) φ' M1 H' → EV (gX X) φ' H' cn d cls dx → W cls dx H' := h1
  exact h1 φ1 _ _ _ (Step.lay m1 hd) (m1.lay hd) ⟨C, dx, v, T.gC, rfl, rfl, upd_same, dv.step m1 (Step.lay m1 hd)⟩
end
end W8

set_option Elab.async false
set_option linter.all false
set_option maxRecDepth 100000
set_option maxHeartbeats 2000000
namespace W8
open PySem L2 PySem.Spec PySem.Calls PyProof.Rows
open PySem.W (Frag fnOf codeIn findIn typeIn keepIn subIn hasDictIn exmOne clsIn Looks)
/-! ### isinstance of a caught error, where it is so -/
theorem nested_yes {K : Frag} {x t c : Value} {P : Heap → Prop} (ty : ∀ (M : Model) (h : Heap), K.In h → P h → Looks M h (typeOf x) t) (hk : PySem.W.kitOne K t c = some true) :
    Answers (fun s => K.In s.heap ∧ P s.heap) x c true := by
  rintro dep tk prog w A R ⟨h0, g, d, tt, os⟩ ⟨⟨X, p⟩, hq⟩
  have LT := ty (model prog w) h0 X p
  unfold PySem.W.kitOne at hk
  unfold Builtin.«isinstance.nested»
  refine wpAny_bind (LT.at ?_)
  by_cases same : (t == c) = true
  · rw [if_pos same]
    first
      | exact hq tt
      | exact wpAny_bind (wpAny_rule (hq tt))
      | exact wpAny_bind (wpAny_rule (wpAny_pure ⟨_, rfl, hq tt⟩))
      | exact wpAny_bind (wpAny_rule (wpAny_pure (hq tt)))
  · rw [if_neg same] at hk ⊢
    obtain ⟨hty, his, hsub⟩ := PySem.W.kit_cls (M := model prog w) X hk
    have LI : Looks (model prog w) h0 (isInstance x c) true := LT.andThen hsub
    refine wpAny_bind (hty.at ?_)
    rw [if_pos (by decide)]
    k_delta "plainIsInstance"
    refine wpAny_bind (wpAny_bind (his.at ?_))
    simp only [Bool.not_true, Bool.false_eq_true, if_false]
    refine wpAny_bind (LI.at ?_)
    first
      | exact wpAny_pure (wpAny_pure (hq tt))
      | (simp only [if_true]; exact wpAny_pure (wpAny_pure (hq tt)))
      | (simp only [if_true]; exact wpAny_pure ⟨_, rfl, hq tt⟩)
      | (simp only [if_true]; exact wpAny_bind (wpAny_pure (wpAny_pure (hq tt))))
theorem call_isY {X : Cx} {a D : Addr} {oe : Obj} {d : Option Addr} {pn : List (Addr × Obj)} {CW : Addr} (hk : PySem.W.kitOne X.K (.ref D) (.ref CW) = some true) (hz : Zc (.ref D) d oe) :
    CallR (X.suite a ((a, oe) :: pn)) (.builtin "isinstance") (fun xs H Q => xs = [.ref a, .ref CW] ∧ Q (.bl true) H) := by
  intro pins s σ H xs us Q I r h
  obtain ⟨rfl, q⟩ := h
  obtain ⟨u1, u2, rfl, r1, r2⟩ := vals2 r
  cases r1
  cases r2
  obtain ⟨hget, _⟩ := I.pin (a, oe) (List.mem_append.mpr (.inl List.mem_cons_self))
  have LT : ∀ (M : Model) (h : Heap), X.K.In h → h.get? a = some oe → Looks M h (typeOf (.ref a)) (.ref D) := fun M h _ e A Q E s k q => wpAny_typeOf_ref (k _ _ e) (by rw [hz.1]; exact q)
  exact call_isinstance (S := fun _ R s => (X.K.In s.heap ∧ s.heap.get? a = some oe) ∧ ∀ tk, R (.ok (.ret (.bool true))) { s with toks := tk })
    (fun prog w A R s hs => isinstance_outer (nested_yes LT hk 0 _ prog w A R s hs) (fun z => nomatch z)) ⟨⟨I.kIn, hget⟩, fun tk => ⟨.bl true, H, I.kept (t' := tk) fun _ _ z => z, rfl, q⟩⟩

/-! ### the def that hears: try: return ('told', call()) / except c as e: return ('line', e.thing, isinstance(e, w)) -/
/-- what it makes of what it calls -/
def TTh (C : Addr) (told line : Str) : (XK → Hp → VK → Prop) → Hp → VK → Prop := fun tl H Q =>
  tl (fun cls dx H' => cls = .ref C ∧ ∃ dd v, dx = some dd ∧ H' dd = some (.xd [("thing", v)]) ∧ ∀ p, H' p = none → Q (.ref p) (upd H' p (.tup [.str line, v, .bl true]))) H (fun v H' => ∀ p, H' p = none → Q (.ref p) (upd H' p (.tup [.str told, v])))
structure HeardS (sg : Scope) (Ng : List Str) (a e c wn : Str) : Prop where
  nd : Ng.Nodup
  e1 : Ng[1]? = some e
  le : sg.names.lookup e = some .local
  gc : sg.names.lookup c = some .globalImplicit
  gw : sg.names.lookup wn = some .globalImplicit
  gi : sg.names.lookup ("isinstance" : Str) = some .globalImplicit
theorem three_fit {α : Type} (a b c : α) : [a, b, c].length ≤ sizeLine := by
  rw [sizeLine_eq]; show 3 ≤ 16777216; decide
theorem two_fit {α : Type} (a b : α) : [a, b].length ≤ sizeLine := by
  rw [sizeLine_eq]; show 2 ≤ 16777216; decide
theorem takes_len {X : Cx} {W W' : WX} (t : Takes X W) (h : ∀ c d σ H, σ.length = X.N.length → W' c d σ H → W c d σ H) : Takes X W' := fun u s' ⟨a, B, sI, pins, σ, H, cls, d, e, I, nb, up, sky, na, os, ag, w⟩ =>
  t u s' ⟨a, B, sI, pins, σ, H, cls, d, e, I, nb, up, sky, na, os, ag, h _ _ _ _ I.len w⟩
theorem heard_gives {X : Cx} {Ng : List Str} {x a e c wn q told line : Str} {sg : Scope} {g C fI CW : Addr} {cdg : Value} {j1 j2 : Nat} {t1 t2 : Nat} {p1 p2 p3 p4 p5 p6 p7 p8 p9 p10 p11 p12 p13 p14 p15 p16 p17 : Pos}
    (T : BadT X.K X.mg c C fI) (hself : exmOne X.K (.ref C) (.ref C) = some true) (hw : X.mg wn = some (.ref CW)) (hk : PySem.W.kitOne X.K (.ref C) (.ref CW) = some true) (hi : X.mg "isinstance" = none) (h : HeardS sg Ng a e c wn) (h0 : ∀ f : Addr, (L2.start Ng [V.ref f])[0]? = some (some (V.ref f))) (hl : ∀ f : Addr, (L2.start Ng [V.ref f]).length = Ng.length)
    (hdc : (c == ("__debug__" : Str)) = false) (hdw : (wn == ("__debug__" : Str)) = false) (hde : (e == ("__debug__" : Str)) = false) (hce : (e == ("__classdict__" : Str)) = false) :
    LamX.GivesTo X Ng x sg g cdg [.Try [.Return (some (.Tuple [.Constant (.str told) j1 p1, .Call (.Name a p2) [] [] p3] t1 p4)) p5] [.ExceptHandler (some (.Name c p6)) (some e) [.Return (some (.Tuple [.Constant (.str line) j2 p7, .Attribute (.Name e p8) "thing" p9, .Call (.Name "isinstance" p10) [.Name e p11, .Name wn p12] [] p13] t2 p14)) p15] p16] [] [] p17] a q (TTh C told line) := by
  intro f c' s H Q tl act hc htt
  refine ⟨_, pss_one (ps_try_as (X := (cxOf C8.CX0 X.prog X.w X.K X.mg X.base Ng x sg g cdg X.A X.stack s H C8.E0).nox) (i := 1) (c := .ref C) (Wout := fun _ _ _ _ => False)
      (tb := fun W D σ H => ∃ Ech : XK, (∀ cls d σ' H', σ'.length = Ng.length → Ech cls d H' → W cls d σ' H') ∧ σ[0]? = some (some (.ref f)) ∧ H c' = some (LamX.CodeO c' q) ∧ tl Ech H (fun v H' => ∀ p, H' p = none → D.rt (.ref p) (upd H' p (.tup [.str told, v]))))
      (ts := fun a cls d => tRet (tTup (tCons (tC (.str line)) (tCons (tXf a cls d C "thing" (tVar 1)) (tCons (tCB (fun xs H Q => cls = .ref C ∧ xs = [.ref a, .ref CW] ∧ Q (.bl true) H) (tCons (tVar 1) (tCons (tC (.ref CW)) tNil))) tNil)))))
      rfl rfl h.nd h.e1 h.le ⟨h.gc, hdc, .inl T.gC⟩ LamX.takes0 (fun W pn xe tk _ => ?_) (fun a oe cls d pn hz hf => ?_)), ?_⟩
  · refine ⟨fun pins s' σ H' D I h' => ?_⟩
    obtain ⟨Ech, hW, h1, h2, h3⟩ := h'
    have hp := act (fun cls d _ H' => Ech cls d H') pn xe Ech p2 p3 (takes_len tk fun c d σ H hl z => hW c d σ H hl z) (fun _ _ _ _ z => z)
    have hq := pss_one (ps_ret (pos := p5) (pe_tup (x1 := t1) (pos := p4) (pa_cons (pe_str (x := told) (j := j1) (pos := p1)) (pa_cons hp pa_nil))))
    exact hq.run pins s' σ H' D I ⟨h1, h2, by
      refine cast ?_ h3
      congr 1
      funext v H'
      refine propext ⟨fun z => ⟨two_fit _ _, z⟩, fun z => z.2⟩⟩
  · have hv : PE ((cxOf C8.CX0 X.prog X.w X.K X.mg X.base Ng x sg g cdg X.A X.stack s H C8.E0).nox.suite a ((a, oe) :: pn)) (.Name e p8) (tVar 1) := pe_var h.e1 (.inl h.le) hde hce
    have hv2 : PE ((cxOf C8.CX0 X.prog X.w X.K X.mg X.base Ng x sg g cdg X.A X.stack s H C8.E0).nox.suite a ((a, oe) :: pn)) (.Name e p11) (tVar 1) := pe_var h.e1 (.inl h.le) hde hce
    have hwn : PE ((cxOf C8.CX0 X.prog X.w X.K X.mg X.base Ng x sg g cdg X.A X.stack s H C8.E0).nox.suite a ((a, oe) :: pn)) (.Name wn p12) (tC (.ref CW)) := pe_glob (v := .ref CW) h.gw hw rfl hdw
    have his : CallR ((cxOf C8.CX0 X.prog X.w X.K X.mg X.base Ng x sg g cdg X.A X.stack s H C8.E0).nox.suite a ((a, oe) :: pn)) (.builtin "isinstance") (fun xs H Q => cls = .ref C ∧ xs = [.ref a, .ref CW] ∧ Q (.bl true) H) := by
      intro pins s2 σ H2 xs us Q I r ⟨e1, e2, q⟩
      subst e1
      exact call_isY (X := (cxOf C8.CX0 X.prog X.w X.K X.mg X.base Ng x sg g cdg X.A X.stack s H C8.E0).nox) hk hz pins s2 σ H2 xs us Q I r ⟨e2, q⟩
    exact pss_one (ps_ret (pe_tup (pa_cons pe_str (pa_cons (pe_xf ⟨T.ga, T.gg, T.exC, T.hdC⟩ T.noN hz hf hv) (pa_cons (pe_callB his h.gi hi (by decide +kernel) (pa_cons hv2 (pa_cons hwn pa_nil))) pa_nil)))))
  · refine ⟨fun cls dx H' => cls = .ref C ∧ ∃ dd v, dx = some dd ∧ H' dd = some (.xd [("thing", v)]) ∧ ∀ p, H' p = none → Q (.ref p) (upd H' p (.tup [.str line, v, .bl true])), ?_, h0 f, hc, htt⟩
    rintro cls d σ' H' hlen ⟨e1, dd, v, e2, e3, hq⟩
    subst e1 e2
    refine ⟨true, hself, fun _ a ha => ?_, fun z => nomatch z⟩
    have hs1 : (σ'.set 1 (some (V.ref a)))[1]? = some (some (.ref a)) := by
      have : 1 < Ng.length := (List.getElem?_eq_some_iff.mp h.e1).1
      rw [List.getElem?_set_self (by rw [hlen]; exact this)]
    exact ⟨_, hs1, rfl, rfl, dd, _, v, rfl, e3, by simp [List.lookup], _, hs1, rfl, rfl, three_fit _ _ _, hq⟩
end W8

set_option Elab.async false
set_option linter.all false
set_option maxRecDepth 100000
set_option maxHeartbeats 2000000
namespace W8
open PySem L2 PySem.Spec PySem.Calls PyProof.Rows

/-! ### a lambda handed to the hearing def -/
structure LamOk (X : Cx) (c P : Addr) : Prop where
  tb : LamX.TabB X.base X.mg c P
  code : X.env.code = .ref c
  mem : (P, X.env.qual ++ "<lambda>") ∈ tabT (gX X)
  one : ∀ p ∈ tabT (gX X), p.1 = P → p.2 = X.env.qual ++ "<lambda>"
def heardE (c told line : Str) (b : Ex) : Ex := fun ρ M => match b ρ M with
  | .ok d M => .ok (.tup [.str told, d]) M
  | .err c' t M => if c' = c then .ok (.tup [.str line, t, .bl true]) M else .bad
  | .bad => .bad
theorem step_ext {φ : List Addr} {H H1 : Hp} (e : LamX.ExtN H H1) : Step φ H φ H1 :=
  ⟨⟨[], by simp⟩, fun a o h _ t => e a o h (fun ps z => by subst z; cases t), fun a o h t => ⟨o, e a o h (fun ps z => by subst z; cases t), t⟩⟩
theorem MR.ext {g : G} {φ : List Addr} {M : Mem} {H H1 : Hp} (m : MR g φ M H) (e : LamX.ExtN H H1) (t : LamX.Tabs (tabT g) H1) : MR g φ M H1 :=
  ⟨m.len, m.nd, t, fun n u h => by
    obtain ⟨a, h1, h2⟩ := m.obj n u h
    refine ⟨a, h1, h2.step m (step_ext e) fun w hw => ?_⟩
    obtain ⟨w', q, hm⟩ := h2.mut
    rw [hw] at q; cases q
    exact e a w hw fun ps z => by subst z; cases hm⟩
theorem cok_lam {X : Cx} (nd : X.N.Nodup) (A : Around) (outer : List PySem.Env) (s : Shared) (H : Hp) (E : XK) (scope : Scope) (f c' : Addr) : Cok (LamX.lamCx X A outer s H E scope f c') E :=
  ⟨rfl, nd, takes_of rfl rfl rfl rfl, passes_of rfl⟩
section
variable {X : Cx} {W : XK}
theorem se_heard {x a cn told line : Str} {g c P C fI : Addr} {k : Nat} {st : Stmt} {fd : FuncData} {Ng : List Str} {params : Arguments} {body : Expr} {scope : Scope} {b : Ex} {p lpos pos : Pos}
    (Ck : Cok X W) (hg : Gl X x) (hm : X.mg x = some (.ref g)) (F : Fun X.K x x st g fd) (hb : L2.Binds X.K fd [a] []) (Sg : FnScope Ng [a] (defScope st)) (hNg : Ng[0]? = some a) (hva : Vis (defScope st) a)
    (T : BadT X.K X.mg cn C fI) (hG : ∀ cdv, LamX.GivesTo X Ng x (defScope st) g cdv (defBody st) a (X.env.qual ++ "<lambda>") (TTh C told line))
    (L : LamOk X c P) (hr : Room (k + 2) X.A) (LS : LamX.LamS X.env.scope scope) (hdef : defaultsOf params X.env = ([], []) := by rfl)
    (hbind : ∀ (q : Str) (cl : List (Str × Addr)) (pm cv ctv : Value), bindArgs (PySem.W.kla_fn "<lambda>" q params body scope cl pm cv ctv) ⟨[], []⟩ = pure [])
    (he : ∀ (A : Around) (outer : List PySem.Env) (s : Shared) (H : Hp) (E : XK) (f c' : Addr), Room k (A.deeper (LamX.lamEnv X scope s.heap.objs.size f c')) → Cok (LamX.lamCx X A outer s H E scope f c') E → SE (LamX.lamCx X A outer s H E scope f c') E body b)
    (hdb : (x == ("__debug__" : Str)) = false := by decide) (hd : (a == ("__debug__" : Str)) = false := by decide) (hcd : (a == ("__classdict__" : Str)) = false := by decide) :
    SE X W (.Call (.Name x p) [.Lambda params body scope lpos] [] pos) (heardE cn told line b) := by
  obtain ⟨oc, od, kV, doc, pm, an, cdv, ct, osl, efd, lk, hcd'⟩ := F.ex
  subst efd
  refine PE.imp (LamX.pe_lamcall (t := fun E => tE (gX X) E b) hg hm F.kp lk hcd' hb Sg hNg hva (hG cdv) L.tb L.code L.mem L.one hr LS hdef hbind
    (fun A outer s H E f c' hr' => he A outer s H E f c' hr' (cok_lam Ck.nd A outer s H E scope f c')) hdb hd hcd) fun σ H Q ⟨φ, ρ, M, e, m, h⟩ => ?_
  refine ⟨m.tabs, fun H1 eN T1 => ?_⟩
  have s1 : Step φ H φ H1 := step_ext eN
  have m1 := m.ext eN T1
  refine ⟨φ, ρ, M, e.step m s1, m1, ?_⟩
  have h := h.step s1
  unfold heardE at h
  cases hb : b ρ M with
  | bad => rw [hb] at h; exact h.elim
  | ok d M2 =>
    rw [hb] at h
    have h : Wp (gX X) W φ H1 (.ok (.tup [.str told, d]) M2) fun φ' H' d _ => ∀ v, DV (gX X) φ' H' d v → Q v H' := h
    intro φ2 H2 s2 m2 v dv p hp
    exact h _ _ (s2.trans (Step.lay m2 hp)) (m2.lay hp) _ (.tup (SqT.of upd_same) ((DVs.cons (.str told) (.cons dv .nil)).step m2 (Step.lay m2 hp)))
  | err c2 t M2 =>
    rw [hb] at h
    have h : Wp (gX X) W φ H1 (if c2 = cn then .ok (.tup [.str line, t, .bl true]) M2 else .bad) fun φ' H' d _ => ∀ v, DV (gX X) φ' H' d v → Q v H' := h
    by_cases hc : c2 = cn
    · subst hc
      rw [if_pos rfl] at h
      intro φ2 H2 cls dx s2 m2 ⟨C', dd, v, e1, e2, e3, e4, dv⟩
      have : C' = C := by
        have q : X.mg c2 = some (.ref C') := e1
        rw [T.gC] at q; cases q; rfl
      subst this
      refine ⟨e2, dd, v, e3, e4, fun p hp => ?_⟩
      exact h _ _ (s2.trans (Step.lay m2 hp)) (m2.lay hp) _ (.tup (SqT.of upd_same) ((DVs.cons (.str line) (.cons dv (.cons (.bl true) .nil))).step m2 (Step.lay m2 hp)))
    · rw [if_neg hc] at h; exact h.elim
end

/-! ### a def whose code object is known -/
section
variable {P : Program} {w : World} {K : PySem.W.Frag} {mg : Str → Option Value} {base : Heap}
theorem fn_okC {k : Nat} {x : Str} {st : Stmt} {N ps : List Str} {f : Addr} {fd : FuncData} {m : Stt} (F : Fun K x x st f fd) (S : FnScope N ps (defScope st))
    (hb : ∀ (A : Around) (outer : List PySem.Env) (s : Shared) (H : Hp) (E : XK), Room k (A.deeper (envOfC x (defScope st) s.heap.objs.size f fd.code)) → Cok (dX P w K mg base N x st f fd.code A outer s H E) E →
      SSs (dX P w K mg base N x st f fd.code A outer s H E) E (defBody st) m) : FnOk P w K mg base (L2.CX P w) (k + 1) f fd ps (spD ⟨K, mg, base⟩ (runD ps.length N.length m)) := by
  obtain ⟨oc, od, kV, doc, pm, an, cdv, ct, osl, efd, lk, hcd⟩ := F.ex
  have ec : fd.code = cdv := by rw [efd]
  rw [ec] at hb
  subst efd
  refine L2.fn_of lk hcd S (fun vs H Q E ⟨φ, M, ds, mr, dvs, h⟩ => ?_) fun A outer s H vs Q E hr ⟨φ, M, ds, mr, dvs, h⟩ => ?_
  · unfold runD at h
    split at h
    · rename_i e; rw [← dvs.length]; exact e
    · exact h.elim
  · refine ⟨_, hb A outer s H E hr (cok_def S f cdv A outer s H E), ?_⟩
    unfold runD at h
    split at h
    · rename_i e
      rw [← e] at h
      refine ⟨φ, _, M, er_start dvs, mr, (Wp.trunc mr h).bind.mono fun φ1 H1 o M1 s1 m1 h1 => ?_⟩
      cases o with
      | rt d => exact fun v dv => h1.here m1 v dv
      | nx ρ => exact fun σ' _ => h1.here m1 _ .non
      | bk ρ => exact h1.elim
      | ct ρ => exact h1.elim
    · exact h.elim
theorem lamOk_def {N : List Str} {x : Str} {st : Stmt} {f c Pt : Addr} {fd : FuncData} {oc : Value} {od : Option Addr} {sl : Array (Option Value)} (hx : x ∈ lamDefs) (h1 : lamDefs.length = 1) (hm : mg x = some (.ref f)) (lk : K.lookup f = some ⟨oc, od, .func fd, sl⟩) (hc : fd.code = .ref c) (TB : LamX.TabB base mg c Pt)
    (A : Around) (outer : List PySem.Env) (s : Shared) (H : Hp) (E : XK) (hq : (dX P w K mg base N x st f fd.code A outer s H E).env.qual ++ "<lambda>" = lamQ x) : LamOk (dX P w K mg base N x st f fd.code A outer s H E) c Pt := by
  refine ⟨TB, hc, ?_, fun p hp _ => ?_⟩
  · rw [hq]
    exact tabT_of hx ⟨f, c, oc, od, fd, sl, hm, lk, hc, TB.code⟩
  · rw [hq]
    obtain ⟨y, hy, e, _⟩ := tabT_in hp
    rw [e]
    match h : lamDefs, h1, hx, hy with
    | [z], _, hx, hy => rw [List.mem_singleton.mp hx, List.mem_singleton.mp hy]
end
/-- a try that no error of its body leaves by -/
def thruS (m : Stt) : Stt := fun ρ M => noE (m ρ M)
theorem ss_thru {X : Cx} {W : XK} {pos : Pos} {body : List Stmt} {h₀ : ExceptHandler} {hs : List ExceptHandler} {m : Stt} (hb : SSs X.nox W0 body m) : SS X W (.Try body (h₀ :: hs) [] [] pos) (thruS m) := by
  refine PS.imp (ps_try_thru0 hb) fun D σ H ⟨φ, ρ, M, e, mr, h⟩ => ⟨φ, ρ, M, e, mr, ?_⟩
  unfold thruS at h
  show Wp (gX X) W0 φ H (m ρ M) fun φ' H' o _ => Po (gX X) D φ' H' o
  cases hm : m ρ M with
  | ok o M2 => rw [hm] at h; exact h
  | err c t M2 => rw [hm] at h; exact h.elim
  | bad => rw [hm] at h; exact h.elim
theorem cok_nox {X : Cx} {W : XK} (C : Cok X W) : Cok X.nox W0 := ⟨C.calm, C.nd, LamX.takes0, PassesOwn.never⟩
end W8

set_option Elab.async false
set_option linter.all false
set_option maxRecDepth 100000
set_option maxHeartbeats 4000000
namespace W8
open PySem L2 PySem.Spec PyProof.Rows
def top (i : Nat) : Stmt := PySem.Challenge.pw_everyworking_k08_the_order_of_lines.main.body.getD i (.Pass ⟨0, 0, 0, 0⟩)
abbrev s0 : Stmt := top 10
abbrev s1 : Stmt := top 11
abbrev s2 : Stmt := top 12
abbrev s3 : Stmt := top 13
abbrev s4 : Stmt := top 14
abbrev s5 : Stmt := top 17
abbrev s6 : Stmt := top 18
abbrev s7 : Stmt := top 19
abbrev s8 : Stmt := top 20
abbrev s9 : Stmt := top 21
abbrev s10 : Stmt := top 22
abbrev s11 : Stmt := top 23
abbrev s12 : Stmt := top 25
abbrev s13 : Stmt := top 26
abbrev s14 : Stmt := top 27
abbrev s15 : Stmt := top 28
abbrev s16 : Stmt := top 30
abbrev s17 : Stmt := top 31
abbrev s18 : Stmt := top 32
abbrev s19 : Stmt := top 33
abbrev s20 : Stmt := top 34
abbrev s21 : Stmt := top 35
abbrev s22 : Stmt := top 36
abbrev s23 : Stmt := top 37
abbrev s24 : Stmt := top 38
abbrev s25 : Stmt := top 39
abbrev s26 : Stmt := top 40
abbrev s27 : Stmt := top 41
abbrev s28 : Stmt := top 42
abbrev s29 : Stmt := top 43
abbrev s30 : Stmt := top 44
abbrev s31 : Stmt := top 45
def k_FIGURES : D := .str "0123456789"
def k_MOST_NAME : D := .int 12
def k_MOST_WHOLE : D := .int 10000000000000000000000000000000000000000
def k_SMALL : D := .str "abcdefghijklmnopqrstuvwxyz"
def k_TRIPLE : D := .int 3
def k_WORDS : D := .tup [.str "sort", .str "make", .str "look", .str "worth", .str "walk", .str "join", .str "skill", .str "rule", .str "meet", .str "when", .str "way", .str "task", .str "not", .str "if", .str "then", .str "else", .str "and", .str "or", .str "mod"]
abbrev Fn := Nat → List D → Mem → R D
/-- is_whole: slots 0 thing -/
noncomputable def m0 (fu : Nat) (c : Fn) : Stt := retS (andE (fnE isiD (consE (var 0) (consE (con (.ty "int")) nilE))) (andE (notE (fnE isiD (consE (var 0) (consE (con (.ty "bool")) nilE)))) (chE ltD ltD (negE (con k_MOST_WHOLE)) (var 0) (con k_MOST_WHOLE))))
/-- is_whole_between: slots 0 thing, 1 least, 2 most -/
noncomputable def m1 (fu : Nat) (c : Fn) : Stt := retS (andE (callE (c 0) (consE (var 0) nilE)) (chE leD leD (var 1) (var 0) (var 2)))
/-- is_tuple_of: slots 0 thing, 1 many -/
noncomputable def m2 (fu : Nat) (c : Fn) : Stt := retS (andE (fnE isiD (consE (var 0) (consE (con (.ty "tuple")) nilE))) (opE eqD (fnE lenD (consE (var 0) nilE)) (var 1)))
/-- is_tuple_by: slots 0 thing, 1 look, 2 part -/
noncomputable def m3 (fu : Nat) (c : Fn) : Stt := retS (andE (fnE isiD (consE (var 0) (consE (con (.ty "tuple")) nilE))) (fnE allD (consE (lcE (valI (var 0)) [2] (.nm 2) tru (callVE [("is_whole", c 0)] 1 (consE (var 2) nilE))) nilE)))
/-- is_name: slots 0 thing, 1 sign -/
noncomputable def m4 (fu : Nat) (c : Fn) : Stt := seqS (ifS (orT (notT (asT (fnE isiD (consE (var 0) (consE (con (.ty "str")) nilE))))) (orT (notT (asT (chE leD leD (con (.int 1)) (fnE lenD (consE (var 0) nilE)) (con k_MOST_NAME)))) (asT (opE inD (var 0) (con k_WORDS))))) (retS (con (.bl false))) skipS) (retS (andE (opE inD (opE ixD (var 0) (con (.int 0))) (con k_SMALL)) (fnE allD (consE (lcE (valI (var 0)) [1] (.nm 1) tru (opE inD (var 1) (opE addD (con k_SMALL) (con k_FIGURES)))) nilE))))
/-- is_line_form: slots 0 thing, 1 waiting, 2 here -/
noncomputable def m5 (fu : Nat) (c : Fn) : Stt := seqS (setS 1 (lstE (consE (var 0) nilE))) (seqS (whN fu (asT (opE neD (var 1) (lstE nilE))) (seqS (setS 2 (mtE popD (var 1) nilE)) (seqS (ifS (orT (notT (asT (callE (c 2) (consE (var 2) (consE (con k_TRIPLE) nilE))))) (notT (asT (callE (c 4) (consE (opE ixD (var 2) (con (.int 0))) nilE))))) (retS (con (.bl false))) skipS) (seqS (ifS (orT (notT (asT (callE (c 3) (consE (opE ixD (var 2) (con (.int 1))) (consE (con (.fn "is_whole")) nilE))))) (notT (asT (fnE isiD (consE (opE ixD (var 2) (con (.int 2))) (consE (con (.ty "tuple")) nilE)))))) (retS (con (.bl false))) skipS) (exprS (mtE extD (var 1) (consE (opE ixD (var 2) (con (.int 2))) nilE))))))) (retS (con (.bl true))))
/-- need_form: slots 0 line -/
noncomputable def m6 (fu : Nat) (c : Fn) : Stt := ifS (notT (asT (callE (c 5) (consE (var 0) nilE)))) (raiseS "BadLine" (var 0)) skipS
/-- parts_of_line: slots 0 line, 1 found, 2 waiting, 3 here -/
noncomputable def m7 (fu : Nat) (c : Fn) : Stt := seqS (parS 1 2 (consE (lstE nilE) (consE (lstE (consE (var 0) nilE)) nilE))) (seqS (whN fu (asT (opE neD (var 2) (lstE nilE))) (seqS (setS 3 (mtE popD (var 2) nilE)) (seqS (exprS (mtE appD (var 1) (consE (var 3) nilE))) (exprS (mtE extD (var 2) (consE (lrevE (opE ixD (var 3) (con (.int 2)))) nilE)))))) (retS (var 1)))
/-- size_of: slots 0 line -/
noncomputable def m8 (fu : Nat) (c : Fn) : Stt := retS (fnE lenD (consE (callE (c 7) (consE (var 0) nilE)) nilE))
/-- key_of: slots 0 line -/
noncomputable def m9 (fu : Nat) (c : Fn) : Stt := retS (tupE (consE (callE (c 8) (consE (var 0) nilE)) (consE (var 0) nilE)))
/-- line_size: slots 0 line -/
noncomputable def m10 (fu : Nat) (c : Fn) : Stt := seqS (exprS (callE (c 6) (consE (var 0) nilE))) (retS (callE (c 8) (consE (var 0) nilE)))
/-- is_before: slots 0 one, 1 other -/
noncomputable def m11 (fu : Nat) (c : Fn) : Stt := seqS (exprS (callE (c 6) (consE (var 0) nilE))) (seqS (exprS (callE (c 6) (consE (var 1) nilE))) (retS (opE ltD (callE (c 9) (consE (var 0) nilE)) (callE (c 9) (consE (var 1) nilE)))))
/-- is_place_in: slots 0 line, 1 thing, 2 here, 3 number -/
noncomputable def m12 (fu : Nat) (c : Fn) : Stt := seqS (ifS (notT (asT (fnE isiD (consE (var 1) (consE (con (.ty "tuple")) nilE))))) (retS (con (.bl false))) skipS) (seqS (setS 2 (var 0)) (seqS (forS (valI (var 1)) (.nm 3) (seqS (ifS (notT (asT (callE (c 1) (consE (var 3) (consE (con (.int 0)) (consE (opE subD (fnE lenD (consE (opE ixD (var 2) (con (.int 2))) nilE)) (con (.int 1))) nilE)))))) (retS (con (.bl false))) skipS) (setS 2 (opE ixD (opE ixD (var 2) (con (.int 2))) (var 3))))) (retS (con (.bl true)))))
/-- need_place: slots 0 line, 1 place -/
noncomputable def m13 (fu : Nat) (c : Fn) : Stt := ifS (notT (asT (callE (c 12) (consE (var 0) (consE (var 1) nilE))))) (raiseS "BadPlace" (var 1)) skipS
/-- put_in_line: slots 0 line, 1 place, 2 part, 3 around, 4 number, 5 found, 6 here -/
noncomputable def m14 (fu : Nat) (c : Fn) : Stt := seqS (setS 3 (lstE (consE (var 0) nilE))) (seqS (forS (valI (var 1)) (.nm 4) (exprS (mtE appD (var 3) (consE (opE ixD (opE ixD (opE ixD (var 3) (negE (con (.int 1)))) (con (.int 2))) (var 4)) nilE)))) (seqS (setS 5 (var 2)) (seqS (forS (zpI (consE (stE (var 1) noP noP (smP (negE (con (.int 1))))) (consE (stE (var 3) (smP (negE (con (.int 2)))) noP (smP (negE (con (.int 1))))) nilE))) (.tp [4, 6]) (setS 5 (tupE (consE (opE ixD (var 6) (con (.int 0))) (consE (opE ixD (var 6) (con (.int 1))) (consE (tupE (starE (slE (opE ixD (var 6) (con (.int 2))) noP (smP (var 4))) (consE (var 5) (starE (slE (opE ixD (var 6) (con (.int 2))) (smP (opE addD (var 4) (con (.int 1)))) noP) nilE)))) nilE)))))) (retS (var 5)))))
/-- put_at: slots 0 line, 1 place, 2 part -/
noncomputable def m15 (fu : Nat) (c : Fn) : Stt := seqS (exprS (callE (c 6) (consE (var 0) nilE))) (seqS (exprS (callE (c 13) (consE (var 0) (consE (var 1) nilE)))) (seqS (exprS (callE (c 6) (consE (var 2) nilE))) (retS (callE (c 14) (consE (var 0) (consE (var 1) (consE (var 2) nilE)))))))
/-- _law_deck: slots 0 script, 1 mark, 2 mixed, 3 cell -/
noncomputable def m16 (fu : Nat) (c : Fn) : Stt := seqS (setS 2 (var 1)) (seqS (forS (valI (slE (var 0) noP (smP (con (.int 63))))) (.nm 3) (setS 2 (opE modD (fnE intD (consE (opE addD (opE addD (opE mulD (var 2) (con (.int 48271))) (opE modD (fnE intD (consE (var 3) nilE)) (con (.int 2147483549)))) (con (.int 89))) nilE)) (con (.int 2147483587))))) (retS (dispE (prC (con (.str "cells")) (stE (lcE (valI (slE (var 0) noP (smP (con (.int 63))))) [3] (.nm 3) tru (fnE intD (consE (var 3) nilE))) noP noP (smP (negE (con (.int 1))))) (prC (con (.str "mixed")) (var 2) (prC (con (.str "draws")) (con (.int 0)) prN))))))
/-- _law_draw: slots 0 deck, 1 many, 2 number, 3 cell -/
noncomputable def m17 (fu : Nat) (c : Fn) : Stt := seqS (dputS (opE addD (opE dgD (var 0) (con (.str "draws"))) (con (.int 1))) (var 0) (con (.str "draws"))) (seqS (setS 2 (opE addD (opE dgD (var 0) (con (.str "mixed"))) (opE mulD (con (.int 65537)) (opE dgD (var 0) (con (.str "draws")))))) (seqS (ifS (asT (opE neD (opE dgD (var 0) (con (.str "cells"))) (lstE nilE))) (seqS (setS 3 (mtE popD (opE dgD (var 0) (con (.str "cells"))) nilE)) (seqS (ifS (asT (opE geD (var 3) (opE powD (con (.int 10)) (con (.int 18))))) (seqS (exprS (mtE appD (opE dgD (var 0) (con (.str "cells"))) (consE (opE fdvD (var 3) (fnE maxD (consE (con (.int 2)) (consE (var 1) nilE)))) nilE))) (retS (opE modD (fnE intD (consE (var 3) nilE)) (var 1)))) skipS) (setS 2 (opE addD (var 2) (opE modD (fnE intD (consE (var 3) nilE)) (con (.int 2147483549))))))) skipS) (seqS (setS 2 (opE modD (fnE intD (consE (opE addD (opE mulD (var 2) (con (.int 40692))) (con (.int 24131))) nilE)) (con (.int 2147483563)))) (seqS (setS 2 (opE modD (fnE intD (consE (opE addD (opE addD (opE mulD (var 2) (var 2)) (opE mulD (con (.int 53668)) (opE dgD (var 0) (con (.str "draws"))))) (con (.int 13))) nilE)) (con (.int 2147483399)))) (retS (opE modD (fnE intD (consE (opE fdvD (opE modD (fnE intD (consE (opE mulD (var 2) (con (.int 40014))) nilE)) (con (.int 2147483587))) (con (.int 64))) nilE)) (var 1)))))))
/-- _law_pick: slots 0 deck, 1 some -/
noncomputable def m18 (fu : Nat) (c : Fn) : Stt := retS (opE ixD (var 1) (callE (c 17) (consE (var 0) (consE (fnE lenD (consE (var 1) nilE)) nilE))))
/-- _law_mixed: slots 0 deck, 1 some, 2 left, 3 found, 4 go -/
noncomputable def m19 (fu : Nat) (c : Fn) : Stt := seqS (parS 2 3 (consE (fnE listD (consE (var 1) nilE)) (consE (lstE nilE) nilE))) (seqS (forS (rng1I (consE (fnE lenD (consE (var 2) nilE)) nilE)) (.nm 4) (exprS (mtE appD (var 3) (consE (mtE popAtD (var 2) (consE (callE (c 17) (consE (var 0) (consE (fnE lenD (consE (var 2) nilE)) nilE))) nilE)) nilE)))) (retS (var 3)))
/-- _law_same: slots 0 told, 1 due, 2 one, 3 other -/
noncomputable def m20 (fu : Nat) (c : Fn) : Stt := seqS (ifS (asT (isiT (var 1) (consE (con (.ty "tuple")) (consE (con (.ty "list")) nilE)))) (seqS (ifS (orT (asT (opE neD (fnE isiD (consE (var 0) (consE (con (.ty "tuple")) nilE))) (fnE isiD (consE (var 1) (consE (con (.ty "tuple")) nilE))))) (orT (notT (asT (isiT (var 0) (consE (con (.ty "tuple")) (consE (con (.ty "list")) nilE))))) (asT (opE neD (fnE lenD (consE (var 0) nilE)) (fnE lenD (consE (var 1) nilE)))))) (retS (con (.bl false))) skipS) (retS (opE eqD (lcE (zpI (consE (var 0) (consE (var 1) nilE))) [2, 3] (.tp [2, 3]) (notT (asT (callE (c 20) (consE (var 2) (consE (var 3) nilE))))) (con (.int 1))) (lstE nilE)))) skipS) (seqS (ifS (orT (asT (fnE isiD (consE (var 1) (consE (con (.ty "bool")) nilE)))) (asT (fnE isiD (consE (var 0) (consE (con (.ty "bool")) nilE))))) (retS (andE (fnE isiD (consE (var 1) (consE (con (.ty "bool")) nilE))) (andE (fnE isiD (consE (var 0) (consE (con (.ty "bool")) nilE))) (opE eqD (var 0) (var 1))))) skipS) (seqS (ifS (orT (asT (fnE isiD (consE (var 1) (consE (con (.ty "int")) nilE)))) (asT (fnE isiD (consE (var 1) (consE (con (.ty "str")) nilE))))) (retS (andE (opE eqD (fnE isiD (consE (var 1) (consE (con (.ty "int")) nilE))) (fnE isiD (consE (var 0) (consE (con (.ty "int")) nilE)))) (andE (opE eqD (fnE isiD (consE (var 1) (consE (con (.ty "str")) nilE))) (fnE isiD (consE (var 0) (consE (con (.ty "str")) nilE)))) (opE eqD (var 0) (var 1))))) skipS) (seqS (ifS (asT (opE isD (var 1) (con .non))) (retS (opE isD (var 0) (con .non))) skipS) (retS (andE (fnE isiD (consE (var 1) (consE (con (.ty "dict")) nilE))) (andE (fnE isiD (consE (var 0) (consE (con (.ty "dict")) nilE))) (opE eqD (var 0) (var 1))))))))
/-- _law_size: slots 0 line, 1 part -/
noncomputable def m21 (fu : Nat) (c : Fn) : Stt := retS (opE addD (con (.int 1)) (fnE sumD (consE (lcE (valI (opE ixD (var 0) (con (.int 2)))) [1] (.nm 1) tru (callE (c 21) (consE (var 1) nilE))) nilE)))
/-- _law_places: slots 0 line, 1 found, 2 k, 3 part, 4 place -/
noncomputable def m22 (fu : Nat) (c : Fn) : Stt := seqS (setS 1 (lstE (consE (tupE nilE) nilE))) (seqS (forS (enI (consE (opE ixD (var 0) (con (.int 2))) nilE)) (.tp [2, 3]) (exprS (mtE extD (var 1) (consE (lcE (valI (callE (c 22) (consE (var 3) nilE))) [4] (.nm 4) tru (opE addD (tupE (consE (var 2) nilE)) (var 4))) nilE)))) (retS (var 1)))
/-- _law_part: slots 0 line, 1 place, 2 k -/
noncomputable def m23 (fu : Nat) (c : Fn) : Stt := seqS (forS (valI (var 1)) (.nm 2) (setS 0 (opE ixD (opE ixD (var 0) (con (.int 2))) (var 2)))) (retS (var 0))
/-- _law_put_part: slots 0 line, 1 place, 2 part, 3 k -/
noncomputable def m24 (fu : Nat) (c : Fn) : Stt := seqS (ifS (asT (opE eqD (var 1) (tupE nilE))) (retS (var 2)) skipS) (seqS (setS 3 (opE ixD (var 1) (con (.int 0)))) (retS (opE addD (slE (var 0) noP (smP (con (.int 2)))) (tupE (consE (opE addD (opE addD (slE (opE ixD (var 0) (con (.int 2))) noP (smP (var 3))) (tupE (consE (callE (c 24) (consE (opE ixD (opE ixD (var 0) (con (.int 2))) (var 3)) (consE (slE (var 1) (smP (con (.int 1))) noP) (consE (var 2) nilE)))) nilE))) (slE (opE ixD (var 0) (con (.int 2))) (smP (opE addD (var 3) (con (.int 1)))) noP)) nilE)))))
/-- _law_formed: slots 0 deck, 1 deep, 2 smalls, 3 k, 4 parts -/
noncomputable def m25 (fu : Nat) (c : Fn) : Stt := seqS (setS 2 (fnE tupleD (consE (lcE (rng1I (consE (callE (c 17) (consE (var 0) (consE (con (.int 3)) nilE))) nilE)) [3] (.nm 3) tru (callE (c 18) (consE (var 0) (consE (lstE (consE (con (.int 0)) (consE (con (.int 1)) (consE (negE (con (.int 1))) (consE (con (.int 2)) (consE (negE (con (.int 3))) (consE (con (.int 10)) (consE (con (.int 9)) (consE (opE powD (con (.int 10)) (con (.int 39))) (consE (negE (opE powD (con (.int 10)) (con (.int 39)))) nilE)))))))))) nilE)))) nilE))) (seqS (setS 4 (fnE tupleD (consE (lcE (rng1I (consE (ifE (asT (opE gtD (var 1) (con (.int 0)))) (callE (c 17) (consE (var 0) (consE (con (.int 4)) nilE))) (con (.int 0))) nilE)) [3] (.nm 3) tru (callE (c 25) (consE (var 0) (consE (opE subD (var 1) (con (.int 1))) nilE)))) nilE))) (retS (tupE (consE (callE (c 18) (consE (var 0) (consE (lstE (consE (con (.str "a")) (consE (con (.str "b")) (consE (con (.str "aa")) (consE (con (.str "ab")) (consE (con (.str "z9")) (consE (con (.str "z10")) (consE (con (.str "b1")) nilE)))))))) nilE))) (consE (var 2) (consE (var 4) nilE))))))
/-- _law_other: slots 0 deck, 1 line, 2 place, 3 name, 4 smalls, 5 parts, 6 some, 7 it -/
noncomputable def m26 (fu : Nat) (c : Fn) : Stt := seqS (setS 2 (callE (c 18) (consE (var 0) (consE (callE (c 22) (consE (var 1) nilE)) nilE)))) (seqS (asgS (.tp [3, 4, 5]) (callE (c 23) (consE (var 1) (consE (var 2) nilE)))) (seqS (setS 6 (lstE (consE (tupE (consE (callE (c 18) (consE (var 0) (consE (lstE (consE (con (.str "a")) (consE (con (.str "b")) (consE (con (.str "aa")) (consE (con (.str "z9")) nilE))))) nilE))) (consE (var 4) (consE (var 5) nilE)))) (consE (tupE (consE (var 3) (consE (opE addD (var 4) (tupE (consE (con (.int 0)) nilE))) (consE (var 5) nilE)))) (consE (tupE (consE (var 3) (consE (slE (var 4) (smP (con (.int 1))) noP) (consE (var 5) nilE)))) (consE (tupE (consE (var 3) (consE (fnE tupleD (consE (lcE (valI (var 4)) [7] (.nm 7) tru (opE subD (opE addD (var 7) (callE (c 17) (consE (var 0) (consE (con (.int 3)) nilE)))) (con (.int 1)))) nilE)) (consE (var 5) nilE)))) (consE (tupE (consE (var 3) (consE (var 4) (consE (stE (var 5) noP noP (smP (negE (con (.int 1))))) nilE)))) (consE (tupE (consE (var 3) (consE (var 4) (consE (opE addD (var 5) (tupE (consE (tupE (consE (con (.str "a")) (consE (tupE nilE) (consE (tupE nilE) nilE)))) nilE))) nilE)))) (consE (tupE (consE (var 3) (consE (var 4) (consE (slE (var 5) (smP (con (.int 1))) noP) nilE)))) (consE (tupE (consE (var 3) (consE (stE (var 4) noP noP (smP (negE (con (.int 1))))) (consE (var 5) nilE)))) (consE (tupE (consE (con (.str "b")) (consE (tupE nilE) (consE (tupE (consE (tupE (consE (var 3) (consE (var 4) (consE (var 5) nilE)))) nilE)) nilE)))) (consE (callE (c 25) (consE (var 0) (consE (con (.int 1)) nilE))) nilE)))))))))))) (retS (callE (c 24) (consE (var 1) (consE (var 2) (consE (callE (c 18) (consE (var 0) (consE (var 6) nilE))) nilE)))))))
/-- _law_order: slots 0 one, 1 other, 2 sizes -/
noncomputable def m27 (fu : Nat) (c : Fn) : Stt := seqS (setS 2 (tupE (consE (callE (c 21) (consE (var 0) nilE)) (consE (callE (c 21) (consE (var 1) nilE)) nilE)))) (seqS (ifS (asT (opE neD (opE ixD (var 2) (con (.int 0))) (opE ixD (var 2) (con (.int 1))))) (retS (ifE (asT (opE ltD (opE ixD (var 2) (con (.int 0))) (opE ixD (var 2) (con (.int 1))))) (negE (con (.int 1))) (con (.int 1)))) skipS) (retS (callE (c 28) (consE (var 0) (consE (var 1) nilE)))))
/-- _law_tuple_order: slots 0 one, 1 other, 2 a, 3 b, 4 way -/
noncomputable def m28 (fu : Nat) (c : Fn) : Stt := seqS (ifS (notT (asT (fnE isiD (consE (var 0) (consE (con (.ty "tuple")) nilE))))) (retS (ifE (asT (opE ltD (var 0) (var 1))) (negE (con (.int 1))) (fnE intD (consE (opE gtD (var 0) (var 1)) nilE)))) skipS) (seqS (forS (zpI (consE (var 0) (consE (var 1) nilE))) (.tp [2, 3]) (seqS (setS 4 (callE (c 28) (consE (var 2) (consE (var 3) nilE)))) (ifS (asT (opE neD (var 4) (con (.int 0)))) (retS (var 4)) skipS))) (retS (ifE (asT (opE ltD (fnE lenD (consE (var 0) nilE)) (fnE lenD (consE (var 1) nilE)))) (negE (con (.int 1))) (fnE intD (consE (opE gtD (fnE lenD (consE (var 0) nilE)) (fnE lenD (consE (var 1) nilE))) nilE)))))
/-- _law_is_all_right: slots 0 deck, 1 turn, 2 first, 3 lines, 4 go, 5 k, 6 one, 7 other, 8 way, 9 place, 10 near, 11 far, 12 bad, 13 odd, 14 heard -/
noncomputable def m30 (fu : Nat) (c : Fn) : Stt := seqS (forS (rng1I (consE (con (.int 3)) nilE)) (.nm 1) (seqS (setS 2 (callE (c 25) (consE (var 0) (consE (con (.int 3)) nilE)))) (seqS (setS 3 (lstE (consE (var 2) (consE (callE (c 25) (consE (var 0) (consE (con (.int 2)) nilE))) nilE)))) (seqS (exprS (mtE extD (var 3) (consE (lcE (rng1I (consE (con (.int 3)) nilE)) [4] (.nm 4) tru (callE (c 26) (consE (var 0) (consE (var 2) nilE)))) nilE))) (seqS (exprS (mtE appD (var 3) (consE (callE (c 26) (consE (var 0) (consE (opE ixD (var 3) (negE (con (.int 1)))) nilE))) nilE))) (seqS (forS (enI (consE (var 3) nilE)) (.tp [5, 6]) (seqS (ifS (notT (asT (callE (c 20) (consE (lstE (consE (callE (c 10) (consE (var 6) nilE)) (consE (callKE (c 10) 0 1 [0] nilE (consE (var 6) nilE)) nilE))) (consE (opE mulD (lstE (consE (callE (c 21) (consE (var 6) nilE)) nilE)) (con (.int 2))) nilE))))) (retS (con (.bl false))) skipS) (forS (valI (slE (var 3) (smP (var 5)) noP)) (.nm 7) (seqS (setS 8 (callE (c 27) (consE (var 6) (consE (var 7) nilE)))) (ifS (notT (asT (callE (c 20) (consE (lstE (consE (callE (c 11) (consE (var 6) (consE (var 7) nilE))) (consE (callKE (c 11) 0 2 [1, 0] nilE (consE (var 6) (consE (var 7) nilE))) nilE))) (consE (lstE (consE (opE ltD (var 8) (con (.int 0))) (consE (opE gtD (var 8) (con (.int 0))) nilE))) nilE))))) (retS (con (.bl false))) skipS))))) (seqS (asgS (.tp [6, 7]) (slE (callE (c 19) (consE (var 0) (consE (var 3) nilE))) noP (smP (con (.int 2))))) (seqS (asgS (.tp [6, 7]) (ifE (asT (opE ltD (callE (c 27) (consE (var 6) (consE (var 7) nilE))) (con (.int 0)))) (tupE (consE (var 6) (consE (var 7) nilE))) (tupE (consE (var 7) (consE (var 6) nilE))))) (seqS (setS 9 (callE (c 18) (consE (var 0) (consE (callE (c 22) (consE (var 2) nilE)) nilE)))) (seqS (parS 10 11 (consE (callE (c 15) (consE (var 2) (consE (var 9) (consE (var 6) nilE)))) (consE (callKE (c 15) 0 3 [2, 1, 0] nilE (consE (var 7) (consE (var 9) (consE (var 2) nilE)))) nilE))) (seqS (ifS (orT (notT (asT (callE (c 20) (consE (lstE (consE (var 10) (consE (var 11) nilE))) (consE (lstE (consE (callE (c 24) (consE (var 2) (consE (var 9) (consE (var 6) nilE)))) (consE (callE (c 24) (consE (var 2) (consE (var 9) (consE (var 7) nilE)))) nilE))) nilE))))) (notT (asT (callE (c 20) (consE (callE (c 11) (consE (var 10) (consE (var 11) nilE))) (consE (opE neD (var 6) (var 7)) nilE)))))) (retS (con (.bl false))) skipS) (seqS (asgS (.tp [12, 13]) (tupE (consE (callE (c 18) (consE (var 0) (consE (lstE (consE (con .non) (consE (tupE nilE) (consE (slE (var 2) noP (smP (con (.int 2)))) (consE (fnE listD (consE (var 2) nilE)) (consE (opE addD (tupE (consE (con (.str "A")) nilE)) (slE (var 2) (smP (con (.int 1))) noP)) (consE (opE addD (tupE (consE (con (.str "when")) nilE)) (slE (var 2) (smP (con (.int 1))) noP)) (consE (tupE (consE (opE ixD (var 2) (con (.int 0))) (consE (lstE (consE (con (.int 0)) nilE)) (consE (opE ixD (var 2) (con (.int 2))) nilE)))) (consE (tupE (consE (opE ixD (var 2) (con (.int 0))) (consE (tupE (consE (con (.bl true)) nilE)) (consE (opE ixD (var 2) (con (.int 2))) nilE)))) (consE (opE addD (slE (var 2) noP (smP (con (.int 2)))) (tupE (consE (con .non) nilE))) (consE (opE addD (slE (var 2) noP (smP (con (.int 2)))) (tupE (consE (tupE (consE (var 2) (consE (tupE nilE) nilE))) nilE))) (consE (opE addD (var 2) (tupE (consE (tupE nilE) nilE))) (consE (tupE (consE (con (.str "")) (consE (tupE nilE) (consE (tupE nilE) nilE)))) (consE (tupE (consE (con (.int 7)) (consE (tupE nilE) (consE (tupE nilE) nilE)))) nilE)))))))))))))) nilE))) (consE (callE (c 18) (consE (var 0) (consE (lstE (consE (con .non) (consE (con (.str "a()")) (consE (con (.int 0)) (consE (tupE (consE (con (.str "a")) (consE (tupE nilE) (consE (lstE (consE (var 2) nilE)) nilE)))) (consE (tupE (consE (con (.str "a")) (consE (tupE (consE (con (.str "0")) nilE)) (consE (tupE nilE) nilE)))) nilE)))))) nilE))) nilE)))) (seqS (setS 14 (lstE (consE (heardE "BadLine" "told" "line" (callE (c 10) (consE (var 12) nilE))) nilE))) (seqS (exprS (mtE appD (var 14) (consE (heardE "BadLine" "told" "line" (callE (c 11) (consE (var 12) (consE (var 13) nilE)))) nilE))) (seqS (exprS (mtE appD (var 14) (consE (heardE "BadLine" "told" "line" (callKE (c 11) 0 2 [1, 0] nilE (consE (var 13) (consE (var 2) nilE)))) nilE))) (seqS (exprS (mtE appD (var 14) (consE (heardE "BadLine" "told" "line" (callE (c 11) (consE (var 13) (consE (var 2) nilE)))) nilE))) (ifS (notT (asT (callE (c 20) (consE (var 14) (consE (lstE (consE (tupE (consE (con (.str "line")) (consE (var 12) (consE (con (.bl true)) nilE)))) (consE (tupE (consE (con (.str "line")) (consE (var 12) (consE (con (.bl true)) nilE)))) (consE (tupE (consE (con (.str "line")) (consE (var 13) (consE (con (.bl true)) nilE)))) (consE (tupE (consE (con (.str "line")) (consE (var 13) (consE (con (.bl true)) nilE)))) nilE))))) nilE))))) (retS (con (.bl false))) skipS))))))))))))))))) (retS (con (.bl true)))
/-- law: slots 0 script -/
noncomputable def m31 (fu : Nat) (c : Fn) : Stt := thruS (retS (callE (c 30) (consE (callE (c 16) (consE (var 0) (consE (con (.int 2413108)) nilE))) nilE)))
noncomputable def bodyOf (fu : Nat) (c : Fn) : Nat → Stt
  | 0 => m0 fu c
  | 1 => m1 fu c
  | 2 => m2 fu c
  | 3 => m3 fu c
  | 4 => m4 fu c
  | 5 => m5 fu c
  | 6 => m6 fu c
  | 7 => m7 fu c
  | 8 => m8 fu c
  | 9 => m9 fu c
  | 10 => m10 fu c
  | 11 => m11 fu c
  | 12 => m12 fu c
  | 13 => m13 fu c
  | 14 => m14 fu c
  | 15 => m15 fu c
  | 16 => m16 fu c
  | 17 => m17 fu c
  | 18 => m18 fu c
  | 19 => m19 fu c
  | 20 => m20 fu c
  | 21 => m21 fu c
  | 22 => m22 fu c
  | 23 => m23 fu c
  | 24 => m24 fu c
  | 25 => m25 fu c
  | 26 => m26 fu c
  | 27 => m27 fu c
  | 28 => m28 fu c
  | 30 => m30 fu c
  | 31 => m31 fu c
  | _ => fun _ _ => .bad
def arOf : Nat → Nat
  | 0 => 1
  | 1 => 3
  | 2 => 2
  | 3 => 2
  | 4 => 1
  | 5 => 1
  | 6 => 1
  | 7 => 1
  | 8 => 1
  | 9 => 1
  | 10 => 1
  | 11 => 2
  | 12 => 2
  | 13 => 2
  | 14 => 3
  | 15 => 3
  | 16 => 2
  | 17 => 2
  | 18 => 2
  | 19 => 2
  | 20 => 2
  | 21 => 1
  | 22 => 1
  | 23 => 2
  | 24 => 3
  | 25 => 2
  | 26 => 2
  | 27 => 2
  | 28 => 2
  | 29 => 1
  | 30 => 1
  | 31 => 1
  | _ => 0
def slOf : Nat → Nat
  | 0 => 1
  | 1 => 3
  | 2 => 2
  | 3 => 3
  | 4 => 2
  | 5 => 3
  | 6 => 1
  | 7 => 4
  | 8 => 1
  | 9 => 1
  | 10 => 1
  | 11 => 2
  | 12 => 4
  | 13 => 2
  | 14 => 7
  | 15 => 3
  | 16 => 4
  | 17 => 4
  | 18 => 2
  | 19 => 5
  | 20 => 4
  | 21 => 2
  | 22 => 5
  | 23 => 3
  | 24 => 4
  | 25 => 5
  | 26 => 8
  | 27 => 3
  | 28 => 5
  | 29 => 2
  | 30 => 15
  | 31 => 1
  | _ => 0
/-- the defs, called to a depth of L -/
noncomputable def callK (fu : Nat) : Nat → Fn
  | 0 => fun _ _ _ => .bad
  | L + 1 => fun j => runD (arOf j) (slOf j) (bodyOf fu (callK fu L) j)
theorem callK_succ (fu L j : Nat) : callK fu (L + 1) j = runD (arOf j) (slOf j) (bodyOf fu (callK fu L) j) := rfl
theorem callK_0 (fu L : Nat) : callK fu (L + 1) 0 = runD 1 1 (m0 fu (callK fu L)) := callK_succ fu L 0
theorem callK_1 (fu L : Nat) : callK fu (L + 1) 1 = runD 3 3 (m1 fu (callK fu L)) := callK_succ fu L 1
theorem callK_2 (fu L : Nat) : callK fu (L + 1) 2 = runD 2 2 (m2 fu (callK fu L)) := callK_succ fu L 2
theorem callK_3 (fu L : Nat) : callK fu (L + 1) 3 = runD 2 3 (m3 fu (callK fu L)) := callK_succ fu L 3
theorem callK_4 (fu L : Nat) : callK fu (L + 1) 4 = runD 1 2 (m4 fu (callK fu L)) := callK_succ fu L 4
theorem callK_5 (fu L : Nat) : callK fu (L + 1) 5 = runD 1 3 (m5 fu (callK fu L)) := callK_succ fu L 5
theorem callK_6 (fu L : Nat) : callK fu (L + 1) 6 = runD 1 1 (m6 fu (callK fu L)) := callK_succ fu L 6
theorem callK_7 (fu L : Nat) : callK fu (L + 1) 7 = runD 1 4 (m7 fu (callK fu L)) := callK_succ fu L 7
theorem callK_8 (fu L : Nat) : callK fu (L + 1) 8 = runD 1 1 (m8 fu (callK fu L)) := callK_succ fu L 8
theorem callK_9 (fu L : Nat) : callK fu (L + 1) 9 = runD 1 1 (m9 fu (callK fu L)) := callK_succ fu L 9
theorem callK_10 (fu L : Nat) : callK fu (L + 1) 10 = runD 1 1 (m10 fu (callK fu L)) := callK_succ fu L 10
theorem callK_11 (fu L : Nat) : callK fu (L + 1) 11 = runD 2 2 (m11 fu (callK fu L)) := callK_succ fu L 11
theorem callK_12 (fu L : Nat) : callK fu (L + 1) 12 = runD 2 4 (m12 fu (callK fu L)) := callK_succ fu L 12
theorem callK_13 (fu L : Nat) : callK fu (L + 1) 13 = runD 2 2 (m13 fu (callK fu L)) := callK_succ fu L 13
theorem callK_14 (fu L : Nat) : callK fu (L + 1) 14 = runD 3 7 (m14 fu (callK fu L)) := callK_succ fu L 14
theorem callK_15 (fu L : Nat) : callK fu (L + 1) 15 = runD 3 3 (m15 fu (callK fu L)) := callK_succ fu L 15
theorem callK_16 (fu L : Nat) : callK fu (L + 1) 16 = runD 2 4 (m16 fu (callK fu L)) := callK_succ fu L 16
theorem callK_17 (fu L : Nat) : callK fu (L + 1) 17 = runD 2 4 (m17 fu (callK fu L)) := callK_succ fu L 17
theorem callK_18 (fu L : Nat) : callK fu (L + 1) 18 = runD 2 2 (m18 fu (callK fu L)) := callK_succ fu L 18
theorem callK_19 (fu L : Nat) : callK fu (L + 1) 19 = runD 2 5 (m19 fu (callK fu L)) := callK_succ fu L 19
theorem callK_20 (fu L : Nat) : callK fu (L + 1) 20 = runD 2 4 (m20 fu (callK fu L)) := callK_succ fu L 20
theorem callK_21 (fu L : Nat) : callK fu (L + 1) 21 = runD 1 2 (m21 fu (callK fu L)) := callK_succ fu L 21
theorem callK_22 (fu L : Nat) : callK fu (L + 1) 22 = runD 1 5 (m22 fu (callK fu L)) := callK_succ fu L 22
theorem callK_23 (fu L : Nat) : callK fu (L + 1) 23 = runD 2 3 (m23 fu (callK fu L)) := callK_succ fu L 23
theorem callK_24 (fu L : Nat) : callK fu (L + 1) 24 = runD 3 4 (m24 fu (callK fu L)) := callK_succ fu L 24
theorem callK_25 (fu L : Nat) : callK fu (L + 1) 25 = runD 2 5 (m25 fu (callK fu L)) := callK_succ fu L 25
theorem callK_26 (fu L : Nat) : callK fu (L + 1) 26 = runD 2 8 (m26 fu (callK fu L)) := callK_succ fu L 26
theorem callK_27 (fu L : Nat) : callK fu (L + 1) 27 = runD 2 3 (m27 fu (callK fu L)) := callK_succ fu L 27
theorem callK_28 (fu L : Nat) : callK fu (L + 1) 28 = runD 2 5 (m28 fu (callK fu L)) := callK_succ fu L 28
theorem callK_30 (fu L : Nat) : callK fu (L + 1) 30 = runD 1 15 (m30 fu (callK fu L)) := callK_succ fu L 30
theorem callK_31 (fu L : Nat) : callK fu (L + 1) 31 = runD 1 1 (m31 fu (callK fu L)) := callK_succ fu L 31
theorem bt_all : bootBuiltins "all" = some (.builtin "all") := by decide +kernel
theorem bt_bool : bootBuiltins "bool" = some (.type "bool") := by decide +kernel
theorem bt_dict : bootBuiltins "dict" = some (.type "dict") := by decide +kernel
theorem bt_enumerate : bootBuiltins "enumerate" = some (.type "enumerate") := by decide +kernel
theorem bt_int : bootBuiltins "int" = some (.type "int") := by decide +kernel
theorem bt_isinstance : bootBuiltins "isinstance" = some (.builtin "isinstance") := by decide +kernel
theorem bt_len : bootBuiltins "len" = some (.builtin "len") := by decide +kernel
theorem bt_list : bootBuiltins "list" = some (.type "list") := by decide +kernel
theorem bt_max : bootBuiltins "max" = some (.builtin "max") := by decide +kernel
theorem bt_range : bootBuiltins "range" = some (.type "range") := by decide +kernel
theorem bt_reversed : bootBuiltins "reversed" = some (.type "reversed") := by decide +kernel
theorem bt_str : bootBuiltins "str" = some (.type "str") := by decide +kernel
theorem bt_sum : bootBuiltins "sum" = some (.builtin "sum") := by decide +kernel
theorem bt_tuple : bootBuiltins "tuple" = some (.type "tuple") := by decide +kernel
theorem bt_zip : bootBuiltins "zip" = some (.type "zip") := by decide +kernel
theorem sc0 : FnScope ["thing"] ["thing"] (defScope s0) := ⟨rfl, rfl, rfl, by decide +kernel, rfl, by decide +kernel, by decide +kernel⟩
theorem sc1 : FnScope ["thing", "least", "most"] ["thing", "least", "most"] (defScope s1) := ⟨rfl, rfl, rfl, by decide +kernel, rfl, by decide +kernel, by decide +kernel⟩
theorem sc2 : FnScope ["thing", "many"] ["thing", "many"] (defScope s2) := ⟨rfl, rfl, rfl, by decide +kernel, rfl, by decide +kernel, by decide +kernel⟩
theorem sc3 : FnScope ["thing", "look", "part"] ["thing", "look"] (defScope s3) := ⟨rfl, rfl, rfl, by decide +kernel, rfl, by decide +kernel, by decide +kernel⟩
theorem sc4 : FnScope ["thing", "sign"] ["thing"] (defScope s4) := ⟨rfl, rfl, rfl, by decide +kernel, rfl, by decide +kernel, by decide +kernel⟩
theorem sc5 : FnScope ["thing", "waiting", "here"] ["thing"] (defScope s5) := ⟨rfl, rfl, rfl, by decide +kernel, rfl, by decide +kernel, by decide +kernel⟩
theorem sc6 : FnScope ["line"] ["line"] (defScope s6) := ⟨rfl, rfl, rfl, by decide +kernel, rfl, by decide +kernel, by decide +kernel⟩
theorem sc7 : FnScope ["line", "found", "waiting", "here"] ["line"] (defScope s7) := ⟨rfl, rfl, rfl, by decide +kernel, rfl, by decide +kernel, by decide +kernel⟩
theorem sc8 : FnScope ["line"] ["line"] (defScope s8) := ⟨rfl, rfl, rfl, by decide +kernel, rfl, by decide +kernel, by decide +kernel⟩
theorem sc9 : FnScope ["line"] ["line"] (defScope s9) := ⟨rfl, rfl, rfl, by decide +kernel, rfl, by decide +kernel, by decide +kernel⟩
theorem sc10 : FnScope ["line"] ["line"] (defScope s10) := ⟨rfl, rfl, rfl, by decide +kernel, rfl, by decide +kernel, by decide +kernel⟩
theorem sc11 : FnScope ["one", "other"] ["one", "other"] (defScope s11) := ⟨rfl, rfl, rfl, by decide +kernel, rfl, by decide +kernel, by decide +kernel⟩
theorem sc12 : FnScope ["line", "thing", "here", "number"] ["line", "thing"] (defScope s12) := ⟨rfl, rfl, rfl, by decide +kernel, rfl, by decide +kernel, by decide +kernel⟩
theorem sc13 : FnScope ["line", "place"] ["line", "place"] (defScope s13) := ⟨rfl, rfl, rfl, by decide +kernel, rfl, by decide +kernel, by decide +kernel⟩
theorem sc14 : FnScope ["line", "place", "part", "around", "number", "found", "here"] ["line", "place", "part"] (defScope s14) := ⟨rfl, rfl, rfl, by decide +kernel, rfl, by decide +kernel, by decide +kernel⟩
theorem sc15 : FnScope ["line", "place", "part"] ["line", "place", "part"] (defScope s15) := ⟨rfl, rfl, rfl, by decide +kernel, rfl, by decide +kernel, by decide +kernel⟩
theorem sc16 : FnScope ["script", "mark", "mixed", "cell"] ["script", "mark"] (defScope s16) := ⟨rfl, rfl, rfl, by decide +kernel, rfl, by decide +kernel, by decide +kernel⟩
theorem sc17 : FnScope ["deck", "many", "number", "cell"] ["deck", "many"] (defScope s17) := ⟨rfl, rfl, rfl, by decide +kernel, rfl, by decide +kernel, by decide +kernel⟩
theorem sc18 : FnScope ["deck", "some"] ["deck", "some"] (defScope s18) := ⟨rfl, rfl, rfl, by decide +kernel, rfl, by decide +kernel, by decide +kernel⟩
theorem sc19 : FnScope ["deck", "some", "left", "found", "go"] ["deck", "some"] (defScope s19) := ⟨rfl, rfl, rfl, by decide +kernel, rfl, by decide +kernel, by decide +kernel⟩
theorem sc20 : FnScope ["told", "due", "one", "other"] ["told", "due"] (defScope s20) := ⟨rfl, rfl, rfl, by decide +kernel, rfl, by decide +kernel, by decide +kernel⟩
theorem sc21 : FnScope ["line", "part"] ["line"] (defScope s21) := ⟨rfl, rfl, rfl, by decide +kernel, rfl, by decide +kernel, by decide +kernel⟩
theorem sc22 : FnScope ["line", "found", "k", "part", "place"] ["line"] (defScope s22) := ⟨rfl, rfl, rfl, by decide +kernel, rfl, by decide +kernel, by decide +kernel⟩
theorem sc23 : FnScope ["line", "place", "k"] ["line", "place"] (defScope s23) := ⟨rfl, rfl, rfl, by decide +kernel, rfl, by decide +kernel, by decide +kernel⟩
theorem sc24 : FnScope ["line", "place", "part", "k"] ["line", "place", "part"] (defScope s24) := ⟨rfl, rfl, rfl, by decide +kernel, rfl, by decide +kernel, by decide +kernel⟩
theorem sc25 : FnScope ["deck", "deep", "smalls", "k", "parts"] ["deck", "deep"] (defScope s25) := ⟨rfl, rfl, rfl, by decide +kernel, rfl, by decide +kernel, by decide +kernel⟩
theorem sc26 : FnScope ["deck", "line", "place", "name", "smalls", "parts", "some", "it"] ["deck", "line"] (defScope s26) := ⟨rfl, rfl, rfl, by decide +kernel, rfl, by decide +kernel, by decide +kernel⟩
theorem sc27 : FnScope ["one", "other", "sizes"] ["one", "other"] (defScope s27) := ⟨rfl, rfl, rfl, by decide +kernel, rfl, by decide +kernel, by decide +kernel⟩
theorem sc28 : FnScope ["one", "other", "a", "b", "way"] ["one", "other"] (defScope s28) := ⟨rfl, rfl, rfl, by decide +kernel, rfl, by decide +kernel, by decide +kernel⟩
theorem sc29 : FnScope ["call", "e"] ["call"] (defScope s29) := ⟨rfl, rfl, rfl, by decide +kernel, rfl, by decide +kernel, by decide +kernel⟩
theorem sc30 : FnScope ["deck", "turn", "first", "lines", "go", "k", "one", "other", "way", "place", "near", "far", "bad", "odd", "heard"] ["deck"] (defScope s30) := ⟨rfl, rfl, rfl, by decide +kernel, rfl, by decide +kernel, by decide +kernel⟩
theorem sc31 : FnScope ["script"] ["script"] (defScope s31) := ⟨rfl, rfl, rfl, by decide +kernel, rfl, by decide +kernel, by decide +kernel⟩
theorem hd_scope : HeardS (defScope s29) ["call", "e"] "call" "e" "BadLine" "WorkingError" := ⟨by decide +kernel, rfl, rfl, rfl, rfl, rfl⟩
/-- the facts of one def -/
structure Fs (K : PySem.W.Frag) (mg : Str → Option Value) (x : Str) (st : Stmt) (ps : List Str) (f : Addr) (fd : FuncData) : Prop where
  fu : Fun K x x st f fd
  mgf : mg x = some (.ref f)
  bd : Binds K fd ps []
theorem held_one {X : Cx} {k : Nat} {x0 : Str} {st : Stmt} {ps : List Str} {f : Addr} {fd : FuncData} {c0 : List D → Mem → R D} (F : FnD X.prog X.w X.K X.mg X.base k x0 st ps f fd c0) : ∀ x c, [(x0, c0)].lookup x = some c → Held1 X k x c := by
  intro x c h
  rw [List.lookup_cons] at h
  split at h
  · rename_i e
    have e := eq_of_beq e
    subst e
    cases h
    exact ⟨⟨_, _, _, _, F⟩⟩
  · cases h
theorem hu_of {k : Nat} {A : Around} (hr : Room k A) : A.units + 64 < cLine := by
  have := hr.un
  omega
/-- what the head has written -/
structure Facts (K : PySem.W.Frag) (mg : Str → Option Value) (fa : Nat → Addr) (fd : Nat → FuncData) (eC eI : Str → Addr) where
  f0 : Fs K mg "is_whole" s0 ["thing"] (fa 0) (fd 0)
  f1 : Fs K mg "is_whole_between" s1 ["thing", "least", "most"] (fa 1) (fd 1)
  f2 : Fs K mg "is_tuple_of" s2 ["thing", "many"] (fa 2) (fd 2)
  f3 : Fs K mg "is_tuple_by" s3 ["thing", "look"] (fa 3) (fd 3)
  f4 : Fs K mg "is_name" s4 ["thing"] (fa 4) (fd 4)
  f5 : Fs K mg "is_line_form" s5 ["thing"] (fa 5) (fd 5)
  f6 : Fs K mg "need_form" s6 ["line"] (fa 6) (fd 6)
  f7 : Fs K mg "parts_of_line" s7 ["line"] (fa 7) (fd 7)
  f8 : Fs K mg "size_of" s8 ["line"] (fa 8) (fd 8)
  f9 : Fs K mg "key_of" s9 ["line"] (fa 9) (fd 9)
  f10 : Fs K mg "line_size" s10 ["line"] (fa 10) (fd 10)
  f11 : Fs K mg "is_before" s11 ["one", "other"] (fa 11) (fd 11)
  f12 : Fs K mg "is_place_in" s12 ["line", "thing"] (fa 12) (fd 12)
  f13 : Fs K mg "need_place" s13 ["line", "place"] (fa 13) (fd 13)
  f14 : Fs K mg "put_in_line" s14 ["line", "place", "part"] (fa 14) (fd 14)
  f15 : Fs K mg "put_at" s15 ["line", "place", "part"] (fa 15) (fd 15)
  f16 : Fs K mg "_law_deck" s16 ["script", "mark"] (fa 16) (fd 16)
  f17 : Fs K mg "_law_draw" s17 ["deck", "many"] (fa 17) (fd 17)
  f18 : Fs K mg "_law_pick" s18 ["deck", "some"] (fa 18) (fd 18)
  f19 : Fs K mg "_law_mixed" s19 ["deck", "some"] (fa 19) (fd 19)
  f20 : Fs K mg "_law_same" s20 ["told", "due"] (fa 20) (fd 20)
  f21 : Fs K mg "_law_size" s21 ["line"] (fa 21) (fd 21)
  f22 : Fs K mg "_law_places" s22 ["line"] (fa 22) (fd 22)
  f23 : Fs K mg "_law_part" s23 ["line", "place"] (fa 23) (fd 23)
  f24 : Fs K mg "_law_put_part" s24 ["line", "place", "part"] (fa 24) (fd 24)
  f25 : Fs K mg "_law_formed" s25 ["deck", "deep"] (fa 25) (fd 25)
  f26 : Fs K mg "_law_other" s26 ["deck", "line"] (fa 26) (fd 26)
  f27 : Fs K mg "_law_order" s27 ["one", "other"] (fa 27) (fd 27)
  f28 : Fs K mg "_law_tuple_order" s28 ["one", "other"] (fa 28) (fd 28)
  f29 : Fs K mg "_law_heard" s29 ["call"] (fa 29) (fd 29)
  f30 : Fs K mg "_law_is_all_right" s30 ["deck"] (fa 30) (fd 30)
  f31 : Fs K mg "law" s31 ["script"] (fa 31) (fd 31)
  b_all : mg "all" = none
  b_bool : mg "bool" = none
  b_dict : mg "dict" = none
  b_enumerate : mg "enumerate" = none
  b_int : mg "int" = none
  b_isinstance : mg "isinstance" = none
  b_len : mg "len" = none
  b_list : mg "list" = none
  b_max : mg "max" = none
  b_range : mg "range" = none
  b_reversed : mg "reversed" = none
  b_str : mg "str" = none
  b_sum : mg "sum" = none
  b_tuple : mg "tuple" = none
  b_zip : mg "zip" = none
  v_FIGURES : V
  u_FIGURES : Value
  c_FIGURES : mg "FIGURES" = some u_FIGURES
  r_FIGURES : RelV v_FIGURES u_FIGURES
  q_FIGURES : ∀ base φ H, DV ⟨K, mg, base⟩ φ H k_FIGURES v_FIGURES
  v_MOST_NAME : V
  u_MOST_NAME : Value
  c_MOST_NAME : mg "MOST_NAME" = some u_MOST_NAME
  r_MOST_NAME : RelV v_MOST_NAME u_MOST_NAME
  q_MOST_NAME : ∀ base φ H, DV ⟨K, mg, base⟩ φ H k_MOST_NAME v_MOST_NAME
  v_MOST_WHOLE : V
  u_MOST_WHOLE : Value
  c_MOST_WHOLE : mg "MOST_WHOLE" = some u_MOST_WHOLE
  r_MOST_WHOLE : RelV v_MOST_WHOLE u_MOST_WHOLE
  q_MOST_WHOLE : ∀ base φ H, DV ⟨K, mg, base⟩ φ H k_MOST_WHOLE v_MOST_WHOLE
  v_SMALL : V
  u_SMALL : Value
  c_SMALL : mg "SMALL" = some u_SMALL
  r_SMALL : RelV v_SMALL u_SMALL
  q_SMALL : ∀ base φ H, DV ⟨K, mg, base⟩ φ H k_SMALL v_SMALL
  v_TRIPLE : V
  u_TRIPLE : Value
  c_TRIPLE : mg "TRIPLE" = some u_TRIPLE
  r_TRIPLE : RelV v_TRIPLE u_TRIPLE
  q_TRIPLE : ∀ base φ H, DV ⟨K, mg, base⟩ φ H k_TRIPLE v_TRIPLE
  v_WORDS : V
  u_WORDS : Value
  c_WORDS : mg "WORDS" = some u_WORDS
  r_WORDS : RelV v_WORDS u_WORDS
  q_WORDS : ∀ base φ H, DV ⟨K, mg, base⟩ φ H k_WORDS v_WORDS
  x_BadLine : BadT K mg "BadLine" (eC "BadLine") (eI "BadLine")
  x_BadPlace : BadT K mg "BadPlace" (eC "BadPlace") (eI "BadPlace")
  self : PySem.W.exmOne K (.ref (eC "BadLine")) (.ref (eC "BadLine")) = some true
  work : mg "WorkingError" = some (.ref (eC "WorkingError"))
  kit : PySem.W.kitOne K (.ref (eC "BadLine")) (.ref (eC "WorkingError")) = some true
theorem Facts.bad {K : PySem.W.Frag} {mg : Str → Option Value} {fa : Nat → Addr} {fd : Nat → FuncData} {eC eI : Str → Addr} (S : Facts K mg fa fd eC eI) : BadT K mg "BadLine" (eC "BadLine") (eI "BadLine") := S.x_BadLine
structure All (P : Program) (w : World) (K : PySem.W.Frag) (mg : Str → Option Value) (base : Heap) (fa : Nat → Addr) (fd : Nat → FuncData) (fu L : Nat) : Prop where
  d0 : FnD P w K mg base (3 * L) "is_whole" s0 ["thing"] (fa 0) (fd 0) (callK fu L 0)
  d1 : FnD P w K mg base (3 * L) "is_whole_between" s1 ["thing", "least", "most"] (fa 1) (fd 1) (callK fu L 1)
  d2 : FnD P w K mg base (3 * L) "is_tuple_of" s2 ["thing", "many"] (fa 2) (fd 2) (callK fu L 2)
  d3 : FnD P w K mg base (3 * L) "is_tuple_by" s3 ["thing", "look"] (fa 3) (fd 3) (callK fu L 3)
  d4 : FnD P w K mg base (3 * L) "is_name" s4 ["thing"] (fa 4) (fd 4) (callK fu L 4)
  d5 : FnD P w K mg base (3 * L) "is_line_form" s5 ["thing"] (fa 5) (fd 5) (callK fu L 5)
  d6 : FnD P w K mg base (3 * L) "need_form" s6 ["line"] (fa 6) (fd 6) (callK fu L 6)
  d7 : FnD P w K mg base (3 * L) "parts_of_line" s7 ["line"] (fa 7) (fd 7) (callK fu L 7)
  d8 : FnD P w K mg base (3 * L) "size_of" s8 ["line"] (fa 8) (fd 8) (callK fu L 8)
  d9 : FnD P w K mg base (3 * L) "key_of" s9 ["line"] (fa 9) (fd 9) (callK fu L 9)
  d10 : FnD P w K mg base (3 * L) "line_size" s10 ["line"] (fa 10) (fd 10) (callK fu L 10)
  d11 : FnD P w K mg base (3 * L) "is_before" s11 ["one", "other"] (fa 11) (fd 11) (callK fu L 11)
  d12 : FnD P w K mg base (3 * L) "is_place_in" s12 ["line", "thing"] (fa 12) (fd 12) (callK fu L 12)
  d13 : FnD P w K mg base (3 * L) "need_place" s13 ["line", "place"] (fa 13) (fd 13) (callK fu L 13)
  d14 : FnD P w K mg base (3 * L) "put_in_line" s14 ["line", "place", "part"] (fa 14) (fd 14) (callK fu L 14)
  d15 : FnD P w K mg base (3 * L) "put_at" s15 ["line", "place", "part"] (fa 15) (fd 15) (callK fu L 15)
  d16 : FnD P w K mg base (3 * L) "_law_deck" s16 ["script", "mark"] (fa 16) (fd 16) (callK fu L 16)
  d17 : FnD P w K mg base (3 * L) "_law_draw" s17 ["deck", "many"] (fa 17) (fd 17) (callK fu L 17)
  d18 : FnD P w K mg base (3 * L) "_law_pick" s18 ["deck", "some"] (fa 18) (fd 18) (callK fu L 18)
  d19 : FnD P w K mg base (3 * L) "_law_mixed" s19 ["deck", "some"] (fa 19) (fd 19) (callK fu L 19)
  d20 : FnD P w K mg base (3 * L) "_law_same" s20 ["told", "due"] (fa 20) (fd 20) (callK fu L 20)
  d21 : FnD P w K mg base (3 * L) "_law_size" s21 ["line"] (fa 21) (fd 21) (callK fu L 21)
  d22 : FnD P w K mg base (3 * L) "_law_places" s22 ["line"] (fa 22) (fd 22) (callK fu L 22)
  d23 : FnD P w K mg base (3 * L) "_law_part" s23 ["line", "place"] (fa 23) (fd 23) (callK fu L 23)
  d24 : FnD P w K mg base (3 * L) "_law_put_part" s24 ["line", "place", "part"] (fa 24) (fd 24) (callK fu L 24)
  d25 : FnD P w K mg base (3 * L) "_law_formed" s25 ["deck", "deep"] (fa 25) (fd 25) (callK fu L 25)
  d26 : FnD P w K mg base (3 * L) "_law_other" s26 ["deck", "line"] (fa 26) (fd 26) (callK fu L 26)
  d27 : FnD P w K mg base (3 * L) "_law_order" s27 ["one", "other"] (fa 27) (fd 27) (callK fu L 27)
  d28 : FnD P w K mg base (3 * L) "_law_tuple_order" s28 ["one", "other"] (fa 28) (fd 28) (callK fu L 28)
  d30 : FnD P w K mg base (3 * L) "_law_is_all_right" s30 ["deck"] (fa 30) (fd 30) (callK fu L 30)
  d31 : FnD P w K mg base (3 * L) "law" s31 ["script"] (fa 31) (fd 31) (callK fu L 31)
section
variable {P : Program} {w : World} {K : PySem.W.Frag} {mg : Str → Option Value} {base : Heap} {fa : Nat → Addr} {fd : Nat → FuncData} {eC eI : Str → Addr} {fu L : Nat}
theorem ok0 (S : Facts K mg fa fd eC eI) (h : All P w K mg base fa fd fu L) : FnOk P w K mg base (L2.CX P w) (3 * L + 2 + 1) (fa 0) (fd 0) ["thing"] (spD ⟨K, mg, base⟩ (callK fu (L + 1) 0)) := by
  rw [callK_0]
  exact
  fn_ok (N := ["thing"]) (k := 3 * L + 2) (m := m0 fu (callK fu L)) S.f0.fu sc0 fun cdv A outer s H E hr Ck => by
    have hu := hu_of hr
    exact ss_one (ss_ret (se_and (se_bi cs_isi rfl S.b_isinstance bt_isinstance (sa_cons (se_var (i := 0) rfl (by first | exact .inl rfl | exact .inr (.inl rfl) | exact .inr (.inr rfl))) (sa_cons (se_ty (n := "int") rfl S.b_int bt_int) sa_nil))) (se_and (se_not (se_bi cs_isi rfl S.b_isinstance bt_isinstance (sa_cons (se_var (i := 0) rfl (by first | exact .inl rfl | exact .inr (.inl rfl) | exact .inr (.inr rfl))) (sa_cons (se_ty (n := "bool") rfl S.b_bool bt_bool) sa_nil)))) (se_one (se_chain (os_lt hu) (os_lt hu) (se_neg (se_glob (v := S.v_MOST_WHOLE) rfl S.c_MOST_WHOLE S.r_MOST_WHOLE (S.q_MOST_WHOLE _))) (se_var (i := 0) rfl (by first | exact .inl rfl | exact .inr (.inl rfl) | exact .inr (.inr rfl))) (se_glob (v := S.v_MOST_WHOLE) rfl S.c_MOST_WHOLE S.r_MOST_WHOLE (S.q_MOST_WHOLE _)))))))
theorem ok1 (S : Facts K mg fa fd eC eI) (h : All P w K mg base fa fd fu L) : FnOk P w K mg base (L2.CX P w) (3 * L + 2 + 1) (fa 1) (fd 1) ["thing", "least", "most"] (spD ⟨K, mg, base⟩ (callK fu (L + 1) 1)) := by
  rw [callK_1]
  exact
  fn_ok (N := ["thing", "least", "most"]) (k := 3 * L + 2) (m := m1 fu (callK fu L)) S.f1.fu sc1 fun cdv A outer s H E hr Ck => by
    have hu := hu_of hr
    exact ss_one (ss_ret (se_and (se_call h.d0 Ck (hr.mono (by omega)) rfl (sa_cons (se_var (i := 0) rfl (by first | exact .inl rfl | exact .inr (.inl rfl) | exact .inr (.inr rfl))) sa_nil)) (se_one (se_chain os_le os_le (se_var (i := 1) rfl (by first | exact .inl rfl | exact .inr (.inl rfl) | exact .inr (.inr rfl))) (se_var (i := 0) rfl (by first | exact .inl rfl | exact .inr (.inl rfl) | exact .inr (.inr rfl))) (se_var (i := 2) rfl (by first | exact .inl rfl | exact .inr (.inl rfl) | exact .inr (.inr rfl)))))))
theorem ok2 (S : Facts K mg fa fd eC eI) (h : All P w K mg base fa fd fu L) : FnOk P w K mg base (L2.CX P w) (3 * L + 2 + 1) (fa 2) (fd 2) ["thing", "many"] (spD ⟨K, mg, base⟩ (callK fu (L + 1) 2)) := by
  rw [callK_2]
  exact
  fn_ok (N := ["thing", "many"]) (k := 3 * L + 2) (m := m2 fu (callK fu L)) S.f2.fu sc2 fun cdv A outer s H E hr Ck => by
    have hu := hu_of hr
    exact ss_one (ss_ret (se_and (se_bi cs_isi rfl S.b_isinstance bt_isinstance (sa_cons (se_var (i := 0) rfl (by first | exact .inl rfl | exact .inr (.inl rfl) | exact .inr (.inr rfl))) (sa_cons (se_ty (n := "tuple") rfl S.b_tuple bt_tuple) sa_nil))) (se_one (se_cmp (os_eq hu) (se_bi cs_len rfl S.b_len bt_len (sa_cons (se_var (i := 0) rfl (by first | exact .inl rfl | exact .inr (.inl rfl) | exact .inr (.inr rfl))) sa_nil)) (se_var (i := 1) rfl (by first | exact .inl rfl | exact .inr (.inl rfl) | exact .inr (.inr rfl)))))))
theorem ok3 (S : Facts K mg fa fd eC eI) (h : All P w K mg base fa fd fu L) : FnOk P w K mg base (L2.CX P w) (3 * L + 2 + 1) (fa 3) (fd 3) ["thing", "look"] (spD ⟨K, mg, base⟩ (callK fu (L + 1) 3)) := by
  rw [callK_3]
  exact
  fn_ok (N := ["thing", "look", "part"]) (k := 3 * L + 2) (m := m3 fu (callK fu L)) S.f3.fu sc3 fun cdv A outer s H E hr Ck => by
    have hu := hu_of hr
    exact ss_one (ss_ret (se_and (se_bi cs_isi rfl S.b_isinstance bt_isinstance (sa_cons (se_var (i := 0) rfl (by first | exact .inl rfl | exact .inr (.inl rfl) | exact .inr (.inr rfl))) (sa_cons (se_ty (n := "tuple") rfl S.b_tuple bt_tuple) sa_nil))) (se_one (se_bi (cs_all Ck.calm) rfl S.b_all bt_all (sa_cons (se_lc (own := [("part", 2)]) Ck (si_val (se_var (i := 0) rfl (by first | exact .inl rfl | exact .inr (.inl rfl) | exact .inr (.inr rfl)))) (blkOk_by (N := ["thing", "look", "part"]) (sc := defScope s3) (by decide +kernel)) (fun _ _ _ _ _ => (sg_nm (i := 2) (Ck.blk _ _ _ _ _) rfl (by first | exact .inl rfl | exact .inr rfl))) (fun _ _ _ _ _ => sts_nil) (fun _ _ _ _ _ => se_callV (i := 1) (held_one h.d0) (Ck.blk _ _ _ _ _) (hr.mono (by omega)) rfl (by first | exact .inl rfl | exact .inr (.inl rfl) | exact .inr (.inr rfl)) (sa_cons (se_var (i := 2) rfl (by first | exact .inl rfl | exact .inr (.inl rfl) | exact .inr (.inr rfl))) sa_nil)) (by decide)) sa_nil)))))
theorem ok4 (S : Facts K mg fa fd eC eI) (h : All P w K mg base fa fd fu L) : FnOk P w K mg base (L2.CX P w) (3 * L + 2 + 1) (fa 4) (fd 4) ["thing"] (spD ⟨K, mg, base⟩ (callK fu (L + 1) 4)) := by
  rw [callK_4]
  exact
  fn_ok (N := ["thing", "sign"]) (k := 3 * L + 2) (m := m4 fu (callK fu L)) S.f4.fu sc4 fun cdv A outer s H E hr Ck => by
    have hu := hu_of hr
    exact ss_cons (ss_if (st_w (sw_or (st_not (st_val (se_bi cs_isi rfl S.b_isinstance bt_isinstance (sa_cons (se_var (i := 0) rfl (by first | exact .inl rfl | exact .inr (.inl rfl) | exact .inr (.inr rfl))) (sa_cons (se_ty (n := "str") rfl S.b_str bt_str) sa_nil))))) (sw_or (st_not (st_chain os_le os_le se_int (se_bi cs_len rfl S.b_len bt_len (sa_cons (se_var (i := 0) rfl (by first | exact .inl rfl | exact .inr (.inl rfl) | exact .inr (.inr rfl))) sa_nil)) (se_glob (v := S.v_MOST_NAME) rfl S.c_MOST_NAME S.r_MOST_NAME (S.q_MOST_NAME _)))) (sw_or1 (st_cmp os_in (se_var (i := 0) rfl (by first | exact .inl rfl | exact .inr (.inl rfl) | exact .inr (.inr rfl))) (se_glob (v := S.v_WORDS) rfl S.c_WORDS S.r_WORDS (S.q_WORDS _))))))) (ss_one (ss_ret se_bl)) ss_nil)
      (ss_one (ss_ret (se_and (se_cmp os_in (se_ix (se_var (i := 0) rfl (by first | exact .inl rfl | exact .inr (.inl rfl) | exact .inr (.inr rfl))) se_int) (se_glob (v := S.v_SMALL) rfl S.c_SMALL S.r_SMALL (S.q_SMALL _))) (se_one (se_bi (cs_all Ck.calm) rfl S.b_all bt_all (sa_cons (se_lc (own := [("sign", 1)]) Ck (si_val (se_var (i := 0) rfl (by first | exact .inl rfl | exact .inr (.inl rfl) | exact .inr (.inr rfl)))) (blkOk_by (N := ["thing", "sign"]) (sc := defScope s4) (by decide +kernel)) (fun _ _ _ _ _ => (sg_nm (i := 1) (Ck.blk _ _ _ _ _) rfl (by first | exact .inl rfl | exact .inr rfl))) (fun _ _ _ _ _ => sts_nil) (fun _ _ _ _ _ => se_cmp os_in (se_var (i := 1) rfl (by first | exact .inl rfl | exact .inr (.inl rfl) | exact .inr (.inr rfl))) (se_op os_add (se_glob (v := S.v_SMALL) rfl S.c_SMALL S.r_SMALL (S.q_SMALL _)) (se_glob (v := S.v_FIGURES) rfl S.c_FIGURES S.r_FIGURES (S.q_FIGURES _)))) (by decide)) sa_nil))))))
theorem ok5 (S : Facts K mg fa fd eC eI) (h : All P w K mg base fa fd fu L) : FnOk P w K mg base (L2.CX P w) (3 * L + 2 + 1) (fa 5) (fd 5) ["thing"] (spD ⟨K, mg, base⟩ (callK fu (L + 1) 5)) := by
  rw [callK_5]
  exact
  fn_ok (N := ["thing", "waiting", "here"]) (k := 3 * L + 2) (m := m5 fu (callK fu L)) S.f5.fu sc5 fun cdv A outer s H E hr Ck => by
    have hu := hu_of hr
    exact ss_cons (ss_set (i := 1) Ck rfl (by first | exact .inl rfl | exact .inr rfl) (se_lst (sa_cons (se_var (i := 0) rfl (by first | exact .inl rfl | exact .inr (.inl rfl) | exact .inr (.inr rfl))) sa_nil)))
      (ss_cons (ss_while (n := fu) Ck (st_cmp (os_ne hu) (se_var (i := 1) rfl (by first | exact .inl rfl | exact .inr (.inl rfl) | exact .inr (.inr rfl))) (se_lst sa_nil)) (ss_cons (ss_set (i := 2) Ck rfl (by first | exact .inl rfl | exact .inr rfl) (se_mt0 PySem.F.slot_list_pop PySem.F.type_list_pop ms_pop (se_var (i := 1) rfl (by first | exact .inl rfl | exact .inr (.inl rfl) | exact .inr (.inr rfl)))))
      (ss_cons (ss_if (st_w (sw_or (st_not (st_val (se_call h.d2 Ck (hr.mono (by omega)) rfl (sa_cons (se_var (i := 2) rfl (by first | exact .inl rfl | exact .inr (.inl rfl) | exact .inr (.inr rfl))) (sa_cons (se_glob (v := S.v_TRIPLE) rfl S.c_TRIPLE S.r_TRIPLE (S.q_TRIPLE _)) sa_nil))))) (sw_or1 (st_not (st_val (se_call h.d4 Ck (hr.mono (by omega)) rfl (sa_cons (se_ix (se_var (i := 2) rfl (by first | exact .inl rfl | exact .inr (.inl rfl) | exact .inr (.inr rfl))) se_int) sa_nil))))))) (ss_one (ss_ret se_bl)) ss_nil)
      (ss_cons (ss_if (st_w (sw_or (st_not (st_val (se_call h.d3 Ck (hr.mono (by omega)) rfl (sa_cons (se_ix (se_var (i := 2) rfl (by first | exact .inl rfl | exact .inr (.inl rfl) | exact .inr (.inr rfl))) se_int) (sa_cons (se_fn rfl S.f0.mgf) sa_nil))))) (sw_or1 (st_not (st_val (se_bi cs_isi rfl S.b_isinstance bt_isinstance (sa_cons (se_ix (se_var (i := 2) rfl (by first | exact .inl rfl | exact .inr (.inl rfl) | exact .inr (.inr rfl))) se_int) (sa_cons (se_ty (n := "tuple") rfl S.b_tuple bt_tuple) sa_nil)))))))) (ss_one (ss_ret se_bl)) ss_nil)
      (ss_one (ss_expr (se_mt PySem.F.slot_list_extend PySem.F.type_list_extend ms_ext (se_var (i := 1) rfl (by first | exact .inl rfl | exact .inr (.inl rfl) | exact .inr (.inr rfl))) (sa_cons (se_ix (se_var (i := 2) rfl (by first | exact .inl rfl | exact .inr (.inl rfl) | exact .inr (.inr rfl))) se_int) sa_nil))))))))
      (ss_one (ss_ret se_bl)))
theorem ok6 (S : Facts K mg fa fd eC eI) (h : All P w K mg base fa fd fu L) : FnOk P w K mg base (L2.CX P w) (3 * L + 2 + 1) (fa 6) (fd 6) ["line"] (spD ⟨K, mg, base⟩ (callK fu (L + 1) 6)) := by
  rw [callK_6]
  exact
  fn_ok (N := ["line"]) (k := 3 * L + 2) (m := m6 fu (callK fu L)) S.f6.fu sc6 fun cdv A outer s H E hr Ck => by
    have hu := hu_of hr
    exact ss_one (ss_if (st_not (st_val (se_call h.d5 Ck (hr.mono (by omega)) rfl (sa_cons (se_var (i := 0) rfl (by first | exact .inl rfl | exact .inr (.inl rfl) | exact .inr (.inr rfl))) sa_nil)))) (ss_one (ss_raise Ck S.x_BadLine hr (se_var (i := 0) rfl (by first | exact .inl rfl | exact .inr (.inl rfl) | exact .inr (.inr rfl))) rfl)) ss_nil)
theorem ok7 (S : Facts K mg fa fd eC eI) (h : All P w K mg base fa fd fu L) : FnOk P w K mg base (L2.CX P w) (3 * L + 2 + 1) (fa 7) (fd 7) ["line"] (spD ⟨K, mg, base⟩ (callK fu (L + 1) 7)) := by
  rw [callK_7]
  exact
  fn_ok (N := ["line", "found", "waiting", "here"]) (k := 3 * L + 2) (m := m7 fu (callK fu L)) S.f7.fu sc7 fun cdv A outer s H E hr Ck => by
    have hu := hu_of hr
    exact ss_cons (ss_par (i := 1) (j := 2) Ck rfl rfl (by decide) rfl rfl (sa_cons (se_lst sa_nil) (sa_cons (se_lst (sa_cons (se_var (i := 0) rfl (by first | exact .inl rfl | exact .inr (.inl rfl) | exact .inr (.inr rfl))) sa_nil)) sa_nil)) (by with_unfolding_all rfl))
      (ss_cons (ss_while (n := fu) Ck (st_cmp (os_ne hu) (se_var (i := 2) rfl (by first | exact .inl rfl | exact .inr (.inl rfl) | exact .inr (.inr rfl))) (se_lst sa_nil)) (ss_cons (ss_set (i := 3) Ck rfl (by first | exact .inl rfl | exact .inr rfl) (se_mt0 PySem.F.slot_list_pop PySem.F.type_list_pop ms_pop (se_var (i := 2) rfl (by first | exact .inl rfl | exact .inr (.inl rfl) | exact .inr (.inr rfl)))))
      (ss_cons (ss_expr (se_mt PySem.F.slot_list_append PySem.F.type_list_append ms_app (se_var (i := 1) rfl (by first | exact .inl rfl | exact .inr (.inl rfl) | exact .inr (.inr rfl))) (sa_cons (se_var (i := 3) rfl (by first | exact .inl rfl | exact .inr (.inl rfl) | exact .inr (.inr rfl))) sa_nil)))
      (ss_one (ss_expr (se_mt PySem.F.slot_list_extend PySem.F.type_list_extend ms_ext (se_var (i := 2) rfl (by first | exact .inl rfl | exact .inr (.inl rfl) | exact .inr (.inr rfl))) (sa_cons (se_lrev Ck.calm rfl S.b_list rfl S.b_reversed (se_ix (se_var (i := 3) rfl (by first | exact .inl rfl | exact .inr (.inl rfl) | exact .inr (.inr rfl))) se_int)) sa_nil)))))))
      (ss_one (ss_ret (se_var (i := 1) rfl (by first | exact .inl rfl | exact .inr (.inl rfl) | exact .inr (.inr rfl))))))
theorem ok8 (S : Facts K mg fa fd eC eI) (h : All P w K mg base fa fd fu L) : FnOk P w K mg base (L2.CX P w) (3 * L + 2 + 1) (fa 8) (fd 8) ["line"] (spD ⟨K, mg, base⟩ (callK fu (L + 1) 8)) := by
  rw [callK_8]
  exact
  fn_ok (N := ["line"]) (k := 3 * L + 2) (m := m8 fu (callK fu L)) S.f8.fu sc8 fun cdv A outer s H E hr Ck => by
    have hu := hu_of hr
    exact ss_one (ss_ret (se_bi cs_len rfl S.b_len bt_len (sa_cons (se_call h.d7 Ck (hr.mono (by omega)) rfl (sa_cons (se_var (i := 0) rfl (by first | exact .inl rfl | exact .inr (.inl rfl) | exact .inr (.inr rfl))) sa_nil)) sa_nil)))
theorem ok9 (S : Facts K mg fa fd eC eI) (h : All P w K mg base fa fd fu L) : FnOk P w K mg base (L2.CX P w) (3 * L + 2 + 1) (fa 9) (fd 9) ["line"] (spD ⟨K, mg, base⟩ (callK fu (L + 1) 9)) := by
  rw [callK_9]
  exact
  fn_ok (N := ["line"]) (k := 3 * L + 2) (m := m9 fu (callK fu L)) S.f9.fu sc9 fun cdv A outer s H E hr Ck => by
    have hu := hu_of hr
    exact ss_one (ss_ret (se_tup (sa_cons (se_call h.d8 Ck (hr.mono (by omega)) rfl (sa_cons (se_var (i := 0) rfl (by first | exact .inl rfl | exact .inr (.inl rfl) | exact .inr (.inr rfl))) sa_nil)) (sa_cons (se_var (i := 0) rfl (by first | exact .inl rfl | exact .inr (.inl rfl) | exact .inr (.inr rfl))) sa_nil))))
theorem ok10 (S : Facts K mg fa fd eC eI) (h : All P w K mg base fa fd fu L) : FnOk P w K mg base (L2.CX P w) (3 * L + 2 + 1) (fa 10) (fd 10) ["line"] (spD ⟨K, mg, base⟩ (callK fu (L + 1) 10)) := by
  rw [callK_10]
  exact
  fn_ok (N := ["line"]) (k := 3 * L + 2) (m := m10 fu (callK fu L)) S.f10.fu sc10 fun cdv A outer s H E hr Ck => by
    have hu := hu_of hr
    exact ss_cons (ss_expr (se_call h.d6 Ck (hr.mono (by omega)) rfl (sa_cons (se_var (i := 0) rfl (by first | exact .inl rfl | exact .inr (.inl rfl) | exact .inr (.inr rfl))) sa_nil)))
      (ss_one (ss_ret (se_call h.d8 Ck (hr.mono (by omega)) rfl (sa_cons (se_var (i := 0) rfl (by first | exact .inl rfl | exact .inr (.inl rfl) | exact .inr (.inr rfl))) sa_nil))))
theorem ok11 (S : Facts K mg fa fd eC eI) (h : All P w K mg base fa fd fu L) : FnOk P w K mg base (L2.CX P w) (3 * L + 2 + 1) (fa 11) (fd 11) ["one", "other"] (spD ⟨K, mg, base⟩ (callK fu (L + 1) 11)) := by
  rw [callK_11]
  exact
  fn_ok (N := ["one", "other"]) (k := 3 * L + 2) (m := m11 fu (callK fu L)) S.f11.fu sc11 fun cdv A outer s H E hr Ck => by
    have hu := hu_of hr
    exact ss_cons (ss_expr (se_call h.d6 Ck (hr.mono (by omega)) rfl (sa_cons (se_var (i := 0) rfl (by first | exact .inl rfl | exact .inr (.inl rfl) | exact .inr (.inr rfl))) sa_nil)))
      (ss_cons (ss_expr (se_call h.d6 Ck (hr.mono (by omega)) rfl (sa_cons (se_var (i := 1) rfl (by first | exact .inl rfl | exact .inr (.inl rfl) | exact .inr (.inr rfl))) sa_nil)))
      (ss_one (ss_ret (se_cmp (os_lt hu) (se_call h.d9 Ck (hr.mono (by omega)) rfl (sa_cons (se_var (i := 0) rfl (by first | exact .inl rfl | exact .inr (.inl rfl) | exact .inr (.inr rfl))) sa_nil)) (se_call h.d9 Ck (hr.mono (by omega)) rfl (sa_cons (se_var (i := 1) rfl (by first | exact .inl rfl | exact .inr (.inl rfl) | exact .inr (.inr rfl))) sa_nil))))))
theorem ok12 (S : Facts K mg fa fd eC eI) (h : All P w K mg base fa fd fu L) : FnOk P w K mg base (L2.CX P w) (3 * L + 2 + 1) (fa 12) (fd 12) ["line", "thing"] (spD ⟨K, mg, base⟩ (callK fu (L + 1) 12)) := by
  rw [callK_12]
  exact
  fn_ok (N := ["line", "thing", "here", "number"]) (k := 3 * L + 2) (m := m12 fu (callK fu L)) S.f12.fu sc12 fun cdv A outer s H E hr Ck => by
    have hu := hu_of hr
    exact ss_cons (ss_if (st_not (st_val (se_bi cs_isi rfl S.b_isinstance bt_isinstance (sa_cons (se_var (i := 1) rfl (by first | exact .inl rfl | exact .inr (.inl rfl) | exact .inr (.inr rfl))) (sa_cons (se_ty (n := "tuple") rfl S.b_tuple bt_tuple) sa_nil))))) (ss_one (ss_ret se_bl)) ss_nil)
      (ss_cons (ss_set (i := 2) Ck rfl (by first | exact .inl rfl | exact .inr rfl) (se_var (i := 0) rfl (by first | exact .inl rfl | exact .inr (.inl rfl) | exact .inr (.inr rfl))))
      (ss_cons (ss_for Ck (si_val (se_var (i := 1) rfl (by first | exact .inl rfl | exact .inr (.inl rfl) | exact .inr (.inr rfl)))) (sg_nm (i := 3) Ck rfl (by first | exact .inl rfl | exact .inr rfl)) (ss_cons (ss_if (st_not (st_val (se_call h.d1 Ck (hr.mono (by omega)) rfl (sa_cons (se_var (i := 3) rfl (by first | exact .inl rfl | exact .inr (.inl rfl) | exact .inr (.inr rfl))) (sa_cons se_int (sa_cons (se_op os_sub (se_bi cs_len rfl S.b_len bt_len (sa_cons (se_ix (se_var (i := 2) rfl (by first | exact .inl rfl | exact .inr (.inl rfl) | exact .inr (.inr rfl))) se_int) sa_nil)) se_int) sa_nil)))))) (ss_one (ss_ret se_bl)) ss_nil)
      (ss_one (ss_set (i := 2) Ck rfl (by first | exact .inl rfl | exact .inr rfl) (se_ix (se_ix (se_var (i := 2) rfl (by first | exact .inl rfl | exact .inr (.inl rfl) | exact .inr (.inr rfl))) se_int) (se_var (i := 3) rfl (by first | exact .inl rfl | exact .inr (.inl rfl) | exact .inr (.inr rfl))))))))
      (ss_one (ss_ret se_bl))))
theorem ok13 (S : Facts K mg fa fd eC eI) (h : All P w K mg base fa fd fu L) : FnOk P w K mg base (L2.CX P w) (3 * L + 2 + 1) (fa 13) (fd 13) ["line", "place"] (spD ⟨K, mg, base⟩ (callK fu (L + 1) 13)) := by
  rw [callK_13]
  exact
  fn_ok (N := ["line", "place"]) (k := 3 * L + 2) (m := m13 fu (callK fu L)) S.f13.fu sc13 fun cdv A outer s H E hr Ck => by
    have hu := hu_of hr
    exact ss_one (ss_if (st_not (st_val (se_call h.d12 Ck (hr.mono (by omega)) rfl (sa_cons (se_var (i := 0) rfl (by first | exact .inl rfl | exact .inr (.inl rfl) | exact .inr (.inr rfl))) (sa_cons (se_var (i := 1) rfl (by first | exact .inl rfl | exact .inr (.inl rfl) | exact .inr (.inr rfl))) sa_nil))))) (ss_one (ss_raise Ck S.x_BadPlace hr (se_var (i := 1) rfl (by first | exact .inl rfl | exact .inr (.inl rfl) | exact .inr (.inr rfl))) rfl)) ss_nil)
theorem ok14 (S : Facts K mg fa fd eC eI) (h : All P w K mg base fa fd fu L) : FnOk P w K mg base (L2.CX P w) (3 * L + 2 + 1) (fa 14) (fd 14) ["line", "place", "part"] (spD ⟨K, mg, base⟩ (callK fu (L + 1) 14)) := by
  rw [callK_14]
  exact
  fn_ok (N := ["line", "place", "part", "around", "number", "found", "here"]) (k := 3 * L + 2) (m := m14 fu (callK fu L)) S.f14.fu sc14 fun cdv A outer s H E hr Ck => by
    have hu := hu_of hr
    exact ss_cons (ss_set (i := 3) Ck rfl (by first | exact .inl rfl | exact .inr rfl) (se_lst (sa_cons (se_var (i := 0) rfl (by first | exact .inl rfl | exact .inr (.inl rfl) | exact .inr (.inr rfl))) sa_nil)))
      (ss_cons (ss_for Ck (si_val (se_var (i := 1) rfl (by first | exact .inl rfl | exact .inr (.inl rfl) | exact .inr (.inr rfl)))) (sg_nm (i := 4) Ck rfl (by first | exact .inl rfl | exact .inr rfl)) (ss_one (ss_expr (se_mt PySem.F.slot_list_append PySem.F.type_list_append ms_app (se_var (i := 3) rfl (by first | exact .inl rfl | exact .inr (.inl rfl) | exact .inr (.inr rfl))) (sa_cons (se_ix (se_ix (se_ix (se_var (i := 3) rfl (by first | exact .inl rfl | exact .inr (.inl rfl) | exact .inr (.inr rfl))) (se_neg se_int)) se_int) (se_var (i := 4) rfl (by first | exact .inl rfl | exact .inr (.inl rfl) | exact .inr (.inr rfl)))) sa_nil)))))
      (ss_cons (ss_set (i := 5) Ck rfl (by first | exact .inl rfl | exact .inr rfl) (se_var (i := 2) rfl (by first | exact .inl rfl | exact .inr (.inl rfl) | exact .inr (.inr rfl))))
      (ss_cons (ss_for Ck (si_zp rfl S.b_zip (sa_cons (se_st (se_var (i := 1) rfl (by first | exact .inl rfl | exact .inr (.inl rfl) | exact .inr (.inr rfl))) so_none so_none (so_some (se_neg se_int))) (sa_cons (se_st (se_var (i := 3) rfl (by first | exact .inl rfl | exact .inr (.inl rfl) | exact .inr (.inr rfl))) (so_some (se_neg se_int)) so_none (so_some (se_neg se_int))) sa_nil))) (sg_tp Ck (sgs_cons (i := 4) Ck rfl (by first | exact .inl rfl | exact .inr rfl) (sgs_cons (i := 6) Ck rfl (by first | exact .inl rfl | exact .inr rfl) sgs_nil))) (ss_one (ss_set (i := 5) Ck rfl (by first | exact .inl rfl | exact .inr rfl) (se_tup (sa_cons (se_ix (se_var (i := 6) rfl (by first | exact .inl rfl | exact .inr (.inl rfl) | exact .inr (.inr rfl))) se_int) (sa_cons (se_ix (se_var (i := 6) rfl (by first | exact .inl rfl | exact .inr (.inl rfl) | exact .inr (.inr rfl))) se_int) (sa_cons (se_tup (sa_star (se_sl (se_ix (se_var (i := 6) rfl (by first | exact .inl rfl | exact .inr (.inl rfl) | exact .inr (.inr rfl))) se_int) so_none (so_some (se_var (i := 4) rfl (by first | exact .inl rfl | exact .inr (.inl rfl) | exact .inr (.inr rfl))))) (sa_cons (se_var (i := 5) rfl (by first | exact .inl rfl | exact .inr (.inl rfl) | exact .inr (.inr rfl))) (sa_star (se_sl (se_ix (se_var (i := 6) rfl (by first | exact .inl rfl | exact .inr (.inl rfl) | exact .inr (.inr rfl))) se_int) (so_some (se_op os_add (se_var (i := 4) rfl (by first | exact .inl rfl | exact .inr (.inl rfl) | exact .inr (.inr rfl))) se_int)) so_none) sa_nil)))) sa_nil)))))))
      (ss_one (ss_ret (se_var (i := 5) rfl (by first | exact .inl rfl | exact .inr (.inl rfl) | exact .inr (.inr rfl))))))))
theorem ok15 (S : Facts K mg fa fd eC eI) (h : All P w K mg base fa fd fu L) : FnOk P w K mg base (L2.CX P w) (3 * L + 2 + 1) (fa 15) (fd 15) ["line", "place", "part"] (spD ⟨K, mg, base⟩ (callK fu (L + 1) 15)) := by
  rw [callK_15]
  exact
  fn_ok (N := ["line", "place", "part"]) (k := 3 * L + 2) (m := m15 fu (callK fu L)) S.f15.fu sc15 fun cdv A outer s H E hr Ck => by
    have hu := hu_of hr
    exact ss_cons (ss_expr (se_call h.d6 Ck (hr.mono (by omega)) rfl (sa_cons (se_var (i := 0) rfl (by first | exact .inl rfl | exact .inr (.inl rfl) | exact .inr (.inr rfl))) sa_nil)))
      (ss_cons (ss_expr (se_call h.d13 Ck (hr.mono (by omega)) rfl (sa_cons (se_var (i := 0) rfl (by first | exact .inl rfl | exact .inr (.inl rfl) | exact .inr (.inr rfl))) (sa_cons (se_var (i := 1) rfl (by first | exact .inl rfl | exact .inr (.inl rfl) | exact .inr (.inr rfl))) sa_nil))))
      (ss_cons (ss_expr (se_call h.d6 Ck (hr.mono (by omega)) rfl (sa_cons (se_var (i := 2) rfl (by first | exact .inl rfl | exact .inr (.inl rfl) | exact .inr (.inr rfl))) sa_nil)))
      (ss_one (ss_ret (se_call h.d14 Ck (hr.mono (by omega)) rfl (sa_cons (se_var (i := 0) rfl (by first | exact .inl rfl | exact .inr (.inl rfl) | exact .inr (.inr rfl))) (sa_cons (se_var (i := 1) rfl (by first | exact .inl rfl | exact .inr (.inl rfl) | exact .inr (.inr rfl))) (sa_cons (se_var (i := 2) rfl (by first | exact .inl rfl | exact .inr (.inl rfl) | exact .inr (.inr rfl))) sa_nil))))))))
theorem ok16 (S : Facts K mg fa fd eC eI) (h : All P w K mg base fa fd fu L) : FnOk P w K mg base (L2.CX P w) (3 * L + 2 + 1) (fa 16) (fd 16) ["script", "mark"] (spD ⟨K, mg, base⟩ (callK fu (L + 1) 16)) := by
  rw [callK_16]
  exact
  fn_ok (N := ["script", "mark", "mixed", "cell"]) (k := 3 * L + 2) (m := m16 fu (callK fu L)) S.f16.fu sc16 fun cdv A outer s H E hr Ck => by
    have hu := hu_of hr
    exact ss_cons (ss_set (i := 2) Ck rfl (by first | exact .inl rfl | exact .inr rfl) (se_var (i := 1) rfl (by first | exact .inl rfl | exact .inr (.inl rfl) | exact .inr (.inr rfl))))
      (ss_cons (ss_for Ck (si_val (se_sl (se_var (i := 0) rfl (by first | exact .inl rfl | exact .inr (.inl rfl) | exact .inr (.inr rfl))) so_none (so_some se_int))) (sg_nm (i := 3) Ck rfl (by first | exact .inl rfl | exact .inr rfl)) (ss_one (ss_set (i := 2) Ck rfl (by first | exact .inl rfl | exact .inr rfl) (se_op os_mod (se_bt cs_int rfl S.b_int bt_int (sa_cons (se_op os_add (se_op os_add (se_op os_mul (se_var (i := 2) rfl (by first | exact .inl rfl | exact .inr (.inl rfl) | exact .inr (.inr rfl))) se_int) (se_op os_mod (se_bt cs_int rfl S.b_int bt_int (sa_cons (se_var (i := 3) rfl (by first | exact .inl rfl | exact .inr (.inl rfl) | exact .inr (.inr rfl))) sa_nil)) se_int)) se_int) sa_nil)) se_int))))
      (ss_one (ss_ret (se_disp (sp_cons se_str (se_st (se_lc (own := [("cell", 3)]) Ck (si_val (se_sl (se_var (i := 0) rfl (by first | exact .inl rfl | exact .inr (.inl rfl) | exact .inr (.inr rfl))) so_none (so_some se_int))) (blkOk_by (N := ["script", "mark", "mixed", "cell"]) (sc := defScope s16) (by decide +kernel)) (fun _ _ _ _ _ => (sg_nm (i := 3) (Ck.blk _ _ _ _ _) rfl (by first | exact .inl rfl | exact .inr rfl))) (fun _ _ _ _ _ => sts_nil) (fun _ _ _ _ _ => se_bt cs_int rfl S.b_int bt_int (sa_cons (se_var (i := 3) rfl (by first | exact .inl rfl | exact .inr (.inl rfl) | exact .inr (.inr rfl))) sa_nil)) (by decide)) so_none so_none (so_some (se_neg se_int))) (sp_cons se_str (se_var (i := 2) rfl (by first | exact .inl rfl | exact .inr (.inl rfl) | exact .inr (.inr rfl))) (sp_cons se_str se_int sp_nil)))))))
theorem ok17 (S : Facts K mg fa fd eC eI) (h : All P w K mg base fa fd fu L) : FnOk P w K mg base (L2.CX P w) (3 * L + 2 + 1) (fa 17) (fd 17) ["deck", "many"] (spD ⟨K, mg, base⟩ (callK fu (L + 1) 17)) := by
  rw [callK_17]
  exact
  fn_ok (N := ["deck", "many", "number", "cell"]) (k := 3 * L + 2) (m := m17 fu (callK fu L)) S.f17.fu sc17 fun cdv A outer s H E hr Ck => by
    have hu := hu_of hr
    exact ss_cons (ss_dput hu (se_var (i := 0) rfl (by first | exact .inl rfl | exact .inr (.inl rfl) | exact .inr (.inr rfl))) se_str (se_op os_add (se_dget hu (se_var (i := 0) rfl (by first | exact .inl rfl | exact .inr (.inl rfl) | exact .inr (.inr rfl))) se_str) se_int))
      (ss_cons (ss_set (i := 2) Ck rfl (by first | exact .inl rfl | exact .inr rfl) (se_op os_add (se_dget hu (se_var (i := 0) rfl (by first | exact .inl rfl | exact .inr (.inl rfl) | exact .inr (.inr rfl))) se_str) (se_op os_mul se_int (se_dget hu (se_var (i := 0) rfl (by first | exact .inl rfl | exact .inr (.inl rfl) | exact .inr (.inr rfl))) se_str))))
      (ss_cons (ss_if (st_cmp (os_ne hu) (se_dget hu (se_var (i := 0) rfl (by first | exact .inl rfl | exact .inr (.inl rfl) | exact .inr (.inr rfl))) se_str) (se_lst sa_nil)) (ss_cons (ss_set (i := 3) Ck rfl (by first | exact .inl rfl | exact .inr rfl) (se_mt0 PySem.F.slot_list_pop PySem.F.type_list_pop ms_pop (se_dget hu (se_var (i := 0) rfl (by first | exact .inl rfl | exact .inr (.inl rfl) | exact .inr (.inr rfl))) se_str)))
      (ss_cons (ss_if (st_cmp os_ge (se_var (i := 3) rfl (by first | exact .inl rfl | exact .inr (.inl rfl) | exact .inr (.inr rfl))) (se_op os_pow se_int se_int)) (ss_cons (ss_expr (se_mt PySem.F.slot_list_append PySem.F.type_list_append ms_app (se_dget hu (se_var (i := 0) rfl (by first | exact .inl rfl | exact .inr (.inl rfl) | exact .inr (.inr rfl))) se_str) (sa_cons (se_op os_fdv (se_var (i := 3) rfl (by first | exact .inl rfl | exact .inr (.inl rfl) | exact .inr (.inr rfl))) (se_bi (cs_max Ck.calm) rfl S.b_max bt_max (sa_cons se_int (sa_cons (se_var (i := 1) rfl (by first | exact .inl rfl | exact .inr (.inl rfl) | exact .inr (.inr rfl))) sa_nil)))) sa_nil)))
      (ss_one (ss_ret (se_op os_mod (se_bt cs_int rfl S.b_int bt_int (sa_cons (se_var (i := 3) rfl (by first | exact .inl rfl | exact .inr (.inl rfl) | exact .inr (.inr rfl))) sa_nil)) (se_var (i := 1) rfl (by first | exact .inl rfl | exact .inr (.inl rfl) | exact .inr (.inr rfl))))))) ss_nil)
      (ss_one (ss_set (i := 2) Ck rfl (by first | exact .inl rfl | exact .inr rfl) (se_op os_add (se_var (i := 2) rfl (by first | exact .inl rfl | exact .inr (.inl rfl) | exact .inr (.inr rfl))) (se_op os_mod (se_bt cs_int rfl S.b_int bt_int (sa_cons (se_var (i := 3) rfl (by first | exact .inl rfl | exact .inr (.inl rfl) | exact .inr (.inr rfl))) sa_nil)) se_int)))))) ss_nil)
      (ss_cons (ss_set (i := 2) Ck rfl (by first | exact .inl rfl | exact .inr rfl) (se_op os_mod (se_bt cs_int rfl S.b_int bt_int (sa_cons (se_op os_add (se_op os_mul (se_var (i := 2) rfl (by first | exact .inl rfl | exact .inr (.inl rfl) | exact .inr (.inr rfl))) se_int) se_int) sa_nil)) se_int))
      (ss_cons (ss_set (i := 2) Ck rfl (by first | exact .inl rfl | exact .inr rfl) (se_op os_mod (se_bt cs_int rfl S.b_int bt_int (sa_cons (se_op os_add (se_op os_add (se_op os_mul (se_var (i := 2) rfl (by first | exact .inl rfl | exact .inr (.inl rfl) | exact .inr (.inr rfl))) (se_var (i := 2) rfl (by first | exact .inl rfl | exact .inr (.inl rfl) | exact .inr (.inr rfl)))) (se_op os_mul se_int (se_dget hu (se_var (i := 0) rfl (by first | exact .inl rfl | exact .inr (.inl rfl) | exact .inr (.inr rfl))) se_str))) se_int) sa_nil)) se_int))
      (ss_one (ss_ret (se_op os_mod (se_bt cs_int rfl S.b_int bt_int (sa_cons (se_op os_fdv (se_op os_mod (se_bt cs_int rfl S.b_int bt_int (sa_cons (se_op os_mul (se_var (i := 2) rfl (by first | exact .inl rfl | exact .inr (.inl rfl) | exact .inr (.inr rfl))) se_int) sa_nil)) se_int) se_int) sa_nil)) (se_var (i := 1) rfl (by first | exact .inl rfl | exact .inr (.inl rfl) | exact .inr (.inr rfl))))))))))
theorem ok18 (S : Facts K mg fa fd eC eI) (h : All P w K mg base fa fd fu L) : FnOk P w K mg base (L2.CX P w) (3 * L + 2 + 1) (fa 18) (fd 18) ["deck", "some"] (spD ⟨K, mg, base⟩ (callK fu (L + 1) 18)) := by
  rw [callK_18]
  exact
  fn_ok (N := ["deck", "some"]) (k := 3 * L + 2) (m := m18 fu (callK fu L)) S.f18.fu sc18 fun cdv A outer s H E hr Ck => by
    have hu := hu_of hr
    exact ss_one (ss_ret (se_ix (se_var (i := 1) rfl (by first | exact .inl rfl | exact .inr (.inl rfl) | exact .inr (.inr rfl))) (se_call h.d17 Ck (hr.mono (by omega)) rfl (sa_cons (se_var (i := 0) rfl (by first | exact .inl rfl | exact .inr (.inl rfl) | exact .inr (.inr rfl))) (sa_cons (se_bi cs_len rfl S.b_len bt_len (sa_cons (se_var (i := 1) rfl (by first | exact .inl rfl | exact .inr (.inl rfl) | exact .inr (.inr rfl))) sa_nil)) sa_nil)))))
theorem ok19 (S : Facts K mg fa fd eC eI) (h : All P w K mg base fa fd fu L) : FnOk P w K mg base (L2.CX P w) (3 * L + 2 + 1) (fa 19) (fd 19) ["deck", "some"] (spD ⟨K, mg, base⟩ (callK fu (L + 1) 19)) := by
  rw [callK_19]
  exact
  fn_ok (N := ["deck", "some", "left", "found", "go"]) (k := 3 * L + 2) (m := m19 fu (callK fu L)) S.f19.fu sc19 fun cdv A outer s H E hr Ck => by
    have hu := hu_of hr
    exact ss_cons (ss_par (i := 2) (j := 3) Ck rfl rfl (by decide) rfl rfl (sa_cons (se_bt cs_list rfl S.b_list bt_list (sa_cons (se_var (i := 1) rfl (by first | exact .inl rfl | exact .inr (.inl rfl) | exact .inr (.inr rfl))) sa_nil)) (sa_cons (se_lst sa_nil) sa_nil)) (by with_unfolding_all rfl))
      (ss_cons (ss_for Ck (si_rng1 rfl S.b_range (sa_cons (se_bi cs_len rfl S.b_len bt_len (sa_cons (se_var (i := 2) rfl (by first | exact .inl rfl | exact .inr (.inl rfl) | exact .inr (.inr rfl))) sa_nil)) sa_nil)) (sg_nm (i := 4) Ck rfl (by first | exact .inl rfl | exact .inr rfl)) (ss_one (ss_expr (se_mt PySem.F.slot_list_append PySem.F.type_list_append ms_app (se_var (i := 3) rfl (by first | exact .inl rfl | exact .inr (.inl rfl) | exact .inr (.inr rfl))) (sa_cons (se_mt PySem.F.slot_list_pop PySem.F.type_list_pop ms_popAt (se_var (i := 2) rfl (by first | exact .inl rfl | exact .inr (.inl rfl) | exact .inr (.inr rfl))) (sa_cons (se_call h.d17 Ck (hr.mono (by omega)) rfl (sa_cons (se_var (i := 0) rfl (by first | exact .inl rfl | exact .inr (.inl rfl) | exact .inr (.inr rfl))) (sa_cons (se_bi cs_len rfl S.b_len bt_len (sa_cons (se_var (i := 2) rfl (by first | exact .inl rfl | exact .inr (.inl rfl) | exact .inr (.inr rfl))) sa_nil)) sa_nil))) sa_nil)) sa_nil)))))
      (ss_one (ss_ret (se_var (i := 3) rfl (by first | exact .inl rfl | exact .inr (.inl rfl) | exact .inr (.inr rfl))))))
theorem ok20 (S : Facts K mg fa fd eC eI) (h : All P w K mg base fa fd fu L) : FnOk P w K mg base (L2.CX P w) (3 * L + 2 + 1) (fa 20) (fd 20) ["told", "due"] (spD ⟨K, mg, base⟩ (callK fu (L + 1) 20)) := by
  rw [callK_20]
  exact
  fn_ok (N := ["told", "due", "one", "other"]) (k := 3 * L + 2) (m := m20 fu (callK fu L)) S.f20.fu sc20 fun cdv A outer s H E hr Ck => by
    have hu := hu_of hr
    exact ss_cons (ss_if (st_val (se_isiT rfl S.b_isinstance bt_isinstance (se_var (i := 1) rfl (by first | exact .inl rfl | exact .inr (.inl rfl) | exact .inr (.inr rfl))) (sa_cons (se_ty (n := "tuple") rfl S.b_tuple bt_tuple) (sa_cons (se_ty (n := "list") rfl S.b_list bt_list) sa_nil)))) (ss_cons (ss_if (st_w (sw_or (st_cmp (os_ne hu) (se_bi cs_isi rfl S.b_isinstance bt_isinstance (sa_cons (se_var (i := 0) rfl (by first | exact .inl rfl | exact .inr (.inl rfl) | exact .inr (.inr rfl))) (sa_cons (se_ty (n := "tuple") rfl S.b_tuple bt_tuple) sa_nil))) (se_bi cs_isi rfl S.b_isinstance bt_isinstance (sa_cons (se_var (i := 1) rfl (by first | exact .inl rfl | exact .inr (.inl rfl) | exact .inr (.inr rfl))) (sa_cons (se_ty (n := "tuple") rfl S.b_tuple bt_tuple) sa_nil)))) (sw_or (st_not (st_val (se_isiT rfl S.b_isinstance bt_isinstance (se_var (i := 0) rfl (by first | exact .inl rfl | exact .inr (.inl rfl) | exact .inr (.inr rfl))) (sa_cons (se_ty (n := "tuple") rfl S.b_tuple bt_tuple) (sa_cons (se_ty (n := "list") rfl S.b_list bt_list) sa_nil))))) (sw_or1 (st_cmp (os_ne hu) (se_bi cs_len rfl S.b_len bt_len (sa_cons (se_var (i := 0) rfl (by first | exact .inl rfl | exact .inr (.inl rfl) | exact .inr (.inr rfl))) sa_nil)) (se_bi cs_len rfl S.b_len bt_len (sa_cons (se_var (i := 1) rfl (by first | exact .inl rfl | exact .inr (.inl rfl) | exact .inr (.inr rfl))) sa_nil))))))) (ss_one (ss_ret se_bl)) ss_nil)
      (ss_one (ss_ret (se_cmp (os_eq hu) (se_lc (own := [("one", 2), ("other", 3)]) Ck (si_zp rfl S.b_zip (sa_cons (se_var (i := 0) rfl (by first | exact .inl rfl | exact .inr (.inl rfl) | exact .inr (.inr rfl))) (sa_cons (se_var (i := 1) rfl (by first | exact .inl rfl | exact .inr (.inl rfl) | exact .inr (.inr rfl))) sa_nil))) (blkOk_by (N := ["told", "due", "one", "other"]) (sc := defScope s20) (by decide +kernel)) (fun _ _ _ _ _ => (sg_tp (Ck.blk _ _ _ _ _) (sgs_cons (i := 2) (Ck.blk _ _ _ _ _) rfl (by first | exact .inl rfl | exact .inr rfl) (sgs_cons (i := 3) (Ck.blk _ _ _ _ _) rfl (by first | exact .inl rfl | exact .inr rfl) sgs_nil)))) (fun _ _ _ _ _ => sts_one (st_not (st_val (se_call h.d20 (Ck.blk _ _ _ _ _) (hr.mono (by omega)) rfl (sa_cons (se_var (i := 2) rfl (by first | exact .inl rfl | exact .inr (.inl rfl) | exact .inr (.inr rfl))) (sa_cons (se_var (i := 3) rfl (by first | exact .inl rfl | exact .inr (.inl rfl) | exact .inr (.inr rfl))) sa_nil)))))) (fun _ _ _ _ _ => se_int) (by decide)) (se_lst sa_nil))))) ss_nil)
      (ss_cons (ss_if (st_w (sw_or (st_val (se_bi cs_isi rfl S.b_isinstance bt_isinstance (sa_cons (se_var (i := 1) rfl (by first | exact .inl rfl | exact .inr (.inl rfl) | exact .inr (.inr rfl))) (sa_cons (se_ty (n := "bool") rfl S.b_bool bt_bool) sa_nil)))) (sw_or1 (st_val (se_bi cs_isi rfl S.b_isinstance bt_isinstance (sa_cons (se_var (i := 0) rfl (by first | exact .inl rfl | exact .inr (.inl rfl) | exact .inr (.inr rfl))) (sa_cons (se_ty (n := "bool") rfl S.b_bool bt_bool) sa_nil))))))) (ss_one (ss_ret (se_and (se_bi cs_isi rfl S.b_isinstance bt_isinstance (sa_cons (se_var (i := 1) rfl (by first | exact .inl rfl | exact .inr (.inl rfl) | exact .inr (.inr rfl))) (sa_cons (se_ty (n := "bool") rfl S.b_bool bt_bool) sa_nil))) (se_and (se_bi cs_isi rfl S.b_isinstance bt_isinstance (sa_cons (se_var (i := 0) rfl (by first | exact .inl rfl | exact .inr (.inl rfl) | exact .inr (.inr rfl))) (sa_cons (se_ty (n := "bool") rfl S.b_bool bt_bool) sa_nil))) (se_one (se_cmp (os_eq hu) (se_var (i := 0) rfl (by first | exact .inl rfl | exact .inr (.inl rfl) | exact .inr (.inr rfl))) (se_var (i := 1) rfl (by first | exact .inl rfl | exact .inr (.inl rfl) | exact .inr (.inr rfl))))))))) ss_nil)
      (ss_cons (ss_if (st_w (sw_or (st_val (se_bi cs_isi rfl S.b_isinstance bt_isinstance (sa_cons (se_var (i := 1) rfl (by first | exact .inl rfl | exact .inr (.inl rfl) | exact .inr (.inr rfl))) (sa_cons (se_ty (n := "int") rfl S.b_int bt_int) sa_nil)))) (sw_or1 (st_val (se_bi cs_isi rfl S.b_isinstance bt_isinstance (sa_cons (se_var (i := 1) rfl (by first | exact .inl rfl | exact .inr (.inl rfl) | exact .inr (.inr rfl))) (sa_cons (se_ty (n := "str") rfl S.b_str bt_str) sa_nil))))))) (ss_one (ss_ret (se_and (se_cmp (os_eq hu) (se_bi cs_isi rfl S.b_isinstance bt_isinstance (sa_cons (se_var (i := 1) rfl (by first | exact .inl rfl | exact .inr (.inl rfl) | exact .inr (.inr rfl))) (sa_cons (se_ty (n := "int") rfl S.b_int bt_int) sa_nil))) (se_bi cs_isi rfl S.b_isinstance bt_isinstance (sa_cons (se_var (i := 0) rfl (by first | exact .inl rfl | exact .inr (.inl rfl) | exact .inr (.inr rfl))) (sa_cons (se_ty (n := "int") rfl S.b_int bt_int) sa_nil)))) (se_and (se_cmp (os_eq hu) (se_bi cs_isi rfl S.b_isinstance bt_isinstance (sa_cons (se_var (i := 1) rfl (by first | exact .inl rfl | exact .inr (.inl rfl) | exact .inr (.inr rfl))) (sa_cons (se_ty (n := "str") rfl S.b_str bt_str) sa_nil))) (se_bi cs_isi rfl S.b_isinstance bt_isinstance (sa_cons (se_var (i := 0) rfl (by first | exact .inl rfl | exact .inr (.inl rfl) | exact .inr (.inr rfl))) (sa_cons (se_ty (n := "str") rfl S.b_str bt_str) sa_nil)))) (se_one (se_cmp (os_eq hu) (se_var (i := 0) rfl (by first | exact .inl rfl | exact .inr (.inl rfl) | exact .inr (.inr rfl))) (se_var (i := 1) rfl (by first | exact .inl rfl | exact .inr (.inl rfl) | exact .inr (.inr rfl))))))))) ss_nil)
      (ss_cons (ss_if (st_cmp os_is (se_var (i := 1) rfl (by first | exact .inl rfl | exact .inr (.inl rfl) | exact .inr (.inr rfl))) se_non) (ss_one (ss_ret (se_cmp os_is (se_var (i := 0) rfl (by first | exact .inl rfl | exact .inr (.inl rfl) | exact .inr (.inr rfl))) se_non))) ss_nil)
      (ss_one (ss_ret (se_and (se_bi cs_isi rfl S.b_isinstance bt_isinstance (sa_cons (se_var (i := 1) rfl (by first | exact .inl rfl | exact .inr (.inl rfl) | exact .inr (.inr rfl))) (sa_cons (se_ty (n := "dict") rfl S.b_dict bt_dict) sa_nil))) (se_and (se_bi cs_isi rfl S.b_isinstance bt_isinstance (sa_cons (se_var (i := 0) rfl (by first | exact .inl rfl | exact .inr (.inl rfl) | exact .inr (.inr rfl))) (sa_cons (se_ty (n := "dict") rfl S.b_dict bt_dict) sa_nil))) (se_one (se_cmp (os_eq hu) (se_var (i := 0) rfl (by first | exact .inl rfl | exact .inr (.inl rfl) | exact .inr (.inr rfl))) (se_var (i := 1) rfl (by first | exact .inl rfl | exact .inr (.inl rfl) | exact .inr (.inr rfl))))))))))))
theorem ok21 (S : Facts K mg fa fd eC eI) (h : All P w K mg base fa fd fu L) : FnOk P w K mg base (L2.CX P w) (3 * L + 2 + 1) (fa 21) (fd 21) ["line"] (spD ⟨K, mg, base⟩ (callK fu (L + 1) 21)) := by
  rw [callK_21]
  exact
  fn_ok (N := ["line", "part"]) (k := 3 * L + 2) (m := m21 fu (callK fu L)) S.f21.fu sc21 fun cdv A outer s H E hr Ck => by
    have hu := hu_of hr
    exact ss_one (ss_ret (se_op os_add se_int (se_bi (cs_sum Ck.calm) rfl S.b_sum bt_sum (sa_cons (se_lc (own := [("part", 1)]) Ck (si_val (se_ix (se_var (i := 0) rfl (by first | exact .inl rfl | exact .inr (.inl rfl) | exact .inr (.inr rfl))) se_int)) (blkOk_by (N := ["line", "part"]) (sc := defScope s21) (by decide +kernel)) (fun _ _ _ _ _ => (sg_nm (i := 1) (Ck.blk _ _ _ _ _) rfl (by first | exact .inl rfl | exact .inr rfl))) (fun _ _ _ _ _ => sts_nil) (fun _ _ _ _ _ => se_call h.d21 (Ck.blk _ _ _ _ _) (hr.mono (by omega)) rfl (sa_cons (se_var (i := 1) rfl (by first | exact .inl rfl | exact .inr (.inl rfl) | exact .inr (.inr rfl))) sa_nil)) (by decide)) sa_nil))))
theorem ok22 (S : Facts K mg fa fd eC eI) (h : All P w K mg base fa fd fu L) : FnOk P w K mg base (L2.CX P w) (3 * L + 2 + 1) (fa 22) (fd 22) ["line"] (spD ⟨K, mg, base⟩ (callK fu (L + 1) 22)) := by
  rw [callK_22]
  exact
  fn_ok (N := ["line", "found", "k", "part", "place"]) (k := 3 * L + 2) (m := m22 fu (callK fu L)) S.f22.fu sc22 fun cdv A outer s H E hr Ck => by
    have hu := hu_of hr
    exact ss_cons (ss_set (i := 1) Ck rfl (by first | exact .inl rfl | exact .inr rfl) (se_lst (sa_cons (se_tup sa_nil) sa_nil)))
      (ss_cons (ss_for Ck (si_en rfl S.b_enumerate (sa_cons (se_ix (se_var (i := 0) rfl (by first | exact .inl rfl | exact .inr (.inl rfl) | exact .inr (.inr rfl))) se_int) sa_nil)) (sg_tp Ck (sgs_cons (i := 2) Ck rfl (by first | exact .inl rfl | exact .inr rfl) (sgs_cons (i := 3) Ck rfl (by first | exact .inl rfl | exact .inr rfl) sgs_nil))) (ss_one (ss_expr (se_mt PySem.F.slot_list_extend PySem.F.type_list_extend ms_ext (se_var (i := 1) rfl (by first | exact .inl rfl | exact .inr (.inl rfl) | exact .inr (.inr rfl))) (sa_cons (se_lc (own := [("place", 4)]) Ck (si_val (se_call h.d22 Ck (hr.mono (by omega)) rfl (sa_cons (se_var (i := 3) rfl (by first | exact .inl rfl | exact .inr (.inl rfl) | exact .inr (.inr rfl))) sa_nil))) (blkOk_by (N := ["line", "found", "k", "part", "place"]) (sc := defScope s22) (by decide +kernel)) (fun _ _ _ _ _ => (sg_nm (i := 4) (Ck.blk _ _ _ _ _) rfl (by first | exact .inl rfl | exact .inr rfl))) (fun _ _ _ _ _ => sts_nil) (fun _ _ _ _ _ => se_op os_add (se_tup (sa_cons (se_var (i := 2) rfl (by first | exact .inl rfl | exact .inr (.inl rfl) | exact .inr (.inr rfl))) sa_nil)) (se_var (i := 4) rfl (by first | exact .inl rfl | exact .inr (.inl rfl) | exact .inr (.inr rfl)))) (by decide)) sa_nil)))))
      (ss_one (ss_ret (se_var (i := 1) rfl (by first | exact .inl rfl | exact .inr (.inl rfl) | exact .inr (.inr rfl))))))
theorem ok23 (S : Facts K mg fa fd eC eI) (h : All P w K mg base fa fd fu L) : FnOk P w K mg base (L2.CX P w) (3 * L + 2 + 1) (fa 23) (fd 23) ["line", "place"] (spD ⟨K, mg, base⟩ (callK fu (L + 1) 23)) := by
  rw [callK_23]
  exact
  fn_ok (N := ["line", "place", "k"]) (k := 3 * L + 2) (m := m23 fu (callK fu L)) S.f23.fu sc23 fun cdv A outer s H E hr Ck => by
    have hu := hu_of hr
    exact ss_cons (ss_for Ck (si_val (se_var (i := 1) rfl (by first | exact .inl rfl | exact .inr (.inl rfl) | exact .inr (.inr rfl)))) (sg_nm (i := 2) Ck rfl (by first | exact .inl rfl | exact .inr rfl)) (ss_one (ss_set (i := 0) Ck rfl (by first | exact .inl rfl | exact .inr rfl) (se_ix (se_ix (se_var (i := 0) rfl (by first | exact .inl rfl | exact .inr (.inl rfl) | exact .inr (.inr rfl))) se_int) (se_var (i := 2) rfl (by first | exact .inl rfl | exact .inr (.inl rfl) | exact .inr (.inr rfl)))))))
      (ss_one (ss_ret (se_var (i := 0) rfl (by first | exact .inl rfl | exact .inr (.inl rfl) | exact .inr (.inr rfl)))))
theorem ok24 (S : Facts K mg fa fd eC eI) (h : All P w K mg base fa fd fu L) : FnOk P w K mg base (L2.CX P w) (3 * L + 2 + 1) (fa 24) (fd 24) ["line", "place", "part"] (spD ⟨K, mg, base⟩ (callK fu (L + 1) 24)) := by
  rw [callK_24]
  exact
  fn_ok (N := ["line", "place", "part", "k"]) (k := 3 * L + 2) (m := m24 fu (callK fu L)) S.f24.fu sc24 fun cdv A outer s H E hr Ck => by
    have hu := hu_of hr
    exact ss_cons (ss_if (st_cmp (os_eq hu) (se_var (i := 1) rfl (by first | exact .inl rfl | exact .inr (.inl rfl) | exact .inr (.inr rfl))) (se_tup sa_nil)) (ss_one (ss_ret (se_var (i := 2) rfl (by first | exact .inl rfl | exact .inr (.inl rfl) | exact .inr (.inr rfl))))) ss_nil)
      (ss_cons (ss_set (i := 3) Ck rfl (by first | exact .inl rfl | exact .inr rfl) (se_ix (se_var (i := 1) rfl (by first | exact .inl rfl | exact .inr (.inl rfl) | exact .inr (.inr rfl))) se_int))
      (ss_one (ss_ret (se_op os_add (se_sl (se_var (i := 0) rfl (by first | exact .inl rfl | exact .inr (.inl rfl) | exact .inr (.inr rfl))) so_none (so_some se_int)) (se_tup (sa_cons (se_op os_add (se_op os_add (se_sl (se_ix (se_var (i := 0) rfl (by first | exact .inl rfl | exact .inr (.inl rfl) | exact .inr (.inr rfl))) se_int) so_none (so_some (se_var (i := 3) rfl (by first | exact .inl rfl | exact .inr (.inl rfl) | exact .inr (.inr rfl))))) (se_tup (sa_cons (se_call h.d24 Ck (hr.mono (by omega)) rfl (sa_cons (se_ix (se_ix (se_var (i := 0) rfl (by first | exact .inl rfl | exact .inr (.inl rfl) | exact .inr (.inr rfl))) se_int) (se_var (i := 3) rfl (by first | exact .inl rfl | exact .inr (.inl rfl) | exact .inr (.inr rfl)))) (sa_cons (se_sl (se_var (i := 1) rfl (by first | exact .inl rfl | exact .inr (.inl rfl) | exact .inr (.inr rfl))) (so_some se_int) so_none) (sa_cons (se_var (i := 2) rfl (by first | exact .inl rfl | exact .inr (.inl rfl) | exact .inr (.inr rfl))) sa_nil)))) sa_nil))) (se_sl (se_ix (se_var (i := 0) rfl (by first | exact .inl rfl | exact .inr (.inl rfl) | exact .inr (.inr rfl))) se_int) (so_some (se_op os_add (se_var (i := 3) rfl (by first | exact .inl rfl | exact .inr (.inl rfl) | exact .inr (.inr rfl))) se_int)) so_none)) sa_nil))))))
theorem ok25 (S : Facts K mg fa fd eC eI) (h : All P w K mg base fa fd fu L) : FnOk P w K mg base (L2.CX P w) (3 * L + 2 + 1) (fa 25) (fd 25) ["deck", "deep"] (spD ⟨K, mg, base⟩ (callK fu (L + 1) 25)) := by
  rw [callK_25]
  exact
  fn_ok (N := ["deck", "deep", "smalls", "k", "parts"]) (k := 3 * L + 2) (m := m25 fu (callK fu L)) S.f25.fu sc25 fun cdv A outer s H E hr Ck => by
    have hu := hu_of hr
    exact ss_cons (ss_set (i := 2) Ck rfl (by first | exact .inl rfl | exact .inr rfl) (se_bt cs_tuple rfl S.b_tuple bt_tuple (sa_cons (se_lc (own := [("k", 3)]) Ck (si_rng1 rfl S.b_range (sa_cons (se_call h.d17 Ck (hr.mono (by omega)) rfl (sa_cons (se_var (i := 0) rfl (by first | exact .inl rfl | exact .inr (.inl rfl) | exact .inr (.inr rfl))) (sa_cons se_int sa_nil))) sa_nil)) (blkOk_by (N := ["deck", "deep", "smalls", "k", "parts"]) (sc := defScope s25) (by decide +kernel)) (fun _ _ _ _ _ => (sg_nm (i := 3) (Ck.blk _ _ _ _ _) rfl (by first | exact .inl rfl | exact .inr rfl))) (fun _ _ _ _ _ => sts_nil) (fun _ _ _ _ _ => se_call h.d18 (Ck.blk _ _ _ _ _) (hr.mono (by omega)) rfl (sa_cons (se_var (i := 0) rfl (by first | exact .inl rfl | exact .inr (.inl rfl) | exact .inr (.inr rfl))) (sa_cons (se_lst (sa_cons se_int (sa_cons se_int (sa_cons (se_neg se_int) (sa_cons se_int (sa_cons (se_neg se_int) (sa_cons se_int (sa_cons se_int (sa_cons (se_op os_pow se_int se_int) (sa_cons (se_neg (se_op os_pow se_int se_int)) sa_nil)))))))))) sa_nil))) (by decide)) sa_nil)))
      (ss_cons (ss_set (i := 4) Ck rfl (by first | exact .inl rfl | exact .inr rfl) (se_bt cs_tuple rfl S.b_tuple bt_tuple (sa_cons (se_lc (own := [("k", 3)]) Ck (si_rng1 rfl S.b_range (sa_cons (se_if (st_cmp os_gt (se_var (i := 1) rfl (by first | exact .inl rfl | exact .inr (.inl rfl) | exact .inr (.inr rfl))) se_int) (se_call h.d17 Ck (hr.mono (by omega)) rfl (sa_cons (se_var (i := 0) rfl (by first | exact .inl rfl | exact .inr (.inl rfl) | exact .inr (.inr rfl))) (sa_cons se_int sa_nil))) se_int) sa_nil)) (blkOk_by (N := ["deck", "deep", "smalls", "k", "parts"]) (sc := defScope s25) (by decide +kernel)) (fun _ _ _ _ _ => (sg_nm (i := 3) (Ck.blk _ _ _ _ _) rfl (by first | exact .inl rfl | exact .inr rfl))) (fun _ _ _ _ _ => sts_nil) (fun _ _ _ _ _ => se_call h.d25 (Ck.blk _ _ _ _ _) (hr.mono (by omega)) rfl (sa_cons (se_var (i := 0) rfl (by first | exact .inl rfl | exact .inr (.inl rfl) | exact .inr (.inr rfl))) (sa_cons (se_op os_sub (se_var (i := 1) rfl (by first | exact .inl rfl | exact .inr (.inl rfl) | exact .inr (.inr rfl))) se_int) sa_nil))) (by decide)) sa_nil)))
      (ss_one (ss_ret (se_tup (sa_cons (se_call h.d18 Ck (hr.mono (by omega)) rfl (sa_cons (se_var (i := 0) rfl (by first | exact .inl rfl | exact .inr (.inl rfl) | exact .inr (.inr rfl))) (sa_cons (se_lst (sa_cons se_str (sa_cons se_str (sa_cons se_str (sa_cons se_str (sa_cons se_str (sa_cons se_str (sa_cons se_str sa_nil)))))))) sa_nil))) (sa_cons (se_var (i := 2) rfl (by first | exact .inl rfl | exact .inr (.inl rfl) | exact .inr (.inr rfl))) (sa_cons (se_var (i := 4) rfl (by first | exact .inl rfl | exact .inr (.inl rfl) | exact .inr (.inr rfl))) sa_nil)))))))
theorem ok26 (S : Facts K mg fa fd eC eI) (h : All P w K mg base fa fd fu L) : FnOk P w K mg base (L2.CX P w) (3 * L + 2 + 1) (fa 26) (fd 26) ["deck", "line"] (spD ⟨K, mg, base⟩ (callK fu (L + 1) 26)) := by
  rw [callK_26]
  exact
  fn_ok (N := ["deck", "line", "place", "name", "smalls", "parts", "some", "it"]) (k := 3 * L + 2) (m := m26 fu (callK fu L)) S.f26.fu sc26 fun cdv A outer s H E hr Ck => by
    have hu := hu_of hr
    exact ss_cons (ss_set (i := 2) Ck rfl (by first | exact .inl rfl | exact .inr rfl) (se_call h.d18 Ck (hr.mono (by omega)) rfl (sa_cons (se_var (i := 0) rfl (by first | exact .inl rfl | exact .inr (.inl rfl) | exact .inr (.inr rfl))) (sa_cons (se_call h.d22 Ck (hr.mono (by omega)) rfl (sa_cons (se_var (i := 1) rfl (by first | exact .inl rfl | exact .inr (.inl rfl) | exact .inr (.inr rfl))) sa_nil)) sa_nil))))
      (ss_cons (ss_asg (se_call h.d23 Ck (hr.mono (by omega)) rfl (sa_cons (se_var (i := 1) rfl (by first | exact .inl rfl | exact .inr (.inl rfl) | exact .inr (.inr rfl))) (sa_cons (se_var (i := 2) rfl (by first | exact .inl rfl | exact .inr (.inl rfl) | exact .inr (.inr rfl))) sa_nil))) (sg_tp Ck (sgs_cons (i := 3) Ck rfl (by first | exact .inl rfl | exact .inr rfl) (sgs_cons (i := 4) Ck rfl (by first | exact .inl rfl | exact .inr rfl) (sgs_cons (i := 5) Ck rfl (by first | exact .inl rfl | exact .inr rfl) sgs_nil)))))
      (ss_cons (ss_set (i := 6) Ck rfl (by first | exact .inl rfl | exact .inr rfl) (se_lst (sa_cons (se_tup (sa_cons (se_call h.d18 Ck (hr.mono (by omega)) rfl (sa_cons (se_var (i := 0) rfl (by first | exact .inl rfl | exact .inr (.inl rfl) | exact .inr (.inr rfl))) (sa_cons (se_lst (sa_cons se_str (sa_cons se_str (sa_cons se_str (sa_cons se_str sa_nil))))) sa_nil))) (sa_cons (se_var (i := 4) rfl (by first | exact .inl rfl | exact .inr (.inl rfl) | exact .inr (.inr rfl))) (sa_cons (se_var (i := 5) rfl (by first | exact .inl rfl | exact .inr (.inl rfl) | exact .inr (.inr rfl))) sa_nil)))) (sa_cons (se_tup (sa_cons (se_var (i := 3) rfl (by first | exact .inl rfl | exact .inr (.inl rfl) | exact .inr (.inr rfl))) (sa_cons (se_op os_add (se_var (i := 4) rfl (by first | exact .inl rfl | exact .inr (.inl rfl) | exact .inr (.inr rfl))) (se_tup (sa_cons se_int sa_nil))) (sa_cons (se_var (i := 5) rfl (by first | exact .inl rfl | exact .inr (.inl rfl) | exact .inr (.inr rfl))) sa_nil)))) (sa_cons (se_tup (sa_cons (se_var (i := 3) rfl (by first | exact .inl rfl | exact .inr (.inl rfl) | exact .inr (.inr rfl))) (sa_cons (se_sl (se_var (i := 4) rfl (by first | exact .inl rfl | exact .inr (.inl rfl) | exact .inr (.inr rfl))) (so_some se_int) so_none) (sa_cons (se_var (i := 5) rfl (by first | exact .inl rfl | exact .inr (.inl rfl) | exact .inr (.inr rfl))) sa_nil)))) (sa_cons (se_tup (sa_cons (se_var (i := 3) rfl (by first | exact .inl rfl | exact .inr (.inl rfl) | exact .inr (.inr rfl))) (sa_cons (se_bt cs_tuple rfl S.b_tuple bt_tuple (sa_cons (se_lc (own := [("it", 7)]) Ck (si_val (se_var (i := 4) rfl (by first | exact .inl rfl | exact .inr (.inl rfl) | exact .inr (.inr rfl)))) (blkOk_by (N := ["deck", "line", "place", "name", "smalls", "parts", "some", "it"]) (sc := defScope s26) (by decide +kernel)) (fun _ _ _ _ _ => (sg_nm (i := 7) (Ck.blk _ _ _ _ _) rfl (by first | exact .inl rfl | exact .inr rfl))) (fun _ _ _ _ _ => sts_nil) (fun _ _ _ _ _ => se_op os_sub (se_op os_add (se_var (i := 7) rfl (by first | exact .inl rfl | exact .inr (.inl rfl) | exact .inr (.inr rfl))) (se_call h.d17 (Ck.blk _ _ _ _ _) (hr.mono (by omega)) rfl (sa_cons (se_var (i := 0) rfl (by first | exact .inl rfl | exact .inr (.inl rfl) | exact .inr (.inr rfl))) (sa_cons se_int sa_nil)))) se_int) (by decide)) sa_nil)) (sa_cons (se_var (i := 5) rfl (by first | exact .inl rfl | exact .inr (.inl rfl) | exact .inr (.inr rfl))) sa_nil)))) (sa_cons (se_tup (sa_cons (se_var (i := 3) rfl (by first | exact .inl rfl | exact .inr (.inl rfl) | exact .inr (.inr rfl))) (sa_cons (se_var (i := 4) rfl (by first | exact .inl rfl | exact .inr (.inl rfl) | exact .inr (.inr rfl))) (sa_cons (se_st (se_var (i := 5) rfl (by first | exact .inl rfl | exact .inr (.inl rfl) | exact .inr (.inr rfl))) so_none so_none (so_some (se_neg se_int))) sa_nil)))) (sa_cons (se_tup (sa_cons (se_var (i := 3) rfl (by first | exact .inl rfl | exact .inr (.inl rfl) | exact .inr (.inr rfl))) (sa_cons (se_var (i := 4) rfl (by first | exact .inl rfl | exact .inr (.inl rfl) | exact .inr (.inr rfl))) (sa_cons (se_op os_add (se_var (i := 5) rfl (by first | exact .inl rfl | exact .inr (.inl rfl) | exact .inr (.inr rfl))) (se_tup (sa_cons (se_tup (sa_cons se_str (sa_cons (se_tup sa_nil) (sa_cons (se_tup sa_nil) sa_nil)))) sa_nil))) sa_nil)))) (sa_cons (se_tup (sa_cons (se_var (i := 3) rfl (by first | exact .inl rfl | exact .inr (.inl rfl) | exact .inr (.inr rfl))) (sa_cons (se_var (i := 4) rfl (by first | exact .inl rfl | exact .inr (.inl rfl) | exact .inr (.inr rfl))) (sa_cons (se_sl (se_var (i := 5) rfl (by first | exact .inl rfl | exact .inr (.inl rfl) | exact .inr (.inr rfl))) (so_some se_int) so_none) sa_nil)))) (sa_cons (se_tup (sa_cons (se_var (i := 3) rfl (by first | exact .inl rfl | exact .inr (.inl rfl) | exact .inr (.inr rfl))) (sa_cons (se_st (se_var (i := 4) rfl (by first | exact .inl rfl | exact .inr (.inl rfl) | exact .inr (.inr rfl))) so_none so_none (so_some (se_neg se_int))) (sa_cons (se_var (i := 5) rfl (by first | exact .inl rfl | exact .inr (.inl rfl) | exact .inr (.inr rfl))) sa_nil)))) (sa_cons (se_tup (sa_cons se_str (sa_cons (se_tup sa_nil) (sa_cons (se_tup (sa_cons (se_tup (sa_cons (se_var (i := 3) rfl (by first | exact .inl rfl | exact .inr (.inl rfl) | exact .inr (.inr rfl))) (sa_cons (se_var (i := 4) rfl (by first | exact .inl rfl | exact .inr (.inl rfl) | exact .inr (.inr rfl))) (sa_cons (se_var (i := 5) rfl (by first | exact .inl rfl | exact .inr (.inl rfl) | exact .inr (.inr rfl))) sa_nil)))) sa_nil)) sa_nil)))) (sa_cons (se_call h.d25 Ck (hr.mono (by omega)) rfl (sa_cons (se_var (i := 0) rfl (by first | exact .inl rfl | exact .inr (.inl rfl) | exact .inr (.inr rfl))) (sa_cons se_int sa_nil))) sa_nil))))))))))))
      (ss_one (ss_ret (se_call h.d24 Ck (hr.mono (by omega)) rfl (sa_cons (se_var (i := 1) rfl (by first | exact .inl rfl | exact .inr (.inl rfl) | exact .inr (.inr rfl))) (sa_cons (se_var (i := 2) rfl (by first | exact .inl rfl | exact .inr (.inl rfl) | exact .inr (.inr rfl))) (sa_cons (se_call h.d18 Ck (hr.mono (by omega)) rfl (sa_cons (se_var (i := 0) rfl (by first | exact .inl rfl | exact .inr (.inl rfl) | exact .inr (.inr rfl))) (sa_cons (se_var (i := 6) rfl (by first | exact .inl rfl | exact .inr (.inl rfl) | exact .inr (.inr rfl))) sa_nil))) sa_nil))))))))
theorem ok27 (S : Facts K mg fa fd eC eI) (h : All P w K mg base fa fd fu L) : FnOk P w K mg base (L2.CX P w) (3 * L + 2 + 1) (fa 27) (fd 27) ["one", "other"] (spD ⟨K, mg, base⟩ (callK fu (L + 1) 27)) := by
  rw [callK_27]
  exact
  fn_ok (N := ["one", "other", "sizes"]) (k := 3 * L + 2) (m := m27 fu (callK fu L)) S.f27.fu sc27 fun cdv A outer s H E hr Ck => by
    have hu := hu_of hr
    exact ss_cons (ss_set (i := 2) Ck rfl (by first | exact .inl rfl | exact .inr rfl) (se_tup (sa_cons (se_call h.d21 Ck (hr.mono (by omega)) rfl (sa_cons (se_var (i := 0) rfl (by first | exact .inl rfl | exact .inr (.inl rfl) | exact .inr (.inr rfl))) sa_nil)) (sa_cons (se_call h.d21 Ck (hr.mono (by omega)) rfl (sa_cons (se_var (i := 1) rfl (by first | exact .inl rfl | exact .inr (.inl rfl) | exact .inr (.inr rfl))) sa_nil)) sa_nil))))
      (ss_cons (ss_if (st_cmp (os_ne hu) (se_ix (se_var (i := 2) rfl (by first | exact .inl rfl | exact .inr (.inl rfl) | exact .inr (.inr rfl))) se_int) (se_ix (se_var (i := 2) rfl (by first | exact .inl rfl | exact .inr (.inl rfl) | exact .inr (.inr rfl))) se_int)) (ss_one (ss_ret (se_if (st_cmp (os_lt hu) (se_ix (se_var (i := 2) rfl (by first | exact .inl rfl | exact .inr (.inl rfl) | exact .inr (.inr rfl))) se_int) (se_ix (se_var (i := 2) rfl (by first | exact .inl rfl | exact .inr (.inl rfl) | exact .inr (.inr rfl))) se_int)) (se_neg se_int) se_int))) ss_nil)
      (ss_one (ss_ret (se_call h.d28 Ck (hr.mono (by omega)) rfl (sa_cons (se_var (i := 0) rfl (by first | exact .inl rfl | exact .inr (.inl rfl) | exact .inr (.inr rfl))) (sa_cons (se_var (i := 1) rfl (by first | exact .inl rfl | exact .inr (.inl rfl) | exact .inr (.inr rfl))) sa_nil))))))
theorem ok28 (S : Facts K mg fa fd eC eI) (h : All P w K mg base fa fd fu L) : FnOk P w K mg base (L2.CX P w) (3 * L + 2 + 1) (fa 28) (fd 28) ["one", "other"] (spD ⟨K, mg, base⟩ (callK fu (L + 1) 28)) := by
  rw [callK_28]
  exact
  fn_ok (N := ["one", "other", "a", "b", "way"]) (k := 3 * L + 2) (m := m28 fu (callK fu L)) S.f28.fu sc28 fun cdv A outer s H E hr Ck => by
    have hu := hu_of hr
    exact ss_cons (ss_if (st_not (st_val (se_bi cs_isi rfl S.b_isinstance bt_isinstance (sa_cons (se_var (i := 0) rfl (by first | exact .inl rfl | exact .inr (.inl rfl) | exact .inr (.inr rfl))) (sa_cons (se_ty (n := "tuple") rfl S.b_tuple bt_tuple) sa_nil))))) (ss_one (ss_ret (se_if (st_cmp (os_lt hu) (se_var (i := 0) rfl (by first | exact .inl rfl | exact .inr (.inl rfl) | exact .inr (.inr rfl))) (se_var (i := 1) rfl (by first | exact .inl rfl | exact .inr (.inl rfl) | exact .inr (.inr rfl)))) (se_neg se_int) (se_bt cs_int rfl S.b_int bt_int (sa_cons (se_cmp os_gt (se_var (i := 0) rfl (by first | exact .inl rfl | exact .inr (.inl rfl) | exact .inr (.inr rfl))) (se_var (i := 1) rfl (by first | exact .inl rfl | exact .inr (.inl rfl) | exact .inr (.inr rfl)))) sa_nil))))) ss_nil)
      (ss_cons (ss_for Ck (si_zp rfl S.b_zip (sa_cons (se_var (i := 0) rfl (by first | exact .inl rfl | exact .inr (.inl rfl) | exact .inr (.inr rfl))) (sa_cons (se_var (i := 1) rfl (by first | exact .inl rfl | exact .inr (.inl rfl) | exact .inr (.inr rfl))) sa_nil))) (sg_tp Ck (sgs_cons (i := 2) Ck rfl (by first | exact .inl rfl | exact .inr rfl) (sgs_cons (i := 3) Ck rfl (by first | exact .inl rfl | exact .inr rfl) sgs_nil))) (ss_cons (ss_set (i := 4) Ck rfl (by first | exact .inl rfl | exact .inr rfl) (se_call h.d28 Ck (hr.mono (by omega)) rfl (sa_cons (se_var (i := 2) rfl (by first | exact .inl rfl | exact .inr (.inl rfl) | exact .inr (.inr rfl))) (sa_cons (se_var (i := 3) rfl (by first | exact .inl rfl | exact .inr (.inl rfl) | exact .inr (.inr rfl))) sa_nil))))
      (ss_one (ss_if (st_cmp (os_ne hu) (se_var (i := 4) rfl (by first | exact .inl rfl | exact .inr (.inl rfl) | exact .inr (.inr rfl))) se_int) (ss_one (ss_ret (se_var (i := 4) rfl (by first | exact .inl rfl | exact .inr (.inl rfl) | exact .inr (.inr rfl))))) ss_nil))))
      (ss_one (ss_ret (se_if (st_cmp (os_lt hu) (se_bi cs_len rfl S.b_len bt_len (sa_cons (se_var (i := 0) rfl (by first | exact .inl rfl | exact .inr (.inl rfl) | exact .inr (.inr rfl))) sa_nil)) (se_bi cs_len rfl S.b_len bt_len (sa_cons (se_var (i := 1) rfl (by first | exact .inl rfl | exact .inr (.inl rfl) | exact .inr (.inr rfl))) sa_nil))) (se_neg se_int) (se_bt cs_int rfl S.b_int bt_int (sa_cons (se_cmp os_gt (se_bi cs_len rfl S.b_len bt_len (sa_cons (se_var (i := 0) rfl (by first | exact .inl rfl | exact .inr (.inl rfl) | exact .inr (.inr rfl))) sa_nil)) (se_bi cs_len rfl S.b_len bt_len (sa_cons (se_var (i := 1) rfl (by first | exact .inl rfl | exact .inr (.inl rfl) | exact .inr (.inr rfl))) sa_nil))) sa_nil))))))
theorem ok30 (S : Facts K mg fa fd eC eI) (h : All P w K mg base fa fd fu L) {lc lP : Addr} (hcode : (fd 30).code = .ref lc) (TB : LamX.TabB base mg lc lP) : FnOk P w K mg base (L2.CX P w) (3 * L + 2 + 1) (fa 30) (fd 30) ["deck"] (spD ⟨K, mg, base⟩ (callK fu (L + 1) 30)) := by
  rw [callK_30]
  exact
  fn_okC (N := ["deck", "turn", "first", "lines", "go", "k", "one", "other", "way", "place", "near", "far", "bad", "odd", "heard"]) (k := 3 * L + 2) (m := m30 fu (callK fu L)) S.f30.fu sc30 fun A outer s H E hr Ck => by
    have hu := hu_of hr
    obtain ⟨oc, od, kV, doc, pm, an, cdv, ct, osl, efd, lk, hcd⟩ := S.f30.fu.ex
    have lam : LamOk (dX P w K mg base ["deck", "turn", "first", "lines", "go", "k", "one", "other", "way", "place", "near", "far", "bad", "odd", "heard"] "_law_is_all_right" s30 (fa 30) (fd 30).code A outer s H E) lc lP := lamOk_def (by decide) (by decide) S.f30.mgf lk hcode TB A outer s H E (by rfl)
    exact ss_cons (ss_for Ck (si_rng1 rfl S.b_range (sa_cons se_int sa_nil)) (sg_nm (i := 1) Ck rfl (by first | exact .inl rfl | exact .inr rfl)) (ss_cons (ss_set (i := 2) Ck rfl (by first | exact .inl rfl | exact .inr rfl) (se_call h.d25 Ck (hr.mono (by omega)) rfl (sa_cons (se_var (i := 0) rfl (by first | exact .inl rfl | exact .inr (.inl rfl) | exact .inr (.inr rfl))) (sa_cons se_int sa_nil))))
      (ss_cons (ss_set (i := 3) Ck rfl (by first | exact .inl rfl | exact .inr rfl) (se_lst (sa_cons (se_var (i := 2) rfl (by first | exact .inl rfl | exact .inr (.inl rfl) | exact .inr (.inr rfl))) (sa_cons (se_call h.d25 Ck (hr.mono (by omega)) rfl (sa_cons (se_var (i := 0) rfl (by first | exact .inl rfl | exact .inr (.inl rfl) | exact .inr (.inr rfl))) (sa_cons se_int sa_nil))) sa_nil))))
      (ss_cons (ss_expr (se_mt PySem.F.slot_list_extend PySem.F.type_list_extend ms_ext (se_var (i := 3) rfl (by first | exact .inl rfl | exact .inr (.inl rfl) | exact .inr (.inr rfl))) (sa_cons (se_lc (own := [("go", 4)]) Ck (si_rng1 rfl S.b_range (sa_cons se_int sa_nil)) (blkOk_by (N := ["deck", "turn", "first", "lines", "go", "k", "one", "other", "way", "place", "near", "far", "bad", "odd", "heard"]) (sc := defScope s30) (by decide +kernel)) (fun _ _ _ _ _ => (sg_nm (i := 4) (Ck.blk _ _ _ _ _) rfl (by first | exact .inl rfl | exact .inr rfl))) (fun _ _ _ _ _ => sts_nil) (fun _ _ _ _ _ => se_call h.d26 (Ck.blk _ _ _ _ _) (hr.mono (by omega)) rfl (sa_cons (se_var (i := 0) rfl (by first | exact .inl rfl | exact .inr (.inl rfl) | exact .inr (.inr rfl))) (sa_cons (se_var (i := 2) rfl (by first | exact .inl rfl | exact .inr (.inl rfl) | exact .inr (.inr rfl))) sa_nil))) (by decide)) sa_nil)))
      (ss_cons (ss_expr (se_mt PySem.F.slot_list_append PySem.F.type_list_append ms_app (se_var (i := 3) rfl (by first | exact .inl rfl | exact .inr (.inl rfl) | exact .inr (.inr rfl))) (sa_cons (se_call h.d26 Ck (hr.mono (by omega)) rfl (sa_cons (se_var (i := 0) rfl (by first | exact .inl rfl | exact .inr (.inl rfl) | exact .inr (.inr rfl))) (sa_cons (se_ix (se_var (i := 3) rfl (by first | exact .inl rfl | exact .inr (.inl rfl) | exact .inr (.inr rfl))) (se_neg se_int)) sa_nil))) sa_nil)))
      (ss_cons (ss_for Ck (si_en rfl S.b_enumerate (sa_cons (se_var (i := 3) rfl (by first | exact .inl rfl | exact .inr (.inl rfl) | exact .inr (.inr rfl))) sa_nil)) (sg_tp Ck (sgs_cons (i := 5) Ck rfl (by first | exact .inl rfl | exact .inr rfl) (sgs_cons (i := 6) Ck rfl (by first | exact .inl rfl | exact .inr rfl) sgs_nil))) (ss_cons (ss_if (st_not (st_val (se_call h.d20 Ck (hr.mono (by omega)) rfl (sa_cons (se_lst (sa_cons (se_call h.d10 Ck (hr.mono (by omega)) rfl (sa_cons (se_var (i := 6) rfl (by first | exact .inl rfl | exact .inr (.inl rfl) | exact .inr (.inr rfl))) sa_nil)) (sa_cons (se_callK0 (is := [0]) (ks := ["line"]) h.d10 Ck (hr.mono (by omega)) rfl (fun _ _ _ _ _ _ us ws h1 h2 => match us, ws, h1, h2 with | [], [_], _, _ => rfl) (sk_cons (se_var (i := 6) rfl (by first | exact .inl rfl | exact .inr (.inl rfl) | exact .inr (.inr rfl))) sk_nil)) sa_nil))) (sa_cons (se_op os_mul (se_lst (sa_cons (se_call h.d21 Ck (hr.mono (by omega)) rfl (sa_cons (se_var (i := 6) rfl (by first | exact .inl rfl | exact .inr (.inl rfl) | exact .inr (.inr rfl))) sa_nil)) sa_nil)) se_int) sa_nil))))) (ss_one (ss_ret se_bl)) ss_nil)
      (ss_one (ss_for Ck (si_val (se_sl (se_var (i := 3) rfl (by first | exact .inl rfl | exact .inr (.inl rfl) | exact .inr (.inr rfl))) (so_some (se_var (i := 5) rfl (by first | exact .inl rfl | exact .inr (.inl rfl) | exact .inr (.inr rfl)))) so_none)) (sg_nm (i := 7) Ck rfl (by first | exact .inl rfl | exact .inr rfl)) (ss_cons (ss_set (i := 8) Ck rfl (by first | exact .inl rfl | exact .inr rfl) (se_call h.d27 Ck (hr.mono (by omega)) rfl (sa_cons (se_var (i := 6) rfl (by first | exact .inl rfl | exact .inr (.inl rfl) | exact .inr (.inr rfl))) (sa_cons (se_var (i := 7) rfl (by first | exact .inl rfl | exact .inr (.inl rfl) | exact .inr (.inr rfl))) sa_nil))))
      (ss_one (ss_if (st_not (st_val (se_call h.d20 Ck (hr.mono (by omega)) rfl (sa_cons (se_lst (sa_cons (se_call h.d11 Ck (hr.mono (by omega)) rfl (sa_cons (se_var (i := 6) rfl (by first | exact .inl rfl | exact .inr (.inl rfl) | exact .inr (.inr rfl))) (sa_cons (se_var (i := 7) rfl (by first | exact .inl rfl | exact .inr (.inl rfl) | exact .inr (.inr rfl))) sa_nil))) (sa_cons (se_callK0 (is := [1, 0]) (ks := ["other", "one"]) h.d11 Ck (hr.mono (by omega)) rfl (fun _ _ _ _ _ _ us ws h1 h2 => match us, ws, h1, h2 with | [], [_, _], _, _ => rfl) (sk_cons (se_var (i := 6) rfl (by first | exact .inl rfl | exact .inr (.inl rfl) | exact .inr (.inr rfl))) (sk_cons (se_var (i := 7) rfl (by first | exact .inl rfl | exact .inr (.inl rfl) | exact .inr (.inr rfl))) sk_nil))) sa_nil))) (sa_cons (se_lst (sa_cons (se_cmp (os_lt hu) (se_var (i := 8) rfl (by first | exact .inl rfl | exact .inr (.inl rfl) | exact .inr (.inr rfl))) se_int) (sa_cons (se_cmp os_gt (se_var (i := 8) rfl (by first | exact .inl rfl | exact .inr (.inl rfl) | exact .inr (.inr rfl))) se_int) sa_nil))) sa_nil))))) (ss_one (ss_ret se_bl)) ss_nil)))))))
      (ss_cons (ss_asg (se_sl (se_call h.d19 Ck (hr.mono (by omega)) rfl (sa_cons (se_var (i := 0) rfl (by first | exact .inl rfl | exact .inr (.inl rfl) | exact .inr (.inr rfl))) (sa_cons (se_var (i := 3) rfl (by first | exact .inl rfl | exact .inr (.inl rfl) | exact .inr (.inr rfl))) sa_nil))) so_none (so_some se_int)) (sg_tp Ck (sgs_cons (i := 6) Ck rfl (by first | exact .inl rfl | exact .inr rfl) (sgs_cons (i := 7) Ck rfl (by first | exact .inl rfl | exact .inr rfl) sgs_nil))))
      (ss_cons (ss_asg (se_if (st_cmp (os_lt hu) (se_call h.d27 Ck (hr.mono (by omega)) rfl (sa_cons (se_var (i := 6) rfl (by first | exact .inl rfl | exact .inr (.inl rfl) | exact .inr (.inr rfl))) (sa_cons (se_var (i := 7) rfl (by first | exact .inl rfl | exact .inr (.inl rfl) | exact .inr (.inr rfl))) sa_nil))) se_int) (se_tup (sa_cons (se_var (i := 6) rfl (by first | exact .inl rfl | exact .inr (.inl rfl) | exact .inr (.inr rfl))) (sa_cons (se_var (i := 7) rfl (by first | exact .inl rfl | exact .inr (.inl rfl) | exact .inr (.inr rfl))) sa_nil))) (se_tup (sa_cons (se_var (i := 7) rfl (by first | exact .inl rfl | exact .inr (.inl rfl) | exact .inr (.inr rfl))) (sa_cons (se_var (i := 6) rfl (by first | exact .inl rfl | exact .inr (.inl rfl) | exact .inr (.inr rfl))) sa_nil)))) (sg_tp Ck (sgs_cons (i := 6) Ck rfl (by first | exact .inl rfl | exact .inr rfl) (sgs_cons (i := 7) Ck rfl (by first | exact .inl rfl | exact .inr rfl) sgs_nil))))
      (ss_cons (ss_set (i := 9) Ck rfl (by first | exact .inl rfl | exact .inr rfl) (se_call h.d18 Ck (hr.mono (by omega)) rfl (sa_cons (se_var (i := 0) rfl (by first | exact .inl rfl | exact .inr (.inl rfl) | exact .inr (.inr rfl))) (sa_cons (se_call h.d22 Ck (hr.mono (by omega)) rfl (sa_cons (se_var (i := 2) rfl (by first | exact .inl rfl | exact .inr (.inl rfl) | exact .inr (.inr rfl))) sa_nil)) sa_nil))))
      (ss_cons (ss_par (i := 10) (j := 11) Ck rfl rfl (by decide) rfl rfl (sa_cons (se_call h.d15 Ck (hr.mono (by omega)) rfl (sa_cons (se_var (i := 2) rfl (by first | exact .inl rfl | exact .inr (.inl rfl) | exact .inr (.inr rfl))) (sa_cons (se_var (i := 9) rfl (by first | exact .inl rfl | exact .inr (.inl rfl) | exact .inr (.inr rfl))) (sa_cons (se_var (i := 6) rfl (by first | exact .inl rfl | exact .inr (.inl rfl) | exact .inr (.inr rfl))) sa_nil)))) (sa_cons (se_callK0 (is := [2, 1, 0]) (ks := ["part", "place", "line"]) h.d15 Ck (hr.mono (by omega)) rfl (fun _ _ _ _ _ _ us ws h1 h2 => match us, ws, h1, h2 with | [], [_, _, _], _, _ => rfl) (sk_cons (se_var (i := 7) rfl (by first | exact .inl rfl | exact .inr (.inl rfl) | exact .inr (.inr rfl))) (sk_cons (se_var (i := 9) rfl (by first | exact .inl rfl | exact .inr (.inl rfl) | exact .inr (.inr rfl))) (sk_cons (se_var (i := 2) rfl (by first | exact .inl rfl | exact .inr (.inl rfl) | exact .inr (.inr rfl))) sk_nil)))) sa_nil)) (by with_unfolding_all rfl))
      (ss_cons (ss_if (st_w (sw_or (st_not (st_val (se_call h.d20 Ck (hr.mono (by omega)) rfl (sa_cons (se_lst (sa_cons (se_var (i := 10) rfl (by first | exact .inl rfl | exact .inr (.inl rfl) | exact .inr (.inr rfl))) (sa_cons (se_var (i := 11) rfl (by first | exact .inl rfl | exact .inr (.inl rfl) | exact .inr (.inr rfl))) sa_nil))) (sa_cons (se_lst (sa_cons (se_call h.d24 Ck (hr.mono (by omega)) rfl (sa_cons (se_var (i := 2) rfl (by first | exact .inl rfl | exact .inr (.inl rfl) | exact .inr (.inr rfl))) (sa_cons (se_var (i := 9) rfl (by first | exact .inl rfl | exact .inr (.inl rfl) | exact .inr (.inr rfl))) (sa_cons (se_var (i := 6) rfl (by first | exact .inl rfl | exact .inr (.inl rfl) | exact .inr (.inr rfl))) sa_nil)))) (sa_cons (se_call h.d24 Ck (hr.mono (by omega)) rfl (sa_cons (se_var (i := 2) rfl (by first | exact .inl rfl | exact .inr (.inl rfl) | exact .inr (.inr rfl))) (sa_cons (se_var (i := 9) rfl (by first | exact .inl rfl | exact .inr (.inl rfl) | exact .inr (.inr rfl))) (sa_cons (se_var (i := 7) rfl (by first | exact .inl rfl | exact .inr (.inl rfl) | exact .inr (.inr rfl))) sa_nil)))) sa_nil))) sa_nil))))) (sw_or1 (st_not (st_val (se_call h.d20 Ck (hr.mono (by omega)) rfl (sa_cons (se_call h.d11 Ck (hr.mono (by omega)) rfl (sa_cons (se_var (i := 10) rfl (by first | exact .inl rfl | exact .inr (.inl rfl) | exact .inr (.inr rfl))) (sa_cons (se_var (i := 11) rfl (by first | exact .inl rfl | exact .inr (.inl rfl) | exact .inr (.inr rfl))) sa_nil))) (sa_cons (se_cmp (os_ne hu) (se_var (i := 6) rfl (by first | exact .inl rfl | exact .inr (.inl rfl) | exact .inr (.inr rfl))) (se_var (i := 7) rfl (by first | exact .inl rfl | exact .inr (.inl rfl) | exact .inr (.inr rfl)))) sa_nil)))))))) (ss_one (ss_ret se_bl)) ss_nil)
      (ss_cons (ss_asg (se_tup (sa_cons (se_call h.d18 Ck (hr.mono (by omega)) rfl (sa_cons (se_var (i := 0) rfl (by first | exact .inl rfl | exact .inr (.inl rfl) | exact .inr (.inr rfl))) (sa_cons (se_lst (sa_cons se_non (sa_cons (se_tup sa_nil) (sa_cons (se_sl (se_var (i := 2) rfl (by first | exact .inl rfl | exact .inr (.inl rfl) | exact .inr (.inr rfl))) so_none (so_some se_int)) (sa_cons (se_bt cs_list rfl S.b_list bt_list (sa_cons (se_var (i := 2) rfl (by first | exact .inl rfl | exact .inr (.inl rfl) | exact .inr (.inr rfl))) sa_nil)) (sa_cons (se_op os_add (se_tup (sa_cons se_str sa_nil)) (se_sl (se_var (i := 2) rfl (by first | exact .inl rfl | exact .inr (.inl rfl) | exact .inr (.inr rfl))) (so_some se_int) so_none)) (sa_cons (se_op os_add (se_tup (sa_cons se_str sa_nil)) (se_sl (se_var (i := 2) rfl (by first | exact .inl rfl | exact .inr (.inl rfl) | exact .inr (.inr rfl))) (so_some se_int) so_none)) (sa_cons (se_tup (sa_cons (se_ix (se_var (i := 2) rfl (by first | exact .inl rfl | exact .inr (.inl rfl) | exact .inr (.inr rfl))) se_int) (sa_cons (se_lst (sa_cons se_int sa_nil)) (sa_cons (se_ix (se_var (i := 2) rfl (by first | exact .inl rfl | exact .inr (.inl rfl) | exact .inr (.inr rfl))) se_int) sa_nil)))) (sa_cons (se_tup (sa_cons (se_ix (se_var (i := 2) rfl (by first | exact .inl rfl | exact .inr (.inl rfl) | exact .inr (.inr rfl))) se_int) (sa_cons (se_tup (sa_cons se_bl sa_nil)) (sa_cons (se_ix (se_var (i := 2) rfl (by first | exact .inl rfl | exact .inr (.inl rfl) | exact .inr (.inr rfl))) se_int) sa_nil)))) (sa_cons (se_op os_add (se_sl (se_var (i := 2) rfl (by first | exact .inl rfl | exact .inr (.inl rfl) | exact .inr (.inr rfl))) so_none (so_some se_int)) (se_tup (sa_cons se_non sa_nil))) (sa_cons (se_op os_add (se_sl (se_var (i := 2) rfl (by first | exact .inl rfl | exact .inr (.inl rfl) | exact .inr (.inr rfl))) so_none (so_some se_int)) (se_tup (sa_cons (se_tup (sa_cons (se_var (i := 2) rfl (by first | exact .inl rfl | exact .inr (.inl rfl) | exact .inr (.inr rfl))) (sa_cons (se_tup sa_nil) sa_nil))) sa_nil))) (sa_cons (se_op os_add (se_var (i := 2) rfl (by first | exact .inl rfl | exact .inr (.inl rfl) | exact .inr (.inr rfl))) (se_tup (sa_cons (se_tup sa_nil) sa_nil))) (sa_cons (se_tup (sa_cons se_str (sa_cons (se_tup sa_nil) (sa_cons (se_tup sa_nil) sa_nil)))) (sa_cons (se_tup (sa_cons se_int (sa_cons (se_tup sa_nil) (sa_cons (se_tup sa_nil) sa_nil)))) sa_nil)))))))))))))) sa_nil))) (sa_cons (se_call h.d18 Ck (hr.mono (by omega)) rfl (sa_cons (se_var (i := 0) rfl (by first | exact .inl rfl | exact .inr (.inl rfl) | exact .inr (.inr rfl))) (sa_cons (se_lst (sa_cons se_non (sa_cons se_str (sa_cons se_int (sa_cons (se_tup (sa_cons se_str (sa_cons (se_tup sa_nil) (sa_cons (se_lst (sa_cons (se_var (i := 2) rfl (by first | exact .inl rfl | exact .inr (.inl rfl) | exact .inr (.inr rfl))) sa_nil)) sa_nil)))) (sa_cons (se_tup (sa_cons se_str (sa_cons (se_tup (sa_cons se_str sa_nil)) (sa_cons (se_tup sa_nil) sa_nil)))) sa_nil)))))) sa_nil))) sa_nil))) (sg_tp Ck (sgs_cons (i := 12) Ck rfl (by first | exact .inl rfl | exact .inr rfl) (sgs_cons (i := 13) Ck rfl (by first | exact .inl rfl | exact .inr rfl) sgs_nil))))
      (ss_cons (ss_set (i := 14) Ck rfl (by first | exact .inl rfl | exact .inr rfl) (se_lst (sa_cons (se_heard (x := "_law_heard") (a := "call") (cn := "BadLine") (told := "told") (line := "line") (k := 3 * L) Ck rfl S.f29.mgf S.f29.fu S.f29.bd sc29 rfl (.inl rfl) S.bad (fun _ => heard_gives S.bad S.self S.work S.kit S.b_isinstance hd_scope (fun _ => rfl) (fun _ => rfl) (by decide) (by decide) (by decide) (by decide)) lam (hr.mono (by omega)) (LamX.lamS_by (sc := defScope s30) (by decide +kernel)) (hbind := fun _ _ _ _ _ => rfl) (he := fun A2 outer2 s2 H2 E2 f2 c2 hr2 Ck2 => by exact se_call h.d10 Ck2 hr2 rfl (sa_cons (se_var (i := 12) rfl (by first | exact .inl rfl | exact .inr (.inl rfl) | exact .inr (.inr rfl))) sa_nil))) sa_nil)))
      (ss_cons (ss_expr (se_mt PySem.F.slot_list_append PySem.F.type_list_append ms_app (se_var (i := 14) rfl (by first | exact .inl rfl | exact .inr (.inl rfl) | exact .inr (.inr rfl))) (sa_cons (se_heard (x := "_law_heard") (a := "call") (cn := "BadLine") (told := "told") (line := "line") (k := 3 * L) Ck rfl S.f29.mgf S.f29.fu S.f29.bd sc29 rfl (.inl rfl) S.bad (fun _ => heard_gives S.bad S.self S.work S.kit S.b_isinstance hd_scope (fun _ => rfl) (fun _ => rfl) (by decide) (by decide) (by decide) (by decide)) lam (hr.mono (by omega)) (LamX.lamS_by (sc := defScope s30) (by decide +kernel)) (hbind := fun _ _ _ _ _ => rfl) (he := fun A2 outer2 s2 H2 E2 f2 c2 hr2 Ck2 => by exact se_call h.d11 Ck2 hr2 rfl (sa_cons (se_var (i := 12) rfl (by first | exact .inl rfl | exact .inr (.inl rfl) | exact .inr (.inr rfl))) (sa_cons (se_var (i := 13) rfl (by first | exact .inl rfl | exact .inr (.inl rfl) | exact .inr (.inr rfl))) sa_nil)))) sa_nil)))
      (ss_cons (ss_expr (se_mt PySem.F.slot_list_append PySem.F.type_list_append ms_app (se_var (i := 14) rfl (by first | exact .inl rfl | exact .inr (.inl rfl) | exact .inr (.inr rfl))) (sa_cons (se_heard (x := "_law_heard") (a := "call") (cn := "BadLine") (told := "told") (line := "line") (k := 3 * L) Ck rfl S.f29.mgf S.f29.fu S.f29.bd sc29 rfl (.inl rfl) S.bad (fun _ => heard_gives S.bad S.self S.work S.kit S.b_isinstance hd_scope (fun _ => rfl) (fun _ => rfl) (by decide) (by decide) (by decide) (by decide)) lam (hr.mono (by omega)) (LamX.lamS_by (sc := defScope s30) (by decide +kernel)) (hbind := fun _ _ _ _ _ => rfl) (he := fun A2 outer2 s2 H2 E2 f2 c2 hr2 Ck2 => by exact se_callK0 (is := [1, 0]) (ks := ["other", "one"]) h.d11 Ck2 hr2 rfl (fun _ _ _ _ _ _ us ws h1 h2 => match us, ws, h1, h2 with | [], [_, _], _, _ => rfl) (sk_cons (se_var (i := 13) rfl (by first | exact .inl rfl | exact .inr (.inl rfl) | exact .inr (.inr rfl))) (sk_cons (se_var (i := 2) rfl (by first | exact .inl rfl | exact .inr (.inl rfl) | exact .inr (.inr rfl))) sk_nil)))) sa_nil)))
      (ss_cons (ss_expr (se_mt PySem.F.slot_list_append PySem.F.type_list_append ms_app (se_var (i := 14) rfl (by first | exact .inl rfl | exact .inr (.inl rfl) | exact .inr (.inr rfl))) (sa_cons (se_heard (x := "_law_heard") (a := "call") (cn := "BadLine") (told := "told") (line := "line") (k := 3 * L) Ck rfl S.f29.mgf S.f29.fu S.f29.bd sc29 rfl (.inl rfl) S.bad (fun _ => heard_gives S.bad S.self S.work S.kit S.b_isinstance hd_scope (fun _ => rfl) (fun _ => rfl) (by decide) (by decide) (by decide) (by decide)) lam (hr.mono (by omega)) (LamX.lamS_by (sc := defScope s30) (by decide +kernel)) (hbind := fun _ _ _ _ _ => rfl) (he := fun A2 outer2 s2 H2 E2 f2 c2 hr2 Ck2 => by exact se_call h.d11 Ck2 hr2 rfl (sa_cons (se_var (i := 13) rfl (by first | exact .inl rfl | exact .inr (.inl rfl) | exact .inr (.inr rfl))) (sa_cons (se_var (i := 2) rfl (by first | exact .inl rfl | exact .inr (.inl rfl) | exact .inr (.inr rfl))) sa_nil)))) sa_nil)))
      (ss_one (ss_if (st_not (st_val (se_call h.d20 Ck (hr.mono (by omega)) rfl (sa_cons (se_var (i := 14) rfl (by first | exact .inl rfl | exact .inr (.inl rfl) | exact .inr (.inr rfl))) (sa_cons (se_lst (sa_cons (se_tup (sa_cons se_str (sa_cons (se_var (i := 12) rfl (by first | exact .inl rfl | exact .inr (.inl rfl) | exact .inr (.inr rfl))) (sa_cons se_bl sa_nil)))) (sa_cons (se_tup (sa_cons se_str (sa_cons (se_var (i := 12) rfl (by first | exact .inl rfl | exact .inr (.inl rfl) | exact .inr (.inr rfl))) (sa_cons se_bl sa_nil)))) (sa_cons (se_tup (sa_cons se_str (sa_cons (se_var (i := 13) rfl (by first | exact .inl rfl | exact .inr (.inl rfl) | exact .inr (.inr rfl))) (sa_cons se_bl sa_nil)))) (sa_cons (se_tup (sa_cons se_str (sa_cons (se_var (i := 13) rfl (by first | exact .inl rfl | exact .inr (.inl rfl) | exact .inr (.inr rfl))) (sa_cons se_bl sa_nil)))) sa_nil))))) sa_nil))))) (ss_one (ss_ret se_bl)) ss_nil))))))))))))))))))
      (ss_one (ss_ret se_bl))
theorem ok31 (S : Facts K mg fa fd eC eI) (h : All P w K mg base fa fd fu L) : FnOk P w K mg base (L2.CX P w) (3 * L + 2 + 1) (fa 31) (fd 31) ["script"] (spD ⟨K, mg, base⟩ (callK fu (L + 1) 31)) := by
  rw [callK_31]
  exact
  fn_ok (N := ["script"]) (k := 3 * L + 2) (m := m31 fu (callK fu L)) S.f31.fu sc31 fun cdv A outer s H E hr Ck => by
    have hu := hu_of hr
    exact ss_one (ss_thru (ss_one (ss_ret (se_call h.d30 (cok_nox Ck) (hr.mono (by omega)) rfl (sa_cons (se_call h.d16 (cok_nox Ck) (hr.mono (by omega)) rfl (sa_cons (se_var (i := 0) rfl (by first | exact .inl rfl | exact .inr (.inl rfl) | exact .inr (.inr rfl))) (sa_cons se_int sa_nil))) sa_nil)))))
theorem all_ok (S : Facts K mg fa fd eC eI) {lc lP : Addr} (hcode : (fd 30).code = .ref lc) (TB : LamX.TabB base mg lc lP) : ∀ L, All P w K mg base fa fd fu L
  | 0 => ⟨⟨S.f0.fu, S.f0.mgf, S.f0.bd, fn_zero⟩, ⟨S.f1.fu, S.f1.mgf, S.f1.bd, fn_zero⟩, ⟨S.f2.fu, S.f2.mgf, S.f2.bd, fn_zero⟩, ⟨S.f3.fu, S.f3.mgf, S.f3.bd, fn_zero⟩, ⟨S.f4.fu, S.f4.mgf, S.f4.bd, fn_zero⟩, ⟨S.f5.fu, S.f5.mgf, S.f5.bd, fn_zero⟩, ⟨S.f6.fu, S.f6.mgf, S.f6.bd, fn_zero⟩, ⟨S.f7.fu, S.f7.mgf, S.f7.bd, fn_zero⟩, ⟨S.f8.fu, S.f8.mgf, S.f8.bd, fn_zero⟩, ⟨S.f9.fu, S.f9.mgf, S.f9.bd, fn_zero⟩, ⟨S.f10.fu, S.f10.mgf, S.f10.bd, fn_zero⟩, ⟨S.f11.fu, S.f11.mgf, S.f11.bd, fn_zero⟩, ⟨S.f12.fu, S.f12.mgf, S.f12.bd, fn_zero⟩, ⟨S.f13.fu, S.f13.mgf, S.f13.bd, fn_zero⟩, ⟨S.f14.fu, S.f14.mgf, S.f14.bd, fn_zero⟩, ⟨S.f15.fu, S.f15.mgf, S.f15.bd, fn_zero⟩, ⟨S.f16.fu, S.f16.mgf, S.f16.bd, fn_zero⟩, ⟨S.f17.fu, S.f17.mgf, S.f17.bd, fn_zero⟩, ⟨S.f18.fu, S.f18.mgf, S.f18.bd, fn_zero⟩, ⟨S.f19.fu, S.f19.mgf, S.f19.bd, fn_zero⟩, ⟨S.f20.fu, S.f20.mgf, S.f20.bd, fn_zero⟩, ⟨S.f21.fu, S.f21.mgf, S.f21.bd, fn_zero⟩, ⟨S.f22.fu, S.f22.mgf, S.f22.bd, fn_zero⟩, ⟨S.f23.fu, S.f23.mgf, S.f23.bd, fn_zero⟩, ⟨S.f24.fu, S.f24.mgf, S.f24.bd, fn_zero⟩, ⟨S.f25.fu, S.f25.mgf, S.f25.bd, fn_zero⟩, ⟨S.f26.fu, S.f26.mgf, S.f26.bd, fn_zero⟩, ⟨S.f27.fu, S.f27.mgf, S.f27.bd, fn_zero⟩, ⟨S.f28.fu, S.f28.mgf, S.f28.bd, fn_zero⟩, ⟨S.f30.fu, S.f30.mgf, S.f30.bd, fn_zero⟩, ⟨S.f31.fu, S.f31.mgf, S.f31.bd, fn_zero⟩⟩
  | L + 1 => by
    have h := all_ok S hcode TB L
    exact ⟨⟨S.f0.fu, S.f0.mgf, S.f0.bd, ok0 S h⟩, ⟨S.f1.fu, S.f1.mgf, S.f1.bd, ok1 S h⟩, ⟨S.f2.fu, S.f2.mgf, S.f2.bd, ok2 S h⟩, ⟨S.f3.fu, S.f3.mgf, S.f3.bd, ok3 S h⟩, ⟨S.f4.fu, S.f4.mgf, S.f4.bd, ok4 S h⟩, ⟨S.f5.fu, S.f5.mgf, S.f5.bd, ok5 S h⟩, ⟨S.f6.fu, S.f6.mgf, S.f6.bd, ok6 S h⟩, ⟨S.f7.fu, S.f7.mgf, S.f7.bd, ok7 S h⟩, ⟨S.f8.fu, S.f8.mgf, S.f8.bd, ok8 S h⟩, ⟨S.f9.fu, S.f9.mgf, S.f9.bd, ok9 S h⟩, ⟨S.f10.fu, S.f10.mgf, S.f10.bd, ok10 S h⟩, ⟨S.f11.fu, S.f11.mgf, S.f11.bd, ok11 S h⟩, ⟨S.f12.fu, S.f12.mgf, S.f12.bd, ok12 S h⟩, ⟨S.f13.fu, S.f13.mgf, S.f13.bd, ok13 S h⟩, ⟨S.f14.fu, S.f14.mgf, S.f14.bd, ok14 S h⟩, ⟨S.f15.fu, S.f15.mgf, S.f15.bd, ok15 S h⟩, ⟨S.f16.fu, S.f16.mgf, S.f16.bd, ok16 S h⟩, ⟨S.f17.fu, S.f17.mgf, S.f17.bd, ok17 S h⟩, ⟨S.f18.fu, S.f18.mgf, S.f18.bd, ok18 S h⟩, ⟨S.f19.fu, S.f19.mgf, S.f19.bd, ok19 S h⟩, ⟨S.f20.fu, S.f20.mgf, S.f20.bd, ok20 S h⟩, ⟨S.f21.fu, S.f21.mgf, S.f21.bd, ok21 S h⟩, ⟨S.f22.fu, S.f22.mgf, S.f22.bd, ok22 S h⟩, ⟨S.f23.fu, S.f23.mgf, S.f23.bd, ok23 S h⟩, ⟨S.f24.fu, S.f24.mgf, S.f24.bd, ok24 S h⟩, ⟨S.f25.fu, S.f25.mgf, S.f25.bd, ok25 S h⟩, ⟨S.f26.fu, S.f26.mgf, S.f26.bd, ok26 S h⟩, ⟨S.f27.fu, S.f27.mgf, S.f27.bd, ok27 S h⟩, ⟨S.f28.fu, S.f28.mgf, S.f28.bd, ok28 S h⟩, ⟨S.f30.fu, S.f30.mgf, S.f30.bd, ok30 S h hcode TB⟩, ⟨S.f31.fu, S.f31.mgf, S.f31.bd, ok31 S h⟩⟩
end
end W8

set_option Elab.async false
set_option linter.all false
set_option maxRecDepth 100000
set_option maxHeartbeats 4000000
namespace W8
open PySem L2 PySem.Spec PyProof.Rows
def strOf : Value → Option Str
  | .str x _ => some x
  | _ => none
def isTupS (K : PySem.W.Frag) (a : Addr) (ws : List Str) : Bool := match K.lookup a with
  | some ⟨c, _, .seq its _, _⟩ => c == .type "tuple" && decide (its.toList.map strOf = ws.map some)
  | _ => false
theorem kit_yes {K : PySem.W.Frag} {C D : Addr} (h1 : PySem.W.isClsIn K C = true) (h2 : PySem.W.typeIn K (.ref C) = some (.type "type")) (h3 : PySem.W.subIn K (.ref D) (.ref C) = some true) : PySem.W.kitOne K (.ref D) (.ref C) = some true := by
  unfold PySem.W.kitOne
  split
  · rfl
  · have h1' : (PySem.W.clsIn K C).isSome = true := h1
    show (if ((PySem.W.clsIn K C).isSome && PySem.W.typeIn K (.ref C) == some (.type "type")) = true then PySem.W.subIn K (.ref D) (.ref C) else none) = some true
    rw [h1', h2, if_pos (by rfl)]
    exact h3
theorem tab_in {K : PySem.W.Frag} {x : Str} {f c P : Addr} {oc ocC : Value} {od odC : Option Addr} {fd : FuncData} {sl slC : Array (Option Value)} {vs : Array Value} (a : PySem.W.nsIn K mainGlobals x = some (some (.ref f))) (l : K.lookup f = some ⟨oc, od, .func fd, sl⟩) (e : fd.code = .ref c)
    (h : K.lookup c = some ⟨ocC, odC, .fields vs, slC⟩) (hv : (vs[11]? : Option Value) = some (.ref P)) : PySem.W.tabIn K x = some (c, P) := by
  unfold PySem.W.tabIn
  rw [a]
  simp only [l, e, h, hv]
theorem vals_strs : ∀ {ws : List Str} {us : List Value}, us.map strOf = ws.map some → Vals (ws.map V.str) us
  | [], [], _ => .nil
  | [], _ :: _, h => by cases h
  | _ :: _, [], h => by cases h
  | w :: ws, u :: us, h => by
    rw [List.map_cons, List.map_cons] at h
    obtain ⟨h1, h2⟩ := List.cons.inj h
    refine .cons ?_ (vals_strs h2)
    cases u <;> first | (cases h1; exact ⟨_, rfl⟩) | cases h1
theorem dvs_strs {g : G} {φ : List Addr} {H : Hp} : ∀ ws : List Str, DVs g φ H (ws.map D.str) (ws.map V.str)
  | [] => .nil
  | w :: ws => .cons (.str w) (dvs_strs ws)
theorem dv_tupS {K : PySem.W.Frag} {mg : Str → Option Value} {base : Heap} {φ : List Addr} {H : Hp} {a : Addr} {ws : List Str} (hl : ws.length ≤ sizeLine) (h : isTupS K a ws = true) : DV ⟨K, mg, base⟩ φ H (.tup (ws.map D.str)) (.ref a) := by
  unfold isTupS at h
  split at h
  · rename_i c d its n sl e
    rw [Bool.and_eq_true] at h
    have r := vals_strs (of_decide_eq_true h.2)
    refine .tup (.inr ⟨_, its, n, e, eq_of_beq h.1, rfl, ?_, r⟩) (dvs_strs ws)
    have := r.length
    simp at this
    omega
  · cases h

theorem facts_mk {K : PySem.W.Frag} {h : Heap} {mg : Str → Option Value} (X : K.In h) (G : h.Ns mainGlobals mg)
    {f0 f1 f2 f3 f4 f5 f6 f7 f8 f9 f10 f11 f12 f13 f14 f15 f16 f17 f18 f19 f20 f21 f22 f23 f24 f25 f26 f27 f28 f29 f30 f31 : Addr}
    {od0 an0 : Option Addr} {sl0 : Array (Option Value)} {oc0 kV0 dc0 pm0 cd0 ct0 : Value}
    (a0 : PySem.W.nsIn K mainGlobals "is_whole" = some (some (.ref f0)))
    (l0 : K.lookup f0 = some ⟨oc0, od0, .func (PySem.W.fnOf "is_whole" "is_whole" (defArgs s0) (defBody s0) (defScope s0) .none kV0 dc0 pm0 an0 cd0 ct0), sl0⟩)
    (c0 : PySem.W.codeIn K cd0 "is_whole" = true) (k0 : PySem.W.keepIn K (.ref f0) = true)
    {od1 an1 : Option Addr} {sl1 : Array (Option Value)} {oc1 kV1 dc1 pm1 cd1 ct1 : Value}
    (a1 : PySem.W.nsIn K mainGlobals "is_whole_between" = some (some (.ref f1)))
    (l1 : K.lookup f1 = some ⟨oc1, od1, .func (PySem.W.fnOf "is_whole_between" "is_whole_between" (defArgs s1) (defBody s1) (defScope s1) .none kV1 dc1 pm1 an1 cd1 ct1), sl1⟩)
    (c1 : PySem.W.codeIn K cd1 "is_whole_between" = true) (k1 : PySem.W.keepIn K (.ref f1) = true)
    {od2 an2 : Option Addr} {sl2 : Array (Option Value)} {oc2 kV2 dc2 pm2 cd2 ct2 : Value}
    (a2 : PySem.W.nsIn K mainGlobals "is_tuple_of" = some (some (.ref f2)))
    (l2 : K.lookup f2 = some ⟨oc2, od2, .func (PySem.W.fnOf "is_tuple_of" "is_tuple_of" (defArgs s2) (defBody s2) (defScope s2) .none kV2 dc2 pm2 an2 cd2 ct2), sl2⟩)
    (c2 : PySem.W.codeIn K cd2 "is_tuple_of" = true) (k2 : PySem.W.keepIn K (.ref f2) = true)
    {od3 an3 : Option Addr} {sl3 : Array (Option Value)} {oc3 kV3 dc3 pm3 cd3 ct3 : Value}
    (a3 : PySem.W.nsIn K mainGlobals "is_tuple_by" = some (some (.ref f3)))
    (l3 : K.lookup f3 = some ⟨oc3, od3, .func (PySem.W.fnOf "is_tuple_by" "is_tuple_by" (defArgs s3) (defBody s3) (defScope s3) .none kV3 dc3 pm3 an3 cd3 ct3), sl3⟩)
    (c3 : PySem.W.codeIn K cd3 "is_tuple_by" = true) (k3 : PySem.W.keepIn K (.ref f3) = true)
    {od4 an4 : Option Addr} {sl4 : Array (Option Value)} {oc4 kV4 dc4 pm4 cd4 ct4 : Value}
    (a4 : PySem.W.nsIn K mainGlobals "is_name" = some (some (.ref f4)))
    (l4 : K.lookup f4 = some ⟨oc4, od4, .func (PySem.W.fnOf "is_name" "is_name" (defArgs s4) (defBody s4) (defScope s4) .none kV4 dc4 pm4 an4 cd4 ct4), sl4⟩)
    (c4 : PySem.W.codeIn K cd4 "is_name" = true) (k4 : PySem.W.keepIn K (.ref f4) = true)
    {od5 an5 : Option Addr} {sl5 : Array (Option Value)} {oc5 kV5 dc5 pm5 cd5 ct5 : Value}
    (a5 : PySem.W.nsIn K mainGlobals "is_line_form" = some (some (.ref f5)))
    (l5 : K.lookup f5 = some ⟨oc5, od5, .func (PySem.W.fnOf "is_line_form" "is_line_form" (defArgs s5) (defBody s5) (defScope s5) .none kV5 dc5 pm5 an5 cd5 ct5), sl5⟩)
    (c5 : PySem.W.codeIn K cd5 "is_line_form" = true) (k5 : PySem.W.keepIn K (.ref f5) = true)
    {od6 an6 : Option Addr} {sl6 : Array (Option Value)} {oc6 kV6 dc6 pm6 cd6 ct6 : Value}
    (a6 : PySem.W.nsIn K mainGlobals "need_form" = some (some (.ref f6)))
    (l6 : K.lookup f6 = some ⟨oc6, od6, .func (PySem.W.fnOf "need_form" "need_form" (defArgs s6) (defBody s6) (defScope s6) .none kV6 dc6 pm6 an6 cd6 ct6), sl6⟩)
    (c6 : PySem.W.codeIn K cd6 "need_form" = true) (k6 : PySem.W.keepIn K (.ref f6) = true)
    {od7 an7 : Option Addr} {sl7 : Array (Option Value)} {oc7 kV7 dc7 pm7 cd7 ct7 : Value}
    (a7 : PySem.W.nsIn K mainGlobals "parts_of_line" = some (some (.ref f7)))
    (l7 : K.lookup f7 = some ⟨oc7, od7, .func (PySem.W.fnOf "parts_of_line" "parts_of_line" (defArgs s7) (defBody s7) (defScope s7) .none kV7 dc7 pm7 an7 cd7 ct7), sl7⟩)
    (c7 : PySem.W.codeIn K cd7 "parts_of_line" = true) (k7 : PySem.W.keepIn K (.ref f7) = true)
    {od8 an8 : Option Addr} {sl8 : Array (Option Value)} {oc8 kV8 dc8 pm8 cd8 ct8 : Value}
    (a8 : PySem.W.nsIn K mainGlobals "size_of" = some (some (.ref f8)))
    (l8 : K.lookup f8 = some ⟨oc8, od8, .func (PySem.W.fnOf "size_of" "size_of" (defArgs s8) (defBody s8) (defScope s8) .none kV8 dc8 pm8 an8 cd8 ct8), sl8⟩)
    (c8 : PySem.W.codeIn K cd8 "size_of" = true) (k8 : PySem.W.keepIn K (.ref f8) = true)
    {od9 an9 : Option Addr} {sl9 : Array (Option Value)} {oc9 kV9 dc9 pm9 cd9 ct9 : Value}
    (a9 : PySem.W.nsIn K mainGlobals "key_of" = some (some (.ref f9)))
    (l9 : K.lookup f9 = some ⟨oc9, od9, .func (PySem.W.fnOf "key_of" "key_of" (defArgs s9) (defBody s9) (defScope s9) .none kV9 dc9 pm9 an9 cd9 ct9), sl9⟩)
    (c9 : PySem.W.codeIn K cd9 "key_of" = true) (k9 : PySem.W.keepIn K (.ref f9) = true)
    {od10 an10 : Option Addr} {sl10 : Array (Option Value)} {oc10 kV10 dc10 pm10 cd10 ct10 : Value}
    (a10 : PySem.W.nsIn K mainGlobals "line_size" = some (some (.ref f10)))
    (l10 : K.lookup f10 = some ⟨oc10, od10, .func (PySem.W.fnOf "line_size" "line_size" (defArgs s10) (defBody s10) (defScope s10) .none kV10 dc10 pm10 an10 cd10 ct10), sl10⟩)
    (c10 : PySem.W.codeIn K cd10 "line_size" = true) (k10 : PySem.W.keepIn K (.ref f10) = true)
    {od11 an11 : Option Addr} {sl11 : Array (Option Value)} {oc11 kV11 dc11 pm11 cd11 ct11 : Value}
    (a11 : PySem.W.nsIn K mainGlobals "is_before" = some (some (.ref f11)))
    (l11 : K.lookup f11 = some ⟨oc11, od11, .func (PySem.W.fnOf "is_before" "is_before" (defArgs s11) (defBody s11) (defScope s11) .none kV11 dc11 pm11 an11 cd11 ct11), sl11⟩)
    (c11 : PySem.W.codeIn K cd11 "is_before" = true) (k11 : PySem.W.keepIn K (.ref f11) = true)
    {od12 an12 : Option Addr} {sl12 : Array (Option Value)} {oc12 kV12 dc12 pm12 cd12 ct12 : Value}
    (a12 : PySem.W.nsIn K mainGlobals "is_place_in" = some (some (.ref f12)))
    (l12 : K.lookup f12 = some ⟨oc12, od12, .func (PySem.W.fnOf "is_place_in" "is_place_in" (defArgs s12) (defBody s12) (defScope s12) .none kV12 dc12 pm12 an12 cd12 ct12), sl12⟩)
    (c12 : PySem.W.codeIn K cd12 "is_place_in" = true) (k12 : PySem.W.keepIn K (.ref f12) = true)
    {od13 an13 : Option Addr} {sl13 : Array (Option Value)} {oc13 kV13 dc13 pm13 cd13 ct13 : Value}
    (a13 : PySem.W.nsIn K mainGlobals "need_place" = some (some (.ref f13)))
    (l13 : K.lookup f13 = some ⟨oc13, od13, .func (PySem.W.fnOf "need_place" "need_place" (defArgs s13) (defBody s13) (defScope s13) .none kV13 dc13 pm13 an13 cd13 ct13), sl13⟩)
    (c13 : PySem.W.codeIn K cd13 "need_place" = true) (k13 : PySem.W.keepIn K (.ref f13) = true)
    {od14 an14 : Option Addr} {sl14 : Array (Option Value)} {oc14 kV14 dc14 pm14 cd14 ct14 : Value}
    (a14 : PySem.W.nsIn K mainGlobals "put_in_line" = some (some (.ref f14)))
    (l14 : K.lookup f14 = some ⟨oc14, od14, .func (PySem.W.fnOf "put_in_line" "put_in_line" (defArgs s14) (defBody s14) (defScope s14) .none kV14 dc14 pm14 an14 cd14 ct14), sl14⟩)
    (c14 : PySem.W.codeIn K cd14 "put_in_line" = true) (k14 : PySem.W.keepIn K (.ref f14) = true)
    {od15 an15 : Option Addr} {sl15 : Array (Option Value)} {oc15 kV15 dc15 pm15 cd15 ct15 : Value}
    (a15 : PySem.W.nsIn K mainGlobals "put_at" = some (some (.ref f15)))
    (l15 : K.lookup f15 = some ⟨oc15, od15, .func (PySem.W.fnOf "put_at" "put_at" (defArgs s15) (defBody s15) (defScope s15) .none kV15 dc15 pm15 an15 cd15 ct15), sl15⟩)
    (c15 : PySem.W.codeIn K cd15 "put_at" = true) (k15 : PySem.W.keepIn K (.ref f15) = true)
    {od16 an16 : Option Addr} {sl16 : Array (Option Value)} {oc16 kV16 dc16 pm16 cd16 ct16 : Value}
    (a16 : PySem.W.nsIn K mainGlobals "_law_deck" = some (some (.ref f16)))
    (l16 : K.lookup f16 = some ⟨oc16, od16, .func (PySem.W.fnOf "_law_deck" "_law_deck" (defArgs s16) (defBody s16) (defScope s16) .none kV16 dc16 pm16 an16 cd16 ct16), sl16⟩)
    (c16 : PySem.W.codeIn K cd16 "_law_deck" = true) (k16 : PySem.W.keepIn K (.ref f16) = true)
    {od17 an17 : Option Addr} {sl17 : Array (Option Value)} {oc17 kV17 dc17 pm17 cd17 ct17 : Value}
    (a17 : PySem.W.nsIn K mainGlobals "_law_draw" = some (some (.ref f17)))
    (l17 : K.lookup f17 = some ⟨oc17, od17, .func (PySem.W.fnOf "_law_draw" "_law_draw" (defArgs s17) (defBody s17) (defScope s17) .none kV17 dc17 pm17 an17 cd17 ct17), sl17⟩)
    (c17 : PySem.W.codeIn K cd17 "_law_draw" = true) (k17 : PySem.W.keepIn K (.ref f17) = true)
    {od18 an18 : Option Addr} {sl18 : Array (Option Value)} {oc18 kV18 dc18 pm18 cd18 ct18 : Value}
    (a18 : PySem.W.nsIn K mainGlobals "_law_pick" = some (some (.ref f18)))
    (l18 : K.lookup f18 = some ⟨oc18, od18, .func (PySem.W.fnOf "_law_pick" "_law_pick" (defArgs s18) (defBody s18) (defScope s18) .none kV18 dc18 pm18 an18 cd18 ct18), sl18⟩)
    (c18 : PySem.W.codeIn K cd18 "_law_pick" = true) (k18 : PySem.W.keepIn K (.ref f18) = true)
    {od19 an19 : Option Addr} {sl19 : Array (Option Value)} {oc19 kV19 dc19 pm19 cd19 ct19 : Value}
    (a19 : PySem.W.nsIn K mainGlobals "_law_mixed" = some (some (.ref f19)))
    (l19 : K.lookup f19 = some ⟨oc19, od19, .func (PySem.W.fnOf "_law_mixed" "_law_mixed" (defArgs s19) (defBody s19) (defScope s19) .none kV19 dc19 pm19 an19 cd19 ct19), sl19⟩)
    (c19 : PySem.W.codeIn K cd19 "_law_mixed" = true) (k19 : PySem.W.keepIn K (.ref f19) = true)
    {od20 an20 : Option Addr} {sl20 : Array (Option Value)} {oc20 kV20 dc20 pm20 cd20 ct20 : Value}
    (a20 : PySem.W.nsIn K mainGlobals "_law_same" = some (some (.ref f20)))
    (l20 : K.lookup f20 = some ⟨oc20, od20, .func (PySem.W.fnOf "_law_same" "_law_same" (defArgs s20) (defBody s20) (defScope s20) .none kV20 dc20 pm20 an20 cd20 ct20), sl20⟩)
    (c20 : PySem.W.codeIn K cd20 "_law_same" = true) (k20 : PySem.W.keepIn K (.ref f20) = true)
    {od21 an21 : Option Addr} {sl21 : Array (Option Value)} {oc21 kV21 dc21 pm21 cd21 ct21 : Value}
    (a21 : PySem.W.nsIn K mainGlobals "_law_size" = some (some (.ref f21)))
    (l21 : K.lookup f21 = some ⟨oc21, od21, .func (PySem.W.fnOf "_law_size" "_law_size" (defArgs s21) (defBody s21) (defScope s21) .none kV21 dc21 pm21 an21 cd21 ct21), sl21⟩)
    (c21 : PySem.W.codeIn K cd21 "_law_size" = true) (k21 : PySem.W.keepIn K (.ref f21) = true)
    {od22 an22 : Option Addr} {sl22 : Array (Option Value)} {oc22 kV22 dc22 pm22 cd22 ct22 : Value}
    (a22 : PySem.W.nsIn K mainGlobals "_law_places" = some (some (.ref f22)))
    (l22 : K.lookup f22 = some ⟨oc22, od22, .func (PySem.W.fnOf "_law_places" "_law_places" (defArgs s22) (defBody s22) (defScope s22) .none kV22 dc22 pm22 an22 cd22 ct22), sl22⟩)
    (c22 : PySem.W.codeIn K cd22 "_law_places" = true) (k22 : PySem.W.keepIn K (.ref f22) = true)
    {od23 an23 : Option Addr} {sl23 : Array (Option Value)} {oc23 kV23 dc23 pm23 cd23 ct23 : Value}
    (a23 : PySem.W.nsIn K mainGlobals "_law_part" = some (some (.ref f23)))
    (l23 : K.lookup f23 = some ⟨oc23, od23, .func (PySem.W.fnOf "_law_part" "_law_part" (defArgs s23) (defBody s23) (defScope s23) .none kV23 dc23 pm23 an23 cd23 ct23), sl23⟩)
    (c23 : PySem.W.codeIn K cd23 "_law_part" = true) (k23 : PySem.W.keepIn K (.ref f23) = true)
    {od24 an24 : Option Addr} {sl24 : Array (Option Value)} {oc24 kV24 dc24 pm24 cd24 ct24 : Value}
    (a24 : PySem.W.nsIn K mainGlobals "_law_put_part" = some (some (.ref f24)))
    (l24 : K.lookup f24 = some ⟨oc24, od24, .func (PySem.W.fnOf "_law_put_part" "_law_put_part" (defArgs s24) (defBody s24) (defScope s24) .none kV24 dc24 pm24 an24 cd24 ct24), sl24⟩)
    (c24 : PySem.W.codeIn K cd24 "_law_put_part" = true) (k24 : PySem.W.keepIn K (.ref f24) = true)
    {od25 an25 : Option Addr} {sl25 : Array (Option Value)} {oc25 kV25 dc25 pm25 cd25 ct25 : Value}
    (a25 : PySem.W.nsIn K mainGlobals "_law_formed" = some (some (.ref f25)))
    (l25 : K.lookup f25 = some ⟨oc25, od25, .func (PySem.W.fnOf "_law_formed" "_law_formed" (defArgs s25) (defBody s25) (defScope s25) .none kV25 dc25 pm25 an25 cd25 ct25), sl25⟩)
    (c25 : PySem.W.codeIn K cd25 "_law_formed" = true) (k25 : PySem.W.keepIn K (.ref f25) = true)
    {od26 an26 : Option Addr} {sl26 : Array (Option Value)} {oc26 kV26 dc26 pm26 cd26 ct26 : Value}
    (a26 : PySem.W.nsIn K mainGlobals "_law_other" = some (some (.ref f26)))
    (l26 : K.lookup f26 = some ⟨oc26, od26, .func (PySem.W.fnOf "_law_other" "_law_other" (defArgs s26) (defBody s26) (defScope s26) .none kV26 dc26 pm26 an26 cd26 ct26), sl26⟩)
    (c26 : PySem.W.codeIn K cd26 "_law_other" = true) (k26 : PySem.W.keepIn K (.ref f26) = true)
    {od27 an27 : Option Addr} {sl27 : Array (Option Value)} {oc27 kV27 dc27 pm27 cd27 ct27 : Value}
    (a27 : PySem.W.nsIn K mainGlobals "_law_order" = some (some (.ref f27)))
    (l27 : K.lookup f27 = some ⟨oc27, od27, .func (PySem.W.fnOf "_law_order" "_law_order" (defArgs s27) (defBody s27) (defScope s27) .none kV27 dc27 pm27 an27 cd27 ct27), sl27⟩)
    (c27 : PySem.W.codeIn K cd27 "_law_order" = true) (k27 : PySem.W.keepIn K (.ref f27) = true)
    {od28 an28 : Option Addr} {sl28 : Array (Option Value)} {oc28 kV28 dc28 pm28 cd28 ct28 : Value}
    (a28 : PySem.W.nsIn K mainGlobals "_law_tuple_order" = some (some (.ref f28)))
    (l28 : K.lookup f28 = some ⟨oc28, od28, .func (PySem.W.fnOf "_law_tuple_order" "_law_tuple_order" (defArgs s28) (defBody s28) (defScope s28) .none kV28 dc28 pm28 an28 cd28 ct28), sl28⟩)
    (c28 : PySem.W.codeIn K cd28 "_law_tuple_order" = true) (k28 : PySem.W.keepIn K (.ref f28) = true)
    {od29 an29 : Option Addr} {sl29 : Array (Option Value)} {oc29 kV29 dc29 pm29 cd29 ct29 : Value}
    (a29 : PySem.W.nsIn K mainGlobals "_law_heard" = some (some (.ref f29)))
    (l29 : K.lookup f29 = some ⟨oc29, od29, .func (PySem.W.fnOf "_law_heard" "_law_heard" (defArgs s29) (defBody s29) (defScope s29) .none kV29 dc29 pm29 an29 cd29 ct29), sl29⟩)
    (c29 : PySem.W.codeIn K cd29 "_law_heard" = true) (k29 : PySem.W.keepIn K (.ref f29) = true)
    {od30 an30 : Option Addr} {sl30 : Array (Option Value)} {oc30 kV30 dc30 pm30 cd30 ct30 : Value}
    (a30 : PySem.W.nsIn K mainGlobals "_law_is_all_right" = some (some (.ref f30)))
    (l30 : K.lookup f30 = some ⟨oc30, od30, .func (PySem.W.fnOf "_law_is_all_right" "_law_is_all_right" (defArgs s30) (defBody s30) (defScope s30) .none kV30 dc30 pm30 an30 cd30 ct30), sl30⟩)
    (c30 : PySem.W.codeIn K cd30 "_law_is_all_right" = true) (k30 : PySem.W.keepIn K (.ref f30) = true)
    {od31 an31 : Option Addr} {sl31 : Array (Option Value)} {oc31 kV31 dc31 pm31 cd31 ct31 : Value}
    (a31 : PySem.W.nsIn K mainGlobals "law" = some (some (.ref f31)))
    (l31 : K.lookup f31 = some ⟨oc31, od31, .func (PySem.W.fnOf "law" "law" (defArgs s31) (defBody s31) (defScope s31) .none kV31 dc31 pm31 an31 cd31 ct31), sl31⟩)
    (c31 : PySem.W.codeIn K cd31 "law" = true) (k31 : PySem.W.keepIn K (.ref f31) = true)
    (z_all : PySem.W.nsIn K mainGlobals "all" = some none)
    (z_bool : PySem.W.nsIn K mainGlobals "bool" = some none)
    (z_dict : PySem.W.nsIn K mainGlobals "dict" = some none)
    (z_enumerate : PySem.W.nsIn K mainGlobals "enumerate" = some none)
    (z_int : PySem.W.nsIn K mainGlobals "int" = some none)
    (z_isinstance : PySem.W.nsIn K mainGlobals "isinstance" = some none)
    (z_len : PySem.W.nsIn K mainGlobals "len" = some none)
    (z_list : PySem.W.nsIn K mainGlobals "list" = some none)
    (z_max : PySem.W.nsIn K mainGlobals "max" = some none)
    (z_range : PySem.W.nsIn K mainGlobals "range" = some none)
    (z_reversed : PySem.W.nsIn K mainGlobals "reversed" = some none)
    (z_str : PySem.W.nsIn K mainGlobals "str" = some none)
    (z_sum : PySem.W.nsIn K mainGlobals "sum" = some none)
    (z_tuple : PySem.W.nsIn K mainGlobals "tuple" = some none)
    (z_zip : PySem.W.nsIn K mainGlobals "zip" = some none)
    {t_FIGURES : Tok} (n_FIGURES : PySem.W.nsIn K mainGlobals "FIGURES" = some (some (.str "0123456789" t_FIGURES)))
    {t_MOST_NAME : Tok} (n_MOST_NAME : PySem.W.nsIn K mainGlobals "MOST_NAME" = some (some (.int 12 t_MOST_NAME)))
    (n_MOST_WHOLE : ∃ t, mg "MOST_WHOLE" = some (.int 10000000000000000000000000000000000000000 t))
    {t_SMALL : Tok} (n_SMALL : PySem.W.nsIn K mainGlobals "SMALL" = some (some (.str "abcdefghijklmnopqrstuvwxyz" t_SMALL)))
    {t_TRIPLE : Tok} (n_TRIPLE : PySem.W.nsIn K mainGlobals "TRIPLE" = some (some (.int 3 t_TRIPLE)))
    {w_WORDS : Addr} (n_WORDS : PySem.W.nsIn K mainGlobals "WORDS" = some (some (.ref w_WORDS))) {dw_WORDS : Option Addr} {iw_WORDS : Array Value} {nw_WORDS : Nat} {sw_WORDS : Array (Option Value)} (t_WORDS : K.lookup w_WORDS = some ⟨.type "tuple", dw_WORDS, .seq iw_WORDS nw_WORDS, sw_WORDS⟩) (y_WORDS : iw_WORDS.toList.map strOf = List.map some (["sort", "make", "look", "worth", "walk", "join", "skill", "rule", "meet", "when", "way", "task", "not", "if", "then", "else", "and", "or", "mod"] : List Str))
    {C_BadLine I_BadLine W_BadLine N_BadLine : Addr} {nm_BadLine q_BadLine : Str} {bs_BadLine : List Value} {sn_BadLine : List Str} {sub_BadLine : List Value} {ab_BadLine : Bool} {col_BadLine : Option Bool} {dd_BadLine : Option Addr} {m0_BadLine m1_BadLine m2_BadLine m3_BadLine m5_BadLine : Option Value}
    {oc_BadLine dc_BadLine pm_BadLine cd_BadLine ct_BadLine : Value} {od_BadLine an_BadLine : Option Addr} {sl_BadLine : Array (Option Value)}
    (e1_BadLine : PySem.W.nsIn K mainGlobals "BadLine" = some (some (.ref C_BadLine)))
    (e2_BadLine : K.lookup C_BadLine = some (excClassObj nm_BadLine q_BadLine C_BadLine N_BadLine bs_BadLine [.ref W_BadLine, .type "Exception", .type "BaseException", .type "object"] true sn_BadLine sub_BadLine ab_BadLine col_BadLine dd_BadLine m0_BadLine m1_BadLine m2_BadLine m3_BadLine m5_BadLine "Exception.__new__"))
    (e3_BadLine : PySem.W.findIn K (.ref C_BadLine) "__setattr__" = some (some (.builtin "object.__setattr__"))) (e4_BadLine : PySem.W.findIn K (.ref C_BadLine) "__getattribute__" = some (some (.builtin "BaseException.__getattribute__"))) (e5_BadLine : PySem.W.findIn K (.ref C_BadLine) "__getattr__" = some none) (e6_BadLine : PySem.W.findIn K (.ref C_BadLine) "thing" = some none)
    (e7_BadLine : PySem.W.findIn K (.ref C_BadLine) "__init__" = some (some (.ref I_BadLine))) (e8_BadLine : PySem.W.typeIn K (.ref I_BadLine) = some (.type "function"))
    (e9_BadLine : K.lookup I_BadLine = some ⟨oc_BadLine, od_BadLine, .func (PySem.W.fnOf "__init__" "BadLine.__init__" (iA ⟨6, 17, 6, 21⟩ ⟨6, 23, 6, 28⟩) (iB ⟨7, 8, 7, 12⟩ ⟨7, 8, 7, 18⟩ ⟨7, 21, 7, 26⟩ ⟨7, 8, 7, 26⟩) iS .none .none dc_BadLine pm_BadLine an_BadLine cd_BadLine ct_BadLine), sl_BadLine⟩) (e10_BadLine : PySem.W.codeIn K cd_BadLine "BadLine.__init__" = true)
    (e11_BadLine : PySem.W.keepIn K (.ref C_BadLine) = true) (e12_BadLine : PySem.W.subIn K (.ref C_BadLine) (.type "BaseException") = some true) (e13_BadLine : PySem.W.typeIn K (.ref C_BadLine) = some (.type "type")) (e14_BadLine : PySem.W.hasDictIn K C_BadLine = true)
    {C_BadPlace I_BadPlace W_BadPlace N_BadPlace : Addr} {nm_BadPlace q_BadPlace : Str} {bs_BadPlace : List Value} {sn_BadPlace : List Str} {sub_BadPlace : List Value} {ab_BadPlace : Bool} {col_BadPlace : Option Bool} {dd_BadPlace : Option Addr} {m0_BadPlace m1_BadPlace m2_BadPlace m3_BadPlace m5_BadPlace : Option Value}
    {oc_BadPlace dc_BadPlace pm_BadPlace cd_BadPlace ct_BadPlace : Value} {od_BadPlace an_BadPlace : Option Addr} {sl_BadPlace : Array (Option Value)}
    (e1_BadPlace : PySem.W.nsIn K mainGlobals "BadPlace" = some (some (.ref C_BadPlace)))
    (e2_BadPlace : K.lookup C_BadPlace = some (excClassObj nm_BadPlace q_BadPlace C_BadPlace N_BadPlace bs_BadPlace [.ref W_BadPlace, .type "Exception", .type "BaseException", .type "object"] true sn_BadPlace sub_BadPlace ab_BadPlace col_BadPlace dd_BadPlace m0_BadPlace m1_BadPlace m2_BadPlace m3_BadPlace m5_BadPlace "Exception.__new__"))
    (e3_BadPlace : PySem.W.findIn K (.ref C_BadPlace) "__setattr__" = some (some (.builtin "object.__setattr__"))) (e4_BadPlace : PySem.W.findIn K (.ref C_BadPlace) "__getattribute__" = some (some (.builtin "BaseException.__getattribute__"))) (e5_BadPlace : PySem.W.findIn K (.ref C_BadPlace) "__getattr__" = some none) (e6_BadPlace : PySem.W.findIn K (.ref C_BadPlace) "thing" = some none)
    (e7_BadPlace : PySem.W.findIn K (.ref C_BadPlace) "__init__" = some (some (.ref I_BadPlace))) (e8_BadPlace : PySem.W.typeIn K (.ref I_BadPlace) = some (.type "function"))
    (e9_BadPlace : K.lookup I_BadPlace = some ⟨oc_BadPlace, od_BadPlace, .func (PySem.W.fnOf "__init__" "BadPlace.__init__" (iA ⟨10, 17, 10, 21⟩ ⟨10, 23, 10, 28⟩) (iB ⟨11, 8, 11, 12⟩ ⟨11, 8, 11, 18⟩ ⟨11, 21, 11, 26⟩ ⟨11, 8, 11, 26⟩) iS .none .none dc_BadPlace pm_BadPlace an_BadPlace cd_BadPlace ct_BadPlace), sl_BadPlace⟩) (e10_BadPlace : PySem.W.codeIn K cd_BadPlace "BadPlace.__init__" = true)
    (e11_BadPlace : PySem.W.keepIn K (.ref C_BadPlace) = true) (e12_BadPlace : PySem.W.subIn K (.ref C_BadPlace) (.type "BaseException") = some true) (e13_BadPlace : PySem.W.typeIn K (.ref C_BadPlace) = some (.type "type")) (e14_BadPlace : PySem.W.hasDictIn K C_BadPlace = true)
    {CW : Addr} (x1 : PySem.W.nsIn K mainGlobals "WorkingError" = some (some (.ref CW))) (x2 : PySem.W.subIn K (.ref C_BadLine) (.ref C_BadLine) = some true) (x3 : PySem.W.isClsIn K CW = true) (x4 : PySem.W.typeIn K (.ref CW) = some (.type "type")) (x5 : PySem.W.subIn K (.ref C_BadLine) (.ref CW) = some true) :
    ∃ (fa : Nat → Addr) (fd : Nat → FuncData) (eC eI : Str → Addr), Nonempty (Facts K mg fa fd eC eI) ∧ (∀ b, b = (fd 31) → b = b) ∧ fa 31 = f31 ∧ fa 30 = f30 ∧ K.lookup f30 = some ⟨oc30, od30, .func (fd 30), sl30⟩ ∧ (∀ (s : Shared) (u : Value), BindsTo s (fd 31) ⟨[u], []⟩ [("script", u)]) := by
  have F0 := fun_mk (st := s0) l0 c0 k0
  have b0 := F0.binds (ps := ["thing"]) fun _ _ _ _ _ _ us hl => match us, hl with | [_], _ => rfl
  have F1 := fun_mk (st := s1) l1 c1 k1
  have b1 := F1.binds (ps := ["thing", "least", "most"]) fun _ _ _ _ _ _ us hl => match us, hl with | [_, _, _], _ => rfl
  have F2 := fun_mk (st := s2) l2 c2 k2
  have b2 := F2.binds (ps := ["thing", "many"]) fun _ _ _ _ _ _ us hl => match us, hl with | [_, _], _ => rfl
  have F3 := fun_mk (st := s3) l3 c3 k3
  have b3 := F3.binds (ps := ["thing", "look"]) fun _ _ _ _ _ _ us hl => match us, hl with | [_, _], _ => rfl
  have F4 := fun_mk (st := s4) l4 c4 k4
  have b4 := F4.binds (ps := ["thing"]) fun _ _ _ _ _ _ us hl => match us, hl with | [_], _ => rfl
  have F5 := fun_mk (st := s5) l5 c5 k5
  have b5 := F5.binds (ps := ["thing"]) fun _ _ _ _ _ _ us hl => match us, hl with | [_], _ => rfl
  have F6 := fun_mk (st := s6) l6 c6 k6
  have b6 := F6.binds (ps := ["line"]) fun _ _ _ _ _ _ us hl => match us, hl with | [_], _ => rfl
  have F7 := fun_mk (st := s7) l7 c7 k7
  have b7 := F7.binds (ps := ["line"]) fun _ _ _ _ _ _ us hl => match us, hl with | [_], _ => rfl
  have F8 := fun_mk (st := s8) l8 c8 k8
  have b8 := F8.binds (ps := ["line"]) fun _ _ _ _ _ _ us hl => match us, hl with | [_], _ => rfl
  have F9 := fun_mk (st := s9) l9 c9 k9
  have b9 := F9.binds (ps := ["line"]) fun _ _ _ _ _ _ us hl => match us, hl with | [_], _ => rfl
  have F10 := fun_mk (st := s10) l10 c10 k10
  have b10 := F10.binds (ps := ["line"]) fun _ _ _ _ _ _ us hl => match us, hl with | [_], _ => rfl
  have F11 := fun_mk (st := s11) l11 c11 k11
  have b11 := F11.binds (ps := ["one", "other"]) fun _ _ _ _ _ _ us hl => match us, hl with | [_, _], _ => rfl
  have F12 := fun_mk (st := s12) l12 c12 k12
  have b12 := F12.binds (ps := ["line", "thing"]) fun _ _ _ _ _ _ us hl => match us, hl with | [_, _], _ => rfl
  have F13 := fun_mk (st := s13) l13 c13 k13
  have b13 := F13.binds (ps := ["line", "place"]) fun _ _ _ _ _ _ us hl => match us, hl with | [_, _], _ => rfl
  have F14 := fun_mk (st := s14) l14 c14 k14
  have b14 := F14.binds (ps := ["line", "place", "part"]) fun _ _ _ _ _ _ us hl => match us, hl with | [_, _, _], _ => rfl
  have F15 := fun_mk (st := s15) l15 c15 k15
  have b15 := F15.binds (ps := ["line", "place", "part"]) fun _ _ _ _ _ _ us hl => match us, hl with | [_, _, _], _ => rfl
  have F16 := fun_mk (st := s16) l16 c16 k16
  have b16 := F16.binds (ps := ["script", "mark"]) fun _ _ _ _ _ _ us hl => match us, hl with | [_, _], _ => rfl
  have F17 := fun_mk (st := s17) l17 c17 k17
  have b17 := F17.binds (ps := ["deck", "many"]) fun _ _ _ _ _ _ us hl => match us, hl with | [_, _], _ => rfl
  have F18 := fun_mk (st := s18) l18 c18 k18
  have b18 := F18.binds (ps := ["deck", "some"]) fun _ _ _ _ _ _ us hl => match us, hl with | [_, _], _ => rfl
  have F19 := fun_mk (st := s19) l19 c19 k19
  have b19 := F19.binds (ps := ["deck", "some"]) fun _ _ _ _ _ _ us hl => match us, hl with | [_, _], _ => rfl
  have F20 := fun_mk (st := s20) l20 c20 k20
  have b20 := F20.binds (ps := ["told", "due"]) fun _ _ _ _ _ _ us hl => match us, hl with | [_, _], _ => rfl
  have F21 := fun_mk (st := s21) l21 c21 k21
  have b21 := F21.binds (ps := ["line"]) fun _ _ _ _ _ _ us hl => match us, hl with | [_], _ => rfl
  have F22 := fun_mk (st := s22) l22 c22 k22
  have b22 := F22.binds (ps := ["line"]) fun _ _ _ _ _ _ us hl => match us, hl with | [_], _ => rfl
  have F23 := fun_mk (st := s23) l23 c23 k23
  have b23 := F23.binds (ps := ["line", "place"]) fun _ _ _ _ _ _ us hl => match us, hl with | [_, _], _ => rfl
  have F24 := fun_mk (st := s24) l24 c24 k24
  have b24 := F24.binds (ps := ["line", "place", "part"]) fun _ _ _ _ _ _ us hl => match us, hl with | [_, _, _], _ => rfl
  have F25 := fun_mk (st := s25) l25 c25 k25
  have b25 := F25.binds (ps := ["deck", "deep"]) fun _ _ _ _ _ _ us hl => match us, hl with | [_, _], _ => rfl
  have F26 := fun_mk (st := s26) l26 c26 k26
  have b26 := F26.binds (ps := ["deck", "line"]) fun _ _ _ _ _ _ us hl => match us, hl with | [_, _], _ => rfl
  have F27 := fun_mk (st := s27) l27 c27 k27
  have b27 := F27.binds (ps := ["one", "other"]) fun _ _ _ _ _ _ us hl => match us, hl with | [_, _], _ => rfl
  have F28 := fun_mk (st := s28) l28 c28 k28
  have b28 := F28.binds (ps := ["one", "other"]) fun _ _ _ _ _ _ us hl => match us, hl with | [_, _], _ => rfl
  have F29 := fun_mk (st := s29) l29 c29 k29
  have b29 := F29.binds (ps := ["call"]) fun _ _ _ _ _ _ us hl => match us, hl with | [_], _ => rfl
  have F30 := fun_mk (st := s30) l30 c30 k30
  have b30 := F30.binds (ps := ["deck"]) fun _ _ _ _ _ _ us hl => match us, hl with | [_], _ => rfl
  have F31 := fun_mk (st := s31) l31 c31 k31
  have b31 := F31.binds (ps := ["script"]) fun _ _ _ _ _ _ us hl => match us, hl with | [_], _ => rfl
  obtain ⟨t_MOST_WHOLE, n_MOST_WHOLE⟩ := n_MOST_WHOLE
  refine ⟨fun j => [f0, f1, f2, f3, f4, f5, f6, f7, f8, f9, f10, f11, f12, f13, f14, f15, f16, f17, f18, f19, f20, f21, f22, f23, f24, f25, f26, f27, f28, f29, f30, f31].getD j 0, fun j => [PySem.W.fnOf "is_whole" "is_whole" (defArgs s0) (defBody s0) (defScope s0) .none kV0 dc0 pm0 an0 cd0 ct0, PySem.W.fnOf "is_whole_between" "is_whole_between" (defArgs s1) (defBody s1) (defScope s1) .none kV1 dc1 pm1 an1 cd1 ct1, PySem.W.fnOf "is_tuple_of" "is_tuple_of" (defArgs s2) (defBody s2) (defScope s2) .none kV2 dc2 pm2 an2 cd2 ct2, PySem.W.fnOf "is_tuple_by" "is_tuple_by" (defArgs s3) (defBody s3) (defScope s3) .none kV3 dc3 pm3 an3 cd3 ct3, PySem.W.fnOf "is_name" "is_name" (defArgs s4) (defBody s4) (defScope s4) .none kV4 dc4 pm4 an4 cd4 ct4, PySem.W.fnOf "is_line_form" "is_line_form" (defArgs s5) (defBody s5) (defScope s5) .none kV5 dc5 pm5 an5 cd5 ct5, PySem.W.fnOf "need_form" "need_form" (defArgs s6) (defBody s6) (defScope s6) .none kV6 dc6 pm6 an6 cd6 ct6, PySem.W.fnOf "parts_of_line" "parts_of_line" (defArgs s7) (defBody s7) (defScope s7) .none kV7 dc7 pm7 an7 cd7 ct7, PySem.W.fnOf "size_of" "size_of" (defArgs s8) (defBody s8) (defScope s8) .none kV8 dc8 pm8 an8 cd8 ct8, PySem.W.fnOf "key_of" "key_of" (defArgs s9) (defBody s9) (defScope s9) .none kV9 dc9 pm9 an9 cd9 ct9, PySem.W.fnOf "line_size" "line_size" (defArgs s10) (defBody s10) (defScope s10) .none kV10 dc10 pm10 an10 cd10 ct10, PySem.W.fnOf "is_before" "is_before" (defArgs s11) (defBody s11) (defScope s11) .none kV11 dc11 pm11 an11 cd11 ct11, PySem.W.fnOf "is_place_in" "is_place_in" (defArgs s12) (defBody s12) (defScope s12) .none kV12 dc12 pm12 an12 cd12 ct12, PySem.W.fnOf "need_place" "need_place" (defArgs s13) (defBody s13) (defScope s13) .none kV13 dc13 pm13 an13 cd13 ct13, PySem.W.fnOf "put_in_line" "put_in_line" (defArgs s14) (defBody s14) (defScope s14) .none kV14 dc14 pm14 an14 cd14 ct14, PySem.W.fnOf "put_at" "put_at" (defArgs s15) (defBody s15) (defScope s15) .none kV15 dc15 pm15 an15 cd15 ct15, PySem.W.fnOf "_law_deck" "_law_deck" (defArgs s16) (defBody s16) (defScope s16) .none kV16 dc16 pm16 an16 cd16 ct16, PySem.W.fnOf "_law_draw" "_law_draw" (defArgs s17) (defBody s17) (defScope s17) .none kV17 dc17 pm17 an17 cd17 ct17, PySem.W.fnOf "_law_pick" "_law_pick" (defArgs s18) (defBody s18) (defScope s18) .none kV18 dc18 pm18 an18 cd18 ct18, PySem.W.fnOf "_law_mixed" "_law_mixed" (defArgs s19) (defBody s19) (defScope s19) .none kV19 dc19 pm19 an19 cd19 ct19, PySem.W.fnOf "_law_same" "_law_same" (defArgs s20) (defBody s20) (defScope s20) .none kV20 dc20 pm20 an20 cd20 ct20, PySem.W.fnOf "_law_size" "_law_size" (defArgs s21) (defBody s21) (defScope s21) .none kV21 dc21 pm21 an21 cd21 ct21, PySem.W.fnOf "_law_places" "_law_places" (defArgs s22) (defBody s22) (defScope s22) .none kV22 dc22 pm22 an22 cd22 ct22, PySem.W.fnOf "_law_part" "_law_part" (defArgs s23) (defBody s23) (defScope s23) .none kV23 dc23 pm23 an23 cd23 ct23, PySem.W.fnOf "_law_put_part" "_law_put_part" (defArgs s24) (defBody s24) (defScope s24) .none kV24 dc24 pm24 an24 cd24 ct24, PySem.W.fnOf "_law_formed" "_law_formed" (defArgs s25) (defBody s25) (defScope s25) .none kV25 dc25 pm25 an25 cd25 ct25, PySem.W.fnOf "_law_other" "_law_other" (defArgs s26) (defBody s26) (defScope s26) .none kV26 dc26 pm26 an26 cd26 ct26, PySem.W.fnOf "_law_order" "_law_order" (defArgs s27) (defBody s27) (defScope s27) .none kV27 dc27 pm27 an27 cd27 ct27, PySem.W.fnOf "_law_tuple_order" "_law_tuple_order" (defArgs s28) (defBody s28) (defScope s28) .none kV28 dc28 pm28 an28 cd28 ct28, PySem.W.fnOf "_law_heard" "_law_heard" (defArgs s29) (defBody s29) (defScope s29) .none kV29 dc29 pm29 an29 cd29 ct29, PySem.W.fnOf "_law_is_all_right" "_law_is_all_right" (defArgs s30) (defBody s30) (defScope s30) .none kV30 dc30 pm30 an30 cd30 ct30, PySem.W.fnOf "law" "law" (defArgs s31) (defBody s31) (defScope s31) .none kV31 dc31 pm31 an31 cd31 ct31].getD j default, fun x => if x = "BadLine" then C_BadLine else if x = "BadPlace" then C_BadPlace else CW, fun x => if x = "BadLine" then I_BadLine else I_BadPlace, ⟨?_⟩, fun _ _ => rfl, rfl, rfl, l30, fun s u => .of_eq rfl⟩
  exact {
    f0 := ⟨F0, PySem.W.mg_of X G a0, b0⟩
    f1 := ⟨F1, PySem.W.mg_of X G a1, b1⟩
    f2 := ⟨F2, PySem.W.mg_of X G a2, b2⟩
    f3 := ⟨F3, PySem.W.mg_of X G a3, b3⟩
    f4 := ⟨F4, PySem.W.mg_of X G a4, b4⟩
    f5 := ⟨F5, PySem.W.mg_of X G a5, b5⟩
    f6 := ⟨F6, PySem.W.mg_of X G a6, b6⟩
    f7 := ⟨F7, PySem.W.mg_of X G a7, b7⟩
    f8 := ⟨F8, PySem.W.mg_of X G a8, b8⟩
    f9 := ⟨F9, PySem.W.mg_of X G a9, b9⟩
    f10 := ⟨F10, PySem.W.mg_of X G a10, b10⟩
    f11 := ⟨F11, PySem.W.mg_of X G a11, b11⟩
    f12 := ⟨F12, PySem.W.mg_of X G a12, b12⟩
    f13 := ⟨F13, PySem.W.mg_of X G a13, b13⟩
    f14 := ⟨F14, PySem.W.mg_of X G a14, b14⟩
    f15 := ⟨F15, PySem.W.mg_of X G a15, b15⟩
    f16 := ⟨F16, PySem.W.mg_of X G a16, b16⟩
    f17 := ⟨F17, PySem.W.mg_of X G a17, b17⟩
    f18 := ⟨F18, PySem.W.mg_of X G a18, b18⟩
    f19 := ⟨F19, PySem.W.mg_of X G a19, b19⟩
    f20 := ⟨F20, PySem.W.mg_of X G a20, b20⟩
    f21 := ⟨F21, PySem.W.mg_of X G a21, b21⟩
    f22 := ⟨F22, PySem.W.mg_of X G a22, b22⟩
    f23 := ⟨F23, PySem.W.mg_of X G a23, b23⟩
    f24 := ⟨F24, PySem.W.mg_of X G a24, b24⟩
    f25 := ⟨F25, PySem.W.mg_of X G a25, b25⟩
    f26 := ⟨F26, PySem.W.mg_of X G a26, b26⟩
    f27 := ⟨F27, PySem.W.mg_of X G a27, b27⟩
    f28 := ⟨F28, PySem.W.mg_of X G a28, b28⟩
    f29 := ⟨F29, PySem.W.mg_of X G a29, b29⟩
    f30 := ⟨F30, PySem.W.mg_of X G a30, b30⟩
    f31 := ⟨F31, PySem.W.mg_of X G a31, b31⟩
    b_all := PySem.W.mg_none_of X G z_all
    b_bool := PySem.W.mg_none_of X G z_bool
    b_dict := PySem.W.mg_none_of X G z_dict
    b_enumerate := PySem.W.mg_none_of X G z_enumerate
    b_int := PySem.W.mg_none_of X G z_int
    b_isinstance := PySem.W.mg_none_of X G z_isinstance
    b_len := PySem.W.mg_none_of X G z_len
    b_list := PySem.W.mg_none_of X G z_list
    b_max := PySem.W.mg_none_of X G z_max
    b_range := PySem.W.mg_none_of X G z_range
    b_reversed := PySem.W.mg_none_of X G z_reversed
    b_str := PySem.W.mg_none_of X G z_str
    b_sum := PySem.W.mg_none_of X G z_sum
    b_tuple := PySem.W.mg_none_of X G z_tuple
    b_zip := PySem.W.mg_none_of X G z_zip
    v_FIGURES := .str "0123456789"
    u_FIGURES := .str "0123456789" t_FIGURES
    c_FIGURES := PySem.W.mg_of X G n_FIGURES
    r_FIGURES := ⟨_, rfl⟩
    q_FIGURES := fun _ _ _ => .str _
    v_MOST_NAME := .int 12
    u_MOST_NAME := .int 12 t_MOST_NAME
    c_MOST_NAME := PySem.W.mg_of X G n_MOST_NAME
    r_MOST_NAME := ⟨_, rfl⟩
    q_MOST_NAME := fun _ _ _ => .int _
    v_MOST_WHOLE := .int 10000000000000000000000000000000000000000
    u_MOST_WHOLE := .int 10000000000000000000000000000000000000000 t_MOST_WHOLE
    c_MOST_WHOLE := n_MOST_WHOLE
    r_MOST_WHOLE := ⟨_, rfl⟩
    q_MOST_WHOLE := fun _ _ _ => .int _
    v_SMALL := .str "abcdefghijklmnopqrstuvwxyz"
    u_SMALL := .str "abcdefghijklmnopqrstuvwxyz" t_SMALL
    c_SMALL := PySem.W.mg_of X G n_SMALL
    r_SMALL := ⟨_, rfl⟩
    q_SMALL := fun _ _ _ => .str _
    v_TRIPLE := .int 3
    u_TRIPLE := .int 3 t_TRIPLE
    c_TRIPLE := PySem.W.mg_of X G n_TRIPLE
    r_TRIPLE := ⟨_, rfl⟩
    q_TRIPLE := fun _ _ _ => .int _
    v_WORDS := .ref w_WORDS
    u_WORDS := .ref w_WORDS
    c_WORDS := PySem.W.mg_of X G n_WORDS
    r_WORDS := rfl
    q_WORDS := fun _ _ _ => dv_tupS (ws := ["sort", "make", "look", "worth", "walk", "join", "skill", "rule", "meet", "when", "way", "task", "not", "if", "then", "else", "and", "or", "mod"]) (by rw [sizeLine_eq]; decide) (by unfold isTupS; rw [t_WORDS]; simp only [y_WORDS]; simp)
    x_BadLine := { gC := PySem.W.mg_of X G e1_BadLine, cls := ⟨nm_BadLine, q_BadLine, N_BadLine, bs_BadLine, [W_BadLine], sn_BadLine, sub_BadLine, ab_BadLine, col_BadLine, dd_BadLine, m0_BadLine, m1_BadLine, m2_BadLine, m3_BadLine, m5_BadLine, e2_BadLine⟩, sa := e3_BadLine, ga := e4_BadLine, gg := e5_BadLine, noN := e6_BadLine, iC := e7_BadLine, tC := e8_BadLine, kC := e11_BadLine, exC := e12_BadLine, tyC := e13_BadLine, hdC := e14_BadLine, fn := ⟨_, _, _, _, _, _, _, _, _, _, _, _, _, _, _, e9_BadLine, e10_BadLine⟩ }
    x_BadPlace := { gC := PySem.W.mg_of X G e1_BadPlace, cls := ⟨nm_BadPlace, q_BadPlace, N_BadPlace, bs_BadPlace, [W_BadPlace], sn_BadPlace, sub_BadPlace, ab_BadPlace, col_BadPlace, dd_BadPlace, m0_BadPlace, m1_BadPlace, m2_BadPlace, m3_BadPlace, m5_BadPlace, e2_BadPlace⟩, sa := e3_BadPlace, ga := e4_BadPlace, gg := e5_BadPlace, noN := e6_BadPlace, iC := e7_BadPlace, tC := e8_BadPlace, kC := e11_BadPlace, exC := e12_BadPlace, tyC := e13_BadPlace, hdC := e14_BadPlace, fn := ⟨_, _, _, _, _, _, _, _, _, _, _, _, _, _, _, e9_BadPlace, e10_BadPlace⟩ }
    self := PySem.W.exm_ref e12_BadLine e14_BadLine e13_BadLine x2
    work := PySem.W.mg_of X G x1
    kit := kit_yes x3 x4 x5 }

/-- the plain law -/
def FU : Nat := 1000
def LV : Nat := 60
def PlainLaw : Prop := ∀ ns : List Int, ns.length ≤ 63 → ∀ (d : D) (M : Mem), (d = .rol (ns.map D.int) ∧ M = []) ∨ (d = .ref 0 ∧ M = [.lst (ns.map D.int)]) → ∃ M', callK FU LV 31 [d] M = .ok (.bl true) M'

theorem at_end (PL : PlainLaw) {l : PySem.W.OpenLaw} {w : World} {K : PySem.W.Frag} {h : Heap} {mg : Str → Option Value} {fl c P : Addr} (X : K.In h) (G : h.Ns mainGlobals mg) (hfa : mg "law" = some (.ref fl)) (hP : h.get? P = some { cls := .none, data := .fields #[] }) (nP : K.lookup P = none) (hC : PySem.W.CodeHd h c P) (ht : PySem.W.tabIn K "_law_is_all_right" = some (c, P))
    {fa : Nat → Addr} {fd : Nat → FuncData} {eC eI : Str → Addr} (S : Facts K mg fa fd eC eI) {oc30 : Value} {od30 : Option Addr} {sl30 : Array (Option Value)} (lk : K.lookup (fa 30) = some ⟨oc30, od30, .func (fd 30), sl30⟩) (hb : ∀ (s : Shared) (u : Value), BindsTo s (fd 31) ⟨[u], []⟩ [("script", u)]) :
    LamX.LawAtS l w K (L2.CX l.prog w) (3 * LV) 63 "script" mg fl h := by
  have hcode : (fd 30).code = .ref c := PySem.W.law_code X G ht S.f30.mgf (X _ _ lk) rfl
  have e31 : fl = fa 31 := by
    have := S.f31.mgf
    rw [hfa] at this; cases this; rfl
  subst e31
  refine ⟨fd 31, [(c, P)], fun vs H Q E => ∃ (a : Addr) (ns : List Int), vs = [.ref a] ∧ ns.length ≤ 63 ∧ H P = some (.tbl #[]) ∧ SqL K H a (ns.map V.int) ∧ ∀ H', Q (.bl true) H',
    fun p hp => by rw [List.mem_singleton.mp hp]; exact hP, fun p hp => by rw [List.mem_singleton.mp hp]; exact nP, fun p hp => by rw [List.mem_singleton.mp hp]; exact hC, hb, fun H a ns hl _ hT hS => ⟨a, ns, rfl, hl, hT (c, P) List.mem_cons_self, hS, fun _ => rfl⟩, fun base KB GB TB => ?_⟩
  have T0 := TB (c, P) List.mem_cons_self
  have A := all_ok (P := l.prog) (w := w) (base := base) (fu := FU) S hcode T0 LV
  have F := A.d31.ok
  have key : ∀ (vs : List V) (H : Hp) (Q : VK) (E : XK), (∃ (a : Addr) (ns : List Int), vs = [.ref a] ∧ ns.length ≤ 63 ∧ H P = some (.tbl #[]) ∧ SqL K H a (ns.map V.int) ∧ ∀ H', Q (.bl true) H') → spD ⟨K, mg, base⟩ (callK FU LV 31) vs H Q E := by
    rintro vs H Q E ⟨a, ns, rfl, hl, hT, hS, hQ⟩
    have tabs : LamX.Tabs (tabT ⟨K, mg, base⟩) H := by
      intro p hp
      obtain ⟨x, hx, _, hA⟩ := tabT_in hp
      have hx : x = "_law_is_all_right" := by simpa [lamDefs] using hx
      subst hx
      have : p.1 = P := hA.one ⟨_, _, _, _, _, _, S.f30.mgf, lk, hcode, T0.code⟩
      rw [this]
      exact .nil hT
    have fin : ∀ (φ : List Addr) (M : Mem) (d : D), MR ⟨K, mg, base⟩ φ M H → DV ⟨K, mg, base⟩ φ H d (.ref a) → ((d = .rol (ns.map D.int) ∧ M = []) ∨ (d = .ref 0 ∧ M = [.lst (ns.map D.int)])) → spD ⟨K, mg, base⟩ (callK FU LV 31) [.ref a] H Q E := by
      intro φ M d m dv hd
      obtain ⟨M', e⟩ := PL ns hl d M hd
      refine ⟨φ, M, [d], m, .cons dv .nil, ?_⟩
      rw [e]
      intro φ' H' _ _ v r
      cases r
      exact hQ H'
    have mk0 : MR ⟨K, mg, base⟩ [] [] H := ⟨rfl, List.nodup_nil, tabs, fun n o e => by simp at e⟩
    rcases hS with hS | hS
    · rcases hS with hS | ⟨o, hS⟩
      · refine fin [a] [.lst (ns.map D.int)] (.ref 0) ⟨rfl, by simp, tabs, fun n o e => ?_⟩ (.ref rfl) (.inr ⟨rfl, rfl⟩)
        match n, e with
        | 0, e =>
          cases e
          exact ⟨a, rfl, _, hS, DVs.of_ints ns⟩
        | n + 1, e => simp at e
      · exact fin [] [] (.rol (ns.map D.int)) mk0 (.rol (.inl ⟨o, hS⟩) (DVs.of_ints ns)) (.inl ⟨rfl, rfl⟩)
    · exact fin [] [] (.rol (ns.map D.int)) mk0 (.rol (.inr hS) (DVs.of_ints ns)) (.inl ⟨rfl, rfl⟩)
  exact ⟨fun vs H Q E z => F.len vs H Q E (key vs H Q E z), fun A outer s H args us vs Q E hr e0 hbt r z => F.run A outer s H args us vs Q E hr e0 hbt r (key vs H Q E z)⟩

theorem walkP {l : PySem.W.OpenLaw} {k : Nat} {q : Program} {loose : List Str} {lv : List (Str × PySem.W.WData)} {YP : World → Heap → Prop} {d : DefRec} {K : Params → PySem.W.Frag} {d' : DefRec}
    (hn : l.most = some 63) (hdf : d.params.defaults = []) (hr : Room k callerA) (hY : ∀ (w : World) (h : Heap), YP w h → (K w.params).In h) (hrec : (recsOf q).find? (fun e : DefRec => e.name == ("_law_is_all_right" : Str)) = some d')
    (F : ∀ (w : World) (mg : Str → Option Value) (fa : Addr) (h : Heap), PySem.W.XL q lv mg h → (∀ c P, PySem.W.tabIn (K w.params) "_law_is_all_right" = some (c, P) → PySem.W.CodeHd h c P ∧ h.get? P = some { cls := .none, data := .fields #[] }) → (K w.params).In h → h.Ns mainGlobals mg → mg d.name = some (.ref fa) → LamX.LawAtS l w (K w.params) (L2.CX l.prog w) k 63 "script" mg fa h) :
    PySem.W.WalkO q loose (PySem.W.XL q lv) YP l.row.toRowW d [] (fun f vs => PySem.call f vs) := by
  refine Att.attach_callB hn hdf fun w s₀ s₁ mg mb fa o pm cd doc a vs ns G Y ho hd hcd hmg hobj hints hlen hbits hg => ?_
  have KX := hY w _ Y
  obtain ⟨fd, cs, sp, hT, nT, C, hb, hsp, hF⟩ := F w mg fa _ G.X (fun c P ht => PySem.W.tab_of G.T KX hrec ht) KX G.T.g hmg
  refine LamX.law_callTs KX G.T.g G.T.b G.T.builtins G.T.nolimit hg hT nT C G.T.bmain hobj hints (Nat.le_trans hlen (by rw [sizeLine_eq]; decide)) hr hF hb (fun H hH hS => hsp H a ns hlen hbits hH hS) fun H e s' z => ?_
  obtain ⟨_, _, _, _, _, _, _, _, _, _, _, _, z⟩ := z
  exact z.elim


theorem end_mk (PL : PlainLaw) {l : PySem.W.OpenLaw} {w : World} {K : PySem.W.Frag} {h : Heap} {mg : Str → Option Value} {fl c P : Addr} (X : K.In h) (G : h.Ns mainGlobals mg) (hfa : mg "law" = some (.ref fl))
    (htab : ∀ c P, PySem.W.tabIn K "_law_is_all_right" = some (c, P) → PySem.W.CodeHd h c P ∧ h.get? P = some { cls := .none, data := .fields #[] })
    {f0 f1 f2 f3 f4 f5 f6 f7 f8 f9 f10 f11 f12 f13 f14 f15 f16 f17 f18 f19 f20 f21 f22 f23 f24 f25 f26 f27 f28 f29 f30 f31 : Addr}
    {od0 an0 : Option Addr} {sl0 : Array (Option Value)} {oc0 kV0 dc0 pm0 cd0 ct0 : Value}
    (a0 : PySem.W.nsIn K mainGlobals "is_whole" = some (some (.ref f0)))
    (l0 : K.lookup f0 = some ⟨oc0, od0, .func (PySem.W.fnOf "is_whole" "is_whole" (defArgs s0) (defBody s0) (defScope s0) .none kV0 dc0 pm0 an0 cd0 ct0), sl0⟩)
    (c0 : PySem.W.codeIn K cd0 "is_whole" = true) (k0 : PySem.W.keepIn K (.ref f0) = true)
    {od1 an1 : Option Addr} {sl1 : Array (Option Value)} {oc1 kV1 dc1 pm1 cd1 ct1 : Value}
    (a1 : PySem.W.nsIn K mainGlobals "is_whole_between" = some (some (.ref f1)))
    (l1 : K.lookup f1 = some ⟨oc1, od1, .func (PySem.W.fnOf "is_whole_between" "is_whole_between" (defArgs s1) (defBody s1) (defScope s1) .none kV1 dc1 pm1 an1 cd1 ct1), sl1⟩)
    (c1 : PySem.W.codeIn K cd1 "is_whole_between" = true) (k1 : PySem.W.keepIn K (.ref f1) = true)
    {od2 an2 : Option Addr} {sl2 : Array (Option Value)} {oc2 kV2 dc2 pm2 cd2 ct2 : Value}
    (a2 : PySem.W.nsIn K mainGlobals "is_tuple_of" = some (some (.ref f2)))
    (l2 : K.lookup f2 = some ⟨oc2, od2, .func (PySem.W.fnOf "is_tuple_of" "is_tuple_of" (defArgs s2) (defBody s2) (defScope s2) .none kV2 dc2 pm2 an2 cd2 ct2), sl2⟩)
    (c2 : PySem.W.codeIn K cd2 "is_tuple_of" = true) (k2 : PySem.W.keepIn K (.ref f2) = true)
    {od3 an3 : Option Addr} {sl3 : Array (Option Value)} {oc3 kV3 dc3 pm3 cd3 ct3 : Value}
    (a3 : PySem.W.nsIn K mainGlobals "is_tuple_by" = some (some (.ref f3)))
    (l3 : K.lookup f3 = some ⟨oc3, od3, .func (PySem.W.fnOf "is_tuple_by" "is_tuple_by" (defArgs s3) (defBody s3) (defScope s3) .none kV3 dc3 pm3 an3 cd3 ct3), sl3⟩)
    (c3 : PySem.W.codeIn K cd3 "is_tuple_by" = true) (k3 : PySem.W.keepIn K (.ref f3) = true)
    {od4 an4 : Option Addr} {sl4 : Array (Option Value)} {oc4 kV4 dc4 pm4 cd4 ct4 : Value}
    (a4 : PySem.W.nsIn K mainGlobals "is_name" = some (some (.ref f4)))
    (l4 : K.lookup f4 = some ⟨oc4, od4, .func (PySem.W.fnOf "is_name" "is_name" (defArgs s4) (defBody s4) (defScope s4) .none kV4 dc4 pm4 an4 cd4 ct4), sl4⟩)
    (c4 : PySem.W.codeIn K cd4 "is_name" = true) (k4 : PySem.W.keepIn K (.ref f4) = true)
    {od5 an5 : Option Addr} {sl5 : Array (Option Value)} {oc5 kV5 dc5 pm5 cd5 ct5 : Value}
    (a5 : PySem.W.nsIn K mainGlobals "is_line_form" = some (some (.ref f5)))
    (l5 : K.lookup f5 = some ⟨oc5, od5, .func (PySem.W.fnOf "is_line_form" "is_line_form" (defArgs s5) (defBody s5) (defScope s5) .none kV5 dc5 pm5 an5 cd5 ct5), sl5⟩)
    (c5 : PySem.W.codeIn K cd5 "is_line_form" = true) (k5 : PySem.W.keepIn K (.ref f5) = true)
    {od6 an6 : Option Addr} {sl6 : Array (Option Value)} {oc6 kV6 dc6 pm6 cd6 ct6 : Value}
    (a6 : PySem.W.nsIn K mainGlobals "need_form" = some (some (.ref f6)))
    (l6 : K.lookup f6 = some ⟨oc6, od6, .func (PySem.W.fnOf "need_form" "need_form" (defArgs s6) (defBody s6) (defScope s6) .none kV6 dc6 pm6 an6 cd6 ct6), sl6⟩)
    (c6 : PySem.W.codeIn K cd6 "need_form" = true) (k6 : PySem.W.keepIn K (.ref f6) = true)
    {od7 an7 : Option Addr} {sl7 : Array (Option Value)} {oc7 kV7 dc7 pm7 cd7 ct7 : Value}
    (a7 : PySem.W.nsIn K mainGlobals "parts_of_line" = some (some (.ref f7)))
    (l7 : K.lookup f7 = some ⟨oc7, od7, .func (PySem.W.fnOf "parts_of_line" "parts_of_line" (defArgs s7) (defBody s7) (defScope s7) .none kV7 dc7 pm7 an7 cd7 ct7), sl7⟩)
    (c7 : PySem.W.codeIn K cd7 "parts_of_line" = true) (k7 : PySem.W.keepIn K (.ref f7) = true)
    {od8 an8 : Option Addr} {sl8 : Array (Option Value)} {oc8 kV8 dc8 pm8 cd8 ct8 : Value}
    (a8 : PySem.W.nsIn K mainGlobals "size_of" = some (some (.ref f8)))
    (l8 : K.lookup f8 = some ⟨oc8, od8, .func (PySem.W.fnOf "size_of" "size_of" (defArgs s8) (defBody s8) (defScope s8) .none kV8 dc8 pm8 an8 cd8 ct8), sl8⟩)
    (c8 : PySem.W.codeIn K cd8 "size_of" = true) (k8 : PySem.W.keepIn K (.ref f8) = true)
    {od9 an9 : Option Addr} {sl9 : Array (Option Value)} {oc9 kV9 dc9 pm9 cd9 ct9 : Value}
    (a9 : PySem.W.nsIn K mainGlobals "key_of" = some (some (.ref f9)))
    (l9 : K.lookup f9 = some ⟨oc9, od9, .func (PySem.W.fnOf "key_of" "key_of" (defArgs s9) (defBody s9) (defScope s9) .none kV9 dc9 pm9 an9 cd9 ct9), sl9⟩)
    (c9 : PySem.W.codeIn K cd9 "key_of" = true) (k9 : PySem.W.keepIn K (.ref f9) = true)
    {od10 an10 : Option Addr} {sl10 : Array (Option Value)} {oc10 kV10 dc10 pm10 cd10 ct10 : Value}
    (a10 : PySem.W.nsIn K mainGlobals "line_size" = some (some (.ref f10)))
    (l10 : K.lookup f10 = some ⟨oc10, od10, .func (PySem.W.fnOf "line_size" "line_size" (defArgs s10) (defBody s10) (defScope s10) .none kV10 dc10 pm10 an10 cd10 ct10), sl10⟩)
    (c10 : PySem.W.codeIn K cd10 "line_size" = true) (k10 : PySem.W.keepIn K (.ref f10) = true)
    {od11 an11 : Option Addr} {sl11 : Array (Option Value)} {oc11 kV11 dc11 pm11 cd11 ct11 : Value}
    (a11 : PySem.W.nsIn K mainGlobals "is_before" = some (some (.ref f11)))
    (l11 : K.lookup f11 = some ⟨oc11, od11, .func (PySem.W.fnOf "is_before" "is_before" (defArgs s11) (defBody s11) (defScope s11) .none kV11 dc11 pm11 an11 cd11 ct11), sl11⟩)
    (c11 : PySem.W.codeIn K cd11 "is_before" = true) (k11 : PySem.W.keepIn K (.ref f11) = true)
    {od12 an12 : Option Addr} {sl12 : Array (Option Value)} {oc12 kV12 dc12 pm12 cd12 ct12 : Value}
    (a12 : PySem.W.nsIn K mainGlobals "is_place_in" = some (some (.ref f12)))
    (l12 : K.lookup f12 = some ⟨oc12, od12, .func (PySem.W.fnOf "is_place_in" "is_place_in" (defArgs s12) (defBody s12) (defScope s12) .none kV12 dc12 pm12 an12 cd12 ct12), sl12⟩)
    (c12 : PySem.W.codeIn K cd12 "is_place_in" = true) (k12 : PySem.W.keepIn K (.ref f12) = true)
    {od13 an13 : Option Addr} {sl13 : Array (Option Value)} {oc13 kV13 dc13 pm13 cd13 ct13 : Value}
    (a13 : PySem.W.nsIn K mainGlobals "need_place" = some (some (.ref f13)))
    (l13 : K.lookup f13 = some ⟨oc13, od13, .func (PySem.W.fnOf "need_place" "need_place" (defArgs s13) (defBody s13) (defScope s13) .none kV13 dc13 pm13 an13 cd13 ct13), sl13⟩)
    (c13 : PySem.W.codeIn K cd13 "need_place" = true) (k13 : PySem.W.keepIn K (.ref f13) = true)
    {od14 an14 : Option Addr} {sl14 : Array (Option Value)} {oc14 kV14 dc14 pm14 cd14 ct14 : Value}
    (a14 : PySem.W.nsIn K mainGlobals "put_in_line" = some (some (.ref f14)))
    (l14 : K.lookup f14 = some ⟨oc14, od14, .func (PySem.W.fnOf "put_in_line" "put_in_line" (defArgs s14) (defBody s14) (defScope s14) .none kV14 dc14 pm14 an14 cd14 ct14), sl14⟩)
    (c14 : PySem.W.codeIn K cd14 "put_in_line" = true) (k14 : PySem.W.keepIn K (.ref f14) = true)
    {od15 an15 : Option Addr} {sl15 : Array (Option Value)} {oc15 kV15 dc15 pm15 cd15 ct15 : Value}
    (a15 : PySem.W.nsIn K mainGlobals "put_at" = some (some (.ref f15)))
    (l15 : K.lookup f15 = some ⟨oc15, od15, .func (PySem.W.fnOf "put_at" "put_at" (defArgs s15) (defBody s15) (defScope s15) .none kV15 dc15 pm15 an15 cd15 ct15), sl15⟩)
    (c15 : PySem.W.codeIn K cd15 "put_at" = true) (k15 : PySem.W.keepIn K (.ref f15) = true)
    {od16 an16 : Option Addr} {sl16 : Array (Option Value)} {oc16 kV16 dc16 pm16 cd16 ct16 : Value}
    (a16 : PySem.W.nsIn K mainGlobals "_law_deck" = some (some (.ref f16)))
    (l16 : K.lookup f16 = some ⟨oc16, od16, .func (PySem.W.fnOf "_law_deck" "_law_deck" (defArgs s16) (defBody s16) (defScope s16) .none kV16 dc16 pm16 an16 cd16 ct16), sl16⟩)
    (c16 : PySem.W.codeIn K cd16 "_law_deck" = true) (k16 : PySem.W.keepIn K (.ref f16) = true)
    {od17 an17 : Option Addr} {sl17 : Array (Option Value)} {oc17 kV17 dc17 pm17 cd17 ct17 : Value}
    (a17 : PySem.W.nsIn K mainGlobals "_law_draw" = some (some (.ref f17)))
    (l17 : K.lookup f17 = some ⟨oc17, od17, .func (PySem.W.fnOf "_law_draw" "_law_draw" (defArgs s17) (defBody s17) (defScope s17) .none kV17 dc17 pm17 an17 cd17 ct17), sl17⟩)
    (c17 : PySem.W.codeIn K cd17 "_law_draw" = true) (k17 : PySem.W.keepIn K (.ref f17) = true)
    {od18 an18 : Option Addr} {sl18 : Array (Option Value)} {oc18 kV18 dc18 pm18 cd18 ct18 : Value}
    (a18 : PySem.W.nsIn K mainGlobals "_law_pick" = some (some (.ref f18)))
    (l18 : K.lookup f18 = some ⟨oc18, od18, .func (PySem.W.fnOf "_law_pick" "_law_pick" (defArgs s18) (defBody s18) (defScope s18) .none kV18 dc18 pm18 an18 cd18 ct18), sl18⟩)
    (c18 : PySem.W.codeIn K cd18 "_law_pick" = true) (k18 : PySem.W.keepIn K (.ref f18) = true)
    {od19 an19 : Option Addr} {sl19 : Array (Option Value)} {oc19 kV19 dc19 pm19 cd19 ct19 : Value}
    (a19 : PySem.W.nsIn K mainGlobals "_law_mixed" = some (some (.ref f19)))
    (l19 : K.lookup f19 = some ⟨oc19, od19, .func (PySem.W.fnOf "_law_mixed" "_law_mixed" (defArgs s19) (defBody s19) (defScope s19) .none kV19 dc19 pm19 an19 cd19 ct19), sl19⟩)
    (c19 : PySem.W.codeIn K cd19 "_law_mixed" = true) (k19 : PySem.W.keepIn K (.ref f19) = true)
    {od20 an20 : Option Addr} {sl20 : Array (Option Value)} {oc20 kV20 dc20 pm20 cd20 ct20 : Value}
    (a20 : PySem.W.nsIn K mainGlobals "_law_same" = some (some (.ref f20)))
    (l20 : K.lookup f20 = some ⟨oc20, od20, .func (PySem.W.fnOf "_law_same" "_law_same" (defArgs s20) (defBody s20) (defScope s20) .none kV20 dc20 pm20 an20 cd20 ct20), sl20⟩)
    (c20 : PySem.W.codeIn K cd20 "_law_same" = true) (k20 : PySem.W.keepIn K (.ref f20) = true)
    {od21 an21 : Option Addr} {sl21 : Array (Option Value)} {oc21 kV21 dc21 pm21 cd21 ct21 : Value}
    (a21 : PySem.W.nsIn K mainGlobals "_law_size" = some (some (.ref f21)))
    (l21 : K.lookup f21 = some ⟨oc21, od21, .func (PySem.W.fnOf "_law_size" "_law_size" (defArgs s21) (defBody s21) (defScope s21) .none kV21 dc21 pm21 an21 cd21 ct21), sl21⟩)
    (c21 : PySem.W.codeIn K cd21 "_law_size" = true) (k21 : PySem.W.keepIn K (.ref f21) = true)
    {od22 an22 : Option Addr} {sl22 : Array (Option Value)} {oc22 kV22 dc22 pm22 cd22 ct22 : Value}
    (a22 : PySem.W.nsIn K mainGlobals "_law_places" = some (some (.ref f22)))
    (l22 : K.lookup f22 = some ⟨oc22, od22, .func (PySem.W.fnOf "_law_places" "_law_places" (defArgs s22) (defBody s22) (defScope s22) .none kV22 dc22 pm22 an22 cd22 ct22), sl22⟩)
    (c22 : PySem.W.codeIn K cd22 "_law_places" = true) (k22 : PySem.W.keepIn K (.ref f22) = true)
    {od23 an23 : Option Addr} {sl23 : Array (Option Value)} {oc23 kV23 dc23 pm23 cd23 ct23 : Value}
    (a23 : PySem.W.nsIn K mainGlobals "_law_part" = some (some (.ref f23)))
    (l23 : K.lookup f23 = some ⟨oc23, od23, .func (PySem.W.fnOf "_law_part" "_law_part" (defArgs s23) (defBody s23) (defScope s23) .none kV23 dc23 pm23 an23 cd23 ct23), sl23⟩)
    (c23 : PySem.W.codeIn K cd23 "_law_part" = true) (k23 : PySem.W.keepIn K (.ref f23) = true)
    {od24 an24 : Option Addr} {sl24 : Array (Option Value)} {oc24 kV24 dc24 pm24 cd24 ct24 : Value}
    (a24 : PySem.W.nsIn K mainGlobals "_law_put_part" = some (some (.ref f24)))
    (l24 : K.lookup f24 = some ⟨oc24, od24, .func (PySem.W.fnOf "_law_put_part" "_law_put_part" (defArgs s24) (defBody s24) (defScope s24) .none kV24 dc24 pm24 an24 cd24 ct24), sl24⟩)
    (c24 : PySem.W.codeIn K cd24 "_law_put_part" = true) (k24 : PySem.W.keepIn K (.ref f24) = true)
    {od25 an25 : Option Addr} {sl25 : Array (Option Value)} {oc25 kV25 dc25 pm25 cd25 ct25 : Value}
    (a25 : PySem.W.nsIn K mainGlobals "_law_formed" = some (some (.ref f25)))
    (l25 : K.lookup f25 = some ⟨oc25, od25, .func (PySem.W.fnOf "_law_formed" "_law_formed" (defArgs s25) (defBody s25) (defScope s25) .none kV25 dc25 pm25 an25 cd25 ct25), sl25⟩)
    (c25 : PySem.W.codeIn K cd25 "_law_formed" = true) (k25 : PySem.W.keepIn K (.ref f25) = true)
    {od26 an26 : Option Addr} {sl26 : Array (Option Value)} {oc26 kV26 dc26 pm26 cd26 ct26 : Value}
    (a26 : PySem.W.nsIn K mainGlobals "_law_other" = some (some (.ref f26)))
    (l26 : K.lookup f26 = some ⟨oc26, od26, .func (PySem.W.fnOf "_law_other" "_law_other" (defArgs s26) (defBody s26) (defScope s26) .none kV26 dc26 pm26 an26 cd26 ct26), sl26⟩)
    (c26 : PySem.W.codeIn K cd26 "_law_other" = true) (k26 : PySem.W.keepIn K (.ref f26) = true)
    {od27 an27 : Option Addr} {sl27 : Array (Option Value)} {oc27 kV27 dc27 pm27 cd27 ct27 : Value}
    (a27 : PySem.W.nsIn K mainGlobals "_law_order" = some (some (.ref f27)))
    (l27 : K.lookup f27 = some ⟨oc27, od27, .func (PySem.W.fnOf "_law_order" "_law_order" (defArgs s27) (defBody s27) (defScope s27) .none kV27 dc27 pm27 an27 cd27 ct27), sl27⟩)
    (c27 : PySem.W.codeIn K cd27 "_law_order" = true) (k27 : PySem.W.keepIn K (.ref f27) = true)
    {od28 an28 : Option Addr} {sl28 : Array (Option Value)} {oc28 kV28 dc28 pm28 cd28 ct28 : Value}
    (a28 : PySem.W.nsIn K mainGlobals "_law_tuple_order" = some (some (.ref f28)))
    (l28 : K.lookup f28 = some ⟨oc28, od28, .func (PySem.W.fnOf "_law_tuple_order" "_law_tuple_order" (defArgs s28) (defBody s28) (defScope s28) .none kV28 dc28 pm28 an28 cd28 ct28), sl28⟩)
    (c28 : PySem.W.codeIn K cd28 "_law_tuple_order" = true) (k28 : PySem.W.keepIn K (.ref f28) = true)
    {od29 an29 : Option Addr} {sl29 : Array (Option Value)} {oc29 kV29 dc29 pm29 cd29 ct29 : Value}
    (a29 : PySem.W.nsIn K mainGlobals "_law_heard" = some (some (.ref f29)))
    (l29 : K.lookup f29 = some ⟨oc29, od29, .func (PySem.W.fnOf "_law_heard" "_law_heard" (defArgs s29) (defBody s29) (defScope s29) .none kV29 dc29 pm29 an29 cd29 ct29), sl29⟩)
    (c29 : PySem.W.codeIn K cd29 "_law_heard" = true) (k29 : PySem.W.keepIn K (.ref f29) = true)
    {od30 an30 : Option Addr} {sl30 : Array (Option Value)} {oc30 kV30 dc30 pm30 cd30 ct30 : Value}
    (a30 : PySem.W.nsIn K mainGlobals "_law_is_all_right" = some (some (.ref f30)))
    (l30 : K.lookup f30 = some ⟨oc30, od30, .func (PySem.W.fnOf "_law_is_all_right" "_law_is_all_right" (defArgs s30) (defBody s30) (defScope s30) .none kV30 dc30 pm30 an30 cd30 ct30), sl30⟩)
    (c30 : PySem.W.codeIn K cd30 "_law_is_all_right" = true) (k30 : PySem.W.keepIn K (.ref f30) = true)
    {od31 an31 : Option Addr} {sl31 : Array (Option Value)} {oc31 kV31 dc31 pm31 cd31 ct31 : Value}
    (a31 : PySem.W.nsIn K mainGlobals "law" = some (some (.ref f31)))
    (l31 : K.lookup f31 = some ⟨oc31, od31, .func (PySem.W.fnOf "law" "law" (defArgs s31) (defBody s31) (defScope s31) .none kV31 dc31 pm31 an31 cd31 ct31), sl31⟩)
    (c31 : PySem.W.codeIn K cd31 "law" = true) (k31 : PySem.W.keepIn K (.ref f31) = true)
    (z_all : PySem.W.nsIn K mainGlobals "all" = some none)
    (z_bool : PySem.W.nsIn K mainGlobals "bool" = some none)
    (z_dict : PySem.W.nsIn K mainGlobals "dict" = some none)
    (z_enumerate : PySem.W.nsIn K mainGlobals "enumerate" = some none)
    (z_int : PySem.W.nsIn K mainGlobals "int" = some none)
    (z_isinstance : PySem.W.nsIn K mainGlobals "isinstance" = some none)
    (z_len : PySem.W.nsIn K mainGlobals "len" = some none)
    (z_list : PySem.W.nsIn K mainGlobals "list" = some none)
    (z_max : PySem.W.nsIn K mainGlobals "max" = some none)
    (z_range : PySem.W.nsIn K mainGlobals "range" = some none)
    (z_reversed : PySem.W.nsIn K mainGlobals "reversed" = some none)
    (z_str : PySem.W.nsIn K mainGlobals "str" = some none)
    (z_sum : PySem.W.nsIn K mainGlobals "sum" = some none)
    (z_tuple : PySem.W.nsIn K mainGlobals "tuple" = some none)
    (z_zip : PySem.W.nsIn K mainGlobals "zip" = some none)
    {t_FIGURES : Tok} (n_FIGURES : PySem.W.nsIn K mainGlobals "FIGURES" = some (some (.str "0123456789" t_FIGURES)))
    {t_MOST_NAME : Tok} (n_MOST_NAME : PySem.W.nsIn K mainGlobals "MOST_NAME" = some (some (.int 12 t_MOST_NAME)))
    (n_MOST_WHOLE : ∃ t, mg "MOST_WHOLE" = some (.int 10000000000000000000000000000000000000000 t))
    {t_SMALL : Tok} (n_SMALL : PySem.W.nsIn K mainGlobals "SMALL" = some (some (.str "abcdefghijklmnopqrstuvwxyz" t_SMALL)))
    {t_TRIPLE : Tok} (n_TRIPLE : PySem.W.nsIn K mainGlobals "TRIPLE" = some (some (.int 3 t_TRIPLE)))
    {w_WORDS : Addr} (n_WORDS : PySem.W.nsIn K mainGlobals "WORDS" = some (some (.ref w_WORDS))) {dw_WORDS : Option Addr} {iw_WORDS : Array Value} {nw_WORDS : Nat} {sw_WORDS : Array (Option Value)} (t_WORDS : K.lookup w_WORDS = some ⟨.type "tuple", dw_WORDS, .seq iw_WORDS nw_WORDS, sw_WORDS⟩) (y_WORDS : iw_WORDS.toList.map strOf = List.map some (["sort", "make", "look", "worth", "walk", "join", "skill", "rule", "meet", "when", "way", "task", "not", "if", "then", "else", "and", "or", "mod"] : List Str))
    {C_BadLine I_BadLine W_BadLine N_BadLine : Addr} {nm_BadLine q_BadLine : Str} {bs_BadLine : List Value} {sn_BadLine : List Str} {sub_BadLine : List Value} {ab_BadLine : Bool} {col_BadLine : Option Bool} {dd_BadLine : Option Addr} {m0_BadLine m1_BadLine m2_BadLine m3_BadLine m5_BadLine : Option Value}
    {oc_BadLine dc_BadLine pm_BadLine cd_BadLine ct_BadLine : Value} {od_BadLine an_BadLine : Option Addr} {sl_BadLine : Array (Option Value)}
    (e1_BadLine : PySem.W.nsIn K mainGlobals "BadLine" = some (some (.ref C_BadLine)))
    (e2_BadLine : K.lookup C_BadLine = some (excClassObj nm_BadLine q_BadLine C_BadLine N_BadLine bs_BadLine [.ref W_BadLine, .type "Exception", .type "BaseException", .type "object"] true sn_BadLine sub_BadLine ab_BadLine col_BadLine dd_BadLine m0_BadLine m1_BadLine m2_BadLine m3_BadLine m5_BadLine "Exception.__new__"))
    (e3_BadLine : PySem.W.findIn K (.ref C_BadLine) "__setattr__" = some (some (.builtin "object.__setattr__"))) (e4_BadLine : PySem.W.findIn K (.ref C_BadLine) "__getattribute__" = some (some (.builtin "BaseException.__getattribute__"))) (e5_BadLine : PySem.W.findIn K (.ref C_BadLine) "__getattr__" = some none) (e6_BadLine : PySem.W.findIn K (.ref C_BadLine) "thing" = some none)
    (e7_BadLine : PySem.W.findIn K (.ref C_BadLine) "__init__" = some (some (.ref I_BadLine))) (e8_BadLine : PySem.W.typeIn K (.ref I_BadLine) = some (.type "function"))
    (e9_BadLine : K.lookup I_BadLine = some ⟨oc_BadLine, od_BadLine, .func (PySem.W.fnOf "__init__" "BadLine.__init__" (iA ⟨6, 17, 6, 21⟩ ⟨6, 23, 6, 28⟩) (iB ⟨7, 8, 7, 12⟩ ⟨7, 8, 7, 18⟩ ⟨7, 21, 7, 26⟩ ⟨7, 8, 7, 26⟩) iS .none .none dc_BadLine pm_BadLine an_BadLine cd_BadLine ct_BadLine), sl_BadLine⟩) (e10_BadLine : PySem.W.codeIn K cd_BadLine "BadLine.__init__" = true)
    (e11_BadLine : PySem.W.keepIn K (.ref C_BadLine) = true) (e12_BadLine : PySem.W.subIn K (.ref C_BadLine) (.type "BaseException") = some true) (e13_BadLine : PySem.W.typeIn K (.ref C_BadLine) = some (.type "type")) (e14_BadLine : PySem.W.hasDictIn K C_BadLine = true)
    {C_BadPlace I_BadPlace W_BadPlace N_BadPlace : Addr} {nm_BadPlace q_BadPlace : Str} {bs_BadPlace : List Value} {sn_BadPlace : List Str} {sub_BadPlace : List Value} {ab_BadPlace : Bool} {col_BadPlace : Option Bool} {dd_BadPlace : Option Addr} {m0_BadPlace m1_BadPlace m2_BadPlace m3_BadPlace m5_BadPlace : Option Value}
    {oc_BadPlace dc_BadPlace pm_BadPlace cd_BadPlace ct_BadPlace : Value} {od_BadPlace an_BadPlace : Option Addr} {sl_BadPlace : Array (Option Value)}
    (e1_BadPlace : PySem.W.nsIn K mainGlobals "BadPlace" = some (some (.ref C_BadPlace)))
    (e2_BadPlace : K.lookup C_BadPlace = some (excClassObj nm_BadPlace q_BadPlace C_BadPlace N_BadPlace bs_BadPlace [.ref W_BadPlace, .type "Exception", .type "BaseException", .type "object"] true sn_BadPlace sub_BadPlace ab_BadPlace col_BadPlace dd_BadPlace m0_BadPlace m1_BadPlace m2_BadPlace m3_BadPlace m5_BadPlace "Exception.__new__"))
    (e3_BadPlace : PySem.W.findIn K (.ref C_BadPlace) "__setattr__" = some (some (.builtin "object.__setattr__"))) (e4_BadPlace : PySem.W.findIn K (.ref C_BadPlace) "__getattribute__" = some (some (.builtin "BaseException.__getattribute__"))) (e5_BadPlace : PySem.W.findIn K (.ref C_BadPlace) "__getattr__" = some none) (e6_BadPlace : PySem.W.findIn K (.ref C_BadPlace) "thing" = some none)
    (e7_BadPlace : PySem.W.findIn K (.ref C_BadPlace) "__init__" = some (some (.ref I_BadPlace))) (e8_BadPlace : PySem.W.typeIn K (.ref I_BadPlace) = some (.type "function"))
    (e9_BadPlace : K.lookup I_BadPlace = some ⟨oc_BadPlace, od_BadPlace, .func (PySem.W.fnOf "__init__" "BadPlace.__init__" (iA ⟨10, 17, 10, 21⟩ ⟨10, 23, 10, 28⟩) (iB ⟨11, 8, 11, 12⟩ ⟨11, 8, 11, 18⟩ ⟨11, 21, 11, 26⟩ ⟨11, 8, 11, 26⟩) iS .none .none dc_BadPlace pm_BadPlace an_BadPlace cd_BadPlace ct_BadPlace), sl_BadPlace⟩) (e10_BadPlace : PySem.W.codeIn K cd_BadPlace "BadPlace.__init__" = true)
    (e11_BadPlace : PySem.W.keepIn K (.ref C_BadPlace) = true) (e12_BadPlace : PySem.W.subIn K (.ref C_BadPlace) (.type "BaseException") = some true) (e13_BadPlace : PySem.W.typeIn K (.ref C_BadPlace) = some (.type "type")) (e14_BadPlace : PySem.W.hasDictIn K C_BadPlace = true)
    {CW : Addr} (x1 : PySem.W.nsIn K mainGlobals "WorkingError" = some (some (.ref CW))) (x2 : PySem.W.subIn K (.ref C_BadLine) (.ref C_BadLine) = some true) (x3 : PySem.W.isClsIn K CW = true) (x4 : PySem.W.typeIn K (.ref CW) = some (.type "type")) (x5 : PySem.W.subIn K (.ref C_BadLine) (.ref CW) = some true)
    {ocC : Value} {odC : Option Addr} {vsC : Array Value} {slC : Array (Option Value)} (y1 : cd30 = .ref c) (y2 : K.lookup c = some ⟨ocC, odC, .fields vsC, slC⟩) (y3 : (vsC[11]? : Option Value) = some (.ref P)) (nP : K.lookup P = none) : LamX.LawAtS l w K (L2.CX l.prog w) (3 * LV) 63 "script" mg fl h := by
  obtain ⟨fa, fd, eC, eI, ⟨S⟩, _, e31, e30, lk, hb⟩ := facts_mk X G a0 l0 c0 k0 a1 l1 c1 k1 a2 l2 c2 k2 a3 l3 c3 k3 a4 l4 c4 k4 a5 l5 c5 k5 a6 l6 c6 k6 a7 l7 c7 k7 a8 l8 c8 k8 a9 l9 c9 k9 a10 l10 c10 k10 a11 l11 c11 k11 a12 l12 c12 k12 a13 l13 c13 k13 a14 l14 c14 k14 a15 l15 c15 k15 a16 l16 c16 k16 a17 l17 c17 k17 a18 l18 c18 k18 a19 l19 c19 k19 a20 l20 c20 k20 a21 l21 c21 k21 a22 l22 c22 k22 a23 l23 c23 k23 a24 l24 c24 k24 a25 l25 c25 k25 a26 l26 c26 k26 a27 l27 c27 k27 a28 l28 c28 k28 a29 l29 c29 k29 a30 l30 c30 k30 a31 l31 c31 k31 z_all z_bool z_dict z_enumerate z_int z_isinstance z_len z_list z_max z_range z_reversed z_str z_sum z_tuple z_zip n_FIGURES n_MOST_NAME n_MOST_WHOLE n_SMALL n_TRIPLE n_WORDS t_WORDS y_WORDS e1_BadLine e2_BadLine e3_BadLine e4_BadLine e5_BadLine e6_BadLine e7_BadLine e8_BadLine e9_BadLine e10_BadLine e11_BadLine e12_BadLine e13_BadLine e14_BadLine e1_BadPlace e2_BadPlace e3_BadPlace e4_BadPlace e5_BadPlace e6_BadPlace e7_BadPlace e8_BadPlace e9_BadPlace e10_BadPlace e11_BadPlace e12_BadPlace e13_BadPlace e14_BadPlace x1 x2 x3 x4 x5
  have ht : PySem.W.tabIn K "_law_is_all_right" = some (c, P) := tab_in a30 l30 y1 y2 y3
  obtain ⟨hC, hP⟩ := htab c P ht
  exact at_end PL X G hfa hP nP hC ht S (by rw [e30]; exact lk) hb
end W8

set_option Elab.async false
set_option linter.all false
set_option maxRecDepth 100000
namespace W8
open PySem L2 PySem.Spec PyProof.Rows

/-! ### runs of defs -/
theorem tr_app (M X : Mem) : Tr M (M ++ X) := by
  refine ⟨by simp, fun i o hi h => .inl ?_⟩
  rwa [List.getElem?_append_left hi] at h
theorem trunc_app {M X : Mem} {d : D} (h : d.lo M.length = true) : trunc M (.ok d (M ++ X)) = .ok d M := by
  rw [trunc_ok, if_pos ⟨h, tr_app M X⟩, List.take_left]
theorem run_ret {ar sl : Nat} {m : Stt} {ds : List D} {M X : Mem} {d : D} (hl : ds.length = ar) (h : m (ds.map some ++ List.replicate (sl - ar) none) M = .ok (.rt d) (M ++ X)) (hd : d.lo M.length = true) : runD ar sl m ds M = .ok d M := by
  unfold runD
  rw [if_pos hl, h]
  exact trunc_app hd
theorem run_ret0 {ar sl : Nat} {m : Stt} {ds : List D} {M : Mem} {d : D} (hl : ds.length = ar) (h : m (ds.map some ++ List.replicate (sl - ar) none) M = .ok (.rt d) M) (hd : d.lo M.length = true) : runD ar sl m ds M = .ok d M :=
  run_ret (X := []) hl (by rw [List.append_nil]; exact h) hd
mutual
def D.pure : D → Bool
  | .ref _ => false
  | .tup ds => pures ds
  | .rol ds => pures ds
  | _ => true
def pures : List D → Bool
  | [] => true
  | d :: ds => D.pure d && pures ds
end
mutual
theorem D.pure_lo (n : Nat) : ∀ d : D, d.pure = true → d.lo n = true
  | .non, _ | .bl _, _ | .int _, _ | .str _, _ | .fn _, _ | .ty _, _ => rfl
  | .tup ds, h => pures_lo n ds h
  | .rol ds, h => pures_lo n ds h
  | .ref _, h => by cases h
theorem pures_lo (n : Nat) : ∀ ds : List D, pures ds = true → losD n ds = true
  | [], _ => rfl
  | d :: ds, h => by
    have h : (d.pure && pures ds) = true := h
    rw [Bool.and_eq_true] at h
    show (d.lo n && losD n ds) = true
    rw [D.pure_lo n d h.1, pures_lo n ds h.2]; rfl
end

theorem s0_int (fu : Nat) (c : Fn) (i : Int) (M : Mem) : runD 1 1 (m0 fu c) [.int i] M = .ok (.bl (decide (-10000000000000000000000000000000000000000 < i) && decide (i < 10000000000000000000000000000000000000000))) M := by
  refine run_ret0 rfl ?_ rfl
  by_cases h : -10000000000000000000000000000000000000000 < i <;>
  simp [m0, retS, andE, fnE, consE, nilE, var, con, isiD, kd, tyK, isK, lift, isB, notE, chE, ltD, ltB, boolR, negE, k_MOST_WHOLE, h]
theorem s0_bl (fu : Nat) (c : Fn) (b : Bool) (M : Mem) : runD 1 1 (m0 fu c) [.bl b] M = .ok (.bl false) M := by
  refine run_ret0 rfl ?_ rfl
  simp [m0, retS, andE, fnE, consE, nilE, var, con, isiD, kd, tyK, isK, lift, isB, notE, chE, ltD, ltB, boolR, negE, k_MOST_WHOLE]
theorem s0_str (fu : Nat) (c : Fn) (b : Str) (M : Mem) : runD 1 1 (m0 fu c) [.str b] M = .ok (.bl false) M := by
  refine run_ret0 rfl ?_ rfl
  simp [m0, retS, andE, fnE, consE, nilE, var, con, isiD, kd, tyK, isK, lift, isB, notE, chE, ltD, ltB, boolR, negE, k_MOST_WHOLE]
end W8

set_option Elab.async false
set_option linter.all false
set_option maxRecDepth 100000
namespace W8
open PySem L2 PySem.Spec PyProof.Rows

theorem s1_int (fu : Nat) (c : Fn) (i a b : Int) (M : Mem) (h0 : c 0 [.int i] M = .ok (.bl true) M) : runD 3 3 (m1 fu c) [.int i, .int a, .int b] M = .ok (.bl (decide (a ≤ i) && decide (i ≤ b))) M := by
  refine run_ret0 rfl ?_ rfl
  by_cases h : a ≤ i <;>
  simp [m1, retS, exprS, setS, seqS, ifS, skipS, asgS, parS, raiseS, dputS, thruS, andE, orE, notE, andT, orT, notT, asT, isB, ifE, fnE, callE, callKE, callVE, mtE, isL, consE, nilE, starE, tupE, lstE, dispE, prC, prN, len?, var, con, opE, chE, negE, lift, slE, stE, noP, smP, lrevE, heardE, isiT, isiD, kd, tyK, tysK, isK, lenD, intD, maxD, sumD, allD, listD, tupleD, seqB, appD, popD, popAtD, extD, itemsOf, addD, subD, mulD, modD, fdvD, powD, ltD, ltB, leD, leB, gtD, gtB, geD, geB, eqD, neD, isD, isNotD, isN, inD, notInD, boolR, ixD, dgD, keyD, slB, stB, valI, rng1I, rng2I, enI, zpI, itR, outD, R.bind, h0, h]
theorem s2_tup (fu : Nat) (c : Fn) (ds : List D) (n : Int) (M : Mem) : runD 2 2 (m2 fu c) [.tup ds, .int n] M = .ok (.bl (decide ((ds.length : Int) = n))) M := by
  refine run_ret0 rfl ?_ rfl
  simp [m2, retS, exprS, setS, seqS, ifS, skipS, asgS, parS, raiseS, dputS, thruS, andE, orE, notE, andT, orT, notT, asT, isB, ifE, fnE, callE, callKE, callVE, mtE, isL, consE, nilE, starE, tupE, lstE, dispE, prC, prN, len?, var, con, opE, chE, negE, lift, slE, stE, noP, smP, lrevE, heardE, isiT, isiD, kd, tyK, tysK, isK, lenD, intD, maxD, sumD, allD, listD, tupleD, seqB, appD, popD, popAtD, extD, itemsOf, addD, subD, mulD, modD, fdvD, powD, ltD, ltB, leD, leB, gtD, gtB, geD, geB, eqD, neD, isD, isNotD, isN, inD, notInD, boolR, ixD, dgD, keyD, slB, stB, valI, rng1I, rng2I, enI, zpI, itR, outD, R.bind, eqB]
/-- no tuple -/
theorem s2_no (fu : Nat) (c : Fn) (d e : D) (k : Kd) (M : Mem) (hk : kd M d = some k) (hn : k ≠ .tup) : runD 2 2 (m2 fu c) [d, e] M = .ok (.bl false) M := by
  have hi : isK k .tup = false := by cases k <;> first | rfl | exact absurd rfl hn
  refine run_ret0 rfl ?_ rfl
  simp [m2, retS, andE, fnE, consE, nilE, var, con, isiD, hk, tyK, hi, lift, isB, R.bind]
/-! ### comprehensions without a trace -/
theorem lc_pure {x : W8.Its} {t : Tgt} {c : Te} {e : Ex} {ρ : Env} {M : Mem} {f : D → D} (ok : x.ok M) : ∀ ds : List D, (∀ d ∈ ds, ∃ ρ1, t.put d ρ M = some ρ1 ∧ c ρ1 M = .ok true M ∧ e ρ1 M = .ok (f d) M) → lcL x t c e ρ ds M = .ok (ds.map f) M
  | [], _ => by unfold lcL; rw [if_pos ok]; rfl
  | d :: ds, h => by
    obtain ⟨ρ1, h1, h2, h3⟩ := h d List.mem_cons_self
    unfold lcL
    rw [if_pos ok, h1]
    simp only [h2, h3, noE_ok, R.bind_ok, if_true]
    rw [lc_pure ok ds fun d hd => h d (List.mem_cons_of_mem _ hd)]
    rfl
theorem ok_nil {xs : List D} (M : Mem) : (⟨xs, []⟩ : W8.Its).ok M := fun p hp => by cases hp
theorem allBl_map : ∀ bs : List Bool, allBl (bs.map D.bl) = some bs
  | [] => rfl
  | b :: bs => by rw [List.map_cons]; unfold allBl; rw [allBl_map bs]; rfl
theorem allInt_map : ∀ bs : List Int, allInt (bs.map D.int) = some bs
  | [] => rfl
  | b :: bs => by rw [List.map_cons]; unfold allInt; rw [allInt_map bs]; rfl
/-- is_tuple_by(ds, is_whole) -/
theorem s3_tup (fu : Nat) (c : Fn) (ds : List D) (f : D → Bool) (M : Mem) (hl : ds.length ≤ sizeLine) (h0 : ∀ d ∈ ds, ∀ M, c 0 [d] M = .ok (.bl (f d)) M) : runD 2 3 (m3 fu c) [.tup ds, .fn "is_whole"] M = .ok (.bl (ds.all f)) M := by
  have hlc : lcL ⟨ds, []⟩ (.nm 2) tru (callVE [("is_whole", c 0)] 1 (consE (var 2) nilE)) [some (.tup ds), some (.fn "is_whole"), none] ds M = .ok (ds.map fun d => .bl (f d)) M := by
    refine lc_pure (ok_nil M) ds fun d hd => ⟨_, rfl, rfl, ?_⟩
    simp [retS, exprS, setS, seqS, ifS, skipS, asgS, parS, raiseS, dputS, thruS, andE, orE, notE, andT, orT, notT, asT, isB, ifE, fnE, callE, callKE, callVE, mtE, isL, consE, nilE, starE, tupE, lstE, dispE, prC, prN, len?, var, con, opE, chE, negE, lift, slE, stE, noP, smP, lrevE, heardE, isiT, isiD, kd, tyK, tysK, isK, lenD, intD, maxD, sumD, allD, listD, tupleD, seqB, appD, popD, popAtD, extD, itemsOf, addD, subD, mulD, modD, fdvD, powD, ltD, ltB, leD, leB, gtD, gtB, geD, geB, eqD, neD, isD, isNotD, isN, inD, notInD, boolR, ixD, dgD, keyD, slB, stB, valI, rng1I, rng2I, enI, zpI, itR, outD, R.bind, h0 d hd]
  have hw : wipeE [some (.tup ds), some (.fn "is_whole"), none] [2] = [some (.tup ds), some (.fn "is_whole"), none] := rfl
  refine run_ret (X := [.lst (ds.map fun d => .bl (f d))]) rfl ?_ rfl
  have e1 : (ds.map fun d => D.bl (f d)) = (ds.map f).map D.bl := by rw [List.map_map]; rfl
  simp [m3, retS, exprS, setS, seqS, ifS, skipS, asgS, parS, raiseS, dputS, thruS, andE, orE, notE, andT, orT, notT, asT, isB, ifE, fnE, callE, callKE, callVE, mtE, isL, consE, nilE, starE, tupE, lstE, dispE, prC, prN, len?, var, con, opE, chE, negE, lift, slE, stE, noP, smP, lrevE, heardE, isiT, isiD, kd, tyK, tysK, isK, lenD, intD, maxD, sumD, allD, listD, tupleD, seqB, appD, popD, popAtD, extD, itemsOf, addD, subD, mulD, modD, fdvD, powD, ltD, ltB, leD, leB, gtD, gtB, geD, geB, eqD, neD, isD, isNotD, isN, inD, notInD, boolR, ixD, dgD, keyD, slB, stB, valI, rng1I, rng2I, enI, zpI, itR, outD, R.bind, lcE, itOf, hw, hl, hlc]
  rw [e1, allBl_map]
  simp
end W8

set_option Elab.async false
set_option linter.all false
set_option maxRecDepth 100000
namespace W8
open PySem L2 PySem.Spec PyProof.Rows

/-! ### steps -/
section
variable {ρ ρ1 : Env} {M M1 M2 M3 : Mem} {a b : Stt} {e e' e2 : Ex} {t t' : Te} {d d' d2 : D} {f : Op2} {c : List D → Mem → R D}
theorem seq_nx (h : a ρ M = .ok (.nx ρ1) M1) : seqS a b ρ M = b ρ1 M1 := by unfold seqS; rw [h]; rfl
theorem seq_rt (h : a ρ M = .ok (.rt d) M1) : seqS a b ρ M = .ok (.rt d) M1 := by unfold seqS; rw [h]; rfl
theorem seq_er {x : Str} (h : a ρ M = .err x d M1) : seqS a b ρ M = .err x d M1 := by unfold seqS; rw [h]; rfl
theorem if_f (h : t ρ M = .ok false M1) : ifS t a b ρ M = b ρ M1 := by unfold ifS; rw [h]; rfl
theorem if_t (h : t ρ M = .ok true M1) : ifS t a b ρ M = a ρ M1 := by unfold ifS; rw [h]; rfl
theorem ret_ok (h : e ρ M = .ok d M1) : retS e ρ M = .ok (.rt d) M1 := by unfold retS; rw [h]; rfl
theorem expr_ok (h : e ρ M = .ok d M1) : exprS e ρ M = .ok (.nx ρ) M1 := by unfold exprS; rw [h]; rfl
theorem expr_er {x : Str} (h : e ρ M = .err x d M1) : exprS e ρ M = .err x d M1 := by unfold exprS; rw [h]; rfl
theorem set_ok {i : Nat} (h : e ρ M = .ok d M1) : setS i e ρ M = .ok (.nx (ρ.set i (some d))) M1 := by unfold setS; rw [h]; rfl
theorem and_t (h : e ρ M = .ok (.bl true) M1) : andE e e' ρ M = e' ρ M1 := by unfold andE; rw [h]; rfl
theorem and_f (h : e ρ M = .ok (.bl false) M1) : andE e e' ρ M = .ok (.bl false) M1 := by unfold andE; rw [h]; rfl
theorem call1 (h : e ρ M = .ok d M1) : callE c (consE e nilE) ρ M = c [d] M1 := by unfold callE consE; rw [h]; rfl
theorem call2 (h : e ρ M = .ok d M1) (h' : e' ρ M1 = .ok d' M2) : callE c (consE e (consE e' nilE)) ρ M = c [d, d'] M2 := by unfold callE consE; rw [h]; simp only [R.bind_ok, consE, h']; rfl
theorem call3 (h : e ρ M = .ok d M1) (h' : e' ρ M1 = .ok d' M2) (h2 : e2 ρ M2 = .ok d2 M3) : callE c (consE e (consE e' (consE e2 nilE))) ρ M = c [d, d', d2] M3 := by unfold callE consE; rw [h]; simp only [R.bind_ok, consE, h', h2]; rfl
theorem fn1 {g : Opf} (h : e ρ M = .ok d M1) : fnE g (consE e nilE) ρ M = lift (g [d] M1) := by unfold fnE consE; rw [h]; rfl
theorem fn2 {g : Opf} (h : e ρ M = .ok d M1) (h' : e' ρ M1 = .ok d' M2) : fnE g (consE e (consE e' nilE)) ρ M = lift (g [d, d'] M2) := by unfold fnE consE; rw [h]; simp only [R.bind_ok, consE, h']; rfl
theorem op_ok (h : e ρ M = .ok d M1) (h' : e' ρ M1 = .ok d' M2) : opE f e e' ρ M = lift (f d d' M2) := by unfold opE; rw [h]; simp only [R.bind_ok, h']
theorem as_ok {k : Bool} (h : e ρ M = .ok (.bl k) M1) : asT e ρ M = .ok k M1 := by unfold asT; rw [h]; rfl
theorem not_ok {k : Bool} (h : t ρ M = .ok k M1) : notT t ρ M = .ok (!k) M1 := by unfold notT; rw [h]; rfl
theorem or_t (h : t ρ M = .ok true M1) : orT t t' ρ M = .ok true M1 := by unfold orT; rw [h]; rfl
theorem or_f (h : t ρ M = .ok false M1) : orT t t' ρ M = t' ρ M1 := by unfold orT; rw [h]; rfl
theorem run_rt {ar sl : Nat} {m : Stt} {ds : List D} (hl : ds.length = ar) (h : m (ds.map some ++ List.replicate (sl - ar) none) M = .ok (.rt d) M1) : runD ar sl m ds M = trunc M (.ok d M1) := by
  unfold runD
  rw [if_pos hl, h]
  rfl
end

/-! ### names -/
def smallS : Str := "abcdefghijklmnopqrstuvwxyz"
def figS : Str := "0123456789"
def inWords (x : Str) : Bool := (match k_WORDS with | .tup es => es | _ => []).any fun e => eqF e (.str x)
def tailOk (x : Str) : Bool := x.cps.toList.all fun c => decide (c ∈ (smallS ++ figS).cps.toList)
theorem words_in (M : Mem) (x : Str) : inB M (.str x) k_WORDS = some (inWords x) := by
  unfold inB inWords k_WORDS
  rfl
theorem s4_no (fu : Nat) (c : Fn) (d : D) (k : Kd) (M : Mem) (hk : kd M d = some k) (hn : k ≠ .str) : runD 1 2 (m4 fu c) [d] M = .ok (.bl false) M := by
  have hi : isK k .str = false := by cases k <;> first | rfl | exact absurd rfl hn
  refine run_ret0 rfl ?_ rfl
  simp [m4, seqS, ifS, orT, notT, asT, retS, andE, fnE, consE, nilE, var, con, isiD, hk, tyK, hi, lift, isB, R.bind]
theorem lc_signs (x : Str) (M : Mem) (hx : x.length ≤ 12) : lcE (valI (var 0)) [1] (.nm 1) tru (opE inD (var 1) (opE addD (con k_SMALL) (con k_FIGURES))) [some (D.str x), none] M = .ok (.ref M.length) (M ++ [.lst ((x.cps.toList.map fun ch => decide (ch ∈ (smallS ++ figS).cps.toList)).map D.bl)]) := by
  have hw : wipeE [some (D.str x), none] [1] = [some (.str x), none] := rfl
  have hl : (signs x).length ≤ sizeLine := by
    rw [sizeLine_eq]
    have : (signs x).length = x.length := by unfold signs; rw [List.length_map]; simp [Str.length]
    omega
  let f : D → D := fun d => match d with
    | .str z => .bl (decide (z.cps.getD 0 0 ∈ (smallS ++ figS).cps.toList))
    | _ => .non
  have hlc : lcL ⟨signs x, []⟩ (.nm 1) tru (opE inD (var 1) (opE addD (con k_SMALL) (con k_FIGURES))) [some (.str x), none] (signs x) M = .ok ((signs x).map f) M := by
    refine lc_pure (ok_nil M) _ fun d hd => ⟨_, rfl, rfl, ?_⟩
    unfold signs at hd
    obtain ⟨ch, _, e⟩ := List.mem_map.mp hd
    subst e
    have hz : smallS.length + figS.length ≤ sizeLine := by rw [sizeLine_eq]; decide
    have ha : addD (.str smallS) (.str figS) M = some (.str (smallS ++ figS), M) := by unfold addD; exact if_pos hz
    have hin : inB M (.str ⟨#[ch]⟩) (.str (smallS ++ figS)) = some (decide (ch ∈ (smallS ++ figS).cps.toList)) := rfl
    show (opE inD (var 1) (opE addD (con (.str smallS)) (con (.str figS)))) [some (.str x), some (.str ⟨#[ch]⟩)] M = _
    simp only [opE, var, con, R.bind_ok, List.getElem?_cons_succ, List.getElem?_cons_zero, ha, lift, inD, hin, boolR]
    rfl
  have e1 : (signs x).map f = (x.cps.toList.map fun ch => decide (ch ∈ (smallS ++ figS).cps.toList)).map D.bl := by
    unfold signs
    rw [List.map_map, List.map_map]
    rfl
  rw [e1] at hlc
  simp only [lcE, valI, var, List.getElem?_cons_zero, R.bind_ok, itR, itOf, hw, hlc, len?]
  rw [if_pos hl]
theorem s4_str (fu : Nat) (c : Fn) (x : Str) (M : Mem) (c0 : Nat) (r : List Nat) (h12 : x.length ≤ 12) (hw : inWords x = false) (hc : x.cps.toList = c0 :: r) :
    runD 1 2 (m4 fu c) [.str x] M = .ok (.bl (decide (c0 ∈ smallS.cps.toList) && tailOk x)) M := by
  have h1 : (1 : Int) ≤ x.length := by
    have : x.length = (c0 :: r).length := by rw [← hc]; simp [Str.length]
    rw [this, List.length_cons]; omega
  have h2 : (x.length : Int) ≤ 12 := by omega
  have hz : x.length ≤ sizeLine := by rw [sizeLine_eq]; omega
  have hix : ixB M (.str x) (.int 0) = some (.str ⟨#[c0]⟩) := by
    unfold ixB
    simp only
    rw [if_pos hz, hc]
    show Option.map _ (L2.atI (c0 :: r) ((0 : Nat) : Int)) = _
    rw [L2.atI_nat (j := 0) (v := c0) rfl]
    rfl
  have hin : inB M (.str ⟨#[c0]⟩) k_SMALL = some (decide (c0 ∈ smallS.cps.toList)) := rfl
  have hlc := lc_signs x M h12
  have hall : allBl ((x.cps.toList.map fun ch => decide (ch ∈ (smallS ++ figS).cps.toList)).map D.bl) = some (x.cps.toList.map fun ch => decide (ch ∈ (smallS ++ figS).cps.toList)) := allBl_map _
  have hta : (x.cps.toList.map fun ch => decide (ch ∈ (smallS ++ figS).cps.toList)).all id = tailOk x := by unfold tailOk; rw [List.all_map]; rfl
  have hcond : (orT (notT (asT (fnE isiD (consE (var 0) (consE (con (.ty "str")) nilE))))) (orT (notT (asT (chE leD leD (con (.int 1)) (fnE lenD (consE (var 0) nilE)) (con k_MOST_NAME)))) (asT (opE inD (var 0) (con k_WORDS))))) [some (.str x), none] M = .ok false M := by
    simp [orT, notT, asT, fnE, consE, nilE, var, con, isiD, kd, tyK, isK, lift, isB, R.bind, chE, leD, leB, boolR, lenD, hz, h1, h2, k_MOST_NAME, opE, inD, words_in, hw]
  have hfirst : (opE inD (opE ixD (var 0) (con (.int 0))) (con k_SMALL)) [some (.str x), none] M = .ok (.bl (decide (c0 ∈ smallS.cps.toList))) M := by
    have h3 : opE ixD (var 0) (con (.int 0)) [some (.str x), none] M = .ok (.str ⟨#[c0]⟩) M := by
      rw [op_ok (d := .str x) (d' := .int 0) rfl rfl]
      unfold ixD
      rw [hix]; rfl
    rw [op_ok (d' := k_SMALL) h3 rfl]
    unfold inD
    rw [hin]; rfl
  by_cases hm : c0 ∈ smallS.cps.toList
  · rw [decide_eq_true hm] at hfirst ⊢
    refine run_ret (X := [.lst ((x.cps.toList.map fun ch => decide (ch ∈ (smallS ++ figS).cps.toList)).map D.bl)]) rfl ?_ rfl
    show (seqS (ifS _ _ _) _) [some (.str x), none] M = _
    rw [seq_nx ((if_f hcond).trans rfl)]
    refine ret_ok ?_
    rw [and_t hfirst, fn1 hlc]
    unfold allD
    simp only [List.getElem?_append_right (Nat.le_refl _), Nat.sub_self, List.getElem?_cons_zero, hall, Option.map_some, hta, Bool.true_and]
    rfl
  · rw [decide_eq_false hm] at hfirst ⊢
    refine run_ret0 rfl ?_ rfl
    show (seqS (ifS _ _ _) _) [some (.str x), none] M = _
    rw [seq_nx ((if_f hcond).trans rfl)]
    exact ret_ok (and_f hfirst)
end W8

set_option Elab.async false
set_option linter.all false
set_option maxRecDepth 100000
namespace W8
open PySem L2 PySem.Spec PyProof.Rows

/-! ### lines -/
inductive Ln where
  | mk (nm : Str) (sm : List Int) (ps : List Ln)
mutual
def Ln.d : Ln → D
  | .mk nm sm ps => .tup [.str nm, .tup (sm.map D.int), .tup (lnsD ps)]
def lnsD : List Ln → List D
  | [] => []
  | p :: ps => p.d :: lnsD ps
end
mutual
def Ln.size : Ln → Nat
  | .mk _ _ ps => 1 + sizes ps
def sizes : List Ln → Nat
  | [] => 0
  | p :: ps => p.size + sizes ps
end
mutual
def Ln.high : Ln → Nat
  | .mk _ _ ps => 1 + highs ps
def highs : List Ln → Nat
  | [] => 0
  | p :: ps => max p.high (highs ps)
end
def NAMES : List Str := ["a", "b", "aa", "ab", "z9", "z10", "b1"]
mutual
/-- a line of the law: its names are known, its smalls are below b, its tuples of smalls are short -/
def Ln.good (b : Int) (w : Nat) : Ln → Prop
  | .mk nm sm ps => nm ∈ NAMES ∧ (∀ i ∈ sm, -b ≤ i ∧ i ≤ b) ∧ sm.length ≤ w ∧ goods b w ps
def goods (b : Int) (w : Nat) : List Ln → Prop
  | [] => True
  | p :: ps => p.good b w ∧ goods b w ps
end
theorem lnsD_map : ∀ ps : List Ln, lnsD ps = ps.map Ln.d
  | [] => rfl
  | p :: ps => by rw [lnsD, lnsD_map ps, List.map_cons]
theorem sizes_append : ∀ ps qs : List Ln, sizes (ps ++ qs) = sizes ps + sizes qs
  | [], qs => by simp [sizes]
  | p :: ps, qs => by rw [List.cons_append, sizes, sizes, sizes_append ps qs]; omega
theorem sizes_reverse : ∀ ps : List Ln, sizes ps.reverse = sizes ps
  | [] => rfl
  | p :: ps => by rw [List.reverse_cons, sizes_append, sizes_reverse ps, sizes, sizes, sizes]; omega
theorem size_pos (l : Ln) : 0 < l.size := by cases l; rw [Ln.size]; omega
theorem length_sizes : ∀ ps : List Ln, ps.length ≤ sizes ps
  | [] => Nat.le_refl _
  | p :: ps => by
    have := length_sizes ps
    have := size_pos p
    rw [sizes, List.length_cons]; omega
theorem goods_mem {b : Int} {w : Nat} : ∀ {ps : List Ln}, goods b w ps ↔ ∀ p ∈ ps, p.good b w
  | [] => by simp [goods]
  | p :: ps => by rw [goods, goods_mem (ps := ps)]; simp
mutual
theorem Ln.pure : ∀ l : Ln, l.d.pure = true
  | .mk nm sm ps => by
    have h1 : pures (sm.map D.int) = true := by
      induction sm with
      | nil => rfl
      | cons i sm ih => rw [List.map_cons]; show (true && pures (sm.map D.int)) = true; rw [ih]; rfl
    have h2 : pures (lnsD ps) = true := lnsPure ps
    rw [Ln.d]
    show (true && (pures (sm.map D.int) && (pures (lnsD ps) && true))) = true
    rw [h1, h2]; rfl
theorem lnsPure : ∀ ps : List Ln, pures (lnsD ps) = true
  | [] => rfl
  | p :: ps => by rw [lnsD]; show (p.d.pure && pures (lnsD ps)) = true; rw [Ln.pure p, lnsPure ps]; rfl
end
/-! ### two lists in the memory -/
section
variable {M X : Mem} {a b : MO}
theorem mem0 : (M ++ (a :: X))[M.length]? = some a := by simp
theorem mem1 : (M ++ (a :: b :: X))[M.length + 1]? = some b := by simp
theorem mset0 {a' : MO} : (M ++ (a :: X)).set M.length a' = M ++ (a' :: X) := by simp
theorem mset1 {b' : MO} : (M ++ (a :: b :: X)).set (M.length + 1) b' = M ++ (a :: b' :: X) := by
  rw [List.set_append_right _ _ (by omega)]
  simp
theorem mapp {c : MO} : (M ++ (a :: X)) ++ [c] = M ++ (a :: (X ++ [c])) := by simp
end
theorem neq_nil {M : Mem} {n m : Nat} {ds : List D} (h1 : M[n]? = some (.lst ds)) (h2 : M[m]? = some (.lst [])) : neD (.ref n) (.ref m) M = some (.bl (!ds.isEmpty), M) := by
  unfold neD eqB
  simp only [h1, h2]
  cases ds with
  | nil => rfl
  | cons d r => simp [boolR]
end W8

set_option Elab.async false
set_option linter.all false
set_option maxRecDepth 100000
namespace W8
open PySem L2 PySem.Spec PyProof.Rows

section
variable {ρ : Env} {N N1 : Mem} {n i : Nat} {e : Ex}
theorem var_ok {d : D} (h : ρ[i]? = some (some d)) : var i ρ N = .ok d N := by unfold var; rw [h]
theorem cond_ne {ws : List D} (h : ρ[i]? = some (some (.ref n))) (hn : N[n]? = some (.lst ws)) : (asT (opE neD (var i) (lstE nilE))) ρ N = .ok (!ws.isEmpty) (N ++ [.lst []]) := by
  refine as_ok ?_
  have h2 : lstE nilE ρ N = .ok (.ref N.length) (N ++ [.lst []]) := by
    unfold lstE nilE
    rw [R.bind_ok]
    unfold len?
    rw [if_pos (show ([] : List D).length ≤ sizeLine from Nat.zero_le _)]
  rw [op_ok (var_ok h) h2]
  have hl : n < N.length := (List.getElem?_eq_some_iff.mp hn).1
  rw [neq_nil (ds := ws) (by rw [List.getElem?_append_left hl]; exact hn) (by simp)]
  rfl
theorem pop_ok {xs : List D} {y : D} (h : ρ[i]? = some (some (.ref n))) (hn : N[n]? = some (.lst (xs ++ [y]))) : mtE popD (var i) nilE ρ N = .ok y (N.set n (.lst xs)) := by
  unfold mtE nilE
  rw [var_ok h, R.bind_ok]
  have hi : isL N (.ref n) = true := by unfold isL; simp only [hn]
  rw [if_pos hi, R.bind_ok]
  unfold popD
  simp only [hn]
  have h1 : (xs ++ [y])[(xs ++ [y]).length - 1]? = some y := by simp
  rw [h1]
  simp [lift]
theorem ext_ok {xs ys : List D} (h : ρ[i]? = some (some (.ref n))) (hn : N[n]? = some (.lst xs)) (he : e ρ N = .ok (.tup ys) N) (hl : xs.length + ys.length ≤ sizeLine) : mtE extD (var i) (consE e nilE) ρ N = .ok .non (N.set n (.lst (xs ++ ys))) := by
  unfold mtE consE nilE
  rw [var_ok h, R.bind_ok]
  have hi : isL N (.ref n) = true := by unfold isL; simp only [hn]
  rw [if_pos hi, he]
  simp only [R.bind_ok]
  unfold extD
  simp only [hn, itemsOf]
  rw [if_pos hl]
  rfl
theorem extL_ok {xs ys : List D} {m : Nat} (h : ρ[i]? = some (some (.ref n))) (hn : N[n]? = some (.lst xs)) (he : e ρ N = .ok (.ref m) N1) (hn1 : N1[n]? = some (.lst xs)) (hm : N1[m]? = some (.lst ys)) (hl : xs.length + ys.length ≤ sizeLine) : mtE extD (var i) (consE e nilE) ρ N = .ok .non (N1.set n (.lst (xs ++ ys))) := by
  unfold mtE consE nilE
  rw [var_ok h, R.bind_ok]
  have hi : isL N (.ref n) = true := by unfold isL; simp only [hn]
  rw [if_pos hi, he]
  simp only [R.bind_ok]
  unfold extD
  simp only [hn1, itemsOf, hm]
  rw [if_pos hl]
  rfl
theorem app_ok {xs : List D} {y : D} (h : ρ[i]? = some (some (.ref n))) (hn : N[n]? = some (.lst xs)) (he : e ρ N = .ok y N1) (hn1 : N1[n]? = some (.lst xs)) (hl : xs.length < sizeLine) : mtE appD (var i) (consE e nilE) ρ N = .ok .non (N1.set n (.lst (xs ++ [y]))) := by
  unfold mtE consE nilE
  rw [var_ok h, R.bind_ok]
  have hi : isL N (.ref n) = true := by unfold isL; simp only [hn]
  rw [if_pos hi, he]
  simp only [R.bind_ok]
  unfold appD
  simp only [hn1]
  rw [if_pos hl]
  rfl
theorem ix_ok {ds : List D} {k : Int} {y : D} {a : Ex} (h : a ρ N = .ok (.tup ds) N) (hk : L2.atI ds k = some y) : opE ixD a (con (.int k)) ρ N = .ok y N := by
  rw [op_ok h (rfl : con (.int k) ρ N = .ok (.int k) N)]
  unfold ixD ixB
  simp only [hk]
  rfl
theorem at30 (a b c : D) : L2.atI [a, b, c] 0 = some a := rfl
theorem at31 (a b c : D) : L2.atI [a, b, c] 1 = some b := rfl
theorem at32 (a b c : D) : L2.atI [a, b, c] 2 = some c := rfl
end
theorem lns_last (ls : List Ln) (l : Ln) : lnsD (ls ++ [l]) = lnsD ls ++ [l.d] := by rw [lnsD_map, lnsD_map, List.map_append]; rfl
theorem lns_app (ls ps : List Ln) : lnsD (ls ++ ps) = lnsD ls ++ lnsD ps := by rw [lnsD_map, lnsD_map, lnsD_map, List.map_append]
theorem lns_len (ls : List Ln) : (lnsD ls).length = ls.length := by rw [lnsD_map, List.length_map]
/-- what is_line_form and its like ask of the defs they call, at every memory -/
structure FormC (c : Fn) (b : Int) (w : Nat) : Prop where
  c2 : ∀ (ds : List D) (n : Int) M, c 2 [.tup ds, .int n] M = .ok (.bl (decide ((ds.length : Int) = n))) M
  c4 : ∀ nm ∈ NAMES, ∀ M, c 4 [.str nm] M = .ok (.bl true) M
  c3 : ∀ sm : List Int, (∀ i ∈ sm, -b ≤ i ∧ i ≤ b) → sm.length ≤ w → ∀ M, c 3 [.tup (sm.map D.int), .fn "is_whole"] M = .ok (.bl true) M
def formBody (c : Fn) : Stt := seqS (setS 2 (mtE popD (var 1) nilE)) (seqS (ifS (orT (notT (asT (callE (c 2) (consE (var 2) (consE (con k_TRIPLE) nilE))))) (notT (asT (callE (c 4) (consE (opE ixD (var 2) (con (.int 0))) nilE))))) (retS (con (.bl false))) skipS)
  (seqS (ifS (orT (notT (asT (callE (c 3) (consE (opE ixD (var 2) (con (.int 1))) (consE (con (.fn "is_whole")) nilE))))) (notT (asT (fnE isiD (consE (opE ixD (var 2) (con (.int 2))) (consE (con (.ty "tuple")) nilE)))))) (retS (con (.bl false))) skipS) (exprS (mtE extD (var 1) (consE (opE ixD (var 2) (con (.int 2))) nilE)))))
theorem form_body {c : Fn} {b : Int} {w : Nat} (C : FormC c b w) {d0 : D} {h : Option D} {n : Nat} {N : Mem} {xs : List D} {nm : Str} {sm : List Int} {ps : List Ln} (hl : (Ln.mk nm sm ps).good b w) (hn : N[n]? = some (.lst (xs ++ [(Ln.mk nm sm ps).d]))) (hz : xs.length + ps.length ≤ sizeLine) :
    formBody c [some d0, some (.ref n), h] N = .ok (.nx [some d0, some (.ref n), some (Ln.mk nm sm ps).d]) (N.set n (.lst (xs ++ lnsD ps))) := by
  have hlt : n < N.length := (List.getElem?_eq_some_iff.mp hn).1
  rw [Ln.good] at hl
  obtain ⟨g1, g2, g3, g4⟩ := hl
  unfold formBody
  rw [seq_nx (set_ok (pop_ok (xs := xs) (y := (Ln.mk nm sm ps).d) rfl hn))]
  show (seqS _ _) [some d0, some (.ref n), some (Ln.mk nm sm ps).d] _ = _
  have hv : var 2 [some d0, some (D.ref n), some (Ln.mk nm sm ps).d] (N.set n (.lst xs)) = .ok (.tup [.str nm, .tup (sm.map D.int), .tup (lnsD ps)]) (N.set n (.lst xs)) := by rw [var_ok (d := (Ln.mk nm sm ps).d) rfl, Ln.d]
  have t1 : (orT (notT (asT (callE (c 2) (consE (var 2) (consE (con k_TRIPLE) nilE))))) (notT (asT (callE (c 4) (consE (opE ixD (var 2) (con (.int 0))) nilE))))) [some d0, some (.ref n), some (Ln.mk nm sm ps).d] (N.set n (.lst xs)) = .ok false (N.set n (.lst xs)) := by
    rw [or_f (not_ok (k := true) (as_ok (by rw [call2 (d' := k_TRIPLE) hv rfl]; unfold k_TRIPLE; rw [C.c2]; rfl)))]
    exact not_ok (k := true) (as_ok (by rw [call1 (ix_ok hv (at30 _ _ _)), C.c4 nm g1]))
  rw [seq_nx ((if_f t1).trans rfl)]
  have t2 : (orT (notT (asT (callE (c 3) (consE (opE ixD (var 2) (con (.int 1))) (consE (con (.fn "is_whole")) nilE))))) (notT (asT (fnE isiD (consE (opE ixD (var 2) (con (.int 2))) (consE (con (.ty "tuple")) nilE)))))) [some d0, some (.ref n), some (Ln.mk nm sm ps).d] (N.set n (.lst xs)) = .ok false (N.set n (.lst xs)) := by
    rw [or_f (not_ok (k := true) (as_ok (by rw [call2 (d' := .fn "is_whole") (ix_ok hv (at31 _ _ _)) rfl, C.c3 sm g2 g3])))]
    exact not_ok (k := true) (as_ok (by rw [fn2 (d' := .ty "tuple") (ix_ok hv (at32 _ _ _)) rfl]; rfl))
  rw [seq_nx ((if_f t2).trans rfl)]
  rw [expr_ok (ext_ok (n := n) (xs := xs) rfl (by rw [List.getElem?_set_self hlt]) (ix_ok hv (at32 _ _ _)) (by rw [lns_len]; exact hz))]
  rw [List.set_set]
theorem form_loop {c : Fn} {b : Int} {w : Nat} (C : FormC c b w) (d0 : D) (M : Mem) : ∀ (k : Nat) (ls : List Ln) (X : Mem) (h : Option D), sizes ls < k → k ≤ 10000 → goods b w ls →
    ∃ h' X', whN k (asT (opE neD (var 1) (lstE nilE))) (formBody c) [some d0, some (.ref M.length), h] (M ++ (.lst (lnsD ls) :: X)) = .ok (.nx [some d0, some (.ref M.length), h']) (M ++ (.lst [] :: X'))
  | 0, _, _, _, hk, _, _ => absurd hk (Nat.not_lt_zero _)
  | k + 1, ls, X, h, hk, hk2, g => by
    have hc := cond_ne (ρ := [some d0, some (.ref M.length), h]) (i := 1) (n := M.length) (N := M ++ (.lst (lnsD ls) :: X)) (ws := lnsD ls) rfl mem0
    rw [mapp] at hc
    unfold whN
    rw [hc, R.bind_ok]
    rcases List.eq_nil_or_concat ls with e | ⟨init, l, e⟩
    · subst e
      exact ⟨h, X ++ [.lst []], rfl⟩
    · subst e
      rw [List.concat_eq_append] at *
      have he : (!(lnsD (init ++ [l])).isEmpty) = true := by rw [lns_last]; simp
      rw [he, if_pos rfl, lns_last]
      obtain ⟨nm, sm, ps⟩ := l
      have gl : (Ln.mk nm sm ps).good b w := goods_mem.mp g _ (by simp)
      have gi : goods b w init := goods_mem.mpr fun p hp => goods_mem.mp g p (by simp [hp])
      have gp : goods b w ps := by rw [Ln.good] at gl; exact gl.2.2.2
      have hs : sizes (init ++ [Ln.mk nm sm ps]) = sizes init + (1 + sizes ps) := by rw [sizes_append, sizes, Ln.size, sizes]; omega
      have l1 := length_sizes init
      have l2 := length_sizes ps
      have hz : (lnsD init).length + ps.length ≤ sizeLine := by rw [lns_len, sizeLine_eq]; omega
      rw [form_body C gl (n := M.length) (xs := lnsD init) (by rw [mem0]) hz, R.bind_ok, mset0, ← lns_app]
      refine form_loop C d0 M k (init ++ ps) (X ++ [.lst []]) _ (by rw [sizes_append]; omega) (by omega) (goods_mem.mpr fun p hp => ?_)
      rcases List.mem_append.mp hp with hp | hp
      · exact goods_mem.mp gi p hp
      · exact goods_mem.mp gp p hp
/-- is_line_form of a line of the law -/
theorem s5_line {c : Fn} {b : Int} {w fu : Nat} (C : FormC c b w) (l : Ln) (M : Mem) (g : l.good b w) (hs : l.size < fu) (hf : fu ≤ 10000) : runD 1 3 (m5 fu c) [l.d] M = .ok (.bl true) M := by
  obtain ⟨h', X', e⟩ := form_loop C l.d M fu [l] [] none (by rw [sizes, sizes]; omega) hf (goods_mem.mpr fun p hp => by rw [List.mem_singleton.mp hp]; exact g)
  refine run_ret (X := .lst [] :: X') rfl ?_ rfl
  show (seqS (setS 1 (lstE (consE (var 0) nilE))) (seqS (whN fu (asT (opE neD (var 1) (lstE nilE))) (formBody c)) (retS (con (.bl true))))) [some l.d, none, none] M = _
  have h1 : lstE (consE (var 0) nilE) [some l.d, none, none] M = .ok (.ref M.length) (M ++ [.lst [l.d]]) := by
    unfold lstE consE
    rw [var_ok (d := l.d) rfl]
    simp only [R.bind_ok, nilE, len?, List.length_singleton]
    rw [if_pos (by rw [sizeLine_eq]; decide)]
  rw [seq_nx (set_ok h1)]
  have e : whN fu (asT (opE neD (var 1) (lstE nilE))) (formBody c) [some l.d, some (.ref M.length), none] (M ++ [.lst [l.d]]) = _ := e
  exact (seq_nx e).trans rfl
end W8

set_option Elab.async false
set_option linter.all false
set_option maxRecDepth 100000
namespace W8
open PySem L2 PySem.Spec PyProof.Rows

theorem trunc_er {M X : Mem} {x : Str} {d : D} (h : d.lo M.length = true) : trunc M (.err x d (M ++ X)) = .err x d M := by
  rw [trunc_err, if_pos ⟨h, tr_app M X⟩, List.take_left]
theorem trunc_er0 {M : Mem} {x : Str} {d : D} (h : d.lo M.length = true) : trunc M (.err x d M) = .err x d M := by
  have := trunc_er (X := []) (x := x) h
  rwa [List.append_nil] at this
section
variable {ar sl : Nat} {m : Stt} {ds : List D} {M M1 M2 X : Mem} {d : D} {ρ : Env} {e : Ex} {r : Exs} {x : Str}
theorem run_nx (hl : ds.length = ar) {ρ1 : Env} (h : m (ds.map some ++ List.replicate (sl - ar) none) M = .ok (.nx ρ1) (M ++ X)) : runD ar sl m ds M = .ok .non M := by
  unfold runD
  rw [if_pos hl, h]
  exact trunc_app rfl
theorem run_nx0 (hl : ds.length = ar) {ρ1 : Env} (h : m (ds.map some ++ List.replicate (sl - ar) none) M = .ok (.nx ρ1) M) : runD ar sl m ds M = .ok .non M :=
  run_nx (X := []) (ρ1 := ρ1) hl (by rw [List.append_nil]; exact h)
theorem run_er (hl : ds.length = ar) (h : m (ds.map some ++ List.replicate (sl - ar) none) M = .err x d M) (hd : d.lo M.length = true) : runD ar sl m ds M = .err x d M := by
  unfold runD
  rw [if_pos hl, h]
  exact trunc_er0 hd
theorem cons_ok {es : List D} (h : e ρ M = .ok d M1) (h' : r ρ M1 = .ok es M2) : consE e r ρ M = .ok (d :: es) M2 := by
  unfold consE
  rw [h, R.bind_ok, h']; rfl
theorem nil_ok : nilE ρ M = .ok [] M := rfl
theorem tup_ok {as : Exs} {es : List D} (h : as ρ M = .ok es M1) (hl : es.length ≤ sizeLine) : tupE as ρ M = .ok (.tup es) M1 := by
  unfold tupE
  rw [h, R.bind_ok]
  unfold len?
  rw [if_pos hl]
theorem lst_ok {as : Exs} {es : List D} (h : as ρ M = .ok es M1) (hl : es.length ≤ sizeLine) : lstE as ρ M = .ok (.ref M1.length) (M1 ++ [.lst es]) := by
  unfold lstE
  rw [h, R.bind_ok]
  unfold len?
  rw [if_pos hl]
theorem small_ok {n : Nat} (h : n ≤ 1000000) : n ≤ sizeLine := by rw [sizeLine_eq]; omega
end
def partsBody : Stt := seqS (setS 3 (mtE popD (var 2) nilE)) (seqS (exprS (mtE appD (var 1) (consE (var 3) nilE))) (exprS (mtE extD (var 2) (consE (lrevE (opE ixD (var 3) (con (.int 2)))) nilE))))
theorem lns_rev (ps : List Ln) : (lnsD ps).reverse = lnsD ps.reverse := by rw [lnsD_map, lnsD_map, List.map_reverse]
theorem parts_loop (d0 : D) (M : Mem) : ∀ (k : Nat) (ls : List Ln) (fs : List D) (X : Mem) (h : Option D), sizes ls < k → sizes ls + fs.length ≤ 10000 →
    ∃ fs' h' X', fs'.length = fs.length + sizes ls ∧ whN k (asT (opE neD (var 2) (lstE nilE))) partsBody [some d0, some (.ref M.length), some (.ref (M.length + 1)), h] (M ++ (.lst fs :: .lst (lnsD ls) :: X)) = .ok (.nx [some d0, some (.ref M.length), some (.ref (M.length + 1)), h']) (M ++ (.lst fs' :: .lst [] :: X'))
  | 0, _, _, _, _, hk, _ => absurd hk (Nat.not_lt_zero _)
  | k + 1, ls, fs, X, h, hk, hk2 => by
    have hc := cond_ne (ρ := [some d0, some (.ref M.length), some (.ref (M.length + 1)), h]) (i := 2) (n := M.length + 1) (N := M ++ (.lst fs :: .lst (lnsD ls) :: X)) (ws := lnsD ls) rfl mem1
    rw [mapp, List.cons_append] at hc
    unfold whN
    rw [hc, R.bind_ok]
    rcases List.eq_nil_or_concat ls with e | ⟨init, l, e⟩
    · subst e
      exact ⟨fs, h, X ++ [.lst []], by rw [sizes]; rfl, rfl⟩
    · subst e
      rw [List.concat_eq_append] at *
      have he : (!(lnsD (init ++ [l])).isEmpty) = true := by rw [lns_last]; simp
      rw [he, if_pos rfl, lns_last]
      obtain ⟨nm, sm, ps⟩ := l
      have hs : sizes (init ++ [Ln.mk nm sm ps]) = sizes init + (1 + sizes ps) := by rw [sizes_append, sizes, Ln.size, sizes]; omega
      have l1 := length_sizes init
      have l2 := length_sizes ps
      have sl : (10000 : Nat) < sizeLine := by rw [sizeLine_eq]; decide
      obtain ⟨fs', h', X', e1, e2⟩ := parts_loop d0 M k (init ++ ps.reverse) (fs ++ [(Ln.mk nm sm ps).d]) ((X ++ [.lst []]) ++ [.lst (lnsD ps.reverse)]) (some (Ln.mk nm sm ps).d) (by rw [sizes_append, sizes_reverse]; omega) (by rw [sizes_append, sizes_reverse, List.length_append, List.length_singleton]; omega)
      refine ⟨fs', h', X', by rw [e1, hs, sizes_append, sizes_reverse, List.length_append, List.length_singleton]; omega, ?_⟩
      have step : partsBody [some d0, some (.ref M.length), some (.ref (M.length + 1)), h] (M ++ (.lst fs :: .lst (lnsD init ++ [(Ln.mk nm sm ps).d]) :: (X ++ [.lst []]))) =
          .ok (.nx [some d0, some (.ref M.length), some (.ref (M.length + 1)), some (Ln.mk nm sm ps).d]) (M ++ (.lst (fs ++ [(Ln.mk nm sm ps).d]) :: .lst (lnsD (init ++ ps.reverse)) :: ((X ++ [.lst []]) ++ [.lst (lnsD ps.reverse)]))) := by
        unfold partsBody
        rw [seq_nx (set_ok (pop_ok (n := M.length + 1) (xs := lnsD init) (y := (Ln.mk nm sm ps).d) rfl mem1)), mset1]
        show (seqS _ _) [some d0, some (.ref M.length), some (.ref (M.length + 1)), some (Ln.mk nm sm ps).d] _ = _
        rw [seq_nx (expr_ok (app_ok (n := M.length) (xs := fs) rfl mem0 (var_ok (d := (Ln.mk nm sm ps).d) rfl) mem0 (by omega))), mset0]
        have hrev : lrevE (opE ixD (var 3) (con (.int 2))) [some d0, some (D.ref M.length), some (.ref (M.length + 1)), some (Ln.mk nm sm ps).d] (M ++ (.lst (fs ++ [(Ln.mk nm sm ps).d]) :: .lst (lnsD init) :: (X ++ [.lst []]))) =
            .ok (.ref (M ++ (MO.lst (fs ++ [(Ln.mk nm sm ps).d]) :: .lst (lnsD init) :: (X ++ [.lst []]))).length) ((M ++ (.lst (fs ++ [(Ln.mk nm sm ps).d]) :: .lst (lnsD init) :: (X ++ [.lst []]))) ++ [.lst (lnsD ps.reverse)]) := by
          unfold lrevE
          rw [ix_ok (ds := [.str nm, .tup (sm.map D.int), .tup (lnsD ps)]) (by rw [var_ok (d := (Ln.mk nm sm ps).d) rfl, Ln.d]) (at32 _ _ _)]
          simp only [R.bind_ok, lns_rev]
        rw [expr_ok (extL_ok (n := M.length + 1) (xs := lnsD init) (ys := lnsD ps.reverse) rfl mem1 hrev ?_ (by simp) (by rw [lns_len, lns_len, List.length_reverse]; omega))]
        · rw [mapp, List.cons_append, mset1, ← lns_app]
        · rw [mapp, List.cons_append]; exact mem1
      rw [step, R.bind_ok]
      exact e2
theorem s7_line (fu : Nat) (c : Fn) (l : Ln) (M : Mem) (hs : l.size < fu) (hf : fu ≤ 10000) : ∃ fs X, fs.length = l.size ∧ runD 1 4 (m7 fu c) [l.d] M = .ok (.ref M.length) (M ++ (.lst fs :: X)) := by
  obtain ⟨fs', h', X', e1, e2⟩ := parts_loop l.d M fu [l] [] [] none (by rw [sizes, sizes]; omega) (by rw [sizes, sizes, List.length_nil]; omega)
  rw [sizes, sizes, List.length_nil] at e1
  refine ⟨fs', .lst [] :: X', by omega, ?_⟩
  have hm : m7 fu c [some l.d, none, none, none] M = .ok (.rt (.ref M.length)) (M ++ (.lst fs' :: .lst [] :: X')) := by
    show (seqS (parS 1 2 (consE (lstE nilE) (consE (lstE (consE (var 0) nilE)) nilE))) (seqS (whN fu (asT (opE neD (var 2) (lstE nilE))) partsBody) (retS (var 1)))) [some l.d, none, none, none] M = _
    have h1 : parS 1 2 (consE (lstE nilE) (consE (lstE (consE (var 0) nilE)) nilE)) [some l.d, none, none, none] M = .ok (.nx [some l.d, some (.ref M.length), some (.ref (M.length + 1)), none]) (M ++ [.lst [], .lst [l.d]]) := by
      unfold parS consE lstE nilE
      simp only [R.bind_ok, len?, List.length_nil]
      rw [if_pos (Nat.zero_le _)]
      simp only [R.bind_ok, consE, lstE, nilE]
      rw [var_ok (d := l.d) rfl]
      simp only [R.bind_ok, len?, List.length_singleton]
      rw [if_pos (show 1 ≤ sizeLine by rw [sizeLine_eq]; decide)]
      simp
    rw [seq_nx h1]
    have e2 : whN fu (asT (opE neD (var 2) (lstE nilE))) partsBody [some l.d, some (.ref M.length), some (.ref (M.length + 1)), none] (M ++ [.lst [], .lst [l.d]]) = _ := e2
    rw [seq_nx e2]
    exact ret_ok (var_ok rfl)
  refine (run_rt (M1 := M ++ (.lst fs' :: .lst [] :: X')) (d := .ref M.length) rfl hm).trans ?_
  rw [trunc_ok, if_neg]
  rintro ⟨h, _⟩
  have h : decide (M.length < M.length) = true := h
  exact absurd (of_decide_eq_true h) (Nat.lt_irrefl _)
theorem s8_line {fu : Nat} {c : Fn} {l : Ln} {M : Mem} {fs : List D} {X : Mem} (h7 : c 7 [l.d] M = .ok (.ref M.length) (M ++ (.lst fs :: X))) (hl : fs.length = l.size) : runD 1 1 (m8 fu c) [l.d] M = .ok (.int l.size) M := by
  refine run_ret (X := .lst fs :: X) rfl ?_ rfl
  refine ret_ok ?_
  have h1 : callE (c 7) (consE (var 0) nilE) [some l.d] M = .ok (.ref M.length) (M ++ (.lst fs :: X)) := by rw [call1 (var_ok (d := l.d) rfl), h7]
  show fnE lenD (consE (callE (c 7) (consE (var 0) nilE)) nilE) [some l.d] M = _
  rw [fn1 h1]
  unfold lenD
  simp only [mem0, hl]
  rfl
theorem s9_line {fu : Nat} {c : Fn} {l : Ln} {M : Mem} (h8 : c 8 [l.d] M = .ok (.int l.size) M) : runD 1 1 (m9 fu c) [l.d] M = .ok (.tup [.int l.size, l.d]) M := by
  refine run_ret0 rfl ?_ ?_
  · refine ret_ok ?_
    have h1 : callE (c 8) (consE (var 0) nilE) [some l.d] M = .ok (.int l.size) M := by rw [call1 (var_ok (d := l.d) rfl), h8]
    show tupE (consE (callE (c 8) (consE (var 0) nilE)) (consE (var 0) nilE)) [some l.d] M = _
    exact tup_ok (cons_ok h1 (cons_ok (var_ok rfl) nil_ok)) (small_ok (show 2 ≤ 1000000 by decide))
  · show (true && (l.d.lo M.length && true)) = true
    rw [D.pure_lo _ _ (Ln.pure l)]; rfl
theorem s6_ok {fu : Nat} {c : Fn} {d : D} {M : Mem} (h5 : c 5 [d] M = .ok (.bl true) M) : runD 1 1 (m6 fu c) [d] M = .ok .non M :=
  run_nx0 (ρ1 := [some d]) rfl ((if_f (not_ok (k := true) (as_ok (by rw [call1 (var_ok (d := d) rfl), h5])))).trans rfl)
theorem s6_er {fu : Nat} {c : Fn} {d : D} {M : Mem} (hd : d.lo M.length = true) (h5 : c 5 [d] M = .ok (.bl false) M) : runD 1 1 (m6 fu c) [d] M = .err "BadLine" d M := by
  refine run_er rfl ((if_t (not_ok (k := false) (as_ok (by rw [call1 (var_ok (d := d) rfl), h5])))).trans ?_) hd
  unfold raiseS
  rw [var_ok (d := d) rfl]; rfl
theorem s10_ok {fu : Nat} {c : Fn} {l : Ln} {M : Mem} (h6 : c 6 [l.d] M = .ok .non M) (h8 : c 8 [l.d] M = .ok (.int l.size) M) : runD 1 1 (m10 fu c) [l.d] M = .ok (.int l.size) M := by
  refine run_ret0 rfl ?_ rfl
  show (seqS (exprS _) _) [some l.d] M = _
  rw [seq_nx (expr_ok (by rw [call1 (var_ok (d := l.d) rfl), h6]))]
  exact ret_ok (by rw [call1 (var_ok (d := l.d) rfl), h8])
theorem s10_er {fu : Nat} {c : Fn} {d : D} {M : Mem} (hd : d.lo M.length = true) (h6 : c 6 [d] M = .err "BadLine" d M) : runD 1 1 (m10 fu c) [d] M = .err "BadLine" d M :=
  run_er rfl (seq_er (expr_er (by rw [call1 (var_ok (d := d) rfl), h6]))) hd
/-- is_before of two things -/
theorem s11_ok {fu : Nat} {c : Fn} {a b x y : D} {k : Bool} {M : Mem} (h1 : c 6 [a] M = .ok .non M) (h2 : c 6 [b] M = .ok .non M) (h3 : c 9 [a] M = .ok x M) (h4 : c 9 [b] M = .ok y M) (hk : ltB x y = some k) : runD 2 2 (m11 fu c) [a, b] M = .ok (.bl k) M := by
  refine run_ret0 rfl ?_ rfl
  show (seqS (exprS _) _) [some a, some b] M = _
  rw [seq_nx (expr_ok (by rw [call1 (var_ok (d := a) rfl), h1])), seq_nx (expr_ok (by rw [call1 (var_ok (d := b) rfl), h2]))]
  refine ret_ok ?_
  rw [op_ok (by rw [call1 (var_ok (d := a) rfl), h3]) (by rw [call1 (var_ok (d := b) rfl), h4])]
  unfold ltD
  rw [hk]; rfl
theorem s11_er1 {fu : Nat} {c : Fn} {a b : D} {M : Mem} (hd : a.lo M.length = true) (h1 : c 6 [a] M = .err "BadLine" a M) : runD 2 2 (m11 fu c) [a, b] M = .err "BadLine" a M :=
  run_er rfl (seq_er (expr_er (by rw [call1 (var_ok (d := a) rfl), h1]))) hd
theorem s11_er2 {fu : Nat} {c : Fn} {a b : D} {M : Mem} (hd : b.lo M.length = true) (h1 : c 6 [a] M = .ok .non M) (h2 : c 6 [b] M = .err "BadLine" b M) : runD 2 2 (m11 fu c) [a, b] M = .err "BadLine" b M := by
  refine run_er rfl ?_ hd
  show (seqS (exprS _) _) [some a, some b] M = _
  rw [seq_nx (expr_ok (by rw [call1 (var_ok (d := a) rfl), h1]))]
  exact seq_er (expr_er (by rw [call1 (var_ok (d := b) rfl), h2]))
end W8

set_option Elab.async false
set_option linter.all false
set_option maxRecDepth 100000
namespace W8
open PySem L2 PySem.Spec PyProof.Rows

theorem lc_list {α : Type} {x : W8.Its} {t : Tgt} {c : Te} {e : Ex} {ρ : Env} {M : Mem} {g h : α → D} (ok : x.ok M) : ∀ ps : List α, (∀ p ∈ ps, ∃ ρ1, t.put (g p) ρ M = some ρ1 ∧ c ρ1 M = .ok true M ∧ e ρ1 M = .ok (h p) M) → lcL x t c e ρ (ps.map g) M = .ok (ps.map h) M
  | [], _ => by rw [List.map_nil]; unfold lcL; rw [if_pos ok]; rfl
  | d :: ds, H => by
    obtain ⟨ρ1, h1, h2, h3⟩ := H d List.mem_cons_self
    rw [List.map_cons]
    unfold lcL
    rw [if_pos ok, h1]
    simp only [h2, h3, noE_ok, R.bind_ok, if_true]
    rw [lc_list ok ds fun d hd => H d (List.mem_cons_of_mem _ hd)]
    rfl
theorem lc_none {x : W8.Its} {t : Tgt} {c : Te} {e : Ex} {ρ : Env} {M : Mem} (ok : x.ok M) : ∀ ds : List D, (∀ d ∈ ds, ∃ ρ1, t.put d ρ M = some ρ1 ∧ c ρ1 M = .ok false M) → lcL x t c e ρ ds M = .ok [] M
  | [], _ => by unfold lcL; rw [if_pos ok]
  | d :: ds, H => by
    obtain ⟨ρ1, h1, h2⟩ := H d List.mem_cons_self
    unfold lcL
    rw [if_pos ok, h1]
    simp only [h2, noE_ok, R.bind_ok, Bool.false_eq_true, if_false]
    exact lc_none ok ds fun d hd => H d (List.mem_cons_of_mem _ hd)
theorem lc_ok {it : Ie} {vs : List Nat} {t : Tgt} {c : Te} {e : Ex} {ρ : Env} {M M1 M2 : Mem} {x : W8.Its} {ys : List D} (h : it ρ M = .ok x M1) (hl : x.items.length ≤ sizeLine) (h2 : lcL x t c e (wipeE ρ vs) x.items M1 = .ok ys M2) : lcE it vs t c e ρ M = .ok (.ref M2.length) (M2 ++ [.lst ys]) := by
  unfold lcE
  rw [h, R.bind_ok]
  unfold len?
  rw [if_pos hl, h2]; rfl
theorem val_tup {ρ : Env} {M M1 : Mem} {a : Ex} {ds : List D} (h : a ρ M = .ok (.tup ds) M1) : valI a ρ M = .ok ⟨ds, []⟩ M1 := by unfold valI; rw [h]; rfl
theorem sum_sizes : ∀ ps : List Ln, ((ps.map fun p => (p.size : Int)).sum) = (sizes ps : Nat)
  | [] => rfl
  | p :: ps => by rw [List.map_cons, List.sum_cons, sum_sizes ps, sizes]; omega
theorem mem_sizes : ∀ {ps : List Ln} {p : Ln}, p ∈ ps → p.size ≤ sizes ps
  | q :: ps, p, h => by
    rw [sizes]
    rcases List.mem_cons.mp h with h | h
    · subst h; omega
    · have := mem_sizes h; omega
theorem mem_highs : ∀ {ps : List Ln} {p : Ln}, p ∈ ps → p.high ≤ highs ps
  | q :: ps, p, h => by
    rw [highs]
    rcases List.mem_cons.mp h with h | h
    · subst h; omega
    · have := mem_highs h; omega
theorem s21_line (fu : Nat) : ∀ (L : Nat) (l : Ln) (M : Mem), l.high ≤ L → l.size ≤ 10000 → callK fu L 21 [l.d] M = .ok (.int l.size) M
  | 0, l, M, h, _ => by obtain ⟨nm, sm, ps⟩ := l; rw [Ln.high] at h; omega
  | L + 1, l, M, h, hs => by
    obtain ⟨nm, sm, ps⟩ := l
    rw [callK_21]
    rw [Ln.high] at h
    rw [Ln.size] at hs
    have hps := length_sizes ps
    have hlc : lcL ⟨lnsD ps, []⟩ (.nm 1) tru (callE (callK fu L 21) (consE (var 1) nilE)) [some (Ln.mk nm sm ps).d, none] (lnsD ps) M = .ok (ps.map fun p => D.int p.size) M := by
      have := lc_list (x := ⟨lnsD ps, []⟩) (t := .nm 1) (c := tru) (e := callE (callK fu L 21) (consE (var 1) nilE)) (ρ := [some (Ln.mk nm sm ps).d, none]) (M := M) (g := Ln.d) (h := fun p => D.int p.size) (ok_nil M) ps fun p hp => ?_
      · rw [← lnsD_map] at this; exact this
      · refine ⟨_, rfl, rfl, ?_⟩
        rw [call1 (var_ok (d := p.d) rfl)]
        have h1 := mem_highs hp
        have h2 := mem_sizes hp
        exact s21_line fu L p M (by omega) (by omega)
    refine run_ret (X := [.lst (ps.map fun p => D.int p.size)]) rfl ?_ rfl
    show retS (opE addD (con (.int 1)) (fnE sumD (consE (lcE (valI (opE ixD (var 0) (con (.int 2)))) [1] (.nm 1) tru (callE (callK fu L 21) (consE (var 1) nilE))) nilE))) [some (Ln.mk nm sm ps).d, none] M = _
    refine ret_ok ?_
    have hv : valI (opE ixD (var 0) (con (.int 2))) [some (Ln.mk nm sm ps).d, none] M = .ok ⟨lnsD ps, []⟩ M :=
      val_tup (ix_ok (ds := [.str nm, .tup (sm.map D.int), .tup (lnsD ps)]) (by rw [var_ok (d := (Ln.mk nm sm ps).d) rfl, Ln.d]) (at32 _ _ _))
    have hlc2 := lc_ok (vs := [1]) hv (by rw [lns_len]; exact small_ok (by omega)) hlc
    have e1 : (ps.map fun p => D.int p.size) = (ps.map fun p => (p.size : Int)).map D.int := by rw [List.map_map]; rfl
    rw [op_ok (d := .int 1) (M1 := M) (d' := .int (sizes ps : Nat)) (M2 := M ++ [.lst (ps.map fun p => D.int p.size)]) rfl]
    · unfold addD Ln.size
      show R.ok (D.int (1 + ((sizes ps : Nat) : Int))) _ = .ok (D.int ((1 + sizes ps : Nat) : Int)) _
      rw [Int.natCast_add]; rfl
    · rw [fn1 hlc2]
      unfold sumD
      simp only [List.getElem?_append_right (Nat.le_refl _), Nat.sub_self, List.getElem?_cons_zero]
      rw [e1, allInt_map, Option.map_some, sum_sizes]
      rfl
/-! ### alike -/
def Sm (M : Mem) : Nat → D → D → Prop
  | 0, _, _ => False
  | n + 1, d, e => (flatD d = true ∧ d = e) ∨ (∃ ds es, ds.length ≤ 100000 ∧ ((d = .tup ds ∧ e = .tup es) ∨ ∃ r s, d = .ref r ∧ e = .ref s ∧ M[r]? = some (.lst ds) ∧ M[s]? = some (.lst es)) ∧ Paired (Sm M n) ds es)
theorem paired_imp {α β : Type} {P Q : α → β → Prop} (k : ∀ a b, P a b → Q a b) {as : List α} {bs : List β} (h : Paired P as bs) : Paired Q as bs := by
  induction h with
  | nil => exact .nil
  | cons p _ ih => exact .cons (k _ _ p) ih
theorem Sm.more {M : Mem} : ∀ {n m : Nat} {d e : D}, Sm M n d e → n ≤ m → Sm M m d e
  | 0, _, _, _, h, _ => h.elim
  | n + 1, 0, _, _, _, hm => absurd hm (by omega)
  | n + 1, m + 1, d, e, h, hm => by
    rcases h with h | ⟨ds, es, hl, hde, hf⟩
    · exact .inl h
    · refine .inr ⟨ds, es, hl, hde, paired_imp (fun a b q => Sm.more q (by omega)) hf⟩
theorem f2_len {α β : Type} {P : α → β → Prop} {as : List α} {bs : List β} (h : Paired P as bs) : as.length = bs.length := by
  induction h with
  | nil => rfl
  | cons _ _ ih => simp [ih]
theorem f2_zip {P : D → D → Prop} {as bs : List D} (h : Paired P as bs) : ∀ z ∈ List.zipWith (fun a b => D.tup [a, b]) as bs, ∃ a b, z = .tup [a, b] ∧ P a b := by
  induction h with
  | nil => intro z hz; simp at hz
  | cons p _ ih =>
    intro z hz
    rw [List.zipWith_cons_cons] at hz
    rcases List.mem_cons.mp hz with hz | hz
    · exact ⟨_, _, hz, p⟩
    · exact ih z hz
theorem isiT_of {i : Nat} {ρ : Env} {M : Mem} {d : D} {k : Kd} (h : ρ[i]? = some (some d)) (hk : kd M d = some k) : isiT (var i) (consE (con (.ty "tuple")) (consE (con (.ty "list")) nilE)) ρ M = .ok (.bl (isK k .tup || isK k .lst)) M := by
  unfold isiT
  rw [var_ok h, R.bind_ok]
  have h1 : (consE (con (.ty "tuple")) (consE (con (.ty "list")) nilE)) ρ M = .ok [.ty "tuple", .ty "list"] M := rfl
  rw [h1, R.bind_ok]
  unfold len?
  rw [if_pos (show [D.ty "tuple", D.ty "list"].length ≤ sizeLine from small_ok (show 2 ≤ 1000000 by decide)), hk]
  show R.ok (D.bl ([Kd.tup, Kd.lst].any (isK k))) M = _
  simp
theorem isi_of {i : Nat} {ρ : Env} {M : Mem} {d : D} {k c : Kd} {n : String} (h : ρ[i]? = some (some d)) (hk : kd M d = some k) (hn : tyK n = some c) : fnE isiD (consE (var i) (consE (con (.ty n)) nilE)) ρ M = .ok (.bl (isK k c)) M := by
  rw [fn2 (d' := .ty n) (var_ok h) rfl]
  unfold isiD
  simp only [hk, hn]
  rfl
theorem flat_kd {M : Mem} {d : D} (h : flatD d = true) : ∃ k, kd M d = some k ∧ k ≠ .tup ∧ k ≠ .lst ∧ k ≠ .dic := by
  cases d <;> first | exact ⟨_, rfl, by decide, by decide, by decide⟩ | cases h
theorem eq_flat {M : Mem} {d : D} (h : flatD d = true) (hn : d ≠ .non) : eqB M d d = some true := by
  cases d <;> first | exact absurd rfl hn | (unfold eqB; simp; done) | cases h
/-- two alike: the flat ones -/
theorem s20_flat (fu : Nat) (c : Fn) (d : D) (M : Mem) (h : flatD d = true) : runD 2 4 (m20 fu c) [d, d] M = .ok (.bl true) M := by
  obtain ⟨k, hk, n1, n2, n3⟩ := flat_kd (M := M) h
  refine run_ret0 rfl ?_ rfl
  show (seqS (ifS (asT (isiT (var 1) _)) _ _) _) [some d, some d, none, none] M = _
  have t1 : (asT (isiT (var 1) (consE (con (.ty "tuple")) (consE (con (.ty "list")) nilE)))) [some d, some d, none, none] M = .ok false M := by
    refine as_ok ((isiT_of (d := d) rfl hk).trans ?_)
    have : (isK k .tup || isK k .lst) = false := by cases k <;> first | rfl | exact absurd rfl n1 | exact absurd rfl n2
    rw [this]
  rw [seq_nx ((if_f t1).trans rfl)]
  have i0 : ∀ (i : Nat) (n : String) (cc : Kd), i < 2 → tyK n = some cc → fnE isiD (consE (var i) (consE (con (.ty n)) nilE)) [some d, some d, none, none] M = .ok (.bl (isK k cc)) M := by
    intro i n cc hi hn
    match i, hi with
    | 0, _ => exact isi_of (d := d) rfl hk hn
    | 1, _ => exact isi_of (d := d) rfl hk hn
  have eqv : d ≠ .non → opE eqD (var 0) (var 1) [some d, some d, none, none] M = .ok (.bl true) M := by
    intro hd
    rw [op_ok (var_ok (d := d) rfl) (var_ok (d := d) rfl)]
    unfold eqD
    rw [eq_flat h hd]; rfl
  have eqb : ∀ (b : Bool), eqD (.bl b) (.bl b) M = some (.bl true, M) := by intro b; unfold eqD eqB; simp [boolR]
  cases d with
  | bl b =>
    cases hk
    rw [seq_rt]
    rw [if_t (or_t (as_ok (i0 1 "bool" .bl (by omega) rfl)))]
    refine ret_ok ?_
    rw [and_t (i0 1 "bool" .bl (by omega) rfl), and_t (i0 0 "bool" .bl (by omega) rfl)]
    exact eqv (by intro z; cases z)
  | int i =>
    cases hk
    rw [seq_nx ((if_f (by rw [or_f (as_ok (i0 1 "bool" .bl (by omega) rfl))]; exact as_ok (i0 0 "bool" .bl (by omega) rfl))).trans rfl)]
    rw [seq_rt]
    rw [if_t (or_t (as_ok (i0 1 "int" .int (by omega) rfl)))]
    refine ret_ok ?_
    rw [and_t (by rw [op_ok (i0 1 "int" .int (by omega) rfl) (i0 0 "int" .int (by omega) rfl)]; rw [eqb]; rfl)]
    rw [and_t (by rw [op_ok (i0 1 "str" .str (by omega) rfl) (i0 0 "str" .str (by omega) rfl)]; rw [eqb]; rfl)]
    exact eqv (by intro z; cases z)
  | str x =>
    cases hk
    rw [seq_nx ((if_f (by rw [or_f (as_ok (i0 1 "bool" .bl (by omega) rfl))]; exact as_ok (i0 0 "bool" .bl (by omega) rfl))).trans rfl)]
    rw [seq_rt]
    rw [if_t (by rw [or_f (as_ok (i0 1 "int" .int (by omega) rfl))]; exact as_ok (i0 1 "str" .str (by omega) rfl))]
    refine ret_ok ?_
    rw [and_t (by rw [op_ok (i0 1 "int" .int (by omega) rfl) (i0 0 "int" .int (by omega) rfl)]; rw [eqb]; rfl)]
    rw [and_t (by rw [op_ok (i0 1 "str" .str (by omega) rfl) (i0 0 "str" .str (by omega) rfl)]; rw [eqb]; rfl)]
    exact eqv (by intro z; cases z)
  | non =>
    cases hk
    rw [seq_nx ((if_f (by rw [or_f (as_ok (i0 1 "bool" .bl (by omega) rfl))]; exact as_ok (i0 0 "bool" .bl (by omega) rfl))).trans rfl)]
    rw [seq_nx ((if_f (by rw [or_f (as_ok (i0 1 "int" .int (by omega) rfl))]; exact as_ok (i0 1 "str" .str (by omega) rfl))).trans rfl)]
    rw [seq_rt]
    rw [if_t (as_ok (k := true) (by rw [op_ok (var_ok (d := .non) rfl) (rfl : con .non _ M = .ok .non M)]; rfl))]
    exact ret_ok (by rw [op_ok (var_ok (d := .non) rfl) (rfl : con .non _ M = .ok .non M)]; rfl)
  | _ => cases h
/-- two alike: tuples, lists -/
theorem s20_seq (fu : Nat) (c : Fn) (d e : D) (M : Mem) (ds es : List D) (k : Kd) (hk : kd M d = some k) (hk' : kd M e = some k) (hkk : k = .tup ∨ k = .lst) (hd0 : List D × List D) (x y : W8.Its) (hx : seqOf d M = some x) (hy : seqOf e M = some y) (hxi : x.items = ds) (hyi : y.items = es) (hxo : x.ok M) (hyo : y.ok M)
    (hld : lenD [d] M = some (.int ds.length, M)) (hle : lenD [e] M = some (.int es.length, M)) (hlen : ds.length = es.length) (hl : ds.length ≤ 100000)
    (hc : ∀ z ∈ List.zipWith (fun a b => D.tup [a, b]) ds es, ∃ a b, z = .tup [a, b] ∧ c 20 [a, b] M = .ok (.bl true) M) : runD 2 4 (m20 fu c) [d, e] M = .ok (.bl true) M := by
  have hor : (isK k .tup || isK k .lst) = true := by rcases hkk with h | h <;> subst h <;> rfl
  refine run_ret (X := [.lst [], .lst []]) rfl ?_ rfl
  show (seqS (ifS (asT (isiT (var 1) _)) _ _) _) [some d, some e, none, none] M = _
  have t1 : (asT (isiT (var 1) (consE (con (.ty "tuple")) (consE (con (.ty "list")) nilE)))) [some d, some e, none, none] M = .ok true M := by
    refine as_ok ((isiT_of (d := e) rfl hk').trans ?_)
    rw [hor]
  have ieq : ∀ b : Bool, neD (.bl b) (.bl b) M = some (.bl false, M) := by intro b; unfold neD eqB; simp [boolR]
  have ieq2 : neD (.int ds.length) (.int es.length) M = some (.bl false, M) := by rw [hlen]; unfold neD eqB; simp [boolR]
  have t2 : (orT (asT (opE neD (fnE isiD (consE (var 0) (consE (con (.ty "tuple")) nilE))) (fnE isiD (consE (var 1) (consE (con (.ty "tuple")) nilE))))) (orT (notT (asT (isiT (var 0) (consE (con (.ty "tuple")) (consE (con (.ty "list")) nilE))))) (asT (opE neD (fnE lenD (consE (var 0) nilE)) (fnE lenD (consE (var 1) nilE)))))) [some d, some e, none, none] M = .ok false M := by
    rw [or_f (as_ok (k := false) (by rw [op_ok (isi_of (d := d) (c := .tup) rfl hk rfl) (isi_of (d := e) (c := .tup) rfl hk' rfl), ieq]; rfl))]
    rw [or_f (not_ok (k := true) (as_ok ((isiT_of (d := d) rfl hk).trans (by rw [hor]))))]
    refine as_ok ?_
    rw [op_ok (d := .int ds.length) (M1 := M) (d' := .int es.length) (M2 := M) (by rw [fn1 (var_ok (d := d) rfl), hld]; rfl) (by rw [fn1 (var_ok (d := e) rfl), hle]; rfl), ieq2]
    rfl
  have hz : zpI (consE (var 0) (consE (var 1) nilE)) [some d, some e, none, none] M = .ok ⟨List.zipWith (fun a b => .tup [a, b]) ds es, x.held ++ y.held⟩ M := by
    unfold zpI
    rw [cons_ok (var_ok (d := d) rfl) (cons_ok (var_ok (d := e) rfl) nil_ok), R.bind_ok]
    simp only [hx, hy, Option.bind_some, Option.map_some, hxi, hyi]
    rfl
  have ho : (⟨List.zipWith (fun a b => .tup [a, b]) ds es, x.held ++ y.held⟩ : W8.Its).ok M := by
    intro p hp
    rcases List.mem_append.mp hp with h | h
    · exact hxo p h
    · exact hyo p h
  have hlc := lc_none (x := ⟨List.zipWith (fun a b => .tup [a, b]) ds es, x.held ++ y.held⟩) (t := .tp [2, 3]) (c := notT (asT (callE (c 20) (consE (var 2) (consE (var 3) nilE))))) (e := con (.int 1)) (ρ := wipeE [some d, some e, none, none] [2, 3]) (M := M) ho (List.zipWith (fun a b => .tup [a, b]) ds es) fun z hz => by
    obtain ⟨a, b, e1, e2⟩ := hc z hz
    subst e1
    refine ⟨[some d, some e, some a, some b], rfl, ?_⟩
    exact not_ok (k := true) (as_ok (by rw [call2 (var_ok (d := a) rfl) (var_ok (d := b) rfl), e2]))
  have hcmp := lc_ok (vs := [2, 3]) hz (by rw [List.length_zipWith]; exact small_ok (by omega)) hlc
  have hfin : opE eqD (lcE (zpI (consE (var 0) (consE (var 1) nilE))) [2, 3] (.tp [2, 3]) (notT (asT (callE (c 20) (consE (var 2) (consE (var 3) nilE))))) (con (.int 1))) (lstE nilE) [some d, some e, none, none] M = .ok (.bl true) (M ++ [.lst [], .lst []]) := by
    rw [op_ok hcmp (lst_ok nil_ok (Nat.zero_le _))]
    have e1 : (M ++ [MO.lst []]) ++ [MO.lst []] = M ++ [.lst [], .lst []] := by simp
    rw [e1]
    have e2 : eqD (.ref M.length) (.ref (M ++ [MO.lst []]).length) (M ++ [.lst [], .lst []]) = some (.bl true, M ++ [.lst [], .lst []]) := by
      unfold eqD eqB
      simp [boolR]
    rw [e2]; rfl
  rw [seq_rt]
  rw [if_t t1, seq_nx ((if_f t2).trans rfl)]
  exact ret_ok hfin
theorem lcl_ok {M : Mem} {n : Nat} {ds : List D} (h : M[n]? = some (.lst ds)) : (⟨ds, [(n, ds)]⟩ : W8.Its).ok M := fun p hp => by
  rw [List.mem_singleton.mp hp]; exact h
theorem s20_alike (fu : Nat) : ∀ (L : Nat) (d e : D) (M : Mem), Sm M L d e → callK fu L 20 [d, e] M = .ok (.bl true) M
  | 0, _, _, _, h => h.elim
  | L + 1, d, e, M, h => by
    rw [callK_20]
    rcases h with ⟨hf, he⟩ | ⟨ds, es, hl, hde, hf⟩
    · subst he
      exact s20_flat fu _ d M hf
    · have hlen := f2_len hf
      have hc : ∀ z ∈ List.zipWith (fun a b => D.tup [a, b]) ds es, ∃ a b, z = .tup [a, b] ∧ callK fu L 20 [a, b] M = .ok (.bl true) M := fun z hz => by
        obtain ⟨a, b, e1, e2⟩ := f2_zip hf z hz
        exact ⟨a, b, e1, s20_alike fu L a b M e2⟩
      rcases hde with ⟨e1, e2⟩ | ⟨r, s, e1, e2, h1, h2⟩
      · subst e1 e2
        exact s20_seq fu _ _ _ M ds es .tup rfl rfl (.inl rfl) (ds, es) ⟨ds, []⟩ ⟨es, []⟩ rfl rfl rfl rfl (ok_nil M) (ok_nil M) rfl rfl hlen hl hc
      · subst e1 e2
        refine s20_seq fu _ _ _ M ds es .lst (by unfold kd; simp only [h1]) (by unfold kd; simp only [h2]) (.inr rfl) (ds, es) ⟨ds, [(r, ds)]⟩ ⟨es, [(s, es)]⟩ (by unfold seqOf; simp only [h1]) (by unfold seqOf; simp only [h2]) rfl rfl (lcl_ok h1) (lcl_ok h2) (by unfold lenD; simp only [h1]) (by unfold lenD; simp only [h2]) hlen hl hc
end W8

set_option Elab.async false
set_option linter.all false
set_option maxRecDepth 100000
namespace W8
open PySem L2 PySem.Spec PyProof.Rows

/-! ### the order -/
def cmpI (i j : Int) : Int := if i < j then -1 else if j < i then 1 else 0
def cmpS (a b : Str) : Int := if a.cps.toList < b.cps.toList then -1 else if b.cps.toList < a.cps.toList then 1 else 0
mutual
def cmpD : D → D → Int
  | .int i, .int j => cmpI i j
  | .str a, .str b => cmpS a b
  | .tup ds, .tup es => cmpDs ds es
  | _, _ => 0
def cmpDs : List D → List D → Int
  | [], [] => 0
  | [], _ :: _ => -1
  | _ :: _, [] => 1
  | d :: ds, e :: es => if cmpD d e ≠ 0 then cmpD d e else cmpDs ds es
end
mutual
/-- comparable, to a depth -/
def alk : Nat → D → D → Prop
  | _ + 1, .int _, .int _ => True
  | _ + 1, .str _, .str _ => True
  | n + 1, .tup ds, .tup es => ds.length ≤ 100000 ∧ es.length ≤ 100000 ∧ alks n ds es
  | _, _, _ => False
def alks : Nat → List D → List D → Prop
  | _, [], _ => True
  | _, _ :: _, [] => True
  | n, d :: ds, e :: es => alk n d e ∧ alks n ds es
end
/-- the first place that differs -/
def zf : List D → List D → Int
  | [], _ => 0
  | _ :: _, [] => 0
  | d :: ds, e :: es => if cmpD d e ≠ 0 then cmpD d e else zf ds es
theorem cmpI_self (i : Int) : cmpI i i = 0 := by unfold cmpI; simp
theorem cmpDs_zf : ∀ ds es : List D, cmpDs ds es = if zf ds es ≠ 0 then zf ds es else cmpI ds.length es.length
  | [], [] => by rw [cmpDs, zf]; simp [cmpI]
  | [], e :: es => by
    rw [cmpDs, zf]
    have : cmpI ((([] : List D).length : Nat) : Int) ((e :: es).length : Nat) = -1 := by
      unfold cmpI; rw [if_pos]; simp only [List.length_nil, List.length_cons]; omega
    rw [this]; rfl
  | d :: ds, [] => by
    rw [cmpDs, zf]
    have : cmpI ((d :: ds).length : Nat) ((([] : List D).length : Nat) : Int) = 1 := by
      unfold cmpI; rw [if_neg, if_pos] <;> simp only [List.length_nil, List.length_cons] <;> omega
    rw [this]; rfl
  | d :: ds, e :: es => by
    rw [cmpDs, zf, cmpDs_zf ds es]
    by_cases h : cmpD d e ≠ 0
    · rw [if_pos h, if_pos h, if_pos h]
    · rw [if_neg h, if_neg h]
      have : cmpI ((d :: ds).length : Nat) ((e :: es).length : Nat) = cmpI (ds.length : Nat) (es.length : Nat) := by
        unfold cmpI
        simp only [List.length_cons]
        have h1 : (((ds.length + 1 : Nat) : Int) < ((es.length + 1 : Nat) : Int)) ↔ ((ds.length : Nat) : Int) < (es.length : Nat) := by omega
        have h2 : (((es.length + 1 : Nat) : Int) < ((ds.length + 1 : Nat) : Int)) ↔ ((es.length : Nat) : Int) < (ds.length : Nat) := by omega
        simp only [h1, h2]
      rw [this]
def ordBody (c : Fn) : Stt := seqS (setS 4 (callE (c 28) (consE (var 2) (consE (var 3) nilE)))) (ifS (asT (opE neD (var 4) (con (.int 0)))) (retS (var 4)) skipS)
theorem ne_int (i j : Int) (M : Mem) : neD (.int i) (.int j) M = some (.bl (!decide (i = j)), M) := by unfold neD eqB; simp [boolR]
theorem ord_loop {c : Fn} {M : Mem} {x : W8.Its} (ok : x.ok M) (d0 e0 : D) : ∀ (ds es : List D) (a b w : Option D), (∀ z ∈ List.zipWith (fun a b => (a, b)) ds es, c 28 [z.1, z.2] M = .ok (.int (cmpD z.1 z.2)) M) →
    ∃ a' b' w', forL x (.tp [2, 3]) (ordBody c) (List.zipWith (fun a b => D.tup [a, b]) ds es) [some d0, some e0, a, b, w] M = if zf ds es ≠ 0 then .ok (.rt (.int (zf ds es))) M else .ok (.nx [some d0, some e0, a', b', w']) M
  | [], es, a, b, w, _ => by
    refine ⟨a, b, w, ?_⟩
    rw [List.zipWith_nil_left]
    unfold forL
    rw [if_pos ok, zf, if_neg (by simp)]
  | d :: ds, [], a, b, w, _ => by
    refine ⟨a, b, w, ?_⟩
    rw [List.zipWith_nil_right]
    unfold forL
    rw [if_pos ok, zf, if_neg (by simp)]
  | d :: ds, e :: es, a, b, w, h => by
    rw [List.zipWith_cons_cons] at h
    have h1 := h (d, e) List.mem_cons_self
    obtain ⟨a', b', w', ih⟩ := ord_loop ok d0 e0 ds es (some d) (some e) (some (.int (cmpD d e))) (fun z hz => h z (List.mem_cons_of_mem _ hz))
    refine ⟨a', b', w', ?_⟩
    rw [List.zipWith_cons_cons]
    unfold forL
    rw [if_pos ok]
    have hp : Tgt.put (.tp [2, 3]) (.tup [d, e]) [some d0, some e0, a, b, w] M = some [some d0, some e0, some d, some e, w] := rfl
    rw [hp]
    have hs : setS 4 (callE (c 28) (consE (var 2) (consE (var 3) nilE))) [some d0, some e0, some d, some e, w] M = .ok (.nx [some d0, some e0, some d, some e, some (.int (cmpD d e))]) M :=
      set_ok (i := 4) (by rw [call2 (var_ok (d := d) rfl) (var_ok (d := e) rfl), h1])
    have ht : asT (opE neD (var 4) (con (.int 0))) [some d0, some e0, some d, some e, some (.int (cmpD d e))] M = .ok (!decide (cmpD d e = 0)) M := by
      refine as_ok ?_
      rw [op_ok (var_ok (d := .int (cmpD d e)) rfl) (rfl : con (.int 0) _ M = .ok (.int 0) M), ne_int]
      rfl
    by_cases hz : cmpD d e = 0
    · have hb : ordBody c [some d0, some e0, some d, some e, w] M = .ok (.nx [some d0, some e0, some d, some e, some (.int (cmpD d e))]) M := by
        unfold ordBody
        rw [seq_nx hs, if_f (by rw [ht, hz]; rfl)]
        rfl
      show (R.bind (ordBody c _ M) _) = _
      rw [hb, R.bind_ok]
      show forL x _ _ _ _ M = _
      rw [ih, zf, if_neg (show ¬ (cmpD d e ≠ 0) from fun q => q hz)]
    · have hb : ordBody c [some d0, some e0, some d, some e, w] M = .ok (.rt (.int (cmpD d e))) M := by
        unfold ordBody
        rw [seq_nx hs, if_t (by rw [ht, decide_eq_false hz]; rfl)]
        exact ret_ok (var_ok rfl)
      show (R.bind (ordBody c _ M) _) = _
      rw [hb, R.bind_ok, zf, if_pos (show cmpD d e ≠ 0 from hz), if_pos (show cmpD d e ≠ 0 from hz)]
/-- -1, 0 or 1 by < and > -/
theorem sgn_ok {ρ : Env} {M : Mem} {a b : Ex} {x y : D} {lt gt : Bool} (ha : a ρ M = .ok x M) (hb : b ρ M = .ok y M) (h1 : ltB x y = some lt) (h2 : gtB x y = some gt) :
    ifE (asT (opE ltD a b)) (negE (con (.int 1))) (fnE intD (consE (opE gtD a b) nilE)) ρ M = .ok (.int (if lt = true then -1 else if gt = true then 1 else 0)) M := by
  have e1 : asT (opE ltD a b) ρ M = .ok lt M := by
    refine as_ok ?_
    rw [op_ok ha hb]; unfold ltD; rw [h1]; rfl
  unfold ifE
  rw [e1, R.bind_ok]
  cases lt with
  | true => rfl
  | false =>
    rw [if_neg Bool.false_ne_true, if_neg Bool.false_ne_true, fn1 (d := .bl gt) (M1 := M) (by rw [op_ok ha hb]; unfold gtD; rw [h2]; rfl)]
    rfl
theorem len_ok {ρ : Env} {M : Mem} {i : Nat} {ds : List D} (h : ρ[i]? = some (some (.tup ds))) : fnE lenD (consE (var i) nilE) ρ M = .ok (.int ds.length) M := by
  rw [fn1 (var_ok h)]; rfl
theorem s28_flat (fu : Nat) (c : Fn) (d e : D) (M : Mem) (lt gt : Bool) (k : Kd) (hk : kd M d = some k) (hn : k ≠ .tup) (h1 : ltB d e = some lt) (h2 : gtB d e = some gt) : runD 2 5 (m28 fu c) [d, e] M = .ok (.int (if lt = true then -1 else if gt = true then 1 else 0)) M := by
  refine run_ret0 rfl ?_ rfl
  show (seqS (ifS (notT (asT (fnE isiD _))) _ _) _) [some d, some e, none, none, none] M = _
  have hi : isK k .tup = false := by cases k <;> first | rfl | exact absurd rfl hn
  rw [seq_rt]
  rw [if_t (not_ok (k := false) (as_ok (by rw [isi_of (d := d) (c := .tup) rfl hk rfl, hi])))]
  exact ret_ok (sgn_ok (var_ok rfl) (var_ok rfl) h1 h2)
theorem alk_pairs : ∀ {n : Nat} {ds es : List D}, alks n ds es → ∀ z ∈ List.zipWith (fun a b => (a, b)) ds es, alk n z.1 z.2
  | n, [], _, _, z, hz => by simp at hz
  | n, _ :: _, [], _, z, hz => by simp at hz
  | n, d :: ds, e :: es, h, z, hz => by
    rw [alks] at h
    rw [List.zipWith_cons_cons] at hz
    rcases List.mem_cons.mp hz with hz | hz
    · subst hz; exact h.1
    · exact alk_pairs h.2 z hz
theorem s28_alk (fu : Nat) : ∀ (n L : Nat) (d e : D) (M : Mem), alk n d e → n ≤ L → callK fu L 28 [d, e] M = .ok (.int (cmpD d e)) M
  | 0, _, d, e, _, h, _ => by cases d <;> cases e <;> simp [alk] at h
  | n + 1, 0, _, _, _, _, hl => absurd hl (by omega)
  | n + 1, L + 1, d, e, M, h, hl => by
    rw [callK_28]
    have hs : ∀ i j : Int, (if decide (i < j) = true then (-1 : Int) else if decide (j < i) = true then 1 else 0) = cmpI i j := by
      intro i j; unfold cmpI; simp only [decide_eq_true_eq]
    cases d with
    | int i =>
      cases e with
      | int j =>
        rw [s28_flat fu _ (.int i) (.int j) M (decide (i < j)) (decide (j < i)) .int rfl (by decide) rfl rfl, hs]
        rw [cmpD]
      | _ => simp [alk] at h
    | str a =>
      cases e with
      | str b =>
        rw [s28_flat fu _ (.str a) (.str b) M (decide (a.cps.toList < b.cps.toList)) (decide (b.cps.toList < a.cps.toList)) .str rfl (by decide) rfl rfl]
        rw [cmpD]
        unfold cmpS
        simp only [decide_eq_true_eq]
      | _ => simp [alk] at h
    | tup ds =>
      cases e with
      | tup es =>
        rw [alk] at h
        obtain ⟨l1, l2, ha⟩ := h
        have hz : zpI (consE (var 0) (consE (var 1) nilE)) [some (.tup ds), some (.tup es), none, none, none] M = .ok ⟨List.zipWith (fun a b => .tup [a, b]) ds es, []⟩ M := by
          unfold zpI
          rw [cons_ok (var_ok (d := .tup ds) rfl) (cons_ok (var_ok (d := .tup es) rfl) nil_ok), R.bind_ok]
          rfl
        obtain ⟨a', b', w', hloop⟩ := ord_loop (c := callK fu L) (M := M) (ok_nil (xs := List.zipWith (fun a b => D.tup [a, b]) ds es) M) (.tup ds) (.tup es) ds es none none none fun z hz => s28_alk fu n L z.1 z.2 M (alk_pairs ha z hz) (by omega)
        refine run_ret0 rfl ?_ rfl
        show (seqS (ifS (notT (asT (fnE isiD _))) _ _) (seqS (forS _ _ (ordBody (callK fu L))) _)) [some (.tup ds), some (.tup es), none, none, none] M = _
        have hf : forS (zpI (consE (var 0) (consE (var 1) nilE))) (.tp [2, 3]) (ordBody (callK fu L)) [some (.tup ds), some (.tup es), none, none, none] M = if zf ds es ≠ 0 then .ok (.rt (.int (zf ds es))) M else .ok (.nx [some (.tup ds), some (.tup es), a', b', w']) M := by
          unfold forS
          rw [hz, R.bind_ok]
          exact hloop
        rw [seq_nx ((if_f (not_ok (k := true) (as_ok (isi_of (d := .tup ds) (c := .tup) rfl rfl rfl)))).trans rfl)]
        rw [cmpD, cmpDs_zf]
        by_cases hzf : zf ds es ≠ 0
        · rw [if_pos hzf] at hf ⊢
          rw [seq_rt hf]
        · rw [if_neg hzf] at hf ⊢
          rw [seq_nx hf]
          refine ret_ok ((sgn_ok (lt := decide (((ds.length : Nat) : Int) < (es.length : Nat))) (gt := decide (((es.length : Nat) : Int) < (ds.length : Nat))) (len_ok (ds := ds) rfl) (len_ok (ds := es) rfl) rfl rfl).trans ?_)
          rw [hs]
      | _ => simp [alk] at h
    | _ => cases e <;> simp [alk] at h
end W8

set_option Elab.async false
set_option linter.all false
set_option maxRecDepth 100000
namespace W8
open PySem L2 PySem.Spec PyProof.Rows

/-! ### the order's laws -/
theorem cmpI_anti (i j : Int) : cmpI j i = -cmpI i j := by
  unfold cmpI
  by_cases h : i < j
  · rw [if_pos h, if_neg (by omega), if_pos h]; rfl
  · rw [if_neg h]
    by_cases h2 : j < i
    · rw [if_pos h2, if_pos h2, if_neg h]
    · rw [if_neg h2, if_neg h2, if_neg h]; rfl
theorem cmpS_anti (a b : Str) : cmpS b a = -cmpS a b := by
  unfold cmpS
  by_cases h : a.cps.toList < b.cps.toList
  · rw [if_pos h, if_neg (List.lt_asymm h), if_pos h]; rfl
  · rw [if_neg h]
    by_cases h2 : b.cps.toList < a.cps.toList
    · rw [if_pos h2, if_pos h2, if_neg h]
    · rw [if_neg h2, if_neg h2, if_neg h]; rfl
mutual
theorem cmpD_anti : ∀ d e : D, cmpD e d = -cmpD d e
  | .int i, .int j => by rw [cmpD, cmpD, cmpI_anti]
  | .str a, .str b => by rw [cmpD, cmpD, cmpS_anti]
  | .tup ds, .tup es => by rw [cmpD, cmpD]; exact cmpDs_anti ds es
  | .non, e => by cases e <;> rfl
  | .bl _, e => by cases e <;> rfl
  | .rol _, e => by cases e <;> rfl
  | .ref _, e => by cases e <;> rfl
  | .fn _, e => by cases e <;> rfl
  | .ty _, e => by cases e <;> rfl
  | .int _, .non | .int _, .bl _ | .int _, .str _ | .int _, .tup _ | .int _, .rol _ | .int _, .ref _ | .int _, .fn _ | .int _, .ty _ => rfl
  | .str _, .non | .str _, .bl _ | .str _, .int _ | .str _, .tup _ | .str _, .rol _ | .str _, .ref _ | .str _, .fn _ | .str _, .ty _ => rfl
  | .tup _, .non | .tup _, .bl _ | .tup _, .int _ | .tup _, .str _ | .tup _, .rol _ | .tup _, .ref _ | .tup _, .fn _ | .tup _, .ty _ => rfl
theorem cmpDs_anti : ∀ ds es : List D, cmpDs es ds = -cmpDs ds es
  | [], [] => rfl
  | [], _ :: _ => rfl
  | _ :: _, [] => rfl
  | d :: ds, e :: es => by
    rw [cmpDs, cmpDs, cmpD_anti d e, cmpDs_anti ds es]
    by_cases h : cmpD d e = 0
    · rw [h]; rfl
    · rw [if_pos h, if_pos (by omega)]
end
theorem cmpS_self (a : Str) : cmpS a a = 0 := by unfold cmpS; simp [List.lt_irrefl]
mutual
theorem cmpD_self : ∀ d : D, cmpD d d = 0
  | .int i => by rw [cmpD, cmpI_self]
  | .str a => by rw [cmpD, cmpS_self]
  | .tup ds => by rw [cmpD]; exact cmpDs_self ds
  | .non | .bl _ | .rol _ | .ref _ | .fn _ | .ty _ => rfl
theorem cmpDs_self : ∀ ds : List D, cmpDs ds ds = 0
  | [] => rfl
  | d :: ds => by rw [cmpDs, cmpD_self d, cmpDs_self ds]; rfl
end
theorem cmpI_zero {i j : Int} (h : cmpI i j = 0) : i = j := by
  unfold cmpI at h
  split at h
  · omega
  · split at h <;> omega
theorem cmpS_zero {a b : Str} (h : cmpS a b = 0) : a = b := by
  unfold cmpS at h
  split at h
  · omega
  · rename_i h1
    split at h
    · omega
    · rename_i h2
      exact PySem.W.str_of_cps (List.le_antisymm (List.not_lt.mp h2) (List.not_lt.mp h1))
theorem alk_zero : ∀ (n : Nat), (∀ d e : D, alk n d e → cmpD d e = 0 → d = e) ∧ (∀ ds es : List D, alks n ds es → cmpDs ds es = 0 → ds = es) := by
  intro n
  induction n with
  | zero =>
    have h1 : ∀ d e : D, ¬ alk 0 d e := fun d e h => by cases d <;> cases e <;> simp [alk] at h
    refine ⟨fun d e h => (h1 d e h).elim, fun ds es h hz => ?_⟩
    match ds, es with
    | [], [] => rfl
    | [], _ :: _ => rw [cmpDs] at hz; cases hz
    | _ :: _, [] => rw [cmpDs] at hz; cases hz
    | d :: _, e :: _ => rw [alks] at h; exact (h1 d e h.1).elim
  | succ n ih =>
    have hd : ∀ d e : D, alk (n + 1) d e → cmpD d e = 0 → d = e := by
      intro d e h hz
      cases d <;> cases e <;> simp only [alk] at h
      · rw [cmpD] at hz; rw [cmpI_zero hz]
      · rw [cmpD] at hz; rw [cmpS_zero hz]
      · rw [cmpD] at hz; rw [ih.2 _ _ h.2.2 hz]
    refine ⟨hd, fun ds => ?_⟩
    induction ds with
    | nil =>
      intro es h hz
      cases es with
      | nil => rfl
      | cons e es => rw [cmpDs] at hz; cases hz
    | cons d ds ihd =>
      intro es h hz
      cases es with
      | nil => rw [cmpDs] at hz; cases hz
      | cons e es =>
        rw [alks] at h
        rw [cmpDs] at hz
        by_cases h0 : cmpD d e = 0
        · rw [if_neg (by simpa using h0)] at hz
          rw [hd d e h.1 h0, ihd es h.2 hz]
        · rw [if_pos h0] at hz; exact absurd hz h0
/-! ### as the library's data -/
mutual
def okP : D → Bool
  | .int _ => true
  | .str _ => true
  | .tup ds => okPs ds
  | _ => false
def okPs : List D → Bool
  | [] => true
  | d :: ds => okP d && okPs ds
end
mutual
def toP : D → PyData
  | .int i => .int i
  | .str x => .str x
  | .tup ds => .tuple (toPs ds)
  | _ => .none
def toPs : List D → List PyData
  | [] => []
  | d :: ds => toP d :: toPs ds
end
mutual
theorem py_toP : ∀ d : D, okP d = true → d.py = some (toP d)
  | .int _, _ => rfl
  | .str _, _ => rfl
  | .tup ds, h => by
    rw [okP] at h
    rw [D.py, pys_toPs ds h, toP]
  | .non, h | .bl _, h | .rol _, h | .ref _, h | .fn _, h | .ty _, h => by cases h
theorem pys_toPs : ∀ ds : List D, okPs ds = true → pys ds = some (toPs ds)
  | [], _ => rfl
  | d :: ds, h => by
    rw [okPs, Bool.and_eq_true] at h
    rw [pys, py_toP d h.1, pys_toPs ds h.2, toPs]
end
abbrev rowB (xs ys : List PyData) : Bool := PyProof.Rows.lexLt itemOrd (PySem.W.keyToksAll xs) (PySem.W.keyToksAll ys)
theorem row_nil : rowB [] [] = false := lex_irrefl _
theorem row_nc (y : PyData) (ys : List PyData) : rowB [] (y :: ys) = true := by
  unfold rowB
  rw [PySem.W.toks_all_cons]; rfl
theorem row_cn (y : PyData) (ys : List PyData) : rowB (y :: ys) [] = false := by
  unfold rowB
  rw [PySem.W.toks_all_cons]; rfl
theorem lt_int (i j : Int) : decide (i < j) = decide (cmpI i j < 0) := by
  unfold cmpI
  by_cases h : i < j
  · rw [if_pos h]; simp [h]
  · rw [if_neg h]
    by_cases h2 : j < i
    · rw [if_pos h2]; simp [h]
    · rw [if_neg h2]; simp [h]
theorem eq_int (i j : Int) : (i == j) = decide (cmpI i j = 0) := by
  by_cases h : i = j
  · subst h; rw [cmpI_self]; simp
  · have : cmpI i j ≠ 0 := fun z => h (cmpI_zero z)
    simp [h, this]
theorem lt_str (a b : Str) : decide (a.cps.toList < b.cps.toList) = decide (cmpS a b < 0) := by
  unfold cmpS
  by_cases h : a.cps.toList < b.cps.toList
  · rw [if_pos h]; simp [h]
  · rw [if_neg h]
    by_cases h2 : b.cps.toList < a.cps.toList
    · rw [if_pos h2]; simp [h]
    · rw [if_neg h2]; simp [h]
theorem eq_str (a b : Str) : (a == b) = decide (cmpS a b = 0) := by
  by_cases h : a = b
  · subst h; rw [cmpS_self]; simp
  · have : cmpS a b ≠ 0 := fun z => h (cmpS_zero z)
    simp [h, this]
/-- the library's < and == are the order's -/
theorem data_of : ∀ n : Nat, (∀ d e : D, alk n d e → okP d = true → okP e = true → PySem.W.alike (toP d) (toP e) = true ∧ PySem.W.dataLt (toP d) (toP e) = decide (cmpD d e < 0) ∧ PyData.eqv (toP d) (toP e) = decide (cmpD d e = 0)) ∧
    (∀ ds es : List D, alks n ds es → okPs ds = true → okPs es = true → PySem.W.alikeAll (toPs ds) (toPs es) = true ∧ rowB (toPs ds) (toPs es) = decide (cmpDs ds es < 0) ∧ PyData.eqvAll (toPs ds) (toPs es) = decide (cmpDs ds es = 0)) := by
  have lists : ∀ n : Nat, (∀ d e : D, alk n d e → okP d = true → okP e = true → PySem.W.alike (toP d) (toP e) = true ∧ PySem.W.dataLt (toP d) (toP e) = decide (cmpD d e < 0) ∧ PyData.eqv (toP d) (toP e) = decide (cmpD d e = 0)) →
      ∀ ds es : List D, alks n ds es → okPs ds = true → okPs es = true → PySem.W.alikeAll (toPs ds) (toPs es) = true ∧ rowB (toPs ds) (toPs es) = decide (cmpDs ds es < 0) ∧ PyData.eqvAll (toPs ds) (toPs es) = decide (cmpDs ds es = 0) := by
    intro n hd ds
    induction ds with
    | nil =>
      intro es _ _ _
      cases es with
      | nil => refine ⟨by rw [toPs, PySem.W.alikeAll], ?_, ?_⟩
               · rw [toPs, row_nil, cmpDs]; rfl
               · rw [toPs, PyData.eqvAll, cmpDs]; rfl
      | cons e es => refine ⟨by rw [toPs, PySem.W.alikeAll], ?_, ?_⟩
                     · rw [toPs, toPs, row_nc, cmpDs]; rfl
                     · rw [toPs, toPs, PyData.eqvAll, cmpDs]; rfl
    | cons d ds ih =>
      intro es h h1 h2
      cases es with
      | nil => refine ⟨by rw [toPs, toPs, PySem.W.alikeAll], ?_, ?_⟩
               · rw [toPs, toPs, row_cn, cmpDs]; rfl
               · rw [toPs, toPs, PyData.eqvAll, cmpDs]; rfl
      | cons e es =>
        rw [alks] at h
        rw [okPs, Bool.and_eq_true] at h1 h2
        obtain ⟨a1, a2, a3⟩ := hd d e h.1 h1.1 h2.1
        obtain ⟨b1, b2, b3⟩ := ih es h.2 h1.2 h2.2
        have e1 : toPs (d :: ds) = toP d :: toPs ds := by rw [toPs]
        have e2 : toPs (e :: es) = toP e :: toPs es := by rw [toPs]
        rw [e1, e2, cmpDs]
        refine ⟨by rw [PySem.W.alikeAll, a1, b1]; rfl, ?_, ?_⟩
        · by_cases hz : cmpD d e = 0
          · rw [if_neg (by simpa using hz)]
            rw [← b2]
            exact PySem.W.dataLt_all_yes a1 (by rw [a3, decide_eq_true hz])
          · rw [if_pos hz, ← a2]
            exact PySem.W.dataLt_all_no a1 (by rw [a3, decide_eq_false hz])
        · rw [PyData.eqvAll, a3, b3]
          by_cases hz : cmpD d e = 0
          · rw [if_neg (by simpa using hz), decide_eq_true hz, Bool.true_and]
          · rw [if_pos hz, decide_eq_false hz, Bool.false_and]
  intro n
  induction n with
  | zero =>
    have h0 : ∀ d e : D, alk 0 d e → okP d = true → okP e = true → PySem.W.alike (toP d) (toP e) = true ∧ PySem.W.dataLt (toP d) (toP e) = decide (cmpD d e < 0) ∧ PyData.eqv (toP d) (toP e) = decide (cmpD d e = 0) := fun d e h => by cases d <;> cases e <;> simp [alk] at h
    exact ⟨h0, lists 0 h0⟩
  | succ n ih =>
    have hd : ∀ d e : D, alk (n + 1) d e → okP d = true → okP e = true → PySem.W.alike (toP d) (toP e) = true ∧ PySem.W.dataLt (toP d) (toP e) = decide (cmpD d e < 0) ∧ PyData.eqv (toP d) (toP e) = decide (cmpD d e = 0) := by
      intro d e h h1 h2
      cases d <;> cases e <;> simp only [alk] at h
      · rw [toP, toP, cmpD]
        exact ⟨rfl, by rw [PySem.W.dataLt_int, lt_int], by rw [PyData.eqv, eq_int]⟩
      · rw [toP, toP, cmpD]
        exact ⟨rfl, by rw [PySem.W.dataLt_str, lt_str], by rw [PyData.eqv, eq_str]⟩
      · rw [okP] at h1 h2
        rw [toP, toP, cmpD]
        obtain ⟨b1, b2, b3⟩ := ih.2 _ _ h.2.2 h1 h2
        exact ⟨by rw [PySem.W.alike]; exact b1, by rw [PySem.W.dataLt_tuple]; exact b2, by rw [PyData.eqv]; exact b3⟩
    exact ⟨hd, lists (n + 1) hd⟩
end W8

set_option Elab.async false
set_option linter.all false
set_option maxRecDepth 100000
namespace W8
open PySem L2 PySem.Spec PyProof.Rows

/-! ### lines are comparable -/
theorem alks_ints (n : Nat) : ∀ a b : List Int, alks (n + 1) (a.map D.int) (b.map D.int)
  | [], _ => by rw [List.map_nil, alks]; trivial
  | _ :: _, [] => by rw [List.map_nil, List.map_cons, alks]; trivial
  | i :: a, j :: b => by
    rw [List.map_cons, List.map_cons, alks]
    refine ⟨?_, alks_ints n a b⟩
    rw [alk]; trivial
/-- the bounds of a line -/
structure Bd (l : Ln) : Prop where
  size : l.size ≤ 10000
  good : ∃ b w, w ≤ 1000 ∧ l.good b w
theorem Bd.parts {nm : Str} {sm : List Int} {ps : List Ln} (h : Bd (.mk nm sm ps)) : sm.length ≤ 1000 ∧ ps.length ≤ 10000 ∧ nm ∈ NAMES ∧ ∀ p ∈ ps, Bd p := by
  obtain ⟨b, w, hw, g⟩ := h.good
  have hs := h.size
  rw [Ln.good] at g
  rw [Ln.size] at hs
  have := length_sizes ps
  refine ⟨by omega, by omega, g.1, fun p hp => ⟨?_, b, w, hw, goods_mem.mp g.2.2.2 p hp⟩⟩
  have := mem_sizes hp
  omega
theorem alk_lines : ∀ (k : Nat), (∀ l m : Ln, l.high ≤ k → Bd l → Bd m → alk (2 * k + 1) l.d m.d)
  | 0, l, _, h, _, _ => by obtain ⟨nm, sm, ps⟩ := l; rw [Ln.high] at h; omega
  | k + 1, l, m, h, b1, b2 => by
    obtain ⟨nm, sm, ps⟩ := l
    obtain ⟨nm', sm', ps'⟩ := m
    obtain ⟨s1, p1, n1, q1⟩ := b1.parts
    obtain ⟨s2, p2, n2, q2⟩ := b2.parts
    rw [Ln.high] at h
    have hp : ∀ as bs : List Ln, (∀ p ∈ as, p.high ≤ k ∧ Bd p) → (∀ p ∈ bs, Bd p) → alks (2 * k + 1) (lnsD as) (lnsD bs) := by
      intro as
      induction as with
      | nil => intro bs _ _; rw [lnsD, alks]; trivial
      | cons a as ih =>
        intro bs h1 h2
        cases bs with
        | nil => rw [lnsD, lnsD, alks]; trivial
        | cons b bs =>
          rw [lnsD, lnsD, alks]
          exact ⟨alk_lines k a b (h1 a List.mem_cons_self).1 (h1 a List.mem_cons_self).2 (h2 b List.mem_cons_self), ih bs (fun p hp => h1 p (List.mem_cons_of_mem _ hp)) fun p hp => h2 p (List.mem_cons_of_mem _ hp)⟩
    have e : 2 * (k + 1) + 1 = (2 * k + 2) + 1 := by omega
    rw [e, Ln.d, Ln.d, alk]
    refine ⟨by simp, by simp, ?_⟩
    rw [alks, alks, alks, alks]
    refine ⟨by rw [alk]; trivial, ?_, ?_, trivial⟩
    · rw [alk]
      exact ⟨by rw [List.length_map]; omega, by rw [List.length_map]; omega, alks_ints (2 * k) sm sm'⟩
    · rw [alk]
      refine ⟨by rw [lns_len]; omega, by rw [lns_len]; omega, hp ps ps' (fun p hp => ⟨?_, q1 p hp⟩) q2⟩
      have := mem_highs hp
      omega
mutual
theorem okP_line : ∀ l : Ln, okP l.d = true
  | .mk nm sm ps => by
    have h1 : okPs (sm.map D.int) = true := by
      induction sm with
      | nil => rfl
      | cons i sm ih => rw [List.map_cons, okPs, ih]; rfl
    rw [Ln.d, okP, okPs, okPs, okPs, okPs, okP, okP, okP, h1, okPs_lines ps]; rfl
theorem okPs_lines : ∀ ps : List Ln, okPs (lnsD ps) = true
  | [] => rfl
  | p :: ps => by rw [lnsD, okPs, okP_line p, okPs_lines ps]; rfl
end
theorem depth_ints : ∀ sm : List Int, PyData.depthAll (toPs (sm.map D.int)) = 0
  | [] => rfl
  | i :: sm => by rw [List.map_cons, toPs, PyData.depthAll, depth_ints sm, toP]; rfl
mutual
theorem depth_line : ∀ l : Ln, (toP l.d).depth ≤ 2 * l.high
  | .mk nm sm ps => by
    have h := depth_lines ps
    rw [Ln.d, toP, toPs, toPs, toPs, toPs, toP, toP, toP, Ln.high]
    simp only [PyData.depth, PyData.depthAll, depth_ints sm]
    omega
theorem depth_lines : ∀ ps : List Ln, PyData.depthAll (toPs (lnsD ps)) ≤ 2 * highs ps
  | [] => Nat.zero_le _
  | p :: ps => by
    have h1 := depth_line p
    have h2 := depth_lines ps
    rw [lnsD, toPs, PyData.depthAll, highs]
    omega
end
theorem lay_ints : ∀ sm : List Int, PyData.canLayAll0 (toPs (sm.map D.int)) = true
  | [] => rfl
  | i :: sm => by rw [List.map_cons, toPs, PyData.canLayAll0, lay_ints sm, toP]; rfl
theorem lay_name : ∀ nm ∈ NAMES, PyData.canLay0 (toP (.str nm)) = true := by
  intro nm h
  unfold NAMES at h
  simp only [List.mem_cons, List.not_mem_nil, or_false] at h
  rcases h with h | h | h | h | h | h | h <;> subst h <;> (rw [toP, PyData.canLay0]; decide +kernel)
theorem lay_lines : ∀ (k : Nat) (l : Ln), l.high ≤ k → Bd l → PyData.canLay0 (toP l.d) = true
  | 0, l, h, _ => by obtain ⟨nm, sm, ps⟩ := l; rw [Ln.high] at h; omega
  | k + 1, l, h, b => by
    obtain ⟨nm, sm, ps⟩ := l
    obtain ⟨s1, p1, n1, q1⟩ := b.parts
    rw [Ln.high] at h
    have hp : ∀ as : List Ln, (∀ p ∈ as, p.high ≤ k ∧ Bd p) → PyData.canLayAll0 (toPs (lnsD as)) = true := by
      intro as
      induction as with
      | nil => intro _; rfl
      | cons a as ih =>
        intro h1
        rw [lnsD, toPs, PyData.canLayAll0, lay_lines k a (h1 a List.mem_cons_self).1 (h1 a List.mem_cons_self).2, ih fun p hp => h1 p (List.mem_cons_of_mem _ hp)]
        rfl
    rw [Ln.d, toP, toPs, toPs, toPs, toPs]
    have hn := lay_name nm n1
    have h2 : PyData.canLay0 (toP (.tup (sm.map D.int))) = true := by rw [toP, PyData.canLay0, lay_ints]
    have h3 : PyData.canLay0 (toP (.tup (lnsD ps))) = true := by
      rw [toP, PyData.canLay0]
      exact hp ps fun p hp => ⟨by have := mem_highs hp; omega, q1 p hp⟩
    rw [PyData.canLay0, PyData.canLayAll0, PyData.canLayAll0, PyData.canLayAll0, PyData.canLayAll0, hn, h2, h3]
    rfl
/-! ### keys -/
def Ln.key (l : Ln) : D := .tup [.int l.size, l.d]
theorem alk_keys {k : Nat} {l m : Ln} (h : l.high ≤ k) (b1 : Bd l) (b2 : Bd m) : alk (2 * k + 2) l.key m.key := by
  unfold Ln.key
  rw [alk]
  refine ⟨by simp, by simp, ?_⟩
  rw [alks, alks, alks]
  exact ⟨by rw [alk]; trivial, alk_lines k l m h b1 b2, trivial⟩
theorem okP_key (l : Ln) : okP l.key = true := by
  unfold Ln.key
  rw [okP, okPs, okPs, okPs, okP, okP_line]; rfl
theorem lt_keys {l m : Ln} (h : l.high ≤ 31) (b1 : Bd l) (b2 : Bd m) : ltB l.key m.key = some (decide (cmpD l.key m.key < 0)) := by
  obtain ⟨a1, a2, a3⟩ := (data_of _).1 _ _ (alk_keys h b1 b2) (okP_key l) (okP_key m)
  have p1 : pys [.int l.size, l.d] = some (toPs [.int l.size, l.d]) := pys_toPs _ (by have := okP_key l; unfold Ln.key at this; rw [okP] at this; exact this)
  have p2 : pys [.int m.size, m.d] = some (toPs [.int m.size, m.d]) := pys_toPs _ (by have := okP_key m; unfold Ln.key at this; rw [okP] at this; exact this)
  have hd : (PyData.tuple (toPs [.int l.size, l.d])).depth ≤ 64 := by
    have := depth_line l
    rw [toPs, toPs, toPs, toP]
    simp only [PyData.depth, PyData.depthAll]
    omega
  have e1 : toP l.key = .tuple (toPs [.int l.size, l.d]) := by unfold Ln.key; rw [toP]
  have e2 : toP m.key = .tuple (toPs [.int m.size, m.d]) := by unfold Ln.key; rw [toP]
  rw [e1, e2] at a1 a2
  rw [PySem.W.alike] at a1
  have : ltB (.tup [.int l.size, l.d]) (.tup [.int m.size, m.d]) = (match pys [.int l.size, l.d], pys [.int m.size, m.d] with
    | some p, some q => if PySem.W.alikeAll p q && decide ((PyData.tuple p).depth ≤ 64) then some (PySem.W.dataLt (.tuple p) (.tuple q)) else none
    | _, _ => none) := rfl
  unfold Ln.key at a2 ⊢
  rw [this, p1, p2]
  simp only
  rw [a1, decide_eq_true hd, a2]
  rfl
theorem eq_lines {M : Mem} {l m : Ln} (h : l.high ≤ 31) (h' : m.high ≤ 31) (b1 : Bd l) (b2 : Bd m) : eqB M l.d m.d = some (decide (cmpD l.d m.d = 0)) := by
  obtain ⟨a1, a2, a3⟩ := (data_of _).1 _ _ (alk_lines 31 l m h b1 b2) (okP_line l) (okP_line m)
  have s1 : SeqAt.shaped (toP l.d) = true := by
    unfold SeqAt.shaped
    rw [lay_lines 31 l h b1, decide_eq_true (by have := depth_line l; omega)]; rfl
  have s2 : SeqAt.shaped (toP m.d) = true := by
    unfold SeqAt.shaped
    rw [lay_lines 31 m h' b2, decide_eq_true (by have := depth_line m; omega)]; rfl
  have q1 := py_toP _ (okP_line l)
  have q2 := py_toP _ (okP_line m)
  obtain ⟨nm, sm, ps⟩ := l
  obtain ⟨nm', sm', ps'⟩ := m
  have : eqB M (Ln.mk nm sm ps).d (Ln.mk nm' sm' ps').d = (match (Ln.mk nm sm ps).d.py, (Ln.mk nm' sm' ps').d.py with
    | some p, some q => if SeqAt.shaped p && SeqAt.shaped q then some (PyData.eqv p q) else none
    | _, _ => none) := by
      rw [Ln.d, Ln.d]; rfl
  rw [this, q1, q2]
  simp only
  rw [s1, s2, a3]
  rfl
theorem cmp_key (l m : Ln) : cmpD l.key m.key = if (l.size : Int) = m.size then cmpD l.d m.d else (if (l.size : Int) < m.size then -1 else 1) := by
  unfold Ln.key
  rw [cmpD, cmpDs, cmpDs, cmpDs, cmpD]
  by_cases h : (l.size : Int) = m.size
  · rw [if_pos h, h, cmpI_self]
    by_cases hz : cmpD l.d m.d = 0
    · rw [hz]; rfl
    · rw [if_pos hz]; rfl
  · rw [if_neg h, if_pos (fun z => h (cmpI_zero z))]
    unfold cmpI
    by_cases h2 : (l.size : Int) < m.size
    · rw [if_pos h2, if_pos h2]
    · rw [if_neg h2, if_neg h2, if_pos (by omega)]
/-- the law's order -/
theorem s27_line {fu : Nat} {c : Fn} {l m : Ln} {M : Mem} (h1 : c 21 [l.d] M = .ok (.int l.size) M) (h2 : c 21 [m.d] M = .ok (.int m.size) M) (h3 : c 28 [l.d, m.d] M = .ok (.int (cmpD l.d m.d)) M) : runD 2 3 (m27 fu c) [l.d, m.d] M = .ok (.int (cmpD l.key m.key)) M := by
  refine run_ret0 rfl ?_ rfl
  show (seqS (setS 2 _) _) [some l.d, some m.d, none] M = _
  have ht : tupE (consE (callE (c 21) (consE (var 0) nilE)) (consE (callE (c 21) (consE (var 1) nilE)) nilE)) [some l.d, some m.d, none] M = .ok (.tup [.int l.size, .int m.size]) M :=
    tup_ok (cons_ok (by rw [call1 (var_ok (d := l.d) rfl), h1]) (cons_ok (by rw [call1 (var_ok (d := m.d) rfl), h2]) nil_ok)) (small_ok (show 2 ≤ 1000000 by decide))
  rw [seq_nx (set_ok ht)]
  show (seqS _ _) [some l.d, some m.d, some (.tup [.int l.size, .int m.size])] M = _
  have i0 : opE ixD (var 2) (con (.int 0)) [some l.d, some m.d, some (.tup [.int l.size, .int m.size])] M = .ok (.int l.size) M := ix_ok (var_ok rfl) rfl
  have i1 : opE ixD (var 2) (con (.int 1)) [some l.d, some m.d, some (.tup [.int l.size, .int m.size])] M = .ok (.int m.size) M := ix_ok (var_ok rfl) rfl
  have hne : asT (opE neD (opE ixD (var 2) (con (.int 0))) (opE ixD (var 2) (con (.int 1)))) [some l.d, some m.d, some (.tup [.int l.size, .int m.size])] M = .ok (!decide ((l.size : Int) = m.size)) M :=
    as_ok (by rw [op_ok i0 i1, ne_int]; rfl)
  rw [cmp_key]
  by_cases h : (l.size : Int) = m.size
  · rw [decide_eq_true h] at hne
    rw [seq_nx ((if_f hne).trans rfl), if_pos h]
    exact ret_ok (by rw [call2 (var_ok (d := l.d) rfl) (var_ok (d := m.d) rfl), h3])
  · rw [decide_eq_false h] at hne
    rw [seq_rt]
    rw [if_t hne, if_neg h]
    refine ret_ok ?_
    have hlt : asT (opE ltD (opE ixD (var 2) (con (.int 0))) (opE ixD (var 2) (con (.int 1)))) [some l.d, some m.d, some (.tup [.int l.size, .int m.size])] M = .ok (decide ((l.size : Int) < m.size)) M :=
      as_ok (by rw [op_ok i0 i1]; rfl)
    unfold ifE
    rw [hlt, R.bind_ok]
    by_cases h2 : (l.size : Int) < m.size
    · rw [decide_eq_true h2, if_pos rfl, if_pos h2]; rfl
    · rw [decide_eq_false h2, if_neg Bool.false_ne_true, if_neg h2]; rfl
end W8

set_option Elab.async false
set_option linter.all false
set_option maxRecDepth 100000
namespace W8
open PySem L2 PySem.Spec PyProof.Rows

/-! ### places -/
def at' : Ln → List Nat → Option Ln
  | l, [] => some l
  | .mk _ _ ps, k :: p => match ps[k]? with
    | some q => at' q p
    | none => none
def put' : Ln → List Nat → Ln → Ln
  | _, [], a => a
  | .mk nm sm ps, k :: p, a => match ps[k]? with
    | some q => .mk nm sm (ps.set k (put' q p a))
    | none => .mk nm sm ps
def plD (p : List Nat) : D := .tup (p.map fun k => .int (k : Nat))
theorem lns_at {ps : List Ln} {k : Nat} {q : Ln} (h : ps[k]? = some q) : (lnsD ps)[k]? = some q.d := by rw [lnsD_map, List.getElem?_map, h]; rfl
theorem lns_set (ps : List Ln) (k : Nat) (q : Ln) : lnsD (ps.set k q) = (lnsD ps).set k q.d := by rw [lnsD_map, lnsD_map, List.map_set]
theorem sizes_set : ∀ {ps : List Ln} {k : Nat} {q r : Ln}, ps[k]? = some q → sizes (ps.set k r) + q.size = sizes ps + r.size
  | p :: ps, 0, q, r, h => by simp at h; subst h; rw [List.set_cons_zero, sizes, sizes]; omega
  | p :: ps, k + 1, q, r, h => by
    have := sizes_set (ps := ps) (k := k) (q := q) (r := r) (by simpa using h)
    rw [List.set_cons_succ, sizes, sizes]; omega
theorem put_size : ∀ {p : List Nat} {l q a : Ln}, at' l p = some q → (put' l p a).size + q.size = l.size + a.size
  | [], l, q, a, h => by simp [at'] at h; subst h; rw [put']; omega
  | k :: p, .mk nm sm ps, q, a, h => by
    rw [at'] at h
    split at h
    · rename_i r hr
      have ih := put_size (a := a) h
      rw [put']
      simp only [hr]
      rw [Ln.size, Ln.size]
      have := sizes_set (r := put' r p a) hr
      omega
    · cases h
theorem highs_set : ∀ {ps : List Ln} {k : Nat} {r : Ln} {n : Nat}, highs ps ≤ n → r.high ≤ n → highs (ps.set k r) ≤ n
  | [], _, _, _, _, _ => Nat.zero_le _
  | p :: ps, 0, r, n, h, h2 => by rw [highs] at h; rw [List.set_cons_zero, highs]; omega
  | p :: ps, k + 1, r, n, h, h2 => by
    rw [highs] at h
    have := highs_set (ps := ps) (k := k) (r := r) (n := n) (by omega) h2
    rw [List.set_cons_succ, highs]; omega
theorem put_high : ∀ {p : List Nat} {l a : Ln} {n m : Nat}, l.high ≤ n → a.high ≤ m → (put' l p a).high ≤ n + m
  | [], l, a, n, m, h, h2 => by rw [put']; omega
  | k :: p, .mk nm sm ps, a, n, m, h, h2 => by
    rw [put']
    rw [Ln.high] at h
    split
    · rename_i r hr
      have h3 : r.high ≤ highs ps := mem_highs (List.mem_of_getElem? hr)
      have := put_high (p := p) (l := r) (a := a) (n := n - 1) (m := m) (by omega) h2
      rw [Ln.high]
      have := highs_set (ps := ps) (k := k) (r := put' r p a) (n := n - 1 + m) (by omega) this
      omega
    · rw [Ln.high]; omega
theorem at_good {b : Int} {w : Nat} : ∀ {p : List Nat} {l q : Ln}, at' l p = some q → l.good b w → q.good b w
  | [], l, q, h, g => by simp [at'] at h; subst h; exact g
  | k :: p, .mk nm sm ps, q, h, g => by
    rw [at'] at h
    split at h
    · rename_i r hr
      rw [Ln.good] at g
      exact at_good h (goods_mem.mp g.2.2.2 r (List.mem_of_getElem? hr))
    · cases h
theorem at_size : ∀ {p : List Nat} {l q : Ln}, at' l p = some q → q.size ≤ l.size ∧ q.high ≤ l.high ∧ p.length + q.high ≤ l.high
  | [], l, q, h => by simp [at'] at h; subst h; exact ⟨Nat.le_refl _, Nat.le_refl _, by simp⟩
  | k :: p, .mk nm sm ps, q, h => by
    rw [at'] at h
    split at h
    · rename_i r hr
      obtain ⟨h1, h2, h3⟩ := at_size h
      have h4 := mem_sizes (List.mem_of_getElem? hr)
      have h5 := mem_highs (List.mem_of_getElem? hr)
      rw [Ln.size, Ln.high, List.length_cons]
      omega
    · cases h
theorem put_good {b : Int} {w : Nat} : ∀ {p : List Nat} {l a : Ln}, l.good b w → a.good b w → (put' l p a).good b w
  | [], l, a, g, g2 => by rw [put']; exact g2
  | k :: p, .mk nm sm ps, a, g, g2 => by
    rw [put']
    split
    · rename_i r hr
      rw [Ln.good] at g ⊢
      refine ⟨g.1, g.2.1, g.2.2.1, goods_mem.mpr fun x hx => ?_⟩
      have gr := goods_mem.mp g.2.2.2 r (List.mem_of_getElem? hr)
      rcases List.mem_or_eq_of_mem_set hx with h | h
      · exact goods_mem.mp g.2.2.2 x h
      · subst h; exact put_good gr g2
    · exact g
/-- the order of two lines with one place changed -/
theorem put_cmp : ∀ {p : List Nat} {l q a b : Ln}, at' l p = some q → cmpD (put' l p a).d (put' l p b).d = cmpD a.d b.d
  | [], l, q, a, b, _ => by rw [put', put']
  | k :: p, .mk nm sm ps, q, a, b, h => by
    rw [at'] at h
    split at h
    · rename_i r hr
      have ih := put_cmp (a := a) (b := b) h
      rw [put', put']
      simp only [hr]
      rw [Ln.d, Ln.d, cmpD, cmpDs, cmpD_self, cmpDs, cmpD_self, cmpDs, cmpD, lns_set, lns_set]
      have gen : ∀ (ds : List D) (k : Nat) (x y : D), k < ds.length → cmpDs (ds.set k x) (ds.set k y) = cmpD x y := by
        intro ds
        induction ds with
        | nil => intro k x y h; simp at h
        | cons d ds ih2 =>
          intro k x y h
          cases k with
          | zero =>
            rw [List.set_cons_zero, List.set_cons_zero, cmpDs, cmpDs_self]
            by_cases hz : cmpD x y = 0
            · rw [hz]; rfl
            · rw [if_pos hz]
          | succ k =>
            rw [List.set_cons_succ, List.set_cons_succ, cmpDs, cmpD_self]
            rw [ih2 k x y (by simpa using h)]
            rfl
      have hk : k < (lnsD ps).length := by rw [lns_len]; exact (List.getElem?_eq_some_iff.mp hr).1
      rw [gen _ _ _ _ hk, ih]
      by_cases hz : cmpD a.d b.d = 0
      · rw [hz]; rfl
      · simp [hz]
    · cases h
/-! ### slices -/
theorem cut_take (xs : List D) (k : Nat) : cutD xs none (some (k : Int)) = xs.take k := by
  unfold cutD
  rw [HT.sIx_none, HT.sIx_nat, List.drop_zero, Nat.sub_zero]
  by_cases h : k ≤ xs.length
  · rw [Nat.min_eq_left h]
  · rw [Nat.min_eq_right (by omega), List.take_of_length_le (Nat.le_refl _), List.take_of_length_le (by omega)]
theorem cut_drop (xs : List D) (k : Nat) : cutD xs (some (k : Int)) none = xs.drop k := by
  unfold cutD
  rw [HT.sIx_none, HT.sIx_nat]
  by_cases h : k ≤ xs.length
  · rw [Nat.min_eq_left h, List.take_of_length_le]
    rw [List.length_drop]; omega
  · rw [Nat.min_eq_right (by omega), List.drop_of_length_le (Nat.le_refl _), List.drop_of_length_le (by omega)]
    simp
section
variable {ρ : Env} {M : Mem} {a : Ex} {xs : List D}
theorem sl_take {k : Nat} {e : Ex} (h : a ρ M = .ok (.tup xs) M) (he : e ρ M = .ok (.int (k : Nat)) M) : slE a noP (smP e) ρ M = .ok (.tup (xs.take k)) M := by
  unfold slE noP smP
  rw [h]
  simp only [R.bind_ok, he]
  unfold slB
  simp only
  rw [cut_take]; rfl
theorem sl_drop {k : Nat} {e : Ex} (h : a ρ M = .ok (.tup xs) M) (he : e ρ M = .ok (.int (k : Nat)) M) : slE a (smP e) noP ρ M = .ok (.tup (xs.drop k)) M := by
  unfold slE noP smP
  rw [h]
  simp only [R.bind_ok, he]
  unfold slB
  simp only
  rw [cut_drop]; rfl
theorem add_tup {b : Ex} {ys : List D} (h : a ρ M = .ok (.tup xs) M) (h' : b ρ M = .ok (.tup ys) M) (hl : xs.length + ys.length ≤ 1000000) : opE addD a b ρ M = .ok (.tup (xs ++ ys)) M := by
  rw [op_ok h h']
  unfold addD
  simp only
  rw [if_pos (small_ok hl)]; rfl
theorem ixv_ok {b : Ex} {k : Nat} {y : D} (h : a ρ M = .ok (.tup xs) M) (hb : b ρ M = .ok (.int (k : Nat)) M) (hk : xs[k]? = some y) : opE ixD a b ρ M = .ok y M := by
  rw [op_ok h hb]
  unfold ixD ixB
  simp only [L2.atI_nat hk]
  rfl
end
end W8

set_option Elab.async false
set_option linter.all false
set_option maxRecDepth 100000
namespace W8
open PySem L2 PySem.Spec PyProof.Rows

section
variable {x : W8.Its} {t : Tgt} {b : Stt} {ρ ρ1 ρ2 : Env} {M M1 : Mem} {d : D} {r : List D}
theorem for_nil (ok : x.ok M) : forL x t b [] ρ M = .ok (.nx ρ) M := by unfold forL; rw [if_pos ok]
theorem for_nx (ok : x.ok M) (hp : t.put d ρ M = some ρ1) (hb : b ρ1 M = .ok (.nx ρ2) M1) : forL x t b (d :: r) ρ M = forL x t b r ρ2 M1 := by
  simp only [forL]
  rw [if_pos ok]
  simp only [hp, hb, R.bind_ok]
theorem for_ok {it : Ie} (h : it ρ M = .ok x M1) : forS it t b ρ M = forL x t b x.items ρ M1 := by unfold forS; rw [h]; rfl
end
theorem Ln.d_mk (nm : Str) (sm : List Int) (ps : List Ln) : (Ln.mk nm sm ps).d = .tup [.str nm, .tup (sm.map D.int), .tup (lnsD ps)] := by rw [Ln.d]
/-! _law_part -/
theorem part_loop {x : W8.Its} {M : Mem} (ok : x.ok M) (pd : D) : ∀ (p : List Nat) (l q : Ln) (kk : Option D), at' l p = some q →
    ∃ kk', forL x (.nm 2) (setS 0 (opE ixD (opE ixD (var 0) (con (.int 2))) (var 2))) (p.map fun k => D.int (k : Nat)) [some l.d, some pd, kk] M = .ok (.nx [some q.d, some pd, kk']) M
  | [], l, q, kk, h => by
    simp [at'] at h; subst h
    exact ⟨kk, for_nil ok⟩
  | k :: p, .mk nm sm ps, q, kk, h => by
    rw [at'] at h
    split at h
    · rename_i r hr
      obtain ⟨kk', ih⟩ := part_loop ok pd p r q (some (.int (k : Nat))) h
      refine ⟨kk', ?_⟩
      rw [List.map_cons, for_nx ok (ρ1 := [some (Ln.mk nm sm ps).d, some pd, some (.int (k : Nat))]) rfl (set_ok (i := 0) (d := r.d) ?_)]
      · exact ih
      · exact ixv_ok (xs := lnsD ps) (k := k) (ix_ok (by rw [var_ok (d := (Ln.mk nm sm ps).d) rfl, Ln.d_mk]) (at32 _ _ _)) (var_ok rfl) (lns_at hr)
    · cases h
theorem s23_line {fu : Nat} {c : Fn} {l q : Ln} {p : List Nat} {M : Mem} (h : at' l p = some q) : runD 2 3 (m23 fu c) [l.d, plD p] M = .ok q.d M := by
  obtain ⟨kk', e⟩ := part_loop (ok_nil (xs := p.map fun k => D.int (k : Nat)) M) (plD p) p l q none h
  refine run_ret0 rfl ?_ (D.pure_lo _ _ (Ln.pure q))
  show (seqS (forS (valI (var 1)) (.nm 2) _) _) [some l.d, some (plD p), none] M = _
  have hv : valI (var 1) [some l.d, some (plD p), none] M = .ok ⟨p.map fun k => D.int (k : Nat), []⟩ M := val_tup (var_ok rfl)
  rw [seq_nx ((for_ok hv).trans e)]
  exact ret_ok (var_ok rfl)
/-! is_place_in -/
theorem place_loop {c : Fn} {x : W8.Its} {M : Mem} (ok : x.ok M) (h1 : ∀ i a b : Int, c 1 [.int i, .int a, .int b] M = .ok (.bl (decide (a ≤ i) && decide (i ≤ b))) M ∨ ¬ (a ≤ i ∧ i ≤ b ∧ b ≤ 100000 ∧ 0 ≤ a)) (l0 pd : D) : ∀ (p : List Nat) (l q : Ln) (kk : Option D), l.size ≤ 10000 → at' l p = some q →
    ∃ kk', forL x (.nm 3) (seqS (ifS (notT (asT (callE (c 1) (consE (var 3) (consE (con (.int 0)) (consE (opE subD (fnE lenD (consE (opE ixD (var 2) (con (.int 2))) nilE)) (con (.int 1))) nilE)))))) (retS (con (.bl false))) skipS) (setS 2 (opE ixD (opE ixD (var 2) (con (.int 2))) (var 3)))) (p.map fun k => D.int (k : Nat)) [some l0, some pd, some l.d, kk] M = .ok (.nx [some l0, some pd, some q.d, kk']) M
  | [], l, q, kk, _, h => by
    simp [at'] at h; subst h
    exact ⟨kk, for_nil ok⟩
  | k :: p, .mk nm sm ps, q, kk, hs, h => by
    rw [at'] at h
    split at h
    · rename_i r hr
      have hk : k < ps.length := (List.getElem?_eq_some_iff.mp hr).1
      have hps := length_sizes ps
      have hrs := mem_sizes (List.mem_of_getElem? hr)
      rw [Ln.size] at hs
      obtain ⟨kk', ih⟩ := place_loop ok h1 l0 pd p r q (some (.int (k : Nat))) (by omega) h
      refine ⟨kk', ?_⟩
      have hv : opE ixD (var 2) (con (.int 2)) [some l0, some pd, some (Ln.mk nm sm ps).d, some (.int (k : Nat))] M = .ok (.tup (lnsD ps)) M := ix_ok (by rw [var_ok (d := (Ln.mk nm sm ps).d) rfl, Ln.d_mk]) (at32 _ _ _)
      rw [List.map_cons, for_nx ok (ρ1 := [some l0, some pd, some (Ln.mk nm sm ps).d, some (.int (k : Nat))]) (ρ2 := [some l0, some pd, some r.d, some (.int (k : Nat))]) (M1 := M) rfl ?_]
      · exact ih
      · have hlen : fnE lenD (consE (opE ixD (var 2) (con (.int 2))) nilE) [some l0, some pd, some (Ln.mk nm sm ps).d, some (.int (k : Nat))] M = .ok (.int (ps.length : Nat)) M := by
          rw [fn1 hv]
          show R.ok (D.int (((lnsD ps).length : Nat) : Int)) M = _
          rw [lns_len]
        have hsub : opE subD (fnE lenD (consE (opE ixD (var 2) (con (.int 2))) nilE)) (con (.int 1)) [some l0, some pd, some (Ln.mk nm sm ps).d, some (.int (k : Nat))] M = .ok (.int ((ps.length : Nat) - 1)) M := by
          rw [op_ok hlen (rfl : con (.int 1) _ M = .ok (.int 1) M)]; rfl
        have hc : callE (c 1) (consE (var 3) (consE (con (.int 0)) (consE (opE subD (fnE lenD (consE (opE ixD (var 2) (con (.int 2))) nilE)) (con (.int 1))) nilE))) [some l0, some pd, some (Ln.mk nm sm ps).d, some (.int (k : Nat))] M = .ok (.bl true) M := by
          rw [call3 (d := .int (k : Nat)) (d' := .int 0) (var_ok rfl) rfl hsub]
          rcases h1 (k : Nat) 0 ((ps.length : Nat) - 1) with e | e
          · rw [e, decide_eq_true (by omega), decide_eq_true (by omega)]; rfl
          · exact absurd ⟨by omega, by omega, by omega, by omega⟩ e
        rw [seq_nx ((if_f (not_ok (k := true) (as_ok hc))).trans rfl)]
        exact set_ok (i := 2) (ixv_ok hv (var_ok rfl) (lns_at hr))
    · cases h
theorem s12_line {fu : Nat} {c : Fn} {l q : Ln} {p : List Nat} {M : Mem} (h1 : ∀ i a b : Int, c 1 [.int i, .int a, .int b] M = .ok (.bl (decide (a ≤ i) && decide (i ≤ b))) M ∨ ¬ (a ≤ i ∧ i ≤ b ∧ b ≤ 100000 ∧ 0 ≤ a)) (hs : l.size ≤ 10000) (h : at' l p = some q) : runD 2 4 (m12 fu c) [l.d, plD p] M = .ok (.bl true) M := by
  obtain ⟨kk', e⟩ := place_loop (ok_nil (xs := p.map fun k => D.int (k : Nat)) M) h1 l.d (plD p) p l q none hs h
  refine run_ret0 rfl ?_ rfl
  show (seqS (ifS (notT (asT (fnE isiD _))) _ _) (seqS (setS 2 (var 0)) (seqS (forS (valI (var 1)) (.nm 3) _) _))) [some l.d, some (plD p), none, none] M = _
  rw [seq_nx ((if_f (not_ok (k := true) (as_ok (isi_of (d := plD p) (c := .tup) rfl rfl rfl)))).trans rfl)]
  rw [seq_nx (set_ok (var_ok rfl))]
  have hv : valI (var 1) [some l.d, some (plD p), some l.d, none] M = .ok ⟨p.map fun k => D.int (k : Nat), []⟩ M := val_tup (var_ok rfl)
  show (seqS (forS _ _ _) _) [some l.d, some (plD p), some l.d, none] M = _
  rw [seq_nx ((for_ok hv).trans e)]
  rfl
theorem s13_ok {fu : Nat} {c : Fn} {a b : D} {M : Mem} (h : c 12 [a, b] M = .ok (.bl true) M) : runD 2 2 (m13 fu c) [a, b] M = .ok .non M :=
  run_nx0 (ρ1 := [some a, some b]) rfl ((if_f (not_ok (k := true) (as_ok (by rw [call2 (var_ok (d := a) rfl) (var_ok (d := b) rfl), h])))).trans rfl)
/-! _law_put_part -/
theorem okP_ints : ∀ xs : List Int, okPs (xs.map D.int) = true
  | [] => rfl
  | i :: xs => by rw [List.map_cons, okPs, okP_ints xs]; rfl
theorem plD_ints (p : List Nat) : plD p = .tup ((p.map fun k => ((k : Nat) : Int)).map D.int) := by unfold plD; rw [List.map_map]; rfl
theorem ints_shaped (xs : List Int) : SeqAt.shaped (toP (.tup (xs.map D.int))) = true := by
  unfold SeqAt.shaped
  rw [toP, PyData.canLay0, lay_ints, PyData.depth, depth_ints]
  rfl
theorem eq_empty (k : Nat) (p : List Nat) (M : Mem) : eqB M (plD (k :: p)) (.tup []) = some false := by
  have q1 : (plD (k :: p)).py = some (toP (plD (k :: p))) := py_toP _ (by rw [plD_ints, okP, okP_ints])
  have s1 : SeqAt.shaped (toP (plD (k :: p))) = true := by rw [plD_ints]; exact ints_shaped _
  have : eqB M (plD (k :: p)) (.tup []) = (match (plD (k :: p)).py, (D.tup []).py with
    | some p, some q => if SeqAt.shaped p && SeqAt.shaped q then some (PyData.eqv p q) else none
    | _, _ => none) := rfl
  rw [this, q1]
  have q2 : (D.tup []).py = some (.tuple []) := rfl
  rw [q2]
  simp only
  have s2 : SeqAt.shaped (.tuple []) = true := by unfold SeqAt.shaped; rw [PyData.canLay0, PyData.canLayAll0, PyData.depth, PyData.depthAll]; rfl
  rw [s1, s2]
  have e : toP (plD (k :: p)) = .tuple (toP (.int (k : Nat)) :: toPs (p.map fun k => D.int (k : Nat))) := by unfold plD; simp only [toP, toPs, List.map_cons]
  rw [e, PyData.eqv, PyData.eqvAll]
  rfl
theorem pl_tail (k : Nat) (p : List Nat) : (List.map (fun k => D.int (k : Nat)) (k :: p)).drop 1 = p.map fun k => D.int (k : Nat) := rfl
theorem s24_line (fu : Nat) : ∀ (p : List Nat) (L : Nat) (l q a : Ln) (M : Mem), p.length < L → l.size ≤ 10000 → at' l p = some q → callK fu L 24 [l.d, plD p, a.d] M = .ok (put' l p a).d M
  | [], L + 1, l, q, a, M, _, _, h => by
    rw [callK_24, put']
    refine run_ret0 rfl ?_ (D.pure_lo _ _ (Ln.pure a))
    show (seqS (ifS (asT (opE eqD (var 1) (tupE nilE))) _ _) _) [some l.d, some (.tup []), some a.d, none] M = _
    have ht : asT (opE eqD (var 1) (tupE nilE)) [some l.d, some (.tup []), some a.d, none] M = .ok true M := by
      refine as_ok ?_
      rw [op_ok (var_ok (d := .tup []) rfl) (tup_ok nil_ok (Nat.zero_le _))]
      rfl
    rw [seq_rt]
    rw [if_t ht]
    exact ret_ok (var_ok rfl)
  | k :: p, L + 1, .mk nm sm ps, q, a, M, hL, hs, h => by
    rw [at'] at h
    split at h
    · rename_i r hr
      have hk : k < ps.length := (List.getElem?_eq_some_iff.mp hr).1
      have hps := length_sizes ps
      have hrs := mem_sizes (List.mem_of_getElem? hr)
      rw [Ln.size] at hs
      have ih := s24_line fu p L r q a M (by simpa using hL) (by omega) h
      have hput : (put' (Ln.mk nm sm ps) (k :: p) a).d = .tup [.str nm, .tup (sm.map D.int), .tup ((lnsD ps).set k (put' r p a).d)] := by
        rw [put']; simp only [hr]; rw [Ln.d_mk, lns_set]
      rw [callK_24, hput]
      refine run_ret0 rfl ?_ (by rw [← hput]; exact D.pure_lo _ _ (Ln.pure _))
      show (seqS (ifS (asT (opE eqD (var 1) (tupE nilE))) _ _) (seqS (setS 3 _) _)) [some (Ln.mk nm sm ps).d, some (plD (k :: p)), some a.d, none] M = _
      have ht : asT (opE eqD (var 1) (tupE nilE)) [some (Ln.mk nm sm ps).d, some (plD (k :: p)), some a.d, none] M = .ok false M := by
        refine as_ok ?_
        rw [op_ok (var_ok (d := plD (k :: p)) rfl) (tup_ok nil_ok (Nat.zero_le _))]
        unfold eqD
        rw [eq_empty]; rfl
      rw [seq_nx ((if_f ht).trans rfl)]
      rw [seq_nx (set_ok (i := 3) (d := .int (k : Nat)) (ix_ok (ds := (k :: p).map fun k => D.int (k : Nat)) (var_ok rfl) (by rw [List.map_cons]; exact L2.atI_nat (j := 0) rfl)))]
      show retS _ [some (Ln.mk nm sm ps).d, some (plD (k :: p)), some a.d, some (.int (k : Nat))] M = _
      refine ret_ok ?_
      have v0 : var 0 [some (Ln.mk nm sm ps).d, some (plD (k :: p)), some a.d, some (.int (k : Nat))] M = .ok (.tup [.str nm, .tup (sm.map D.int), .tup (lnsD ps)]) M := by rw [var_ok (d := (Ln.mk nm sm ps).d) rfl, Ln.d_mk]
      have v3 : var 3 [some (Ln.mk nm sm ps).d, some (plD (k :: p)), some a.d, some (.int (k : Nat))] M = .ok (.int (k : Nat)) M := var_ok rfl
      have i2 : opE ixD (var 0) (con (.int 2)) [some (Ln.mk nm sm ps).d, some (plD (k :: p)), some a.d, some (.int (k : Nat))] M = .ok (.tup (lnsD ps)) M := ix_ok v0 (at32 _ _ _)
      have c1 : callE (callK fu L 24) (consE (opE ixD (opE ixD (var 0) (con (.int 2))) (var 3)) (consE (slE (var 1) (smP (con (.int 1))) noP) (consE (var 2) nilE))) [some (Ln.mk nm sm ps).d, some (plD (k :: p)), some a.d, some (.int (k : Nat))] M = .ok (put' r p a).d M := by
        rw [call3 (d := r.d) (d' := plD p) (d2 := a.d) (ixv_ok i2 v3 (lns_at hr)) ((sl_drop (k := 1) (xs := (k :: p).map fun k => D.int (k : Nat)) (var_ok rfl) rfl).trans rfl) (var_ok rfl), ih]
      have k1 : opE addD (var 3) (con (.int 1)) [some (Ln.mk nm sm ps).d, some (plD (k :: p)), some a.d, some (.int (k : Nat))] M = .ok (.int ((k + 1 : Nat) : Int)) M := by
        rw [op_ok v3 (rfl : con (.int 1) _ M = .ok (.int 1) M)]
        rfl
      have mid := add_tup (add_tup (sl_take i2 v3) (tup_ok (cons_ok c1 nil_ok) (small_ok (show 1 ≤ 1000000 by decide))) (by rw [List.length_take, lns_len, List.length_singleton]; omega)) (sl_drop i2 k1) (by rw [List.length_append, List.length_take, List.length_drop, lns_len, List.length_singleton]; omega)
      have hset : (lnsD ps).take k ++ [(put' r p a).d] ++ (lnsD ps).drop (k + 1) = (lnsD ps).set k (put' r p a).d := by
        rw [List.set_eq_take_append_cons_drop, if_pos (by rw [lns_len]; exact hk), List.append_assoc]
        rfl
      rw [hset] at mid
      have fin := add_tup (sl_take (k := 2) v0 (rfl : con (.int 2) _ M = .ok (.int ((2 : Nat) : Int)) M)) (tup_ok (cons_ok mid nil_ok) (small_ok (show 1 ≤ 1000000 by decide))) (by simp)
      exact fin
    · cases h
  | _, 0, _, _, _, _, hL, _, _ => absurd hL (by omega)
/-! put_in_line -/
/-- the lines on the way, with the numbers taken -/
def steps : Ln → List Nat → List (Nat × Ln)
  | _, [] => []
  | .mk nm sm ps, k :: p => (k, .mk nm sm ps) :: (match ps[k]? with | some q => steps q p | none => [])
theorem steps_fst : ∀ {p : List Nat} {l q : Ln}, at' l p = some q → (steps l p).map (·.1) = p
  | [], _, _, _ => rfl
  | k :: p, .mk nm sm ps, q, h => by
    rw [at'] at h
    split at h
    · rename_i r hr
      rw [steps]; simp only [hr, List.map_cons, steps_fst h]
    · cases h
def lift1 (z : Nat × Ln) (acc : Ln) : Ln := match z.2 with | .mk nm sm ps => .mk nm sm (ps.set z.1 acc)
theorem steps_put : ∀ {p : List Nat} {l q : Ln} (a : Ln), at' l p = some q → (steps l p).reverse.foldl (fun acc z => lift1 z acc) a = put' l p a
  | [], _, _, a, _ => by rw [steps, put']; rfl
  | k :: p, .mk nm sm ps, q, a, h => by
    rw [at'] at h
    split at h
    · rename_i r hr
      rw [steps, put']
      simp only [hr, List.reverse_cons, List.foldl_append, List.foldl_cons, List.foldl_nil, steps_put a h]
      rfl
    · cases h
theorem steps_ok : ∀ {p : List Nat} {l q : Ln}, at' l p = some q → ∀ z ∈ steps l p, z.2.size ≤ l.size ∧ (match z.2 with | .mk _ _ ps => z.1 < ps.length)
  | [], _, _, _, z, hz => by cases hz
  | k :: p, .mk nm sm ps, q, h, z, hz => by
    rw [at'] at h
    split at h
    · rename_i r hr
      rw [steps] at hz
      simp only [hr] at hz
      rcases List.mem_cons.mp hz with hz | hz
      · subst hz
        exact ⟨Nat.le_refl _, (List.getElem?_eq_some_iff.mp hr).1⟩
      · obtain ⟨h1, h2⟩ := steps_ok h z hz
        have := mem_sizes (List.mem_of_getElem? hr)
        refine ⟨?_, h2⟩
        rw [Ln.size]; omega
    · cases h
/-- the first loop: the lines on the way -/
theorem around_loop {x : W8.Its} {M : Mem} (okx : ∀ N : Mem, x.ok N) (l0 pd a : D) : ∀ (p : List Nat) (l q : Ln) (xs : List D) (kk : Option D), xs.length + p.length ≤ 100000 → at' l p = some q →
    ∃ kk', forL x (.nm 4) (exprS (mtE appD (var 3) (consE (opE ixD (opE ixD (opE ixD (var 3) (negE (con (.int 1)))) (con (.int 2))) (var 4)) nilE))) (p.map fun k => D.int (k : Nat)) [some l0, some pd, some a, some (.ref M.length), kk, none, none] (M ++ [.lst (xs ++ [l.d])]) =
      .ok (.nx [some l0, some pd, some a, some (.ref M.length), kk', none, none]) (M ++ [.lst (xs ++ (steps l p).map (fun z => z.2.d) ++ [q.d])])
  | [], l, q, xs, kk, _, h => by
    simp [at'] at h; subst h
    refine ⟨kk, ?_⟩
    simp only [steps, List.map_nil, List.append_nil]
    exact for_nil (okx _)
  | k :: p, .mk nm sm ps, q, xs, kk, hl, h => by
    rw [at'] at h
    split at h
    · rename_i r hr
      obtain ⟨kk', ih⟩ := around_loop okx l0 pd a p r q (xs ++ [(Ln.mk nm sm ps).d]) (some (.int (k : Nat))) (by rw [List.length_append, List.length_singleton]; rw [List.length_cons] at hl; omega) h
      refine ⟨kk', ?_⟩
      rw [List.map_cons, for_nx (okx _) (ρ1 := [some l0, some pd, some a, some (.ref M.length), some (.int (k : Nat)), none, none]) rfl (expr_ok (app_ok (n := M.length) (xs := xs ++ [(Ln.mk nm sm ps).d]) (y := r.d) rfl mem0 ?_ mem0 ?_))]
      · rw [mset0, ih, steps]
        simp only [hr, List.map_cons, List.append_assoc, List.singleton_append, List.cons_append, List.nil_append]
      · have hlast : opE ixD (var 3) (negE (con (.int 1))) [some l0, some pd, some a, some (.ref M.length), some (.int (k : Nat)), none, none] (M ++ [.lst (xs ++ [(Ln.mk nm sm ps).d])]) = .ok (Ln.mk nm sm ps).d (M ++ [.lst (xs ++ [(Ln.mk nm sm ps).d])]) := by
          rw [op_ok (var_ok (d := .ref M.length) rfl) (rfl : negE (con (.int 1)) _ _ = .ok (.int (-1)) _)]
          unfold ixD ixB
          simp only [mem0, L2.atI_last]
          rfl
        refine ixv_ok (k := k) (xs := lnsD ps) (ix_ok (ds := [.str nm, .tup (sm.map D.int), .tup (lnsD ps)]) ?_ (at32 _ _ _)) (var_ok rfl) (lns_at hr)
        rw [hlast, Ln.d_mk]
      · rw [List.length_append, List.length_singleton]; rw [List.length_cons] at hl; have : (100000 : Nat) < sizeLine := by rw [sizeLine_eq]; decide
        omega
    · cases h
end W8

set_option Elab.async false
set_option linter.all false
set_option maxRecDepth 100000
namespace W8
open PySem L2 PySem.Spec PyProof.Rows

theorem star_ok {ρ : Env} {M M1 M2 : Mem} {a : Ex} {r : Exs} {xs ds : List D} (h : a ρ M = .ok (.tup xs) M1) (h' : r ρ M1 = .ok ds M2) : starE a r ρ M = .ok (xs ++ ds) M2 := by
  unfold starE
  rw [h, R.bind_ok]
  simp only [seqB]
  rw [h']; rfl
theorem lift1_d (k : Nat) (nm : Str) (sm : List Int) (ps : List Ln) (acc : Ln) : (lift1 (k, .mk nm sm ps) acc).d = .tup [.str nm, .tup (sm.map D.int), .tup ((lnsD ps).set k acc.d)] := by
  unfold lift1
  simp only [Ln.d_mk, lns_set]
def foundBody : Stt := setS 5 (tupE (consE (opE ixD (var 6) (con (.int 0))) (consE (opE ixD (var 6) (con (.int 1))) (consE (tupE (starE (slE (opE ixD (var 6) (con (.int 2))) noP (smP (var 4))) (consE (var 5) (starE (slE (opE ixD (var 6) (con (.int 2))) (smP (opE addD (var 4) (con (.int 1)))) noP) nilE)))) nilE))))
theorem found_loop {x : W8.Its} {N : Mem} (okx : x.ok N) (l0 pd a ar : D) : ∀ (s : List (Nat × Ln)) (acc : Ln) (nn hh : Option D), (∀ z ∈ s, z.2.size ≤ 10000 ∧ (match z.2 with | .mk _ _ ps => z.1 < ps.length)) →
    ∃ n' h', forL x (.tp [4, 6]) foundBody (s.map fun z => .tup [.int (z.1 : Nat), z.2.d]) [some l0, some pd, some a, some ar, nn, some acc.d, hh] N = .ok (.nx [some l0, some pd, some a, some ar, n', some (s.foldl (fun acc z => lift1 z acc) acc).d, h']) N
  | [], acc, nn, hh, _ => ⟨nn, hh, for_nil okx⟩
  | (k, .mk nm sm ps) :: s, acc, nn, hh, h => by
    obtain ⟨h1, h2⟩ := h (k, .mk nm sm ps) List.mem_cons_self
    have h2 : k < ps.length := h2
    have h1 : (Ln.mk nm sm ps).size ≤ 10000 := h1
    rw [Ln.size] at h1
    have hps := length_sizes ps
    obtain ⟨n', h', ih⟩ := found_loop okx l0 pd a ar s (lift1 (k, .mk nm sm ps) acc) (some (.int (k : Nat))) (some (Ln.mk nm sm ps).d) fun z hz => h z (List.mem_cons_of_mem _ hz)
    refine ⟨n', h', ?_⟩
    rw [List.map_cons]
    refine (for_nx okx (ρ1 := [some l0, some pd, some a, some ar, some (.int (k : Nat)), some acc.d, some (Ln.mk nm sm ps).d]) (ρ2 := [some l0, some pd, some a, some ar, some (.int (k : Nat)), some (lift1 (k, .mk nm sm ps) acc).d, some (Ln.mk nm sm ps).d]) (M1 := N) rfl ?_).trans ih
    refine set_ok (i := 5) (d := (lift1 (k, .mk nm sm ps) acc).d) ?_
    have v6 : var 6 [some l0, some pd, some a, some ar, some (.int (k : Nat)), some acc.d, some (Ln.mk nm sm ps).d] N = .ok (.tup [.str nm, .tup (sm.map D.int), .tup (lnsD ps)]) N := by rw [var_ok (d := (Ln.mk nm sm ps).d) rfl, Ln.d_mk]
    have v4 : var 4 [some l0, some pd, some a, some ar, some (.int (k : Nat)), some acc.d, some (Ln.mk nm sm ps).d] N = .ok (.int (k : Nat)) N := var_ok rfl
    have i2 : opE ixD (var 6) (con (.int 2)) [some l0, some pd, some a, some ar, some (.int (k : Nat)), some acc.d, some (Ln.mk nm sm ps).d] N = .ok (.tup (lnsD ps)) N := ix_ok v6 (at32 _ _ _)
    have k1 : opE addD (var 4) (con (.int 1)) [some l0, some pd, some a, some ar, some (.int (k : Nat)), some acc.d, some (Ln.mk nm sm ps).d] N = .ok (.int ((k + 1 : Nat) : Int)) N := by
      rw [op_ok v4 (rfl : con (.int 1) _ N = .ok (.int 1) N)]; rfl
    have mid := tup_ok (star_ok (sl_take i2 v4) (cons_ok (var_ok (i := 5) (d := acc.d) rfl) (star_ok (sl_drop i2 k1) nil_ok))) (by
      rw [List.length_append, List.length_take, List.length_cons, List.length_append, List.length_drop, List.length_nil, lns_len]; exact small_ok (by omega))
    have hset : (lnsD ps).take k ++ (acc.d :: ((lnsD ps).drop (k + 1) ++ [])) = (lnsD ps).set k acc.d := by
      rw [List.set_eq_take_append_cons_drop, if_pos (by rw [lns_len]; exact h2), List.append_nil]
    rw [hset] at mid
    rw [lift1_d]
    exact tup_ok (cons_ok (ix_ok v6 (at30 _ _ _)) (cons_ok (ix_ok v6 (at31 _ _ _)) (cons_ok mid nil_ok))) (small_ok (show 3 ≤ 1000000 by decide))
theorem step_back (xs : List D) (y : D) : stepP (xs ++ [y]) (some (-2)) none (some (-1)) = xs.reverse := by
  have hb : sliceBounds (some (-2)) none (some (-1)) (xs ++ [y]).length = ((xs.length : Int) - 1, -1, -1) := by
    rw [List.length_append, List.length_singleton]
    unfold sliceBounds
    simp
    omega
  have h := stepP_rev xs
  unfold stepP at h ⊢
  have hb0 : sliceBounds none none (some (-1)) xs.length = ((xs.length : Int) - 1, -1, -1) := rfl
  rw [hb0] at h
  rw [hb]
  have h : (sliceRange ((xs.length : Int) - 1) (-1) (-1)).filterMap (xs[·]?) = xs.reverse := h
  show (sliceRange ((xs.length : Int) - 1) (-1) (-1)).filterMap ((xs ++ [y])[·]?) = xs.reverse
  rw [← h, PySem.W.krv_sliceRange]
  apply fm_congr
  intro j hj
  obtain ⟨i, hi, e⟩ := List.mem_map.mp hj
  have hi := List.mem_range.mp hi
  rw [List.getElem?_append_left (by omega)]
theorem zip_maps {α : Type} (f : D → D → D) (a b : α → D) : ∀ s : List α, List.zipWith f (s.map a) (s.map b) = s.map fun z => f (a z) (b z)
  | [] => rfl
  | z :: s => by rw [List.map_cons, List.map_cons, List.zipWith_cons_cons, zip_maps f a b s, List.map_cons]
theorem s14_line {fu : Nat} {c : Fn} {l q a : Ln} {p : List Nat} {M : Mem} (hs : l.size ≤ 10000) (hp : p.length ≤ 10000) (h : at' l p = some q) : runD 3 7 (m14 fu c) [l.d, plD p, a.d] M = .ok (put' l p a).d M := by
  obtain ⟨kk', e1⟩ := around_loop (x := ⟨p.map fun k => D.int (k : Nat), []⟩) (M := M) (fun N => ok_nil N) l.d (plD p) a.d p l q [] none (by simp; omega) h
  have hst : (steps l p).map (·.1) = p := steps_fst h
  let N : Mem := M ++ [.lst ((steps l p).map (fun z => z.2.d) ++ [q.d])]
  let N2 : Mem := N ++ [.lst ((steps l p).map (fun z => z.2.d)).reverse]
  let items := (steps l p).reverse.map fun z => D.tup [.int (z.1 : Nat), z.2.d]
  have okz : (⟨items, [(N.length, ((steps l p).map (fun z => z.2.d)).reverse)]⟩ : W8.Its).ok N2 := lcl_ok (by simp [N2])
  obtain ⟨n', h', e2⟩ := found_loop okz l.d (plD p) a.d (.ref M.length) (steps l p).reverse a kk' none fun z hz => by
    obtain ⟨h1, h2⟩ := steps_ok h z (List.mem_reverse.mp hz)
    exact ⟨by omega, h2⟩
  rw [steps_put a h] at e2
  refine run_ret (X := [.lst ((steps l p).map (fun z => z.2.d) ++ [q.d]), .lst ((steps l p).map (fun z => z.2.d)).reverse]) rfl ?_ (D.pure_lo _ _ (Ln.pure _))
  show (seqS (setS 3 (lstE (consE (var 0) nilE))) (seqS (forS (valI (var 1)) (.nm 4) _) (seqS (setS 5 (var 2)) (seqS (forS (zpI _) (.tp [4, 6]) foundBody) (retS (var 5)))))) [some l.d, some (plD p), some a.d, none, none, none, none] M = _
  rw [seq_nx (set_ok (lst_ok (cons_ok (var_ok (d := l.d) rfl) nil_ok) (small_ok (show 1 ≤ 1000000 by decide))))]
  show (seqS _ _) [some l.d, some (plD p), some a.d, some (.ref M.length), none, none, none] (M ++ [.lst [l.d]]) = _
  have hv : valI (var 1) [some l.d, some (plD p), some a.d, some (.ref M.length), none, none, none] (M ++ [.lst [l.d]]) = .ok ⟨p.map fun k => D.int (k : Nat), []⟩ (M ++ [.lst [l.d]]) := val_tup (var_ok rfl)
  rw [seq_nx ((for_ok hv).trans e1)]
  rw [seq_nx (set_ok (i := 5) (var_ok (d := a.d) rfl))]
  show (seqS _ _) [some l.d, some (plD p), some a.d, some (.ref M.length), kk', some a.d, none] N = _
  have hrev : stE (var 1) noP noP (smP (negE (con (.int 1)))) [some l.d, some (plD p), some a.d, some (.ref M.length), kk', some a.d, none] N = .ok (.tup (p.map fun k => D.int (k : Nat)).reverse) N := by
    unfold stE
    rw [var_ok (d := plD p) rfl]
    rfl
  have hback : stE (var 3) (smP (negE (con (.int 2)))) noP (smP (negE (con (.int 1)))) [some l.d, some (plD p), some a.d, some (.ref M.length), kk', some a.d, none] N = .ok (.ref N.length) N2 := by
    unfold stE
    rw [var_ok (d := .ref M.length) rfl]
    have hN : N[M.length]? = some (.lst ((steps l p).map (fun z => z.2.d) ++ [q.d])) := by simp [N]
    show lift (stB N (.ref M.length) (some (-2)) none (some (-1))) = _
    unfold stB
    rw [if_neg (by decide)]
    simp only [hN, step_back]
    rfl
  have hz : zpI (consE (stE (var 1) noP noP (smP (negE (con (.int 1))))) (consE (stE (var 3) (smP (negE (con (.int 2)))) noP (smP (negE (con (.int 1))))) nilE)) [some l.d, some (plD p), some a.d, some (.ref M.length), kk', some a.d, none] N = .ok ⟨items, [(N.length, ((steps l p).map (fun z => z.2.d)).reverse)]⟩ N2 := by
    unfold zpI
    rw [cons_ok hrev (cons_ok hback nil_ok), R.bind_ok]
    have hN2 : N2[N.length]? = some (.lst ((steps l p).map (fun z => z.2.d)).reverse) := by simp [N2]
    simp only [seqOf, hN2, Option.bind_some, Option.map_some, List.nil_append]
    have hi : List.zipWith (fun a b => D.tup [a, b]) (p.map fun k => D.int (k : Nat)).reverse ((steps l p).map (fun z => z.2.d)).reverse = items := by
      have e3 : (p.map fun k => D.int (k : Nat)) = (steps l p).map fun z => D.int (z.1 : Nat) := by
        conv => lhs; rw [← hst]
        rw [List.map_map]; rfl
      rw [e3, ← List.map_reverse, ← List.map_reverse, zip_maps]
    rw [hi]
    rfl
  rw [seq_nx ((for_ok hz).trans e2)]
  have hX : N2 = M ++ [.lst ((steps l p).map (fun z => z.2.d) ++ [q.d]), .lst ((steps l p).map (fun z => z.2.d)).reverse] := by simp [N2, N]
  rw [← hX]
  exact ret_ok (var_ok rfl)
theorem s15_line {fu : Nat} {c : Fn} {l q a : Ln} {p : List Nat} {M : Mem} (h1 : c 6 [l.d] M = .ok .non M) (h2 : c 13 [l.d, plD p] M = .ok .non M) (h3 : c 6 [a.d] M = .ok .non M) (h4 : c 14 [l.d, plD p, a.d] M = .ok (put' l p a).d M) : runD 3 3 (m15 fu c) [l.d, plD p, a.d] M = .ok (put' l p a).d M := by
  refine run_ret0 rfl ?_ (D.pure_lo _ _ (Ln.pure _))
  show (seqS (exprS _) _) [some l.d, some (plD p), some a.d] M = _
  rw [seq_nx (expr_ok (by rw [call1 (var_ok (d := l.d) rfl), h1])), seq_nx (expr_ok (by rw [call2 (var_ok (d := l.d) rfl) (var_ok (d := plD p) rfl), h2])), seq_nx (expr_ok (by rw [call1 (var_ok (d := a.d) rfl), h3]))]
  exact ret_ok (by rw [call3 (var_ok (d := l.d) rfl) (var_ok (d := plD p) rfl) (var_ok (d := a.d) rfl), h4])
end W8

set_option Elab.async false
set_option linter.all false
set_option maxRecDepth 100000
namespace W8
open PySem L2 PySem.Spec PyProof.Rows

/-! ### the deck -/
def deckD (b : Nat) (m n : Int) : List (Key × D) := [(.inr "cells", .ref b), (.inr "mixed", .int m), (.inr "draws", .int n)]
structure Deck (M : Mem) (a b N : Nat) (m n : Int) (cs : List Int) : Prop where
  at_a : M[a]? = some (.dic (deckD b m n))
  at_b : M[b]? = some (.lst (cs.map D.int))
  ne : a ≠ b
  m0 : 0 ≤ m
  m1 : m < 2147483587
  n0 : 0 ≤ n
  n1 : n ≤ N
  cl : cs.length ≤ 100
theorem val_cells (b : Nat) (m n : Int) : valD (deckD b m n) (.inr "cells") = some (.ref b) := by unfold valD deckD; rfl
theorem val_mixed (b : Nat) (m n : Int) : valD (deckD b m n) (.inr "mixed") = some (.int m) := by unfold valD deckD; rfl
theorem val_draws (b : Nat) (m n : Int) : valD (deckD b m n) (.inr "draws") = some (.int n) := by unfold valD deckD; rfl
theorem put_draws (b : Nat) (m n k : Int) : putD (deckD b m n) (.inr "draws") (.int k) = deckD b m k := by unfold putD deckD; rfl
theorem mul_ok {ρ : Env} {M M1 M2 : Mem} {a b : Ex} {i j : Int} (h : a ρ M = .ok (.int i) M1) (h' : b ρ M1 = .ok (.int j) M2) (hi : i.natAbs < 2 ^ 100) (hj : j.natAbs < 2 ^ 100) : opE mulD a b ρ M = .ok (.int (i * j)) M2 := by
  rw [op_ok h h']
  unfold mulD
  simp only
  rw [if_pos]
  · rfl
  · have := wide_mul (a := 100) (b := 100) hi hj (by omega) (by omega) (by omega)
    exact this
theorem add_ok {ρ : Env} {M M1 M2 : Mem} {a b : Ex} {i j : Int} (h : a ρ M = .ok (.int i) M1) (h' : b ρ M1 = .ok (.int j) M2) : opE addD a b ρ M = .ok (.int (i + j)) M2 := by
  rw [op_ok h h']; rfl
theorem sub_ok {ρ : Env} {M M1 M2 : Mem} {a b : Ex} {i j : Int} (h : a ρ M = .ok (.int i) M1) (h' : b ρ M1 = .ok (.int j) M2) : opE subD a b ρ M = .ok (.int (i - j)) M2 := by
  rw [op_ok h h']; rfl
theorem mod_ok {ρ : Env} {M M1 M2 : Mem} {a b : Ex} {i j : Int} (h : a ρ M = .ok (.int i) M1) (h' : b ρ M1 = .ok (.int j) M2) (hj : j ≠ 0) : opE modD a b ρ M = .ok (.int (i.fmod j)) M2 := by
  rw [op_ok h h']
  unfold modD
  simp only
  rw [if_pos hj]; rfl
theorem fdv_ok {ρ : Env} {M M1 M2 : Mem} {a b : Ex} {i j : Int} (h : a ρ M = .ok (.int i) M1) (h' : b ρ M1 = .ok (.int j) M2) (hj : j ≠ 0 ∧ j.natAbs < 1073741824) : opE fdvD a b ρ M = .ok (.int (i.fdiv j)) M2 := by
  rw [op_ok h h']
  unfold fdvD
  simp only
  rw [if_pos hj]; rfl
theorem int_ok {ρ : Env} {M M1 : Mem} {a : Ex} {i : Int} (h : a ρ M = .ok (.int i) M1) : fnE intD (consE a nilE) ρ M = .ok (.int i) M1 := by
  rw [fn1 h]; rfl
theorem dget_ok {ρ : Env} {M : Mem} {i n : Nat} {x : Str} {kvs : List (Key × D)} {d : D} (h : ρ[i]? = some (some (.ref n))) (hn : M[n]? = some (.dic kvs)) (hv : valD kvs (.inr x) = some d) : opE dgD (var i) (con (.str x)) ρ M = .ok d M := by
  rw [op_ok (var_ok h) (rfl : con (.str x) ρ M = .ok (.str x) M)]
  unfold dgD
  simp only [keyD, hn, hv]
  rfl
theorem fm_lt {a b : Int} (h : 0 < b) : 0 ≤ a.fmod b ∧ a.fmod b < b := ⟨Int.fmod_nonneg_of_pos a h, Int.fmod_lt_of_pos a h⟩
/-- a def that changes what stood there, and leaves more behind -/
theorem run_upd {ar sl : Nat} {m : Stt} {ds : List D} {M M' X : Mem} {d : D} (hl : ds.length = ar) (h : m (ds.map some ++ List.replicate (sl - ar) none) M = .ok (.rt d) (M' ++ X)) (hd : d.lo M.length = true) (hlen : M'.length = M.length) (hk : ∀ (i : Nat) (o : MO), M'[i]? = some o → M[i]? = some o ∨ o.lo M.length = true) : runD ar sl m ds M = .ok d M' := by
  unfold runD
  rw [if_pos hl, h]
  show trunc M (.ok d (M' ++ X)) = _
  rw [trunc_ok, if_pos]
  · rw [← hlen, List.take_left]
  · refine ⟨hd, by simp [hlen], fun i o hi e => ?_⟩
    rw [List.getElem?_append_left (by rw [hlen]; exact hi)] at e
    exact hk i o e
/-- the memory but for the deck -/
def SameBut (a b : Nat) (M M' : Mem) : Prop := M'.length = M.length ∧ ∀ i, i ≠ a → i ≠ b → M'[i]? = M[i]?
theorem SameBut.refl (a b : Nat) (M : Mem) : SameBut a b M M := ⟨rfl, fun _ _ _ => rfl⟩
theorem SameBut.trans {a b : Nat} {M M1 M2 : Mem} (x : SameBut a b M M1) (y : SameBut a b M1 M2) : SameBut a b M M2 := ⟨y.1.trans x.1, fun i h1 h2 => (y.2 i h1 h2).trans (x.2 i h1 h2)⟩
end W8

set_option Elab.async false
set_option linter.all false
set_option maxRecDepth 100000
namespace W8
open PySem L2 PySem.Spec PyProof.Rows

def drawFin : Stt := seqS (setS 2 (opE modD (fnE intD (consE (opE addD (opE mulD (var 2) (con (.int 40692))) (con (.int 24131))) nilE)) (con (.int 2147483563)))) (seqS (setS 2 (opE modD (fnE intD (consE (opE addD (opE addD (opE mulD (var 2) (var 2)) (opE mulD (con (.int 53668)) (opE dgD (var 0) (con (.str "draws"))))) (con (.int 13))) nilE)) (con (.int 2147483399)))) (retS (opE modD (fnE intD (consE (opE fdvD (opE modD (fnE intD (consE (opE mulD (var 2) (con (.int 40014))) nilE)) (con (.int 2147483587))) (con (.int 64))) nilE)) (var 1))))
theorem draw_fin {a b : Nat} {m n many x : Int} {h : Option D} {N : Mem} (ha : N[a]? = some (.dic (deckD b m n))) (hx : x.natAbs < 2 ^ 60) (hn0 : 0 ≤ n) (hn : n < 2 ^ 60) (hm : 0 < many) :
    ∃ r : Int, 0 ≤ r ∧ r < many ∧ drawFin [some (.ref a), some (.int many), some (.int x), h] N = .ok (.rt (.int r)) N := by
  have p60 : (2 : Nat) ^ 60 = 1152921504606846976 := by decide
  have p100 : (2 : Nat) ^ 100 = 1267650600228229401496703205376 := by decide
  have p60i : (2 : Int) ^ 60 = 1152921504606846976 := by decide
  rw [p60] at hx
  rw [p60i] at hn
  let y1 : Int := (x * 40692 + 24131).fmod 2147483563
  have hy1 := fm_lt (a := x * 40692 + 24131) (b := 2147483563) (by omega)
  let y2 : Int := (y1 * y1 + 53668 * n + 13).fmod 2147483399
  have hy2 := fm_lt (a := y1 * y1 + 53668 * n + 13) (b := 2147483399) (by omega)
  let y3 : Int := ((y2 * 40014).fmod 2147483587).fdiv 64
  refine ⟨y3.fmod many, (fm_lt hm).1, (fm_lt hm).2, ?_⟩
  unfold drawFin
  have c : ∀ (k : Int) (ρ : Env), con (.int k) ρ N = .ok (.int k) N := fun _ _ => rfl
  have s1 : setS 2 (opE modD (fnE intD (consE (opE addD (opE mulD (var 2) (con (.int 40692))) (con (.int 24131))) nilE)) (con (.int 2147483563))) [some (.ref a), some (.int many), some (.int x), h] N = .ok (.nx [some (.ref a), some (.int many), some (.int y1), h]) N :=
    set_ok (i := 2) (mod_ok (int_ok (add_ok (mul_ok (var_ok (d := .int x) rfl) (c _ _) (by rw [p100]; omega) (by rw [p100]; decide)) (c _ _))) (c _ _) (by decide))
  rw [seq_nx s1]
  have s2 : setS 2 (opE modD (fnE intD (consE (opE addD (opE addD (opE mulD (var 2) (var 2)) (opE mulD (con (.int 53668)) (opE dgD (var 0) (con (.str "draws"))))) (con (.int 13))) nilE)) (con (.int 2147483399))) [some (.ref a), some (.int many), some (.int y1), h] N = .ok (.nx [some (.ref a), some (.int many), some (.int y2), h]) N := by
    have b1 : y1.natAbs < 2 ^ 100 := by rw [p100]; have := hy1.1; have := hy1.2; show ((x * 40692 + 24131).fmod 2147483563).natAbs < _; omega
    exact set_ok (i := 2) (mod_ok (int_ok (add_ok (add_ok (mul_ok (var_ok (d := .int y1) rfl) (var_ok (d := .int y1) rfl) b1 b1) (mul_ok (c _ _) (dget_ok (n := a) rfl ha (val_draws b m n)) (by rw [p100]; decide) (by rw [p100]; omega))) (c _ _))) (c _ _) (by decide))
  rw [seq_nx s2]
  have b2 : y2.natAbs < 2 ^ 100 := by rw [p100]; have := hy2.1; have := hy2.2; show ((y1 * y1 + 53668 * n + 13).fmod 2147483399).natAbs < _; omega
  exact ret_ok (mod_ok (int_ok (fdv_ok (mod_ok (int_ok (mul_ok (var_ok (d := .int y2) rfl) (c _ _) b2 (by rw [p100]; decide))) (c _ _) (by decide)) (c _ _) (by decide))) (var_ok (d := .int many) rfl) (by omega))
theorem mem_set_dic {M : Mem} {a b : Nat} {m n k : Int} (h : M[a]? = some (.dic (deckD b m n))) : (M.set a (.dic (deckD b m k)))[a]? = some (.dic (deckD b m k)) := by
  rw [List.getElem?_set_self (List.getElem?_eq_some_iff.mp h).1]
theorem lo_deck {b n : Nat} {m k : Int} (h : b < n) : (MO.dic (deckD b m k)).lo n = true := by
  unfold MO.lo deckD
  simp [D.lo, h]
theorem lo_ints (n : Nat) (cs : List Int) : (MO.lst (cs.map D.int)).lo n = true := by
  show losD n (cs.map D.int) = true
  induction cs with
  | nil => rfl
  | cons i cs ih => rw [List.map_cons, losD, ih]; rfl
theorem s17_draw {fu : Nat} {c : Fn} {M : Mem} {a b N : Nat} {m n many : Int} {cs : List Int} (K : Deck M a b N m n cs) (hN : N ≤ 1000000) (h0 : 0 < many) (h1 : many ≤ 100000) :
    ∃ (r : Int) (M' : Mem) (n' : Int) (cs' : List Int), runD 2 4 (m17 fu c) [.ref a, .int many] M = .ok (.int r) M' ∧ 0 ≤ r ∧ r < many ∧ SameBut a b M M' ∧ Deck M' a b (N + 1) m n' cs' := by
  obtain ⟨ha, hb, hne, m0, m1, n0, n1, cl⟩ := K
  have la : a < M.length := (List.getElem?_eq_some_iff.mp ha).1
  have lb : b < M.length := (List.getElem?_eq_some_iff.mp hb).1
  let M1 : Mem := M.set a (.dic (deckD b m (n + 1)))
  have ha1 : M1[a]? = some (.dic (deckD b m (n + 1))) := mem_set_dic ha
  have hb1 : M1[b]? = some (.lst (cs.map D.int)) := by rw [List.getElem?_set_ne hne]; exact hb
  have hM1 : M1.length = M.length := by simp [M1]
  have p60 : (2 : Nat) ^ 60 = 1152921504606846976 := by decide
  have p60i : (2 : Int) ^ 60 = 1152921504606846976 := by decide
  have p100 : (2 : Nat) ^ 100 = 1267650600228229401496703205376 := by decide
  have sl : (1000 : Nat) < sizeLine := by rw [sizeLine_eq]; decide
  have c0 : ∀ (k : Int) (ρ : Env) (N : Mem), con (.int k) ρ N = .ok (.int k) N := fun _ _ _ => rfl
  -- the store
  have s1 : dputS (opE addD (opE dgD (var 0) (con (.str "draws"))) (con (.int 1))) (var 0) (con (.str "draws")) [some (.ref a), some (.int many), none, none] M = .ok (.nx [some (.ref a), some (.int many), none, none]) M1 := by
    unfold dputS
    rw [add_ok (dget_ok (n := a) rfl ha (val_draws b m n)) (c0 1 _ _), R.bind_ok, var_ok (d := .ref a) rfl, R.bind_ok]
    show (R.bind (R.ok (D.str "draws") M) _) = _
    rw [R.bind_ok]
    simp only [keyD, ha]
    rw [if_pos (by unfold deckD; exact small_ok (show 4 ≤ 1000000 by decide)), put_draws]
  let x0 : Int := m + 65537 * (n + 1)
  have s2 : setS 2 (opE addD (opE dgD (var 0) (con (.str "mixed"))) (opE mulD (con (.int 65537)) (opE dgD (var 0) (con (.str "draws"))))) [some (.ref a), some (.int many), none, none] M1 = .ok (.nx [some (.ref a), some (.int many), some (.int x0), none]) M1 :=
    set_ok (i := 2) (add_ok (dget_ok (n := a) rfl ha1 (val_mixed b m _)) (mul_ok (c0 65537 _ _) (dget_ok (n := a) rfl ha1 (val_draws b m _)) (by rw [p100]; decide) (by rw [p100]; omega)))
  have hcells : ∀ (ρ : Env) (Nn : Mem), ρ[0]? = some (some (.ref a)) → Nn[a]? = some (.dic (deckD b m (n + 1))) → opE dgD (var 0) (con (.str "cells")) ρ Nn = .ok (.ref b) Nn := fun ρ Nn h1 h2 => dget_ok (n := a) h1 h2 (val_cells b m _)
  let N1 : Mem := M1 ++ [.lst []]
  have haN : N1[a]? = some (.dic (deckD b m (n + 1))) := by rw [List.getElem?_append_left (by omega)]; exact ha1
  have hbN : N1[b]? = some (.lst (cs.map D.int)) := by rw [List.getElem?_append_left (by omega)]; exact hb1
  have hcond : asT (opE neD (opE dgD (var 0) (con (.str "cells"))) (lstE nilE)) [some (.ref a), some (.int many), some (.int x0), none] M1 = .ok (!(cs.map D.int).isEmpty) N1 := by
    refine as_ok ?_
    rw [op_ok (hcells _ _ rfl ha1) (lst_ok nil_ok (Nat.zero_le _)), neq_nil hbN (by simp [N1])]
    rfl
  have same1 : SameBut a b M M1 := ⟨hM1, fun i h1 h2 => List.getElem?_set_ne (Ne.symm h1)⟩
  show ∃ (r : Int) (M' : Mem) (n' : Int) (cs' : List Int), runD 2 4 (seqS (dputS _ _ _) (seqS (setS 2 _) (seqS (ifS _ (seqS (setS 3 _) (seqS (ifS _ _ skipS) (setS 2 _))) skipS) drawFin))) [.ref a, .int many] M = .ok (.int r) M' ∧ _
  have keepK : ∀ (M' : Mem) (cs' : List Int), M'.length = M.length → M'[a]? = some (.dic (deckD b m (n + 1))) → M'[b]? = some (.lst (cs'.map D.int)) → (∀ i, i ≠ a → i ≠ b → M'[i]? = M[i]?) → ∀ (i : Nat) (o : MO), M'[i]? = some o → M[i]? = some o ∨ o.lo M.length = true := by
    intro M' cs' hl h1 h2 h3 i o e
    by_cases hia : i = a
    · subst hia; rw [h1] at e; cases e; exact .inr (lo_deck lb)
    · by_cases hib : i = b
      · subst hib; rw [h2] at e; cases e; exact .inr (lo_ints _ _)
      · rw [h3 i hia hib] at e; exact .inl e
  rcases List.eq_nil_or_concat cs with e | ⟨cs', cell, e⟩
  · subst e
    obtain ⟨r, r0, r1, hr⟩ := draw_fin (h := none) haN (x := x0) (many := many) (by rw [p60]; show (m + 65537 * (n + 1)).natAbs < _; omega) (by omega) (by rw [p60i]; omega) h0
    refine ⟨r, M1, n + 1, [], run_upd (X := [.lst []]) rfl ?_ rfl hM1 (keepK M1 [] hM1 ha1 hb1 same1.2), r0, r1, same1, ⟨ha1, hb1, hne, m0, m1, by omega, by omega, cl⟩⟩
    show (seqS (dputS _ _ _) _) [some (.ref a), some (.int many), none, none] M = _
    rw [seq_nx s1, seq_nx s2, seq_nx ((if_f hcond).trans rfl)]
    exact hr
  · rw [List.concat_eq_append] at e
    subst e
    have hcond : asT (opE neD (opE dgD (var 0) (con (.str "cells"))) (lstE nilE)) [some (.ref a), some (.int many), some (.int x0), none] M1 = .ok true N1 := by
      rw [hcond, List.map_append]; simp
    have cl' : cs'.length ≤ 99 := by rw [List.length_append, List.length_singleton] at cl; omega
    let M2 : Mem := M1.set b (.lst (cs'.map D.int))
    let N2 : Mem := N1.set b (.lst (cs'.map D.int))
    have hN2 : N2 = M2 ++ [.lst []] := by show (M1 ++ [MO.lst []]).set b _ = _; rw [List.set_append_left _ _ (by omega)]
    have hM2 : M2.length = M.length := by simp [M2, hM1]
    have ha2 : M2[a]? = some (.dic (deckD b m (n + 1))) := by rw [List.getElem?_set_ne (Ne.symm hne)]; exact ha1
    have hb2 : M2[b]? = some (.lst (cs'.map D.int)) := by rw [List.getElem?_set_self (by omega)]
    have haN2 : N2[a]? = some (.dic (deckD b m (n + 1))) := by rw [hN2, List.getElem?_append_left (by omega)]; exact ha2
    have hbN2 : N2[b]? = some (.lst (cs'.map D.int)) := by rw [hN2, List.getElem?_append_left (by omega)]; exact hb2
    have same2 : SameBut a b M M2 := ⟨hM2, fun i h1 h2 => (List.getElem?_set_ne (Ne.symm h2)).trans (same1.2 i h1 h2)⟩
    have hpop : mtE popD (opE dgD (var 0) (con (.str "cells"))) nilE [some (.ref a), some (.int many), some (.int x0), none] N1 = .ok (.int cell) N2 := by
      unfold mtE nilE
      rw [hcells _ _ rfl haN, R.bind_ok]
      have hi : isL N1 (.ref b) = true := by unfold isL; simp only [hbN]
      rw [if_pos hi, R.bind_ok]
      unfold popD
      simp only [hbN, List.map_append, List.map_cons, List.map_nil]
      have h1 : (cs'.map D.int ++ [D.int cell])[(cs'.map D.int ++ [D.int cell]).length - 1]? = some (.int cell) := by simp
      rw [h1]
      simp [lift, N2]
    have hge : asT (opE geD (var 3) (opE powD (con (.int 10)) (con (.int 18)))) [some (.ref a), some (.int many), some (.int x0), some (.int cell)] N2 = .ok (decide (1000000000000000000 ≤ cell)) N2 := by
      refine as_ok ?_
      rw [op_ok (d := .int cell) (d' := .int 1000000000000000000) (M1 := N2) (M2 := N2) (var_ok rfl) (by rw [op_ok (c0 10 _ _) (c0 18 _ _)]; rfl)]
      rfl
    by_cases hc : 1000000000000000000 ≤ cell
    · rw [decide_eq_true hc] at hge
      let w : Int := if many > 2 then many else 2
      have hw : w ≠ 0 ∧ w.natAbs < 1073741824 := by
        show (if many > 2 then many else 2) ≠ 0 ∧ (if many > 2 then many else 2 : Int).natAbs < 1073741824
        split <;> omega
      let M3 : Mem := M2.set b (.lst ((cs' ++ [cell.fdiv w]).map D.int))
      have hM3 : M3.length = M.length := by simp [M3, hM2]
      have ha3 : M3[a]? = some (.dic (deckD b m (n + 1))) := by rw [List.getElem?_set_ne (Ne.symm hne)]; exact ha2
      have hb3 : M3[b]? = some (.lst ((cs' ++ [cell.fdiv w]).map D.int)) := by rw [List.getElem?_set_self (by omega)]
      have same3 : SameBut a b M M3 := ⟨hM3, fun i h1 h2 => (List.getElem?_set_ne (Ne.symm h2)).trans (same2.2 i h1 h2)⟩
      have happ : exprS (mtE appD (opE dgD (var 0) (con (.str "cells"))) (consE (opE fdvD (var 3) (fnE maxD (consE (con (.int 2)) (consE (var 1) nilE)))) nilE)) [some (.ref a), some (.int many), some (.int x0), some (.int cell)] N2 = .ok (.nx [some (.ref a), some (.int many), some (.int x0), some (.int cell)]) (M3 ++ [.lst []]) := by
        refine expr_ok (d := .non) ?_
        unfold mtE
        rw [hcells _ _ rfl haN2, R.bind_ok]
        have hi : isL N2 (.ref b) = true := by unfold isL; simp only [hbN2]
        rw [if_pos hi]
        have hmax : fnE maxD (consE (con (.int 2)) (consE (var 1) nilE)) [some (.ref a), some (.int many), some (.int x0), some (.int cell)] N2 = .ok (.int w) N2 := by
          rw [fn2 (d := .int 2) (d' := .int many) (c0 2 _ _) (var_ok rfl)]
          rfl
        rw [cons_ok (fdv_ok (i := cell) (j := w) (var_ok (d := .int cell) rfl) hmax hw) nil_ok, R.bind_ok]
        unfold appD
        simp only [hbN2]
        rw [if_pos (by rw [List.length_map]; omega)]
        have e3 : N2.set b (.lst (cs'.map D.int ++ [.int (cell.fdiv w)])) = M3 ++ [.lst []] := by
          rw [hN2, List.set_append_left _ _ (by omega)]
          show M2.set b _ ++ _ = M2.set b _ ++ _
          rw [List.map_append]; rfl
        rw [e3]; rfl
      refine ⟨cell.fmod many, M3, n + 1, cs' ++ [cell.fdiv w], run_upd (X := [.lst []]) rfl ?_ rfl hM3 (keepK M3 _ hM3 ha3 hb3 same3.2), (fm_lt h0).1, (fm_lt h0).2, same3, ⟨ha3, hb3, hne, m0, m1, by omega, by omega, by rw [List.length_append, List.length_singleton]; omega⟩⟩
      show (seqS (dputS _ _ _) _) [some (.ref a), some (.int many), none, none] M = _
      rw [seq_nx s1, seq_nx s2]
      rw [seq_rt]
      rw [if_t hcond, seq_nx (set_ok (i := 3) hpop)]
      rw [seq_rt]
      refine (if_t hge).trans ?_
      rw [seq_nx happ]
      exact ret_ok (mod_ok (int_ok (var_ok (d := .int cell) rfl)) (var_ok (d := .int many) rfl) (by omega))
    · rw [decide_eq_false hc] at hge
      have hf := fm_lt (a := cell) (b := 2147483549) (by omega)
      obtain ⟨r, r0, r1, hr⟩ := draw_fin (h := some (.int cell)) haN2 (x := x0 + cell.fmod 2147483549) (many := many) (by rw [p60]; show (m + 65537 * (n + 1) + cell.fmod 2147483549).natAbs < _; omega) (by omega) (by rw [p60i]; omega) h0
      refine ⟨r, M2, n + 1, cs', run_upd (X := [.lst []]) rfl ?_ rfl hM2 (keepK M2 _ hM2 ha2 hb2 same2.2), r0, r1, same2, ⟨ha2, hb2, hne, m0, m1, by omega, by omega, by omega⟩⟩
      show (seqS (dputS _ _ _) _) [some (.ref a), some (.int many), none, none] M = _
      rw [seq_nx s1, seq_nx s2]
      have hs3 : setS 2 (opE addD (var 2) (opE modD (fnE intD (consE (var 3) nilE)) (con (.int 2147483549)))) [some (.ref a), some (.int many), some (.int x0), some (.int cell)] N2 = .ok (.nx [some (.ref a), some (.int many), some (.int (x0 + cell.fmod 2147483549)), some (.int cell)]) N2 :=
        set_ok (i := 2) (add_ok (var_ok (d := .int x0) rfl) (mod_ok (int_ok (var_ok (d := .int cell) rfl)) (c0 _ _ _) (by decide)))
      rw [seq_nx ((if_t hcond).trans ((seq_nx (set_ok (i := 3) hpop)).trans ((seq_nx ((if_f hge).trans rfl)).trans hs3)))]
      rw [← hN2]
      exact hr
end W8

set_option Elab.async false
set_option linter.all false
set_option maxRecDepth 100000
namespace W8
open PySem L2 PySem.Spec PyProof.Rows

def Dk (M : Mem) (a b N : Nat) : Prop := ∃ m n cs, Deck M a b N m n cs
theorem Dk.lt {M : Mem} {a b N : Nat} (h : Dk M a b N) : a < M.length ∧ b < M.length := by
  obtain ⟨m, n, cs, K⟩ := h
  exact ⟨(List.getElem?_eq_some_iff.mp K.at_a).1, (List.getElem?_eq_some_iff.mp K.at_b).1⟩
theorem Dk.app {M X : Mem} {a b N : Nat} (h : Dk M a b N) : Dk (M ++ X) a b N := by
  obtain ⟨la, lb⟩ := h.lt
  obtain ⟨m, n, cs, K⟩ := h
  exact ⟨m, n, cs, { K with at_a := by rw [List.getElem?_append_left la]; exact K.at_a, at_b := by rw [List.getElem?_append_left lb]; exact K.at_b }⟩
theorem Dk.more {M : Mem} {a b N N' : Nat} (h : Dk M a b N) (hn : N ≤ N') : Dk M a b N' := by
  obtain ⟨m, n, cs, K⟩ := h
  exact ⟨m, n, cs, { K with n1 := by have := K.n1; omega }⟩
theorem Dk.keep {M M' : Mem} {a b N : Nat} (h : Dk M a b N) (ha : M'[a]? = M[a]?) (hb : M'[b]? = M[b]?) : Dk M' a b N := by
  obtain ⟨m, n, cs, K⟩ := h
  exact ⟨m, n, cs, { K with at_a := ha.trans K.at_a, at_b := hb.trans K.at_b }⟩
theorem Dk.ne {M : Mem} {a b N : Nat} (h : Dk M a b N) : a ≠ b := by
  obtain ⟨m, n, cs, K⟩ := h
  exact K.ne
theorem SameBut.tr {M M' : Mem} {a b N : Nat} (s : SameBut a b M M') (h : Dk M' a b N) : ∀ (i : Nat) (o : MO), M'[i]? = some o → M[i]? = some o ∨ o.lo M.length = true := by
  intro i o e
  obtain ⟨la, lb⟩ := h.lt
  obtain ⟨m, n, cs, K⟩ := h
  by_cases hia : i = a
  · subst hia; rw [K.at_a] at e; cases e; exact .inr (lo_deck (by rw [← s.1]; exact lb))
  · by_cases hib : i = b
    · subst hib; rw [K.at_b] at e; cases e; exact .inr (lo_ints _ _)
    · rw [s.2 i hia hib] at e; exact .inl e
def DrawC (c : Fn) (a b : Nat) : Prop := ∀ (M : Mem) (N : Nat) (many : Int), Dk M a b N → N ≤ 1000000 → 0 < many → many ≤ 100000 → ∃ (r : Int) (M' : Mem), c 17 [.ref a, .int many] M = .ok (.int r) M' ∧ 0 ≤ r ∧ r < many ∧ SameBut a b M M' ∧ Dk M' a b (N + 1)
theorem drawC (fu L a b : Nat) : DrawC (callK fu (L + 1)) a b := by
  intro M N many h hN h0 h1
  obtain ⟨m, n, cs, K⟩ := h
  obtain ⟨r, M', n', cs', e, r0, r1, s, K'⟩ := s17_draw (fu := fu) (c := callK fu L) K hN h0 h1
  exact ⟨r, M', by rw [callK_17]; exact e, r0, r1, s, m, n', cs', K'⟩
def PickC (c : Fn) (a b : Nat) : Prop := ∀ (M : Mem) (N i : Nat) (ds : List D), Dk M a b N → N ≤ 1000000 → i ≠ b → M[i]? = some (.lst ds) → 0 < ds.length → ds.length ≤ 100000 → (∀ d ∈ ds, d.lo M.length = true) →
  ∃ (d : D) (M' : Mem), d ∈ ds ∧ c 18 [.ref a, .ref i] M = .ok d M' ∧ SameBut a b M M' ∧ Dk M' a b (N + 1)
theorem pickC (fu L a b : Nat) : PickC (callK fu (L + 2)) a b := by
  intro M N i ds h hN hi hds h0 h1 hlo
  obtain ⟨r, M', e, r0, r1, s, K'⟩ := drawC fu L a b M N (ds.length : Nat) h hN (by omega) (by omega)
  have hia : i ≠ a := by
    intro z
    obtain ⟨m, n, cs, K⟩ := h
    subst z
    rw [K.at_a] at hds; cases hds
  have hr : r.toNat < ds.length := by omega
  have hd : ds[r.toNat]? = some ds[r.toNat] := List.getElem?_eq_getElem hr
  have hds' : M'[i]? = some (.lst ds) := by rw [s.2 i hia hi]; exact hds
  refine ⟨ds[r.toNat], M', List.getElem_mem hr, ?_, s, K'⟩
  rw [callK_18]
  refine run_upd (X := []) rfl ?_ (hlo _ (List.getElem_mem hr)) s.1 (s.tr K')
  rw [List.append_nil]
  show retS (opE ixD (var 1) (callE (callK fu (L + 1) 17) (consE (var 0) (consE (fnE lenD (consE (var 1) nilE)) nilE)))) [some (.ref a), some (.ref i)] M = _
  refine ret_ok ?_
  have hlen : fnE lenD (consE (var 1) nilE) [some (.ref a), some (.ref i)] M = .ok (.int (ds.length : Nat)) M := by
    rw [fn1 (var_ok (d := .ref i) rfl)]
    unfold lenD
    simp only [hds]
    rfl
  rw [op_ok (var_ok (d := .ref i) rfl) (by rw [call2 (var_ok (d := .ref a) rfl) hlen]; exact e)]
  unfold ixD ixB
  simp only [hds']
  have hat : L2.atI ds r = some ds[r.toNat] := by
    have e2 := L2.atI_nat (j := r.toNat) hd
    rwa [show ((r.toNat : Nat) : Int) = r from by omega] at e2
  rw [hat]
  rfl
/-- a pick from a list that is just made -/
theorem pick_new {c : Fn} {a b N : Nat} (P : PickC c a b) {ρ : Env} {M M1 : Mem} {es : Exs} {ds : List D} (hρ : ρ[0]? = some (some (.ref a))) (h : es ρ M = .ok ds M1) (hk : Dk M1 a b N) (hN : N ≤ 1000000) (h0 : 0 < ds.length) (h1 : ds.length ≤ 100000) (hp : ∀ d ∈ ds, d.lo (M1.length + 1) = true) :
    ∃ (d : D) (M' : Mem), d ∈ ds ∧ callE (c 18) (consE (var 0) (consE (lstE es) nilE)) ρ M = .ok d (M' ++ [.lst ds]) ∧ SameBut a b M1 M' ∧ Dk M' a b (N + 1) := by
  have hl := lst_ok h (small_ok (by omega))
  obtain ⟨la, lb⟩ := hk.lt
  obtain ⟨d, M2, hd, e, s, K⟩ := P (M1 ++ [.lst ds]) N M1.length ds hk.app hN (by omega) (by simp) h0 h1 (by simpa using hp)
  have hs : M2.length = M1.length + 1 := by rw [s.1]; simp
  have hlast : M2[M1.length]? = some (.lst ds) := by rw [s.2 _ (by omega) (by omega)]; simp
  have hM2 : M2 = M2.take M1.length ++ [.lst ds] := by
    apply List.ext_getElem?
    intro i
    by_cases hi : i < M1.length
    · rw [List.getElem?_append_left (by rw [List.length_take]; omega), List.getElem?_take_of_lt hi]
    · by_cases hi2 : i = M1.length
      · subst hi2
        rw [hlast, List.getElem?_append_right (by rw [List.length_take]; omega), List.length_take, Nat.min_eq_left (by omega)]
        simp
      · rw [List.getElem?_eq_none (by omega), List.getElem?_eq_none (by rw [List.length_append, List.length_take, List.length_singleton]; omega)]
  have ht : ∀ i, i < M1.length → (M2.take M1.length)[i]? = M2[i]? := fun i hi => List.getElem?_take_of_lt hi
  refine ⟨d, M2.take M1.length, hd, ?_, ⟨by rw [List.length_take]; omega, fun i h1 h2 => ?_⟩, ?_⟩
  · rw [call2 (var_ok hρ) hl, e, ← hM2]
  · by_cases hi : i < M1.length
    · rw [ht i hi, s.2 i h1 h2, List.getElem?_append_left hi]
    · rw [List.getElem?_eq_none (by rw [List.length_take]; omega), List.getElem?_eq_none (by omega)]
  · exact K.keep (ht a la) (ht b lb)
end W8

set_option Elab.async false
set_option linter.all false
set_option maxRecDepth 100000
namespace W8
open PySem L2 PySem.Spec PyProof.Rows

/-! ### all places of a line -/
mutual
def places : Ln → List (List Nat)
  | .mk _ _ ps => [] :: placesL 0 ps
def placesL : Nat → List Ln → List (List Nat)
  | _, [] => []
  | k, p :: ps => (places p).map (fun r => k :: r) ++ placesL (k + 1) ps
end
mutual
theorem places_at : ∀ (l : Ln) (p : List Nat), p ∈ places l → ∃ q, at' l p = some q
  | .mk nm sm ps, p, h => by
    rw [places] at h
    rcases List.mem_cons.mp h with h | h
    · subst h; exact ⟨_, by rw [at']⟩
    · obtain ⟨j, r, q, q', e, e1, e2⟩ := placesL_at ps 0 p h
      subst e
      refine ⟨q', ?_⟩
      rw [Nat.zero_add, at']
      simp only [e1, e2]
theorem placesL_at : ∀ (ps : List Ln) (k : Nat) (p : List Nat), p ∈ placesL k ps → ∃ (j : Nat) (r : List Nat) (q q' : Ln), p = (k + j) :: r ∧ ps[j]? = some q ∧ at' q r = some q'
  | [], k, p, h => by rw [placesL] at h; cases h
  | l :: ps, k, p, h => by
    rw [placesL] at h
    rcases List.mem_append.mp h with h | h
    · obtain ⟨r, h1, h2⟩ := List.mem_map.mp h
      obtain ⟨q', e⟩ := places_at l r h1
      exact ⟨0, r, l, q', by rw [← h2]; rfl, rfl, e⟩
    · obtain ⟨j, r, q, q', e, e1, e2⟩ := placesL_at ps (k + 1) p h
      exact ⟨j + 1, r, q, q', by rw [e]; congr 1; omega, e1, e2⟩
end
mutual
theorem places_len : ∀ l : Ln, (places l).length = l.size
  | .mk nm sm ps => by rw [places, Ln.size, List.length_cons, placesL_len ps 0]; omega
theorem placesL_len : ∀ (ps : List Ln) (k : Nat), (placesL k ps).length = sizes ps
  | [], k => by rw [placesL, sizes]; rfl
  | l :: ps, k => by rw [placesL, sizes, List.length_append, List.length_map, places_len l, placesL_len ps (k + 1)]
end
noncomputable def placeBody (c : Fn) : Stt := exprS (mtE extD (var 1) (consE (lcE (valI (callE (c 22) (consE (var 3) nilE))) [4] (.nm 4) tru (opE addD (tupE (consE (var 2) nilE)) (var 4))) nilE))
theorem places_loop {c : Fn} {x : W8.Its} (okx : ∀ N : Mem, x.ok N) (l0 : D) (M : Mem) : ∀ (ps : List Ln) (k : Nat) (acc : List D) (X : Mem) (o1 o2 : Option D), acc.length + sizes ps ≤ 10000 → highs ps ≤ 100 →
    (∀ p ∈ ps, ∀ N : Mem, ∃ X, c 22 [p.d] N = .ok (.ref N.length) (N ++ (.lst ((places p).map plD) :: X))) →
    ∃ o1' o2' X', forL x (.tp [2, 3]) (placeBody c) (enD k (lnsD ps)) [some l0, some (.ref M.length), o1, o2, none] (M ++ (.lst acc :: X)) = .ok (.nx [some l0, some (.ref M.length), o1', o2', none]) (M ++ (.lst (acc ++ (placesL k ps).map plD) :: X'))
  | [], k, acc, X, o1, o2, _, _, _ => ⟨o1, o2, X, by rw [placesL, List.map_nil, List.append_nil]; exact for_nil (okx _)⟩
  | l :: ps, k, acc, X, o1, o2, h1, h2, H => by
    rw [sizes] at h1
    rw [highs] at h2
    have hl := places_len l
    obtain ⟨X1, e1⟩ := H l List.mem_cons_self (M ++ (.lst acc :: X))
    have hlc : lcL ⟨(places l).map plD, [((M ++ (.lst acc :: X)).length, (places l).map plD)]⟩ (.nm 4) tru (opE addD (tupE (consE (var 2) nilE)) (var 4)) [some l0, some (.ref M.length), some (.int (k : Nat)), some l.d, none] ((places l).map plD) ((M ++ (.lst acc :: X)) ++ (.lst ((places l).map plD) :: X1)) = .ok ((places l).map fun r => plD (k :: r)) ((M ++ (.lst acc :: X)) ++ (.lst ((places l).map plD) :: X1)) := by
      refine lc_list (g := plD) (h := fun r => plD (k :: r)) ?_ (places l) fun r hr => ?_
      · intro p hp
        rw [List.mem_singleton] at hp
        subst hp
        exact mem0
      · obtain ⟨q, e⟩ := places_at l r hr
        have := at_size e
        refine ⟨_, rfl, rfl, ?_⟩
        refine (add_tup (xs := [.int (k : Nat)]) (ys := r.map fun j => D.int (j : Nat)) (tup_ok (cons_ok (var_ok (d := .int (k : Nat)) rfl) nil_ok) (small_ok (by simp))) (var_ok rfl) ?_).trans rfl
        rw [List.length_map, List.length_singleton]
        omega
    have hv : valI (callE (c 22) (consE (var 3) nilE)) [some l0, some (.ref M.length), some (.int (k : Nat)), some l.d, none] (M ++ (.lst acc :: X)) = .ok ⟨(places l).map plD, [((M ++ (.lst acc :: X)).length, (places l).map plD)]⟩ ((M ++ (.lst acc :: X)) ++ (.lst ((places l).map plD) :: X1)) := by
      unfold valI
      rw [call1 (var_ok (d := l.d) rfl), e1, R.bind_ok]
      unfold itOf
      simp only [mem0]
      rfl
    have hlc2 := lc_ok (vs := [4]) hv (by rw [List.length_map]; exact small_ok (by omega)) hlc
    have hx := extL_ok (i := 1) (n := M.length) (xs := acc) (ys := (places l).map fun r => plD (k :: r)) (ρ := [some l0, some (.ref M.length), some (.int (k : Nat)), some l.d, none]) rfl mem0 hlc2 (by simp) (by simp) (by rw [List.length_map]; exact small_ok (by omega))
    obtain ⟨o1', o2', X', ih⟩ := places_loop okx l0 M ps (k + 1) (acc ++ (places l).map fun r => plD (k :: r)) (X ++ (.lst ((places l).map plD) :: X1) ++ [.lst ((places l).map fun r => plD (k :: r))]) (some (.int (k : Nat))) (some l.d) (by rw [List.length_append, List.length_map]; omega) (by omega) (fun p hp => H p (List.mem_cons_of_mem _ hp))
    refine ⟨o1', o2', X', ?_⟩
    have hb : placeBody c [some l0, some (.ref M.length), some (.int (k : Nat)), some l.d, none] (M ++ (.lst acc :: X)) = _ := expr_ok hx
    rw [lnsD, enD, for_nx (okx _) (ρ1 := [some l0, some (.ref M.length), some (.int (k : Nat)), some l.d, none]) rfl hb]
    have hm : ((M ++ (MO.lst acc :: X)) ++ (MO.lst ((places l).map plD) :: X1) ++ [MO.lst ((places l).map fun r => plD (k :: r))]).set M.length (MO.lst (acc ++ (places l).map fun r => plD (k :: r))) = M ++ (MO.lst (acc ++ (places l).map fun r => plD (k :: r)) :: (X ++ (MO.lst ((places l).map plD) :: X1) ++ [MO.lst ((places l).map fun r => plD (k :: r))])) := by simp
    rw [hm, ih, placesL, List.map_append, List.map_map, List.append_assoc]
    rfl
theorem s22_line (fu : Nat) : ∀ (L : Nat) (l : Ln) (M : Mem), l.high ≤ L → l.high ≤ 100 → l.size ≤ 9999 → ∃ X, callK fu L 22 [l.d] M = .ok (.ref M.length) (M ++ (.lst ((places l).map plD) :: X))
  | 0, l, M, h, _, _ => by obtain ⟨nm, sm, ps⟩ := l; rw [Ln.high] at h; omega
  | L + 1, l, M, h, h2, hs => by
    obtain ⟨nm, sm, ps⟩ := l
    rw [Ln.high] at h h2
    rw [Ln.size] at hs
    obtain ⟨o1, o2, X, e⟩ := places_loop (c := callK fu L) (x := ⟨enD 0 (lnsD ps), []⟩) (fun N => ok_nil N) (Ln.mk nm sm ps).d M ps 0 [plD []] [] none none (by simp; omega) (by omega) fun p hp N => by
      have := mem_highs hp
      have := mem_sizes hp
      exact s22_line fu L p N (by omega) (by omega) (by omega)
    refine ⟨X, ?_⟩
    rw [callK_22]
    have hm : m22 fu (callK fu L) [some (Ln.mk nm sm ps).d, none, none, none, none] M = .ok (.rt (.ref M.length)) (M ++ (.lst ((places (.mk nm sm ps)).map plD) :: X)) := by
      show (seqS (setS 1 (lstE (consE (tupE nilE) nilE))) (seqS (forS (enI (consE (opE ixD (var 0) (con (.int 2))) nilE)) (.tp [2, 3]) (placeBody (callK fu L))) (retS (var 1)))) [some (Ln.mk nm sm ps).d, none, none, none, none] M = _
      have h0 : lstE (consE (tupE nilE) nilE) [some (Ln.mk nm sm ps).d, none, none, none, none] M = .ok (.ref M.length) (M ++ [.lst [.tup []]]) := lst_ok (cons_ok (tup_ok nil_ok (small_ok (by simp))) nil_ok) (small_ok (by simp))
      rw [seq_nx (set_ok (i := 1) h0)]
      show (seqS (forS (enI (consE (opE ixD (var 0) (con (.int 2))) nilE)) (.tp [2, 3]) (placeBody (callK fu L))) (retS (var 1))) [some (Ln.mk nm sm ps).d, some (.ref M.length), none, none, none] (M ++ [.lst [.tup []]]) = _
      have hv : enI (consE (opE ixD (var 0) (con (.int 2))) nilE) [some (Ln.mk nm sm ps).d, some (.ref M.length), none, none, none] (M ++ [.lst [.tup []]]) = .ok ⟨enD 0 (lnsD ps), []⟩ (M ++ [.lst [.tup []]]) := by
        unfold enI
        rw [cons_ok (ix_ok (ds := [.str nm, .tup (sm.map D.int), .tup (lnsD ps)]) (by rw [var_ok (d := (Ln.mk nm sm ps).d) rfl, Ln.d_mk]) (at32 _ _ _)) nil_ok]
        rfl
      rw [seq_nx ((for_ok hv).trans e), places]
      exact ret_ok (var_ok rfl)
    refine (run_rt (M1 := M ++ (.lst ((places (.mk nm sm ps)).map plD) :: X)) (d := .ref M.length) rfl hm).trans ?_
    rw [trunc_ok, if_neg]
    rintro ⟨h, _⟩
    have h : decide (M.length < M.length) = true := h
    exact absurd (of_decide_eq_true h) (Nat.lt_irrefl _)
end W8

set_option Elab.async false
set_option linter.all false
set_option maxRecDepth 100000
namespace W8
open PySem L2 PySem.Spec PyProof.Rows

theorem SameBut.split {M Y N' : Mem} {a b : Nat} (s : SameBut a b (M ++ Y) N') (la : a < M.length) (lb : b < M.length) : ∃ M', N' = M' ++ Y ∧ SameBut a b M M' := by
  have hl := s.1
  rw [List.length_append] at hl
  have ht : ∀ i, i < M.length → (N'.take M.length)[i]? = N'[i]? := fun i hi => List.getElem?_take_of_lt hi
  have hn : (N'.take M.length).length = M.length := by rw [List.length_take]; omega
  refine ⟨N'.take M.length, ?_, hn, fun i h1 h2 => ?_⟩
  · apply List.ext_getElem?
    intro i
    by_cases hi : i < M.length
    · rw [List.getElem?_append_left (by rw [hn]; exact hi), ht i hi]
    · rw [List.getElem?_append_right (by rw [hn]; omega), hn, s.2 i (by omega) (by omega), List.getElem?_append_right (by omega)]
  · by_cases hi : i < M.length
    · rw [ht i hi, s.2 i h1 h2, List.getElem?_append_left hi]
    · rw [List.getElem?_eq_none (by omega), List.getElem?_eq_none (by omega)]
theorem Dk.cut {M Y : Mem} {a b N : Nat} (h : Dk (M ++ Y) a b N) (la : a < M.length) (lb : b < M.length) : Dk M a b N :=
  h.keep (by rw [List.getElem?_append_left la]) (by rw [List.getElem?_append_left lb])
theorem erase_perm : ∀ (xs : List D) (j : Nat) (h : j < xs.length), (xs[j] :: xs.eraseIdx j).Perm xs
  | [], _, h => by simp at h
  | x :: xs, 0, _ => List.Perm.refl _
  | x :: xs, j + 1, h => (List.Perm.swap x (xs[j]'(by simpa using h)) (xs.eraseIdx j)).trans (List.Perm.cons x (erase_perm xs j (by simpa using h)))
noncomputable def mixBody (c : Fn) : Stt := exprS (mtE appD (var 3) (consE (mtE popAtD (var 2) (consE (callE (c 17) (consE (var 0) (consE (fnE lenD (consE (var 2) nilE)) nilE))) nilE)) nilE))
theorem mix_loop {c : Fn} {a b : Nat} (P : DrawC c a b) {x : W8.Its} (okx : ∀ N : Mem, x.ok N) (d1 : D) (n : Nat) : ∀ (ks left found : List D) (M : Mem) (N : Nat) (o : Option D), M.length = n → left.length = ks.length → found.length + left.length ≤ 1000 → Dk M a b N → N + ks.length ≤ 1000000 →
    ∃ M' found' o', forL x (.nm 4) (mixBody c) ks [some (.ref a), some d1, some (.ref n), some (.ref (n + 1)), o] (M ++ [.lst left, .lst found]) = .ok (.nx [some (.ref a), some d1, some (.ref n), some (.ref (n + 1)), o']) (M' ++ [.lst [], .lst found']) ∧ found'.Perm (found ++ left) ∧ SameBut a b M M' ∧ Dk M' a b (N + ks.length)
  | [], left, found, M, N, o, hn, hl, hz, hk, hN => by
    have : left = [] := List.eq_nil_of_length_eq_zero hl
    subst this
    exact ⟨M, found, o, for_nil (okx _), by rw [List.append_nil], SameBut.refl a b M, hk⟩
  | k :: ks, left, found, M, N, o, hn, hl, hz, hk, hN => by
    rw [List.length_cons] at hl hN
    obtain ⟨la, lb⟩ := hk.lt
    obtain ⟨r, N1, e, r0, r1, s, K⟩ := P (M ++ [.lst left, .lst found]) N (left.length : Nat) hk.app (by omega) (by omega) (by omega)
    obtain ⟨M1, rfl, s1⟩ := s.split la lb
    have hn1 : M1.length = n := s1.1.trans hn
    have K1 : Dk M1 a b (N + 1) := K.cut (by rw [s1.1]; exact la) (by rw [s1.1]; exact lb)
    obtain ⟨j, rfl⟩ : ∃ j : Nat, r = (j : Int) := ⟨r.toNat, by omega⟩
    have hj : j < left.length := by omega
    obtain ⟨M', found', o', e', p', s', K'⟩ := mix_loop P okx d1 n ks (left.eraseIdx j) (found ++ [left[j]]) M1 (N + 1) (some k) hn1 (by rw [List.length_eraseIdx_of_lt hj]; omega) (by rw [List.length_append, List.length_eraseIdx_of_lt hj, List.length_singleton]; omega) K1 (by omega)
    refine ⟨M', found', o', ?_, ?_, s1.trans s', K'.more (by rw [List.length_cons]; omega)⟩
    · have hlen : fnE lenD (consE (var 2) nilE) [some (.ref a), some d1, some (.ref n), some (.ref (n + 1)), some k] (M ++ [.lst left, .lst found]) = .ok (.int (left.length : Nat)) (M ++ [.lst left, .lst found]) := by
        rw [fn1 (var_ok (d := .ref n) rfl)]
        unfold lenD
        subst hn
        simp only [mem0]
        rfl
      have hpop : mtE popAtD (var 2) (consE (callE (c 17) (consE (var 0) (consE (fnE lenD (consE (var 2) nilE)) nilE))) nilE) [some (.ref a), some d1, some (.ref n), some (.ref (n + 1)), some k] (M ++ [.lst left, .lst found]) = .ok left[j] (M1 ++ [.lst (left.eraseIdx j), .lst found]) := by
        unfold mtE
        rw [var_ok (d := .ref n) rfl, R.bind_ok]
        have hi : isL (M ++ [.lst left, .lst found]) (.ref n) = true := by subst hn; unfold isL; simp only [mem0]
        rw [if_pos hi, cons_ok ((call2 (var_ok (d := .ref a) rfl) hlen).trans e) nil_ok, R.bind_ok]
        unfold popAtD
        subst hn1
        have hsi : seqIndex? (j : Int) left.length = some j := by unfold seqIndex?; simp; omega
        simp only [mem0, hsi, List.getElem?_eq_getElem hj]
        rw [if_pos (by omega), mset0]
        rfl
      have happ := app_ok (i := 3) (n := n + 1) (xs := found) (ρ := [some (.ref a), some d1, some (.ref n), some (.ref (n + 1)), some k]) rfl (by subst hn; exact mem1) hpop (by subst hn1; exact mem1) (small_ok (by omega))
      have hb : mixBody c [some (.ref a), some d1, some (.ref n), some (.ref (n + 1)), some k] (M ++ [.lst left, .lst found]) = _ := expr_ok happ
      rw [for_nx (okx _) (ρ1 := [some (.ref a), some d1, some (.ref n), some (.ref (n + 1)), some k]) rfl hb]
      have hm : (M1 ++ [MO.lst (left.eraseIdx j), MO.lst found]).set (n + 1) (MO.lst (found ++ [left[j]])) = M1 ++ [MO.lst (left.eraseIdx j), MO.lst (found ++ [left[j]])] := by subst hn1; exact mset1
      rw [hm]
      exact e'
    · refine p'.trans ?_
      rw [List.append_assoc]
      exact List.Perm.append_left found (erase_perm left j hj)
theorem s19_mixed {fu : Nat} {c : Fn} {a b : Nat} (P : DrawC c a b) {M : Mem} {N i : Nat} {ds : List D} (hk : Dk M a b N) (hN : N + ds.length ≤ 1000000) (hds : M[i]? = some (.lst ds)) (h1 : ds.length ≤ 1000) :
    ∃ M' fs, runD 2 5 (m19 fu c) [.ref a, .ref i] M = .ok (.ref (M.length + 1)) (M' ++ [.lst [], .lst fs]) ∧ fs.Perm ds ∧ SameBut a b M M' ∧ Dk M' a b (N + ds.length) := by
  have hr : (rngD 0 ds.length).length = ds.length := by
    have : ∀ (n : Nat) (i : Int), (rngD i n).length = n := by
      intro n
      induction n with
      | zero => intro i; rfl
      | succ n ih => intro i; simp [rngD, ih]
    exact this _ _
  obtain ⟨M', fs, o', e, p, s, K⟩ := mix_loop P (x := ⟨rngD 0 ds.length, []⟩) (fun N => ok_nil N) (.ref i) M.length (rngD 0 ds.length) ds [] M N none rfl hr.symm (by simp; omega) hk (by omega)
  refine ⟨M', fs, ?_, by simpa using p, s, by rwa [hr] at K⟩
  have hm : m19 fu c [some (.ref a), some (.ref i), none, none, none] M = .ok (.rt (.ref (M.length + 1))) (M' ++ [.lst [], .lst fs]) := by
    show (seqS (parS 2 3 (consE (fnE listD (consE (var 1) nilE)) (consE (lstE nilE) nilE))) (seqS (forS (rng1I (consE (fnE lenD (consE (var 2) nilE)) nilE)) (.nm 4) (mixBody c)) (retS (var 3)))) [some (.ref a), some (.ref i), none, none, none] M = _
    have hli : fnE listD (consE (var 1) nilE) [some (.ref a), some (.ref i), none, none, none] M = .ok (.ref M.length) (M ++ [.lst ds]) := by
      rw [fn1 (var_ok (d := .ref i) rfl)]
      unfold listD seqB
      simp only [hds]
      rfl
    have hl0 : lstE nilE [some (.ref a), some (.ref i), none, none, none] (M ++ [.lst ds]) = .ok (.ref (M.length + 1)) (M ++ [.lst ds, .lst []]) := by
      rw [lst_ok nil_ok (small_ok (by simp))]
      simp
    have hp : parS 2 3 (consE (fnE listD (consE (var 1) nilE)) (consE (lstE nilE) nilE)) [some (.ref a), some (.ref i), none, none, none] M = .ok (.nx [some (.ref a), some (.ref i), some (.ref M.length), some (.ref (M.length + 1)), none]) (M ++ [.lst ds, .lst []]) := by
      unfold parS
      rw [cons_ok hli (cons_ok hl0 nil_ok)]
      rfl
    rw [seq_nx hp]
    have hlen : rng1I (consE (fnE lenD (consE (var 2) nilE)) nilE) [some (.ref a), some (.ref i), some (.ref M.length), some (.ref (M.length + 1)), none] (M ++ [.lst ds, .lst []]) = .ok ⟨rngD 0 ds.length, []⟩ (M ++ [.lst ds, .lst []]) := by
      have : fnE lenD (consE (var 2) nilE) [some (.ref a), some (.ref i), some (.ref M.length), some (.ref (M.length + 1)), none] (M ++ [.lst ds, .lst []]) = .ok (.int (ds.length : Nat)) (M ++ [.lst ds, .lst []]) := by
        rw [fn1 (var_ok (d := .ref M.length) rfl)]
        unfold lenD
        simp only [mem0]
        rfl
      unfold rng1I
      rw [cons_ok this nil_ok, R.bind_ok]
      simp only
      rw [if_pos (by omega)]
      rfl
    rw [seq_nx ((for_ok hlen).trans e)]
    exact ret_ok (var_ok rfl)
  refine (run_rt (M1 := M' ++ [.lst [], .lst fs]) (d := .ref (M.length + 1)) rfl hm).trans ?_
  rw [trunc_ok, if_neg]
  rintro ⟨h, _⟩
  have h : decide (M.length + 1 < M.length) = true := h
  exact absurd (of_decide_eq_true h) (by omega)
end W8

set_option Elab.async false
set_option linter.all false
set_option maxRecDepth 100000
namespace W8
open PySem L2 PySem.Spec PyProof.Rows

/-- the memory but for the deck, and what is laid behind it -/
def Gr (a b : Nat) (M M1 : Mem) : Prop := ∃ M' Y, M1 = M' ++ Y ∧ SameBut a b M M'
theorem Gr.refl (a b : Nat) (M : Mem) : Gr a b M M := ⟨M, [], by simp, SameBut.refl a b M⟩
theorem Gr.same {a b : Nat} {M M1 : Mem} (s : SameBut a b M M1) : Gr a b M M1 := ⟨M1, [], by simp, s⟩
theorem Gr.lay {a b : Nat} (M Y : Mem) : Gr a b M (M ++ Y) := ⟨M, Y, rfl, SameBut.refl a b M⟩
theorem Gr.trans {a b : Nat} {M M1 M2 : Mem} (g : Gr a b M M1) (h : Gr a b M1 M2) (la : a < M.length) (lb : b < M.length) : Gr a b M M2 := by
  obtain ⟨M', Y, rfl, s⟩ := g
  obtain ⟨M'', Z, rfl, t⟩ := h
  obtain ⟨M3, rfl, u⟩ := t.split (by rw [s.1]; exact la) (by rw [s.1]; exact lb)
  exact ⟨M3, Y ++ Z, by rw [List.append_assoc], s.trans u⟩
theorem Gr.len {a b : Nat} {M M1 : Mem} (g : Gr a b M M1) : M.length ≤ M1.length := by
  obtain ⟨M', Y, rfl, s⟩ := g
  rw [List.length_append, s.1]; omega
theorem Gr.get {a b : Nat} {M M1 : Mem} (g : Gr a b M M1) {i : Nat} {o : MO} (h1 : i ≠ a) (h2 : i ≠ b) (h : M[i]? = some o) : M1[i]? = some o := by
  obtain ⟨M', Y, rfl, s⟩ := g
  have hi := (List.getElem?_eq_some_iff.mp h).1
  rw [List.getElem?_append_left (by rw [s.1]; exact hi), s.2 i h1 h2]
  exact h
/-- a comprehension whose items draw -/
theorem lc_gr {a b : Nat} {x : W8.Its} (okx : ∀ N : Mem, x.ok N) {t : Tgt} {e : Ex} {ρ : Env} {f : D → Env} (hp : ∀ d M, t.put d ρ M = some (f d)) {Good : D → Prop} {step top : Nat}
    (H : ∀ (M : Mem) (k : Nat) (d : D), Dk M a b k → k + step ≤ top → ∃ y M', e (f d) M = .ok y M' ∧ Good y ∧ Gr a b M M' ∧ Dk M' a b (k + step)) :
    ∀ (ks : List D) (M : Mem) (k : Nat), Dk M a b k → k + ks.length * step ≤ top → ∃ ys M', lcL x t tru e ρ ks M = .ok ys M' ∧ ys.length = ks.length ∧ (∀ y ∈ ys, Good y) ∧ Gr a b M M' ∧ Dk M' a b (k + ks.length * step)
  | [], M, k, hk, _ => ⟨[], M, by unfold lcL; rw [if_pos (okx M)], rfl, (fun y hy => by cases hy), Gr.refl a b M, by simpa using hk⟩
  | d :: ks, M, k, hk, hN => by
    rw [List.length_cons, Nat.succ_mul] at hN
    obtain ⟨la, lb⟩ := hk.lt
    obtain ⟨y, M1, e1, gy, g1, k1⟩ := H M k d hk (by omega)
    obtain ⟨ys, M2, e2, l2, gs, g2, k2⟩ := lc_gr okx hp H ks M1 (k + step) k1 (by omega)
    refine ⟨y :: ys, M2, ?_, by rw [List.length_cons, List.length_cons, l2], ?_, g1.trans g2 la lb, k2.more (by rw [List.length_cons, Nat.succ_mul]; omega)⟩
    · unfold lcL
      rw [if_pos (okx M), hp]
      have ht : tru (f d) M = .ok true M := rfl
      simp only [ht, noE_ok, R.bind_ok, if_true, e1, e2]
    · intro z hz
      rcases List.mem_cons.mp hz with hz | hz
      · subst hz; exact gy
      · exact gs z hz
theorem pick_gr {c : Fn} {a b N : Nat} (P : PickC c a b) {ρ : Env} {M M1 : Mem} {es : Exs} {ds : List D} (hρ : ρ[0]? = some (some (.ref a))) (h : es ρ M = .ok ds M1) (hk : Dk M1 a b N) (hN : N ≤ 1000000) (h0 : 0 < ds.length) (h1 : ds.length ≤ 100000) (hp : ∀ d ∈ ds, d.lo (M1.length + 1) = true) :
    ∃ (d : D) (M' : Mem), callE (c 18) (consE (var 0) (consE (lstE es) nilE)) ρ M = .ok d M' ∧ d ∈ ds ∧ Gr a b M1 M' ∧ Dk M' a b (N + 1) := by
  obtain ⟨d, M', hd, e, s, K⟩ := pick_new P hρ h hk hN h0 h1 hp
  exact ⟨d, _, e, hd, ⟨M', [.lst ds], rfl, s⟩, K.app⟩
end W8

set_option Elab.async false
set_option linter.all false
set_option maxRecDepth 100000
namespace W8
open PySem L2 PySem.Spec PyProof.Rows

def costF : Nat → Nat
  | 0 => 5
  | n + 1 => 5 + 3 * costF n
def sizeF : Nat → Nat
  | 0 => 1
  | n + 1 => 1 + 3 * sizeF n
def BIG : Int := 1000000000000000000000000000000000000000
theorem lns_of : ∀ (ys : List D) (n h : Nat), (∀ y ∈ ys, ∃ l : Ln, y = l.d ∧ l.good BIG 2 ∧ l.size ≤ n ∧ l.high ≤ h) → ∃ ps : List Ln, ys = lnsD ps ∧ ps.length = ys.length ∧ goods BIG 2 ps ∧ sizes ps ≤ ys.length * n ∧ highs ps ≤ h
  | [], n, h, _ => ⟨[], rfl, rfl, by rw [goods]; trivial, by rw [sizes]; omega, by rw [highs]; omega⟩
  | y :: ys, n, h, H => by
    obtain ⟨l, rfl, gl, sl, hl⟩ := H y List.mem_cons_self
    obtain ⟨ps, rfl, lp, gp, sp, hp⟩ := lns_of ys n h fun z hz => H z (List.mem_cons_of_mem _ hz)
    refine ⟨l :: ps, by rw [lnsD], by simp [lp], by rw [goods]; exact ⟨gl, gp⟩, ?_, by rw [highs]; omega⟩
    rw [sizes, List.length_cons, Nat.succ_mul]; omega
theorem ints_of : ∀ (ys : List D), (∀ y ∈ ys, ∃ i : Int, y = .int i ∧ -BIG ≤ i ∧ i ≤ BIG) → ∃ is : List Int, ys = is.map D.int ∧ is.length = ys.length ∧ ∀ i ∈ is, -BIG ≤ i ∧ i ≤ BIG
  | [], _ => ⟨[], rfl, rfl, fun i hi => by cases hi⟩
  | y :: ys, H => by
    obtain ⟨i, rfl, h1, h2⟩ := H y List.mem_cons_self
    obtain ⟨is, rfl, l, h⟩ := ints_of ys fun z hz => H z (List.mem_cons_of_mem _ hz)
    refine ⟨i :: is, rfl, by simp, fun j hj => ?_⟩
    rcases List.mem_cons.mp hj with hj | hj
    · subst hj; exact ⟨h1, h2⟩
    · exact h j hj
end W8

set_option Elab.async false
set_option linter.all false
set_option maxRecDepth 100000
namespace W8
open PySem L2 PySem.Spec PyProof.Rows

def smallsD : List D := [.int 0, .int 1, .int (-1), .int 2, .int (-3), .int 10, .int 9, .int BIG, .int (-BIG)]
def smallsE : Exs := (consE (con (.int 0)) (consE (con (.int 1)) (consE (negE (con (.int 1))) (consE (con (.int 2)) (consE (negE (con (.int 3))) (consE (con (.int 10)) (consE (con (.int 9)) (consE (opE powD (con (.int 10)) (con (.int 39))) (consE (negE (opE powD (con (.int 10)) (con (.int 39)))) nilE)))))))))
theorem smallsE_ok (ρ : Env) (M : Mem) : smallsE ρ M = .ok smallsD M := by
  have hp : opE powD (con (.int 10)) (con (.int 39)) ρ M = .ok (.int BIG) M := by
    rw [op_ok (rfl : con (.int 10) ρ M = .ok (.int 10) M) (rfl : con (.int 39) ρ M = .ok (.int 39) M)]
    unfold powD
    simp only
    rw [if_pos (by decide)]
    rfl
  have hn : negE (opE powD (con (.int 10)) (con (.int 39))) ρ M = .ok (.int (-BIG)) M := by
    unfold negE
    rw [hp]; rfl
  unfold smallsE
  exact cons_ok rfl (cons_ok rfl (cons_ok rfl (cons_ok rfl (cons_ok rfl (cons_ok rfl (cons_ok rfl (cons_ok hp (cons_ok hn nil_ok))))))))
theorem small_in {y : D} (h : y ∈ smallsD) : ∃ i : Int, y = .int i ∧ -BIG ≤ i ∧ i ≤ BIG := by
  unfold smallsD at h
  have hb : BIG = 1000000000000000000000000000000000000000 := rfl
  simp only [List.mem_cons, List.not_mem_nil, or_false] at h
  rcases h with h | h | h | h | h | h | h | h | h <;> exact ⟨_, h, by omega, by omega⟩
theorem small_lo {y : D} (n : Nat) (h : y ∈ smallsD) : y.lo n = true := by
  obtain ⟨i, rfl, _⟩ := small_in h
  rfl
def namesE : Exs := (consE (con (.str "a")) (consE (con (.str "b")) (consE (con (.str "aa")) (consE (con (.str "ab")) (consE (con (.str "z9")) (consE (con (.str "z10")) (consE (con (.str "b1")) nilE)))))))
theorem namesE_ok (ρ : Env) (M : Mem) : namesE ρ M = .ok (NAMES.map D.str) M := by
  unfold namesE
  exact cons_ok rfl (cons_ok rfl (cons_ok rfl (cons_ok rfl (cons_ok rfl (cons_ok rfl (cons_ok rfl nil_ok))))))
/-- the smalls of a line -/
theorem lc_smalls {c : Fn} {a b : Nat} (P : PickC c a b) (d1 : D) (ks : List D) (k : Nat) (M : Mem) (hk : Dk M a b k) (hN : k + ks.length ≤ 1000000) : ∃ (is : List Int) (M' : Mem), is.length = ks.length ∧ (∀ i ∈ is, -BIG ≤ i ∧ i ≤ BIG) ∧ lcL ⟨ks, []⟩ (.nm 3) tru (callE (c 18) (consE (var 0) (consE (lstE smallsE) nilE))) [some (.ref a), some d1, none, none, none] ks M = .ok (is.map D.int) M' ∧ Gr a b M M' ∧ Dk M' a b (k + ks.length) := by
  obtain ⟨ys, M', e, l, g, gr, K⟩ := lc_gr (a := a) (b := b) (x := ⟨ks, []⟩) (fun N => ok_nil N) (t := .nm 3) (e := callE (c 18) (consE (var 0) (consE (lstE smallsE) nilE))) (ρ := [some (.ref a), some d1, none, none, none]) (f := fun d => [some (.ref a), some d1, none, some d, none]) (fun d M => rfl) (Good := fun y => y ∈ smallsD) (step := 1) (top := 1000000) (fun M k d hk hN => by
    obtain ⟨y, M', e, hy, gr, K⟩ := pick_gr P (ρ := [some (.ref a), some d1, none, some d, none]) rfl (smallsE_ok _ M) hk (by omega) (by decide) (by decide) (fun d hd => small_lo _ hd)
    exact ⟨y, M', e, hy, gr, K⟩) ks M k hk (by omega)
  obtain ⟨is, rfl, l2, h⟩ := ints_of ys fun y hy => small_in (g y hy)
  exact ⟨is, M', by omega, h, e, gr, by simpa using K⟩
end W8

set_option Elab.async false
set_option linter.all false
set_option maxRecDepth 100000
namespace W8
open PySem L2 PySem.Spec PyProof.Rows

theorem rngD_len : ∀ (n : Nat) (i : Int), (rngD i n).length = n
  | 0, i => rfl
  | n + 1, i => by simp [rngD, rngD_len n]
theorem rng_ok {e : Ex} {ρ : Env} {M M1 : Mem} {r : Int} (h : e ρ M = .ok (.int r) M1) (h0 : 0 ≤ r) (h1 : r < 1000) : rng1I (consE e nilE) ρ M = .ok ⟨rngD 0 r.toNat, []⟩ M1 := by
  unfold rng1I
  rw [cons_ok h nil_ok, R.bind_ok]
  simp only
  rw [if_pos (by omega)]
theorem tupl_ok {e : Ex} {ρ : Env} {M M1 : Mem} {ys : List D} (h : e ρ M = .ok (.ref M1.length) (M1 ++ [.lst ys])) : fnE tupleD (consE e nilE) ρ M = .ok (.tup ys) (M1 ++ [.lst ys]) := by
  rw [fn1 h]
  unfold tupleD seqB
  simp only [mem0]
  rfl
def FormedC (c : Fn) (a b deep : Nat) : Prop := ∀ (M : Mem) (N : Nat), Dk M a b N → N + costF deep ≤ 1000000 → ∃ (l : Ln) (M' : Mem), c 25 [.ref a, .int deep] M = .ok l.d M' ∧ (l.good BIG 2 ∧ l.size ≤ sizeF deep ∧ l.high ≤ deep + 1) ∧ SameBut a b M M' ∧ Dk M' a b (N + costF deep)
theorem formed_parts {c : Fn} {a b deep : Nat} (D3 : DrawC c a b) (RC : ∀ d, d + 1 = deep → FormedC c a b d) (hd : deep ≤ 3) (d2 : D) (M : Mem) (N : Nat) (hk : Dk M a b N) (hN : N + (costF deep - 4) ≤ 1000000) :
    ∃ (ps : List Ln) (M' : Mem), fnE tupleD (consE (lcE (rng1I (consE (ifE (asT (opE gtD (var 1) (con (.int 0)))) (callE (c 17) (consE (var 0) (consE (con (.int 4)) nilE))) (con (.int 0))) nilE)) [3] (.nm 3) tru (callE (c 25) (consE (var 0) (consE (opE subD (var 1) (con (.int 1))) nilE)))) nilE) [some (.ref a), some (.int (deep : Int)), some d2, none, none] M = .ok (.tup (lnsD ps)) M' ∧ goods BIG 2 ps ∧ 1 + sizes ps ≤ sizeF deep ∧ highs ps ≤ deep ∧ Gr a b M M' ∧ Dk M' a b (N + (costF deep - 4)) := by
  obtain ⟨la, lb⟩ := hk.lt
  cases deep with
  | zero =>
    have h1 : ifE (asT (opE gtD (var 1) (con (.int 0)))) (callE (c 17) (consE (var 0) (consE (con (.int 4)) nilE))) (con (.int 0)) [some (.ref a), some (.int ((0 : Nat) : Int)), some d2, none, none] M = .ok (.int 0) M := rfl
    have hr := rng_ok h1 (by omega) (by omega)
    have e2 : lcL ⟨rngD 0 (0 : Int).toNat, []⟩ (.nm 3) tru (callE (c 25) (consE (var 0) (consE (opE subD (var 1) (con (.int 1))) nilE))) (wipeE [some (.ref a), some (.int ((0 : Nat) : Int)), some d2, none, none] [3]) (rngD 0 (0 : Int).toNat) M = .ok [] M := by
      show lcL _ _ _ _ _ [] M = _
      unfold lcL
      rw [if_pos (ok_nil M)]
    refine ⟨[], M ++ [.lst []], by rw [lnsD]; exact tupl_ok (lc_ok (vs := [3]) hr (small_ok (Nat.zero_le _)) e2), by rw [goods]; trivial, by simp [sizes, sizeF], by simp [highs], Gr.lay M _, hk.app.more (by omega)⟩
  | succ d =>
    have hc : costF (d + 1) = 5 + 3 * costF d := rfl
    obtain ⟨r, M1, e1, r0, r1, s1, k1⟩ := D3 M N 4 hk (by omega) (by omega) (by omega)
    have h1 : ifE (asT (opE gtD (var 1) (con (.int 0)))) (callE (c 17) (consE (var 0) (consE (con (.int 4)) nilE))) (con (.int 0)) [some (.ref a), some (.int ((d + 1 : Nat) : Int)), some d2, none, none] M = .ok (.int r) M1 := by
      have hg : asT (opE gtD (var 1) (con (.int 0))) [some (.ref a), some (.int ((d + 1 : Nat) : Int)), some d2, none, none] M = .ok true M := by
        refine as_ok ?_
        rw [op_ok (var_ok (d := .int ((d + 1 : Nat) : Int)) rfl) (rfl : con (.int 0) _ M = .ok (.int 0) M)]
        show R.ok (D.bl (decide ((0 : Int) < ((d + 1 : Nat) : Int)))) M = _
        rw [decide_eq_true (by omega)]
      unfold ifE
      rw [hg, R.bind_ok, if_pos rfl]
      exact (call2 (var_ok (d := .ref a) rfl) (rfl : con (.int 4) _ M = .ok (.int 4) M)).trans e1
    have hr := rng_ok h1 r0 (by omega)
    have hmul : r.toNat * costF d ≤ 3 * costF d := Nat.mul_le_mul_right _ (by omega)
    obtain ⟨ys, M2, e2, l2, g2, gr, k2⟩ := lc_gr (a := a) (b := b) (x := ⟨rngD 0 r.toNat, []⟩) (fun N => ok_nil N) (t := .nm 3) (e := callE (c 25) (consE (var 0) (consE (opE subD (var 1) (con (.int 1))) nilE))) (ρ := [some (.ref a), some (.int ((d + 1 : Nat) : Int)), some d2, none, none]) (f := fun z => [some (.ref a), some (.int ((d + 1 : Nat) : Int)), some d2, some z, none]) (fun d M => rfl) (Good := fun y => ∃ l : Ln, y = l.d ∧ l.good BIG 2 ∧ l.size ≤ sizeF d ∧ l.high ≤ d + 1) (step := costF d) (top := 1000000) (fun M k z hk hN => by
      obtain ⟨l, M', e, hl, s, K⟩ := RC d rfl M k hk hN
      refine ⟨l.d, M', ?_, ⟨l, rfl, hl⟩, Gr.same s, K⟩
      have hs : opE subD (var 1) (con (.int 1)) [some (.ref a), some (.int ((d + 1 : Nat) : Int)), some d2, some z, none] M = .ok (.int (d : Int)) M := by
        rw [sub_ok (var_ok (d := .int ((d + 1 : Nat) : Int)) rfl) (rfl : con (.int 1) _ M = .ok (.int 1) M)]
        congr 2; omega
      exact (call2 (var_ok (d := .ref a) rfl) hs).trans e) (rngD 0 r.toNat) M1 (N + 1) k1 (by rw [rngD_len]; omega)
    rw [rngD_len] at l2 k2
    obtain ⟨ps, rfl, lp, gp, sp, hp⟩ := lns_of ys _ _ g2
    have hm2 : ((lnsD ps).length) * sizeF d ≤ 3 * sizeF d := Nat.mul_le_mul_right _ (by omega)
    refine ⟨ps, M2 ++ [.lst (lnsD ps)], tupl_ok (lc_ok (vs := [3]) hr (by rw [rngD_len]; exact small_ok (by omega)) e2), gp, ?_, hp, ?_, k2.app.more (by omega)⟩
    · show 1 + sizes ps ≤ 1 + 3 * sizeF d
      omega
    · exact ((Gr.same s1).trans gr la lb).trans (Gr.lay _ _) la lb
theorem s25_formed {c : Fn} {a b deep fu : Nat} (D3 : DrawC c a b) (P : PickC c a b) (RC : ∀ d, d + 1 = deep → FormedC c a b d) (hd : deep ≤ 3) : ∀ (M : Mem) (N : Nat), Dk M a b N → N + costF deep ≤ 1000000 → ∃ (l : Ln) (M' : Mem), runD 2 5 (m25 fu c) [.ref a, .int deep] M = .ok l.d M' ∧ (l.good BIG 2 ∧ l.size ≤ sizeF deep ∧ l.high ≤ deep + 1) ∧ SameBut a b M M' ∧ Dk M' a b (N + costF deep) := by
  intro M N hk hN
  have hc5 : 5 ≤ costF deep := by cases deep <;> simp [costF]
  obtain ⟨la, lb⟩ := hk.lt
  obtain ⟨r, M1, e1, r0, r1, s1, k1⟩ := D3 M N 3 hk (by omega) (by omega) (by omega)
  have hr1 := rng_ok (e := callE (c 17) (consE (var 0) (consE (con (.int 3)) nilE))) (ρ := [some (.ref a), some (.int (deep : Int)), none, none, none]) ((call2 (var_ok (d := .ref a) rfl) (rfl : con (.int 3) _ M = .ok (.int 3) M)).trans e1) r0 (by omega)
  obtain ⟨is, M2, li, gi, e2, g2, k2⟩ := lc_smalls P (.int (deep : Int)) (rngD 0 r.toNat) (N + 1) M1 k1 (by rw [rngD_len]; omega)
  rw [rngD_len] at li k2
  have h2 := tupl_ok (lc_ok (vs := [3]) hr1 (by rw [rngD_len]; exact small_ok (by omega)) e2)
  obtain ⟨ps, M3, e3, gp, sp, hp, g3, k3⟩ := formed_parts D3 RC hd (.tup (is.map D.int)) (M2 ++ [.lst (is.map D.int)]) (N + 1 + r.toNat) k2.app (by omega)
  have g03 : Gr a b M M3 := (((Gr.same s1).trans g2 la lb).trans (Gr.lay _ _) la lb).trans g3 la lb
  obtain ⟨y, M4, e4, hy, g4, k4⟩ := pick_gr P (ρ := [some (.ref a), some (.int (deep : Int)), some (.tup (is.map D.int)), none, some (.tup (lnsD ps))]) rfl (namesE_ok _ M3) k3 (by omega) (by decide) (by decide) (fun d hd => by
    obtain ⟨x, _, rfl⟩ := List.mem_map.mp hd
    rfl)
  obtain ⟨nm, hnm, rfl⟩ := List.mem_map.mp hy
  obtain ⟨M', Y, rfl, s⟩ := g03.trans g4 la lb
  have hm : m25 fu c [some (.ref a), some (.int (deep : Int)), none, none, none] M = .ok (.rt (Ln.mk nm is ps).d) (M' ++ Y) := by
    rw [Ln.d_mk]
    refine (seq_nx (set_ok (i := 2) h2)).trans ((seq_nx (set_ok (i := 4) e3)).trans (ret_ok (tup_ok (cons_ok e4 (cons_ok (var_ok rfl) (cons_ok (var_ok rfl) nil_ok))) (small_ok (by simp)))))
  have kf : Dk M' a b (N + costF deep) := (k4.cut (by rw [s.1]; exact la) (by rw [s.1]; exact lb)).more (by omega)
  refine ⟨.mk nm is ps, M', run_upd (X := Y) rfl hm (D.pure_lo _ _ (Ln.pure _)) s.1 (s.tr kf), ⟨?_, by rw [Ln.size]; exact sp, by rw [Ln.high]; omega⟩, s, kf⟩
  rw [Ln.good]
  exact ⟨hnm, gi, by omega, gp⟩
theorem formedC (fu L a b : Nat) : ∀ deep : Nat, deep ≤ 3 → FormedC (callK fu (L + 3 + deep)) a b deep
  | 0, h => fun M N hk hN => by
    have := s25_formed (fu := fu) (drawC fu (L + 1) a b) (pickC fu L a b) (deep := 0) (fun d hd => by omega) h M N hk hN
    show ∃ (l : Ln) (M' : Mem), callK fu (L + 2 + 1) 25 _ _ = _ ∧ _
    rw [callK_25]; exact this
  | deep + 1, h => fun M N hk hN => by
    have := s25_formed (fu := fu) (c := callK fu (L + 3 + deep)) (deep := deep + 1) (by have := drawC fu (L + 2 + deep) a b; rwa [show L + 2 + deep + 1 = L + 3 + deep from by omega] at this) (by have := pickC fu (L + 1 + deep) a b; rwa [show L + 1 + deep + 2 = L + 3 + deep from by omega] at this) (fun d hd => by cases hd; exact formedC fu L a b deep (by omega)) h M N hk hN
    show ∃ (l : Ln) (M' : Mem), callK fu (L + 3 + deep + 1) 25 _ _ = _ ∧ _
    rw [callK_25]; exact this
end W8

set_option Elab.async false
set_option linter.all false
set_option maxRecDepth 100000
namespace W8
open PySem L2 PySem.Spec PyProof.Rows

theorem whole_ok (fu L : Nat) (i : Int) (M : Mem) : callK fu (L + 1) 0 [.int i] M = .ok (.bl (decide (-10000000000000000000000000000000000000000 < i) && decide (i < 10000000000000000000000000000000000000000))) M := by
  rw [callK_0]; exact s0_int fu _ i M
theorem formC (fu L w : Nat) (hw : w ≤ 1000) (b : Int) (hb : b < 10000000000000000000000000000000000000000) : FormC (callK fu (L + 2)) b w where
  c2 := fun ds n M => by rw [callK_2]; exact s2_tup fu _ ds n M
  c4 := fun nm hn M => by
    rw [callK_4]
    unfold NAMES at hn
    simp only [List.mem_cons, List.not_mem_nil, or_false] at hn
    rcases hn with h | h | h | h | h | h | h <;> subst h <;>
    refine (s4_str fu _ _ M _ _ (by decide) (by decide) rfl).trans ?_ <;> rfl
  c3 := fun sm hs hl M => by
    rw [callK_3]
    refine (s3_tup fu _ (sm.map D.int) (fun _ => true) M (by rw [List.length_map]; exact small_ok (by omega)) fun d hd M => ?_).trans ?_
    · obtain ⟨i, hi, rfl⟩ := List.mem_map.mp hd
      rw [whole_ok]
      have := hs i hi
      rw [decide_eq_true (by omega), decide_eq_true (by omega)]; rfl
    · simp
end W8

set_option Elab.async false
set_option linter.all false
set_option maxRecDepth 100000
namespace W8
open PySem L2 PySem.Spec PyProof.Rows

/-- what the defs of the program tell of good lines -/
def BB : Int := 9000000000000000000000000000000000000000
theorem k5 (L : Nat) (l : Ln) (M : Mem) (g : l.good BB 1000) (hs : l.size < FU) : callK FU (L + 3) 5 [l.d] M = .ok (.bl true) M := by
  rw [callK_5]; exact s5_line (formC FU L 1000 (by omega) BB (by decide)) l M g hs (by decide)
theorem k6 (L : Nat) (l : Ln) (M : Mem) (g : l.good BB 1000) (hs : l.size < FU) : callK FU (L + 4) 6 [l.d] M = .ok .non M := by
  rw [callK_6]; exact s6_ok (k5 L l M g hs)
theorem k8 (L : Nat) (l : Ln) (M : Mem) (hs : l.size < FU) : callK FU (L + 2) 8 [l.d] M = .ok (.int l.size) M := by
  rw [callK_8]
  obtain ⟨fs, X, h, e⟩ := s7_line FU (callK FU L) l M hs (by decide)
  exact s8_line (by rw [callK_7]; exact e) h
theorem k9 (L : Nat) (l : Ln) (M : Mem) (hs : l.size < FU) : callK FU (L + 3) 9 [l.d] M = .ok (.tup [.int l.size, l.d]) M := by
  rw [callK_9]; exact s9_line (k8 L l M hs)
theorem k10 (L : Nat) (l : Ln) (M : Mem) (g : l.good BB 1000) (hs : l.size < FU) : callK FU (L + 5) 10 [l.d] M = .ok (.int l.size) M := by
  rw [callK_10]; exact s10_ok (k6 L l M g hs) (k8 (L + 2) l M hs)
end W8

set_option Elab.async false
set_option linter.all false
set_option maxRecDepth 100000
namespace W8
open PySem L2 PySem.Spec PyProof.Rows

theorem k11 (L : Nat) (l m : Ln) (M : Mem) (g : l.good BB 1000) (g' : m.good BB 1000) (hs : l.size < FU) (hs' : m.size < FU) (hh : l.high ≤ 31) (b1 : Bd l) (b2 : Bd m) : callK FU (L + 5) 11 [l.d, m.d] M = .ok (.bl (decide (cmpD l.key m.key < 0))) M := by
  rw [callK_11]; exact s11_ok (k6 L l M g hs) (k6 L m M g' hs') (k9 (L + 1) l M hs) (k9 (L + 1) m M hs') (lt_keys hh b1 b2)
end W8

set_option Elab.async false
set_option linter.all false
set_option maxRecDepth 100000
namespace W8
open PySem L2 PySem.Spec PyProof.Rows

theorem good_more {b b' : Int} {w w' : Nat} (hb : b ≤ b') (hw : w ≤ w') : ∀ (n : Nat) (l : Ln), l.high ≤ n → l.good b w → l.good b' w'
  | 0, l, h, _ => by obtain ⟨nm, sm, ps⟩ := l; rw [Ln.high] at h; omega
  | n + 1, .mk nm sm ps, h, g => by
    rw [Ln.high] at h
    rw [Ln.good] at g ⊢
    refine ⟨g.1, fun i hi => ?_, by omega, goods_mem.mpr fun p hp => ?_⟩
    · have := g.2.1 i hi; omega
    · have := mem_highs hp
      exact good_more hb hw n p (by omega) (goods_mem.mp g.2.2.2 p hp)
theorem Ln.more {b b' : Int} {w w' : Nat} {l : Ln} (g : l.good b w) (hb : b ≤ b') (hw : w ≤ w') : l.good b' w' := good_more hb hw l.high l (Nat.le_refl _) g
theorem highs_le {n : Nat} : ∀ {ps : List Ln}, (∀ p ∈ ps, p.high ≤ n) → highs ps ≤ n
  | [], _ => by rw [highs]; omega
  | p :: ps, h => by
    have h1 := h p List.mem_cons_self
    have h2 := highs_le fun q hq => h q (List.mem_cons_of_mem _ hq)
    rw [highs]; omega
theorem sizes_drop1 (ps : List Ln) : sizes (ps.drop 1) ≤ sizes ps := by
  cases ps with
  | nil => exact Nat.le_refl _
  | cons p ps => rw [List.drop_succ_cons, List.drop_zero, sizes]; omega
theorem rev_tup {ρ : Env} {M : Mem} {a : Ex} {xs : List D} (h : a ρ M = .ok (.tup xs) M) : stE a noP noP (smP (negE (con (.int 1)))) ρ M = .ok (.tup xs.reverse) M := by
  unfold stE
  rw [h]; rfl
theorem mk_ok {ρ : Env} {M M1 M2 M3 : Mem} {e1 e2 e3 : Ex} {nm : Str} {sm : List Int} {ps : List Ln} (h1 : e1 ρ M = .ok (.str nm) M1) (h2 : e2 ρ M1 = .ok (.tup (sm.map D.int)) M2) (h3 : e3 ρ M2 = .ok (.tup (lnsD ps)) M3) : tupE (consE e1 (consE e2 (consE e3 nilE))) ρ M = .ok (Ln.mk nm sm ps).d M3 :=
  (tup_ok (cons_ok h1 (cons_ok h2 (cons_ok h3 nil_ok))) (small_ok (show 3 ≤ 1000000 by decide))).trans (by rw [Ln.d_mk])
/-- smalls, each one more or less -/
theorem lc_shift {c : Fn} {a b : Nat} (D3 : DrawC c a b) {x : W8.Its} (okx : ∀ N : Mem, x.ok N) {ρ : Env} {f : D → Env} (h0 : ∀ d, (f d)[0]? = some (some (.ref a))) (h7 : ∀ d, (f d)[7]? = some (some d)) (hp : ∀ d M, (Tgt.nm 7).put d ρ M = some (f d)) (B : Int) : ∀ (sm : List Int) (M : Mem) (k : Nat), Dk M a b k → k + sm.length ≤ 1000000 → (∀ i ∈ sm, -B ≤ i ∧ i ≤ B) →
    ∃ (sm' : List Int) (M' : Mem), lcL x (.nm 7) tru (opE subD (opE addD (var 7) (callE (c 17) (consE (var 0) (consE (con (.int 3)) nilE)))) (con (.int 1))) ρ (sm.map D.int) M = .ok (sm'.map D.int) M' ∧ sm'.length = sm.length ∧ (∀ i ∈ sm', -(B + 1) ≤ i ∧ i ≤ B + 1) ∧ Gr a b M M' ∧ Dk M' a b (k + sm.length)
  | [], M, k, hk, _, _ => ⟨[], M, by rw [List.map_nil]; unfold lcL; rw [if_pos (okx M)], rfl, (fun y hy => by cases hy), Gr.refl a b M, by simpa using hk⟩
  | i :: sm, M, k, hk, hN, hs => by
    rw [List.length_cons] at hN
    obtain ⟨la, lb⟩ := hk.lt
    obtain ⟨r, M1, e1, r0, r1, s1, k1⟩ := D3 M k 3 hk (by omega) (by omega) (by omega)
    obtain ⟨sm', M2, e2, l2, gs, g2, k2⟩ := lc_shift D3 okx h0 h7 hp B sm M1 (k + 1) k1 (by omega) fun j hj => hs j (List.mem_cons_of_mem _ hj)
    have hi := hs i List.mem_cons_self
    refine ⟨(i + r - 1) :: sm', M2, ?_, by simp [l2], fun j hj => ?_, (Gr.same s1).trans g2 la lb, k2.more (by rw [List.length_cons]; omega)⟩
    · rw [List.map_cons]
      unfold lcL
      rw [if_pos (okx M), hp]
      have ht : tru (f (.int i)) M = .ok true M := rfl
      have he : (opE subD (opE addD (var 7) (callE (c 17) (consE (var 0) (consE (con (.int 3)) nilE)))) (con (.int 1))) (f (.int i)) M = .ok (.int (i + r - 1)) M1 :=
        sub_ok (add_ok (var_ok (h7 _)) ((call2 (var_ok (h0 _)) (rfl : con (.int 3) _ M = .ok (.int 3) M)).trans e1)) rfl
      simp only [ht, noE_ok, R.bind_ok, if_true, he, e2, List.map_cons]
    · rcases List.mem_cons.mp hj with hj | hj
      · subst hj; omega
      · exact gs j hj
def names4 : List Str := ["a", "b", "aa", "z9"]
def names4E : Exs := (consE (con (.str "a")) (consE (con (.str "b")) (consE (con (.str "aa")) (consE (con (.str "z9")) nilE))))
theorem names4E_ok (ρ : Env) (M : Mem) : names4E ρ M = .ok (names4.map D.str) M := cons_ok rfl (cons_ok rfl (cons_ok rfl (cons_ok rfl nil_ok)))
theorem names4_in {x : Str} (h : x ∈ names4) : x ∈ NAMES := by
  unfold names4 at h
  unfold NAMES
  simp only [List.mem_cons, List.not_mem_nil, or_false] at h ⊢
  rcases h with h | h | h | h <;> simp [h]
/-- the near ones of a part -/
def cands (x nm : Str) (sm sm' : List Int) (ps : List Ln) (fl : Ln) : List Ln :=
  [.mk x sm ps, .mk nm (sm ++ [0]) ps, .mk nm (sm.drop 1) ps, .mk nm sm' ps, .mk nm sm ps.reverse, .mk nm sm (ps ++ [.mk "a" [] []]), .mk nm sm (ps.drop 1), .mk nm sm.reverse ps, .mk "b" [] [.mk nm sm ps], fl]
theorem cands_ok {B : Int} {w : Nat} {x nm : Str} {sm sm' : List Int} {ps : List Ln} {fl : Ln} (hx : x ∈ NAMES) (g : (Ln.mk nm sm ps).good B w) (hB : BIG ≤ B) (hw : 2 ≤ w) (hl : sm'.length = sm.length) (gs : ∀ i ∈ sm', -(B + 1) ≤ i ∧ i ≤ B + 1) (gf : fl.good BIG 2) (sf : fl.size ≤ 4) (hf : fl.high ≤ 2) : ∀ y ∈ cands x nm sm sm' ps fl, y.good (B + 1) (w + 1) ∧ y.size ≤ (Ln.mk nm sm ps).size + 4 ∧ y.high ≤ (Ln.mk nm sm ps).high + 2 := by
  have hbig : BIG = 1000000000000000000000000000000000000000 := rfl
  have g' := Ln.more g (show B ≤ B + 1 by omega) (show w ≤ w + 1 by omega)
  have g0 := g'
  rw [Ln.good] at g g'
  obtain ⟨n1, b1, l1, q1⟩ := g
  obtain ⟨_, b2, l2, q2⟩ := g'
  have d1 := sizes_drop1 ps
  have hd1 : highs (ps.drop 1) ≤ highs ps := highs_le fun p hp => mem_highs (List.mem_of_mem_drop hp)
  have hr1 : highs ps.reverse ≤ highs ps := highs_le fun p hp => mem_highs (List.mem_reverse.mp hp)
  have ha1 : highs (ps ++ [Ln.mk "a" [] []]) ≤ highs ps + 1 := highs_le fun p hp => by
    rcases List.mem_append.mp hp with h | h
    · have := mem_highs h; omega
    · rw [List.mem_singleton.mp h, Ln.high, highs]; omega
  have gz : (Ln.mk "a" [] []).good (B + 1) (w + 1) := by
    rw [Ln.good]
    refine ⟨by simp [NAMES], (fun i hi => by cases hi), by simp, ?_⟩
    rw [goods]; trivial
  intro y hy
  unfold cands at hy
  simp only [List.mem_cons, List.not_mem_nil, or_false] at hy
  rw [Ln.size, Ln.high]
  rcases hy with h | h | h | h | h | h | h | h | h | h <;> subst h
  · rw [Ln.good, Ln.size, Ln.high]
    exact ⟨⟨hx, b2, l2, q2⟩, by omega, by omega⟩
  · rw [Ln.good, Ln.size, Ln.high]
    refine ⟨⟨n1, fun i hi => ?_, by rw [List.length_append, List.length_singleton]; omega, q2⟩, by omega, by omega⟩
    rcases List.mem_append.mp hi with h | h
    · exact b2 i h
    · rw [List.mem_singleton.mp h]; omega
  · rw [Ln.good, Ln.size, Ln.high]
    refine ⟨⟨n1, fun i hi => b2 i (List.mem_of_mem_drop hi), by rw [List.length_drop]; omega, q2⟩, by omega, by omega⟩
  · rw [Ln.good, Ln.size, Ln.high]
    exact ⟨⟨n1, gs, by omega, q2⟩, by omega, by omega⟩
  · rw [Ln.good, Ln.size, Ln.high, sizes_reverse]
    exact ⟨⟨n1, b2, l2, goods_mem.mpr fun p hp => goods_mem.mp q2 p (List.mem_reverse.mp hp)⟩, by omega, by omega⟩
  · rw [Ln.good, Ln.size, Ln.high, sizes_append]
    refine ⟨⟨n1, b2, l2, goods_mem.mpr fun p hp => ?_⟩, ?_, by omega⟩
    · rcases List.mem_append.mp hp with h | h
      · exact goods_mem.mp q2 p h
      · rw [List.mem_singleton.mp h]; exact gz
    · rw [sizes, sizes, Ln.size, sizes]; omega
  · rw [Ln.good, Ln.size, Ln.high]
    exact ⟨⟨n1, b2, l2, goods_mem.mpr fun p hp => goods_mem.mp q2 p (List.mem_of_mem_drop hp)⟩, by omega, by omega⟩
  · rw [Ln.good, Ln.size, Ln.high]
    exact ⟨⟨n1, fun i hi => b2 i (List.mem_reverse.mp hi), by rw [List.length_reverse]; omega, q2⟩, by omega, by omega⟩
  · refine ⟨?_, ?_, ?_⟩
    · rw [Ln.good]
      refine ⟨by simp [NAMES], (fun i hi => by cases hi), by simp, ?_⟩
      rw [goods, goods]
      exact ⟨g0, trivial⟩
    · rw [Ln.size, sizes, sizes, Ln.size]; omega
    · rw [Ln.high, highs, highs, Ln.high]; omega
  · exact ⟨Ln.more gf (by omega) (by omega), by omega, by omega⟩
end W8

set_option Elab.async false
set_option linter.all false
set_option maxRecDepth 100000
namespace W8
open PySem L2 PySem.Spec PyProof.Rows

theorem lns_mem {d : D} {ps : List Ln} (h : d ∈ lnsD ps) : ∃ y ∈ ps, d = y.d := by
  rw [lnsD_map] at h
  obtain ⟨y, h1, h2⟩ := List.mem_map.mp h
  exact ⟨y, h1, h2.symm⟩
/-- a pick from a list in the memory -/
theorem pick_at {c : Fn} {a b N : Nat} (P : PickC c a b) {M : Mem} {i : Nat} {ds : List D} (hk : Dk M a b N) (hN : N ≤ 1000000) (hi : i ≠ b) (hd : M[i]? = some (.lst ds)) (h0 : 0 < ds.length) (h1 : ds.length ≤ 100000) (hp : ∀ d ∈ ds, d.lo M.length = true) :
    ∃ (d : D) (M' : Mem), d ∈ ds ∧ c 18 [.ref a, .ref i] M = .ok d M' ∧ Gr a b M M' ∧ Dk M' a b (N + 1) := by
  obtain ⟨d, M', h, e, s, K⟩ := P M N i ds hk hN hi hd h0 h1 hp
  exact ⟨d, M', h, e, Gr.same s, K⟩
theorem pl_pure : ∀ p : List Nat, (plD p).pure = true
  | [] => rfl
  | k :: p => pl_pure p
theorem places_pure (l : Ln) : ∀ d ∈ (places l).map plD, ∀ n : Nat, d.lo n = true := by
  intro d hd n
  obtain ⟨p, _, rfl⟩ := List.mem_map.mp hd
  exact D.pure_lo _ _ (pl_pure p)
noncomputable def someE (c : Fn) : Exs := (consE (tupE (consE (callE (c 18) (consE (var 0) (consE (lstE names4E) nilE))) (consE (var 4) (consE (var 5) nilE)))) (consE (tupE (consE (var 3) (consE (opE addD (var 4) (tupE (consE (con (.int 0)) nilE))) (consE (var 5) nilE)))) (consE (tupE (consE (var 3) (consE (slE (var 4) (smP (con (.int 1))) noP) (consE (var 5) nilE)))) (consE (tupE (consE (var 3) (consE (fnE tupleD (consE (lcE (valI (var 4)) [7] (.nm 7) tru (opE subD (opE addD (var 7) (callE (c 17) (consE (var 0) (consE (con (.int 3)) nilE)))) (con (.int 1)))) nilE)) (consE (var 5) nilE)))) (consE (tupE (consE (var 3) (consE (var 4) (consE (stE (var 5) noP noP (smP (negE (con (.int 1))))) nilE)))) (consE (tupE (consE (var 3) (consE (var 4) (consE (opE addD (var 5) (tupE (consE (tupE (consE (con (.str "a")) (consE (tupE nilE) (consE (tupE nilE) nilE)))) nilE))) nilE)))) (consE (tupE (consE (var 3) (consE (var 4) (consE (slE (var 5) (smP (con (.int 1))) noP) nilE)))) (consE (tupE (consE (var 3) (consE (stE (var 4) noP noP (smP (negE (con (.int 1))))) (consE (var 5) nilE)))) (consE (tupE (consE (con (.str "b")) (consE (tupE nilE) (consE (tupE (consE (tupE (consE (var 3) (consE (var 4) (consE (var 5) nilE)))) nilE)) nilE)))) (consE (callE (c 25) (consE (var 0) (consE (con (.int 1)) nilE))) nilE))))))))))
theorem some_ok {c : Fn} {a b N : Nat} (D3 : DrawC c a b) (P : PickC c a b) (F1 : FormedC c a b 1) {M : Mem} {B : Int} {w : Nat} {nm : Str} {sm : List Int} {ps : List Ln} (d1 d2 : D) (g : (Ln.mk nm sm ps).good B w) (hw2 : w ≤ 20) (hs : (Ln.mk nm sm ps).size ≤ 1000) (hk : Dk M a b N) (hN : N + 50 ≤ 1000000) :
    ∃ (x : Str) (sm' : List Int) (fl : Ln) (M' : Mem), x ∈ NAMES ∧ sm'.length = sm.length ∧ (∀ i ∈ sm', -(B + 1) ≤ i ∧ i ≤ B + 1) ∧ fl.good BIG 2 ∧ fl.size ≤ 4 ∧ fl.high ≤ 2 ∧
      someE c [some (.ref a), some d1, some d2, some (.str nm), some (.tup (sm.map D.int)), some (.tup (lnsD ps)), none, none] M = .ok (lnsD (cands x nm sm sm' ps fl)) M' ∧ Gr a b M M' ∧ Dk M' a b (N + 50) := by
  let ρ : Env := [some (.ref a), some d1, some d2, some (.str nm), some (.tup (sm.map D.int)), some (.tup (lnsD ps)), none, none]
  rw [Ln.size] at hs
  rw [Ln.good] at g
  obtain ⟨n1, b1, l1, q1⟩ := g
  have hps := length_sizes ps
  obtain ⟨la, lb⟩ := hk.lt
  have v3 : ∀ M : Mem, var 3 ρ M = .ok (.str nm) M := fun M => var_ok rfl
  have v4 : ∀ M : Mem, var 4 ρ M = .ok (.tup (sm.map D.int)) M := fun M => var_ok rfl
  have v5 : ∀ M : Mem, var 5 ρ M = .ok (.tup (lnsD ps)) M := fun M => var_ok rfl
  have nils : ∀ M : Mem, tupE nilE ρ M = .ok (.tup (([] : List Int).map D.int)) M := fun M => tup_ok nil_ok (Nat.zero_le _)
  have nill : ∀ M : Mem, tupE nilE ρ M = .ok (.tup (lnsD [])) M := fun M => tup_ok nil_ok (Nat.zero_le _)
  obtain ⟨y, M1, e1, hy, g1, k1⟩ := pick_gr P (ρ := ρ) rfl (names4E_ok ρ M) hk (by omega) (by decide) (by decide) (fun d hd => by
    obtain ⟨x, _, rfl⟩ := List.mem_map.mp hd
    rfl)
  obtain ⟨x, hx, rfl⟩ := List.mem_map.mp hy
  obtain ⟨sm', M2, e2, l2, gs, g2, k2⟩ := lc_shift D3 (x := ⟨sm.map D.int, []⟩) (fun N => ok_nil N) (ρ := ρ) (f := fun d => [some (.ref a), some d1, some d2, some (.str nm), some (.tup (sm.map D.int)), some (.tup (lnsD ps)), none, some d]) (fun _ => rfl) (fun _ => rfl) (fun _ _ => rfl) B sm M1 (N + 1) k1 (by omega) b1
  have hv : valI (var 4) ρ M1 = .ok ⟨sm.map D.int, []⟩ M1 := val_tup (v4 M1)
  have e3 := tupl_ok (lc_ok (vs := [7]) hv (by rw [List.length_map]; exact small_ok (by omega)) e2)
  obtain ⟨fl, M4, e4, hfl, s4, k4⟩ := F1 (M2 ++ [.lst (sm'.map D.int)]) (N + 1 + sm.length) k2.app (by
    show N + 1 + sm.length + 20 ≤ 1000000
    omega)
  have k4 : Dk M4 a b (N + 1 + sm.length + 20) := k4
  refine ⟨x, sm', fl, M4, names4_in hx, l2, gs, hfl.1, hfl.2.1, hfl.2.2, ?_, ((g1.trans g2 la lb).trans (Gr.lay _ _) la lb).trans (Gr.same s4) la lb, k4.more (by omega)⟩
  have one : ∀ M : Mem, tupE (consE (con (.int 0)) nilE) ρ M = .ok (.tup [.int 0]) M := fun M => tup_ok (cons_ok rfl nil_ok) (small_ok (show 1 ≤ 1000000 by decide))
  have c0 := mk_ok (ρ := ρ) (nm := x) (sm := sm) (ps := ps) e1 (v4 M1) (v5 M1)
  have c1 : tupE (consE (var 3) (consE (opE addD (var 4) (tupE (consE (con (.int 0)) nilE))) (consE (var 5) nilE))) ρ M1 = .ok (Ln.mk nm (sm ++ [0]) ps).d M1 := mk_ok (v3 _) ((add_tup (v4 _) (one _) (by rw [List.length_map, List.length_singleton]; omega)).trans (by rw [List.map_append]; rfl)) (v5 _)
  have c2 : tupE (consE (var 3) (consE (slE (var 4) (smP (con (.int 1))) noP) (consE (var 5) nilE))) ρ M1 = .ok (Ln.mk nm (sm.drop 1) ps).d M1 := mk_ok (v3 _) ((sl_drop (k := 1) (v4 _) rfl).trans (by rw [List.map_drop])) (v5 _)
  have c3 := mk_ok (ρ := ρ) (nm := nm) (sm := sm') (ps := ps) (v3 M1) e3 (v5 _)
  let N2 : Mem := M2 ++ [.lst (sm'.map D.int)]
  have c4 : tupE (consE (var 3) (consE (var 4) (consE (stE (var 5) noP noP (smP (negE (con (.int 1))))) nilE))) ρ N2 = .ok (Ln.mk nm sm ps.reverse).d N2 := mk_ok (v3 _) (v4 _) ((rev_tup (v5 _)).trans (by rw [lns_rev]))
  have c5 : tupE (consE (var 3) (consE (var 4) (consE (opE addD (var 5) (tupE (consE (tupE (consE (con (.str "a")) (consE (tupE nilE) (consE (tupE nilE) nilE)))) nilE))) nilE))) ρ N2 = .ok (Ln.mk nm sm (ps ++ [.mk "a" [] []])).d N2 := mk_ok (v3 _) (v4 _) ((add_tup (v5 _) (tup_ok (cons_ok (mk_ok (nm := "a") (sm := []) (ps := []) rfl (nils _) (nill _)) nil_ok) (small_ok (show 1 ≤ 1000000 by decide))) (by rw [lns_len, List.length_singleton]; omega)).trans (by rw [lns_last]))
  have c6 : tupE (consE (var 3) (consE (var 4) (consE (slE (var 5) (smP (con (.int 1))) noP) nilE))) ρ N2 = .ok (Ln.mk nm sm (ps.drop 1)).d N2 := mk_ok (v3 _) (v4 _) ((sl_drop (k := 1) (v5 _) rfl).trans (by rw [lnsD_map, lnsD_map, List.map_drop]))
  have c7 : tupE (consE (var 3) (consE (stE (var 4) noP noP (smP (negE (con (.int 1))))) (consE (var 5) nilE))) ρ N2 = .ok (Ln.mk nm sm.reverse ps).d N2 := mk_ok (v3 _) ((rev_tup (v4 _)).trans (by rw [List.map_reverse])) (v5 _)
  have c8 : tupE (consE (con (.str "b")) (consE (tupE nilE) (consE (tupE (consE (tupE (consE (var 3) (consE (var 4) (consE (var 5) nilE)))) nilE)) nilE))) ρ N2 = .ok (Ln.mk "b" [] [.mk nm sm ps]).d N2 := mk_ok rfl (nils _) ((tup_ok (cons_ok (mk_ok (v3 _) (v4 _) (v5 _)) nil_ok) (small_ok (show 1 ≤ 1000000 by decide))).trans (by rw [lnsD, lnsD]))
  have c9 : callE (c 25) (consE (var 0) (consE (con (.int 1)) nilE)) ρ N2 = .ok fl.d M4 := (call2 (var_ok (d := .ref a) rfl) (rfl : con (.int 1) _ N2 = .ok (.int 1) N2)).trans e4
  refine (cons_ok c0 (cons_ok c1 (cons_ok c2 (cons_ok c3 (cons_ok c4 (cons_ok c5 (cons_ok c6 (cons_ok c7 (cons_ok c8 (cons_ok c9 nil_ok)))))))))).trans ?_
  rw [lnsD_map]
  rfl
theorem s26_other {c : Fn} {a b fu : Nat} {M : Mem} {N : Nat} {l : Ln} {B : Int} {w : Nat} (D3 : DrawC c a b) (P : PickC c a b) (F1 : FormedC c a b 1)
    (h22 : ∀ M : Mem, ∃ X, c 22 [l.d] M = .ok (.ref M.length) (M ++ (.lst ((places l).map plD) :: X)))
    (h23 : ∀ (p : List Nat) (q : Ln) (M : Mem), at' l p = some q → c 23 [l.d, plD p] M = .ok q.d M)
    (h24 : ∀ (p : List Nat) (q x : Ln) (M : Mem), at' l p = some q → c 24 [l.d, plD p, x.d] M = .ok (put' l p x).d M)
    (g : l.good B w) (hB : BIG ≤ B) (hw : 2 ≤ w) (hw2 : w ≤ 20) (hs : l.size ≤ 1000) (hk : Dk M a b N) (hN : N + 60 ≤ 1000000) :
    ∃ (l' : Ln) (M' : Mem), runD 2 8 (m26 fu c) [.ref a, l.d] M = .ok l'.d M' ∧ (l'.good (B + 1) (w + 1) ∧ l'.size ≤ l.size + 4 ∧ l'.high ≤ 2 * l.high + 2) ∧ SameBut a b M M' ∧ Dk M' a b (N + 60) := by
  obtain ⟨la, lb⟩ := hk.lt
  obtain ⟨X, e22⟩ := h22 M
  have g0 : Gr a b M (M ++ (.lst ((places l).map plD) :: X)) := Gr.lay _ _
  have k0 : Dk (M ++ (.lst ((places l).map plD) :: X)) a b N := hk.app
  have hpl := places_len l
  have hsp := size_pos l
  obtain ⟨dp, M1, hd, e18, g1, k1⟩ := pick_at P k0 (by omega) (i := M.length) (ds := (places l).map plD) (by omega) mem0 (by rw [List.length_map]; omega) (by rw [List.length_map]; omega) (fun d hd => places_pure l d hd _)
  obtain ⟨p, hp, rfl⟩ := List.mem_map.mp hd
  obtain ⟨q, hq⟩ := places_at l p hp
  have gq := at_good hq g
  obtain ⟨sq1, sq2, sq3⟩ := at_size hq
  obtain ⟨nm, sm, ps⟩ := q
  obtain ⟨x, sm', fl, M2, hx, l2, gs, gf, sf, hf, e6, g2, k2⟩ := some_ok D3 P F1 l.d (plD p) gq hw2 (by omega) k1 (by omega)
  have hcs := cands_ok hx gq hB hw l2 gs gf sf hf
  let cs := cands x nm sm sm' ps fl
  have hlen : (lnsD cs).length = 10 := by rw [lns_len]; rfl
  have h6 : lstE (someE c) [some (.ref a), some l.d, some (plD p), some (.str nm), some (.tup (sm.map D.int)), some (.tup (lnsD ps)), none, none] M1 = .ok (.ref M2.length) (M2 ++ [.lst (lnsD cs)]) := lst_ok e6 (by rw [hlen]; exact small_ok (by decide))
  have gM2 : Gr a b M M2 := (g0.trans g1 la lb).trans g2 la lb
  have hM2 := gM2.len
  obtain ⟨dy, M3, hdy, e7, g3, k3⟩ := pick_at P (M := M2 ++ [.lst (lnsD cs)]) (i := M2.length) (ds := lnsD cs) k2.app (by omega) (by omega) (by simp) (by rw [hlen]; decide) (by rw [hlen]; decide) (fun d hd => by
    obtain ⟨y, _, rfl⟩ := lns_mem hd
    exact D.pure_lo _ _ (Ln.pure y))
  obtain ⟨y, hy, rfl⟩ := lns_mem hdy
  obtain ⟨gy, sy, hhy⟩ := hcs y hy
  obtain ⟨M', Y, rfl, s⟩ := (gM2.trans (Gr.lay _ _) la lb).trans g3 la lb
  have hm : m26 fu c [some (.ref a), some l.d, none, none, none, none, none, none] M = .ok (.rt (put' l p y).d) (M' ++ Y) := by
    have t1 : callE (c 18) (consE (var 0) (consE (callE (c 22) (consE (var 1) nilE)) nilE)) [some (.ref a), some l.d, none, none, none, none, none, none] M = .ok (plD p) M1 :=
      (call2 (var_ok (d := .ref a) rfl) ((call1 (var_ok (d := l.d) rfl)).trans e22)).trans e18
    refine (seq_nx (set_ok (i := 2) t1)).trans ?_
    show (seqS (asgS (.tp [3, 4, 5]) (callE (c 23) (consE (var 1) (consE (var 2) nilE)))) _) [some (.ref a), some l.d, some (plD p), none, none, none, none, none] M1 = _
    have t2 : asgS (.tp [3, 4, 5]) (callE (c 23) (consE (var 1) (consE (var 2) nilE))) [some (.ref a), some l.d, some (plD p), none, none, none, none, none] M1 = .ok (.nx [some (.ref a), some l.d, some (plD p), some (.str nm), some (.tup (sm.map D.int)), some (.tup (lnsD ps)), none, none]) M1 := by
      unfold asgS
      rw [call2 (var_ok (d := l.d) rfl) (var_ok (d := plD p) rfl), h23 p _ M1 hq, R.bind_ok, Ln.d_mk]
      rfl
    refine (seq_nx t2).trans ((seq_nx (set_ok (i := 6) h6)).trans ?_)
    refine ret_ok ?_
    refine (call3 (d := l.d) (d' := plD p) (d2 := y.d) (M3 := M' ++ Y) (var_ok rfl) (var_ok rfl) ((call2 (var_ok (d := .ref a) rfl) (var_ok (d := .ref M2.length) rfl)).trans e7)).trans ?_
    exact h24 p _ y _ hq
  have kf : Dk M' a b (N + 60) := (k3.cut (by rw [s.1]; exact la) (by rw [s.1]; exact lb)).more (by omega)
  have hsz := put_size (a := y) hq
  have hhi := put_high (p := p) (l := l) (a := y) (Nat.le_refl _) hhy
  refine ⟨put' l p y, M', run_upd (X := Y) rfl hm (D.pure_lo _ _ (Ln.pure _)) s.1 (s.tr kf), ⟨put_good (Ln.more g (by omega) (by omega)) gy, by omega, by omega⟩, s, kf⟩
end W8

set_option Elab.async false
set_option linter.all false
set_option maxRecDepth 100000
namespace W8
open PySem L2 PySem.Spec PyProof.Rows

/-! ### what is no line -/
theorem kd_app {M Y : Mem} {d : D} {k : Kd} (h : kd M d = some k) : kd (M ++ Y) d = some k := by
  cases d with
  | ref n =>
    have e : ∀ N : Mem, kd N (.ref n) = (match N[n]? with | some (.lst _) => some Kd.lst | some (.dic _) => some .dic | none => none) := fun N => rfl
    rw [e] at h ⊢
    by_cases hn : n < M.length
    · rw [List.getElem?_append_left hn]; exact h
    · rw [List.getElem?_eq_none (by omega)] at h; cases h
  | _ => exact h
theorem s3_no (fu : Nat) (c : Fn) (d e : D) (k : Kd) (M : Mem) (hk : kd M d = some k) (hn : k ≠ .tup) : runD 2 3 (m3 fu c) [d, e] M = .ok (.bl false) M := by
  have hi : isK k .tup = false := by cases k <;> first | rfl | exact absurd rfl hn
  refine run_ret0 rfl ?_ rfl
  exact ret_ok (and_f ((isi_of (d := d) (c := .tup) rfl hk rfl).trans (by rw [hi])))
theorem s0_no (fu : Nat) (c : Fn) (d : D) (k : Kd) (M : Mem) (hk : kd M d = some k) (hn : isK k .int = false ∨ isK k .bl = true) : runD 1 1 (m0 fu c) [d] M = .ok (.bl false) M := by
  refine run_ret0 rfl ?_ rfl
  refine ret_ok ?_
  cases hi : isK k .int with
  | false => exact and_f ((isi_of (d := d) (c := .int) rfl hk rfl).trans (by rw [hi]))
  | true =>
    rcases hn with h | h
    · rw [hi] at h; cases h
    · refine (and_t ((isi_of (d := d) (c := .int) rfl hk rfl).trans (by rw [hi]))).trans ?_
      refine and_f ?_
      unfold notE
      rw [isi_of (d := d) (c := .bl) rfl hk rfl, h]
      rfl
theorem s4_len0 (fu : Nat) (c : Fn) (M : Mem) : runD 1 2 (m4 fu c) [.str ""] M = .ok (.bl false) M := by
  refine run_ret0 rfl ?_ rfl
  rw [show m4 fu c = seqS (ifS (orT (notT (asT (fnE isiD (consE (var 0) (consE (con (.ty "str")) nilE))))) (orT (notT (asT (chE leD leD (con (.int 1)) (fnE lenD (consE (var 0) nilE)) (con k_MOST_NAME)))) (asT (opE inD (var 0) (con k_WORDS))))) (retS (con (.bl false))) skipS) _ from rfl]
  rw [seq_rt]
  rw [if_t]
  · rfl
  · refine (or_f (not_ok (k := true) (as_ok ((isi_of (d := .str "") (c := .str) rfl rfl rfl).trans rfl)))).trans ?_
    refine or_t (not_ok (k := false) (as_ok ?_))
    have hl : fnE lenD (consE (var 0) nilE) [some (.str ""), none] M = .ok (.int 0) M := by
      rw [fn1 (var_ok (d := .str "") rfl)]
      show lift (if ("" : Str).length ≤ sizeLine then some (D.int (("" : Str).length : Nat), M) else none) = _
      rw [if_pos (small_ok (by decide))]
      rfl
    show chE leD leD (con (.int 1)) (fnE lenD (consE (var 0) nilE)) (con k_MOST_NAME) [some (.str ""), none] M = _
    unfold chE
    rw [show con (.int 1) [some (.str ""), none] M = .ok (.int 1) M from rfl, R.bind_ok, hl, R.bind_ok]
    rfl
theorem s4_word (fu : Nat) (c : Fn) (x : Str) (M : Mem) (h1 : 1 ≤ x.length) (h12 : x.length ≤ 12) (hw : inWords x = true) : runD 1 2 (m4 fu c) [.str x] M = .ok (.bl false) M := by
  have hz : x.length ≤ sizeLine := by rw [sizeLine_eq]; omega
  have h1 : (1 : Int) ≤ x.length := by omega
  have h2 : (x.length : Int) ≤ 12 := by omega
  refine run_ret0 rfl ?_ rfl
  rw [show m4 fu c = seqS (ifS (orT (notT (asT (fnE isiD (consE (var 0) (consE (con (.ty "str")) nilE))))) (orT (notT (asT (chE leD leD (con (.int 1)) (fnE lenD (consE (var 0) nilE)) (con k_MOST_NAME)))) (asT (opE inD (var 0) (con k_WORDS))))) (retS (con (.bl false))) skipS) _ from rfl]
  rw [seq_rt]
  rw [if_t]
  · rfl
  · show (orT _ _) [some (.str x), none] M = _
    simp [orT, notT, asT, fnE, consE, nilE, var, con, isiD, kd, tyK, isK, lift, isB, R.bind, chE, leD, leB, boolR, lenD, hz, h1, h2, k_MOST_NAME, opE, inD, words_in, hw]
/-- the first turn of is_line_form says no -/
theorem s5_first {c : Fn} {fu : Nat} {d : D} {M Y : Mem} (hf : 0 < fu) (h : formBody c [some d, some (.ref M.length), none] (M ++ [.lst [d], .lst []]) = .ok (.rt (.bl false)) (M ++ Y)) : runD 1 3 (m5 fu c) [d] M = .ok (.bl false) M := by
  refine run_ret (X := Y) rfl ?_ rfl
  show (seqS (setS 1 (lstE (consE (var 0) nilE))) (seqS (whN fu (asT (opE neD (var 1) (lstE nilE))) (formBody c)) (retS (con (.bl true))))) [some d, none, none] M = _
  have h1 : lstE (consE (var 0) nilE) [some d, none, none] M = .ok (.ref M.length) (M ++ [.lst [d]]) := lst_ok (cons_ok (var_ok rfl) nil_ok) (small_ok (show 1 ≤ 1000000 by decide))
  rw [seq_nx (set_ok (i := 1) h1)]
  show (seqS (whN fu _ (formBody c)) _) [some d, some (.ref M.length), none] (M ++ [.lst [d]]) = _
  rw [seq_rt]
  obtain ⟨k, rfl⟩ : ∃ k, fu = k + 1 := ⟨fu - 1, by omega⟩
  have hc := cond_ne (ρ := [some d, some (.ref M.length), none]) (i := 1) (n := M.length) (N := M ++ [.lst [d]]) (ws := [d]) rfl mem0
  rw [mapp] at hc
  unfold whN
  rw [hc, R.bind_ok]
  show (if true = true then _ else _) = _
  rw [if_pos rfl]
  have h : formBody c [some d, some (.ref M.length), none] (M ++ (.lst [d] :: ([] ++ [.lst []]))) = .ok (.rt (.bl false)) (M ++ Y) := h
  rw [h, R.bind_ok]
def formT1 (c : Fn) : Te := (orT (notT (asT (callE (c 2) (consE (var 2) (consE (con k_TRIPLE) nilE))))) (notT (asT (callE (c 4) (consE (opE ixD (var 2) (con (.int 0))) nilE)))))
def formT2 (c : Fn) : Te := (orT (notT (asT (callE (c 3) (consE (opE ixD (var 2) (con (.int 1))) (consE (con (.fn "is_whole")) nilE))))) (notT (asT (fnE isiD (consE (opE ixD (var 2) (con (.int 2))) (consE (con (.ty "tuple")) nilE))))))
theorem fb_no1 {c : Fn} {d0 d : D} {h : Option D} {n : Nat} {N : Mem} {xs : List D} (hn : N[n]? = some (.lst (xs ++ [d]))) (ht : formT1 c [some d0, some (.ref n), some d] (N.set n (.lst xs)) = .ok true (N.set n (.lst xs))) :
    formBody c [some d0, some (.ref n), h] N = .ok (.rt (.bl false)) (N.set n (.lst xs)) := by
  unfold formBody
  rw [seq_nx (set_ok (i := 2) (pop_ok (xs := xs) (y := d) rfl hn))]
  show (seqS (ifS (formT1 c) _ _) _) [some d0, some (.ref n), some d] _ = _
  rw [seq_rt]
  rw [if_t ht]
  rfl
theorem fb_no2 {c : Fn} {d0 d : D} {h : Option D} {n : Nat} {N : Mem} {xs : List D} (hn : N[n]? = some (.lst (xs ++ [d]))) (ht : formT1 c [some d0, some (.ref n), some d] (N.set n (.lst xs)) = .ok false (N.set n (.lst xs))) (ht2 : formT2 c [some d0, some (.ref n), some d] (N.set n (.lst xs)) = .ok true (N.set n (.lst xs))) :
    formBody c [some d0, some (.ref n), h] N = .ok (.rt (.bl false)) (N.set n (.lst xs)) := by
  unfold formBody
  rw [seq_nx (set_ok (i := 2) (pop_ok (xs := xs) (y := d) rfl hn))]
  show (seqS (ifS (formT1 c) _ _) (seqS (ifS (formT2 c) _ _) _)) [some d0, some (.ref n), some d] _ = _
  rw [seq_nx ((if_f ht).trans rfl), seq_rt]
  rw [if_t ht2]
  rfl
section
variable {c : Fn} {d0 d x y z : D} {n : Nat} {N : Mem}
theorem t1_no (h : c 2 [d, k_TRIPLE] N = .ok (.bl false) N) : formT1 c [some d0, some (.ref n), some d] N = .ok true N :=
  or_t (not_ok (k := false) (as_ok ((call2 (var_ok (d := d) rfl) rfl).trans h)))
theorem t1_name (h2 : c 2 [.tup [x, y, z], k_TRIPLE] N = .ok (.bl true) N) (h4 : c 4 [x] N = .ok (.bl false) N) : formT1 c [some d0, some (.ref n), some (.tup [x, y, z])] N = .ok true N :=
  (or_f (not_ok (k := true) (as_ok ((call2 (var_ok (d := .tup [x, y, z]) rfl) rfl).trans h2)))).trans
    (not_ok (k := false) (as_ok ((call1 (ix_ok (ds := [x, y, z]) (var_ok rfl) (at30 _ _ _))).trans h4)))
theorem t1_yes (h2 : c 2 [.tup [x, y, z], k_TRIPLE] N = .ok (.bl true) N) (h4 : c 4 [x] N = .ok (.bl true) N) : formT1 c [some d0, some (.ref n), some (.tup [x, y, z])] N = .ok false N :=
  (or_f (not_ok (k := true) (as_ok ((call2 (var_ok (d := .tup [x, y, z]) rfl) rfl).trans h2)))).trans
    (not_ok (k := true) (as_ok ((call1 (ix_ok (ds := [x, y, z]) (var_ok rfl) (at30 _ _ _))).trans h4)))
theorem t2_small (h3 : c 3 [y, .fn "is_whole"] N = .ok (.bl false) N) : formT2 c [some d0, some (.ref n), some (.tup [x, y, z])] N = .ok true N :=
  or_t (not_ok (k := false) (as_ok ((call2 (ix_ok (ds := [x, y, z]) (var_ok rfl) (at31 _ _ _)) rfl).trans h3)))
theorem t2_part {k : Kd} (h3 : c 3 [y, .fn "is_whole"] N = .ok (.bl true) N) (hk : kd N z = some k) (hn : k ≠ .tup) : formT2 c [some d0, some (.ref n), some (.tup [x, y, z])] N = .ok true N := by
  have hi : isK k .tup = false := by cases k <;> first | rfl | exact absurd rfl hn
  refine (or_f (not_ok (k := true) (as_ok ((call2 (ix_ok (ds := [x, y, z]) (var_ok rfl) (at31 _ _ _)) rfl).trans h3)))).trans (not_ok (k := false) (as_ok ?_))
  rw [fn2 (d := z) (d' := .ty "tuple") (ix_ok (ds := [x, y, z]) (var_ok rfl) (at32 _ _ _)) rfl]
  unfold isiD
  simp only [hk]
  show lift (some (D.bl (isK k .tup), N)) = _
  rw [hi]; rfl
theorem t2_yes {zs : List D} (h3 : c 3 [y, .fn "is_whole"] N = .ok (.bl true) N) : formT2 c [some d0, some (.ref n), some (.tup [x, y, .tup zs])] N = .ok false N :=
  (or_f (not_ok (k := true) (as_ok ((call2 (ix_ok (ds := [x, y, .tup zs]) (var_ok rfl) (at31 _ _ _)) rfl).trans h3)))).trans
    (not_ok (k := true) (as_ok (by rw [fn2 (d := .tup zs) (d' := .ty "tuple") (ix_ok (ds := [x, y, .tup zs]) (var_ok rfl) (at32 _ _ _)) rfl]; rfl)))
end
theorem memS {M : Mem} {d : D} : (M ++ [MO.lst [d], .lst []]).set M.length (.lst []) = M ++ [.lst [], .lst []] := mset0
/-- one turn is enough -/
theorem s5_no1 {c : Fn} {fu : Nat} {d : D} {M : Mem} (hf : 0 < fu) (ht : formT1 c [some d, some (.ref M.length), some d] (M ++ [.lst [], .lst []]) = .ok true (M ++ [.lst [], .lst []])) : runD 1 3 (m5 fu c) [d] M = .ok (.bl false) M :=
  s5_first (Y := [.lst [], .lst []]) hf ((fb_no1 (xs := []) (d := d) mem0 (by rw [mset0]; exact ht)).trans (by rw [mset0]))
theorem s5_no2 {c : Fn} {fu : Nat} {d : D} {M : Mem} (hf : 0 < fu) (ht : formT1 c [some d, some (.ref M.length), some d] (M ++ [.lst [], .lst []]) = .ok false (M ++ [.lst [], .lst []])) (ht2 : formT2 c [some d, some (.ref M.length), some d] (M ++ [.lst [], .lst []]) = .ok true (M ++ [.lst [], .lst []])) : runD 1 3 (m5 fu c) [d] M = .ok (.bl false) M :=
  s5_first (Y := [.lst [], .lst []]) hf ((fb_no2 (xs := []) (d := d) mem0 (by rw [mset0]; exact ht) (by rw [mset0]; exact ht2)).trans (by rw [mset0]))
/-- two turns: a line the last part of which is none -/
theorem s5_in {c : Fn} {fu : Nat} {x y e : D} {zs : List D} {M : Mem} (hf : 1 < fu) (hl : zs.length ≤ 1000) (h2 : ∀ N, c 2 [.tup [x, y, .tup (zs ++ [e])], k_TRIPLE] N = .ok (.bl true) N) (h4 : ∀ N, c 4 [x] N = .ok (.bl true) N) (h3 : ∀ N, c 3 [y, .fn "is_whole"] N = .ok (.bl true) N) (he : ∀ N, c 2 [e, k_TRIPLE] N = .ok (.bl false) N) : runD 1 3 (m5 fu c) [.tup [x, y, .tup (zs ++ [e])]] M = .ok (.bl false) M := by
  let t : D := .tup [x, y, .tup (zs ++ [e])]
  refine run_ret (X := [.lst zs, .lst [], .lst []]) rfl ?_ rfl
  show (seqS (setS 1 (lstE (consE (var 0) nilE))) (seqS (whN fu (asT (opE neD (var 1) (lstE nilE))) (formBody c)) (retS (con (.bl true))))) [some t, none, none] M = _
  have h1 : lstE (consE (var 0) nilE) [some t, none, none] M = .ok (.ref M.length) (M ++ [.lst [t]]) := lst_ok (cons_ok (var_ok rfl) nil_ok) (small_ok (show 1 ≤ 1000000 by decide))
  rw [seq_nx (set_ok (i := 1) h1)]
  show (seqS (whN fu _ (formBody c)) _) [some t, some (.ref M.length), none] (M ++ [.lst [t]]) = _
  rw [seq_rt]
  obtain ⟨k, rfl⟩ : ∃ k, fu = k + 2 := ⟨fu - 2, by omega⟩
  have hc := cond_ne (ρ := [some t, some (.ref M.length), none]) (i := 1) (n := M.length) (N := M ++ [.lst [t]]) (ws := [t]) rfl mem0
  rw [mapp] at hc
  unfold whN
  rw [hc, R.bind_ok]
  show (if true = true then _ else _) = _
  rw [if_pos rfl]
  have hb : formBody c [some t, some (.ref M.length), none] (M ++ (.lst [t] :: ([] ++ [.lst []]))) = .ok (.nx [some t, some (.ref M.length), some t]) (M ++ [.lst (zs ++ [e]), .lst []]) := by
    unfold formBody
    have hp : mtE popD (var 1) nilE [some t, some (.ref M.length), none] (M ++ (.lst [t] :: ([] ++ [.lst []]))) = .ok t (M ++ [.lst [], .lst []]) := (pop_ok (n := M.length) (xs := []) (y := t) rfl mem0).trans (by rw [mset0]; rfl)
    refine (seq_nx (set_ok (i := 2) hp)).trans ?_
    show (seqS (ifS (formT1 c) _ _) (seqS (ifS (formT2 c) _ _) _)) [some t, some (.ref M.length), some t] (M ++ [.lst [], .lst []]) = _
    rw [seq_nx ((if_f (t1_yes (h2 _) (h4 _))).trans rfl), seq_nx ((if_f (t2_yes (h3 _))).trans rfl)]
    refine (expr_ok (ext_ok (ρ := [some t, some (.ref M.length), some t]) (n := M.length) (xs := []) (ys := zs ++ [e]) rfl mem0 (ix_ok (ds := [x, y, .tup (zs ++ [e])]) (var_ok rfl) (at32 _ _ _)) (small_ok (by simp; omega)))).trans ?_
    rw [mset0]; rfl
  rw [hb, R.bind_ok]
  show whN (k + 1) _ (formBody c) [some t, some (.ref M.length), some t] (M ++ [.lst (zs ++ [e]), .lst []]) = _
  have hc2 := cond_ne (ρ := [some t, some (.ref M.length), some t]) (i := 1) (n := M.length) (N := M ++ [.lst (zs ++ [e]), .lst []]) (ws := zs ++ [e]) rfl mem0
  rw [mapp] at hc2
  have hne : (!(zs ++ [e]).isEmpty) = true := by simp
  rw [hne] at hc2
  unfold whN
  rw [hc2, R.bind_ok]
  rw [if_pos rfl]
  rw [fb_no1 (n := M.length) (xs := zs) (d := e) mem0 (t1_no (he _))]
  rw [mset0, R.bind_ok]
  rfl
end W8

set_option Elab.async false
set_option linter.all false
set_option maxRecDepth 100000
namespace W8
open PySem L2 PySem.Spec PyProof.Rows

theorem paired_self {P : D → D → Prop} : ∀ ds : List D, (∀ d ∈ ds, P d d) → Paired P ds ds
  | [], _ => .nil
  | d :: ds, h => .cons (h d List.mem_cons_self) (paired_self ds fun e he => h e (List.mem_cons_of_mem _ he))
theorem sm_flat {M : Mem} {n : Nat} {d : D} (h : flatD d = true) : Sm M (n + 1) d d := .inl ⟨h, rfl⟩
theorem sm_tup {M : Mem} {n : Nat} {ds : List D} (hl : ds.length ≤ 100000) (h : ∀ d ∈ ds, Sm M n d d) : Sm M (n + 1) (.tup ds) (.tup ds) := .inr ⟨ds, ds, hl, .inl ⟨rfl, rfl⟩, paired_self ds h⟩
theorem sm_ref {M : Mem} {n r s : Nat} {ds : List D} (hr : M[r]? = some (.lst ds)) (hs : M[s]? = some (.lst ds)) (hl : ds.length ≤ 100000) (h : ∀ d ∈ ds, Sm M n d d) : Sm M (n + 1) (.ref r) (.ref s) := .inr ⟨ds, ds, hl, .inr ⟨r, s, rfl, rfl, hr, hs⟩, paired_self ds h⟩
theorem sm_ints (M : Mem) (n : Nat) (sm : List Int) : ∀ d ∈ sm.map D.int, Sm M (n + 1) d d := fun d hd => by
  obtain ⟨i, _, rfl⟩ := List.mem_map.mp hd
  exact sm_flat rfl
theorem sm_line (M : Mem) : ∀ (k : Nat) (l : Ln), l.high ≤ k → Bd l → Sm M (2 * k + 1) l.d l.d
  | 0, l, h, _ => by obtain ⟨nm, sm, ps⟩ := l; rw [Ln.high] at h; omega
  | k + 1, .mk nm sm ps, h, b => by
    rw [Ln.high] at h
    obtain ⟨s1, p1, _, q⟩ := b.parts
    rw [Ln.d_mk, show 2 * (k + 1) + 1 = (2 * k + 1 + 1) + 1 from by omega]
    refine sm_tup (show 3 ≤ 100000 by decide) fun d hd => ?_
    simp only [List.mem_cons, List.not_mem_nil, or_false] at hd
    rcases hd with rfl | rfl | rfl
    · exact sm_flat rfl
    · exact sm_tup (by rw [List.length_map]; omega) (sm_ints M _ sm)
    · refine sm_tup (by rw [lns_len]; omega) fun d hd => ?_
      obtain ⟨p, hp, rfl⟩ := lns_mem hd
      have := mem_highs hp
      exact sm_line M k p (by omega) (q p hp)
theorem ints_inj {a b : List Int} (h : a.map D.int = b.map D.int) : a = b := by
  have h1 := allInt_map a
  rw [h, allInt_map b] at h1
  exact (Option.some.inj h1).symm
mutual
theorem Ln.inj : ∀ l m : Ln, l.d = m.d → l = m
  | .mk nm sm ps, .mk nm' sm' ps', h => by
    rw [Ln.d_mk, Ln.d_mk] at h
    injection h with h
    injection h with h1 h
    injection h with h2 h
    injection h with h3 _
    injection h1 with h1
    injection h2 with h2
    injection h3 with h3
    rw [h1, ints_inj h2, lns_inj ps ps' h3]
theorem lns_inj : ∀ ps qs : List Ln, lnsD ps = lnsD qs → ps = qs
  | [], [], _ => rfl
  | [], q :: qs, h => by rw [lnsD, lnsD] at h; cases h
  | p :: ps, [], h => by rw [lnsD, lnsD] at h; cases h
  | p :: ps, q :: qs, h => by
    rw [lnsD, lnsD] at h
    injection h with h1 h2
    rw [Ln.inj p q h1, lns_inj ps qs h2]
end
theorem d_zero {l m : Ln} (b1 : Bd l) (b2 : Bd m) : cmpD l.d m.d = 0 ↔ l = m := by
  constructor
  · intro h
    exact Ln.inj l m ((alk_zero _).1 _ _ (alk_lines l.high l m (Nat.le_refl _) b1 b2) h)
  · intro h
    subst h
    exact cmpD_self _
theorem key_zero {l m : Ln} (b1 : Bd l) (b2 : Bd m) : cmpD l.key m.key = 0 ↔ l = m := by
  constructor
  · intro h
    rw [cmp_key] at h
    by_cases e : (l.size : Int) = m.size
    · rw [if_pos e] at h
      exact (d_zero b1 b2).mp h
    · rw [if_neg e] at h
      split at h <;> cases h
  · intro h
    subst h
    exact cmpD_self _
theorem key_put {p : List Nat} {l q a b : Ln} (h : at' l p = some q) : cmpD (put' l p a).key (put' l p b).key = cmpD a.key b.key := by
  rw [cmp_key, cmp_key, put_cmp h]
  have h1 := put_size (a := a) h
  have h2 := put_size (a := b) h
  by_cases e : (a.size : Int) = b.size
  · rw [if_pos e, if_pos (by omega)]
  · rw [if_neg e, if_neg (by omega)]
    by_cases e2 : (a.size : Int) < b.size
    · rw [if_pos e2, if_pos (by omega)]
    · rw [if_neg e2, if_neg (by omega)]
/-- the lines of a turn -/
structure Lw (l : Ln) : Prop where
  g : l.good BB 1000
  s : l.size ≤ 200
  h : l.high ≤ 26
theorem Lw.bd {l : Ln} (h : Lw l) : Bd l := ⟨by have := h.s; omega, BB, 1000, Nat.le_refl _, h.g⟩
/-- what the law asks of the defs that it calls -/
structure Cs (c : Fn) : Prop where
  c10 : ∀ (l : Ln) (M : Mem), Lw l → c 10 [l.d] M = .ok (.int l.size) M
  c11 : ∀ (l m : Ln) (M : Mem), Lw l → Lw m → c 11 [l.d, m.d] M = .ok (.bl (decide (cmpD l.key m.key < 0))) M
  c20 : ∀ (d e : D) (M : Mem), Sm M 57 d e → c 20 [d, e] M = .ok (.bl true) M
  c21 : ∀ (l : Ln) (M : Mem), Lw l → c 21 [l.d] M = .ok (.int l.size) M
  c27 : ∀ (l m : Ln) (M : Mem), Lw l → Lw m → c 27 [l.d, m.d] M = .ok (.int (cmpD l.key m.key)) M
theorem cond_same {c : Fn} {ρ : Env} {M M1 M2 : Mem} {e1 e2 : Ex} {d e : D} (h1 : e1 ρ M = .ok d M1) (h2 : e2 ρ M1 = .ok e M2) (h : c 20 [d, e] M2 = .ok (.bl true) M2) : (notT (asT (callE (c 20) (consE e1 (consE e2 nilE))))) ρ M = .ok false M2 :=
  not_ok (k := true) (as_ok ((call2 h1 h2).trans h))
/-! ### the inner loop -/
noncomputable def innerBody (c : Fn) : Stt := seqS (setS 8 (callE (c 27) (consE (var 6) (consE (var 7) nilE)))) (ifS (notT (asT (callE (c 20) (consE (lstE (consE (callE (c 11) (consE (var 6) (consE (var 7) nilE))) (consE (callKE (c 11) 0 2 [1, 0] nilE (consE (var 6) (consE (var 7) nilE))) nilE))) (consE (lstE (consE (opE ltD (var 8) (con (.int 0))) (consE (opE gtD (var 8) (con (.int 0))) nilE))) nilE))))) (retS (con (.bl false))) skipS)
theorem callK2 {f : List D → Mem → R D} {ρ : Env} {M M1 M2 : Mem} {a b : Ex} {x y : D} (h : a ρ M = .ok x M1) (h' : b ρ M1 = .ok y M2) : callKE f 0 2 [1, 0] nilE (consE a (consE b nilE)) ρ M = f [y, x] M2 := by
  unfold callKE
  rw [nil_ok, R.bind_ok, cons_ok h (cons_ok h' nil_ok), R.bind_ok]
  rfl
theorem callK1 {f : List D → Mem → R D} {ρ : Env} {M M1 : Mem} {a : Ex} {x : D} (h : a ρ M = .ok x M1) : callKE f 0 1 [0] nilE (consE a nilE) ρ M = f [x] M1 := by
  unfold callKE
  rw [nil_ok, R.bind_ok, cons_ok h nil_ok, R.bind_ok]
  rfl
theorem callK3 {f : List D → Mem → R D} {ρ : Env} {M M1 M2 M3 : Mem} {a b e : Ex} {x y z : D} (h : a ρ M = .ok x M1) (h' : b ρ M1 = .ok y M2) (h2 : e ρ M2 = .ok z M3) : callKE f 0 3 [2, 1, 0] nilE (consE a (consE b (consE e nilE))) ρ M = f [z, y, x] M3 := by
  unfold callKE
  rw [nil_ok, R.bind_ok, cons_ok h (cons_ok h' (cons_ok h2 nil_ok)), R.bind_ok]
  rfl
theorem sgn_lt {ρ : Env} {M : Mem} {a : Ex} {w : Int} (h : a ρ M = .ok (.int w) M) : opE ltD a (con (.int 0)) ρ M = .ok (.bl (decide (w < 0))) M := by
  rw [op_ok h (rfl : con (.int 0) ρ M = .ok (.int 0) M)]
  rfl
theorem sgn_gt {ρ : Env} {M : Mem} {a : Ex} {w : Int} (h : a ρ M = .ok (.int w) M) : opE gtD a (con (.int 0)) ρ M = .ok (.bl (decide (0 < w))) M := by
  rw [op_ok h (rfl : con (.int 0) ρ M = .ok (.int 0) M)]
  rfl
theorem ap2 {M : Mem} {x y : MO} : (M ++ [x]) ++ [y] = M ++ [x, y] := by simp
theorem ap_len {M : Mem} {x : MO} : (M ++ [x]).length = M.length + 1 := by simp
theorem bl_flat (l : List Bool) (M : Mem) (n : Nat) : ∀ d ∈ l.map D.bl, Sm M (n + 1) d d := fun d hd => by
  obtain ⟨i, _, rfl⟩ := List.mem_map.mp hd
  exact sm_flat rfl
theorem inner_step {c : Fn} (C : Cs c) {ρ : Env} {M : Mem} {l m : Ln} (hl : Lw l) (hm : Lw m) (h6 : ρ[6]? = some (some l.d)) (h7 : ρ[7]? = some (some m.d)) (h8 : 8 < ρ.length) : ∃ Y, innerBody c ρ M = .ok (.nx (ρ.set 8 (some (.int (cmpD l.key m.key))))) (M ++ Y) := by
  let w := cmpD l.key m.key
  let ρ1 := ρ.set 8 (some (.int w))
  have v6 : ∀ N, var 6 ρ1 N = .ok l.d N := fun N => var_ok (by rw [List.getElem?_set_ne (by decide)]; exact h6)
  have v7 : ∀ N, var 7 ρ1 N = .ok m.d N := fun N => var_ok (by rw [List.getElem?_set_ne (by decide)]; exact h7)
  have v8 : ∀ N, var 8 ρ1 N = .ok (.int w) N := fun N => var_ok (by rw [List.getElem?_set_self h8])
  have ha : cmpD m.key l.key = -w := cmpD_anti l.key m.key
  have e1 : lstE (consE (callE (c 11) (consE (var 6) (consE (var 7) nilE))) (consE (callKE (c 11) 0 2 [1, 0] nilE (consE (var 6) (consE (var 7) nilE))) nilE)) ρ1 M = .ok (.ref M.length) (M ++ [.lst ([decide (w < 0), decide (0 < w)].map D.bl)]) := by
    refine (lst_ok (cons_ok ((call2 (v6 _) (v7 _)).trans (C.c11 l m M hl hm)) (cons_ok ((callK2 (v6 _) (v7 _)).trans (C.c11 m l M hm hl)) nil_ok)) (small_ok (show 2 ≤ 1000000 by decide))).trans ?_
    have : decide (cmpD m.key l.key < 0) = decide (0 < w) := by rw [ha]; exact decide_eq_decide.mpr (by omega)
    rw [this]; rfl
  let N1 : Mem := M ++ [.lst ([decide (w < 0), decide (0 < w)].map D.bl)]
  have e2 : lstE (consE (opE ltD (var 8) (con (.int 0))) (consE (opE gtD (var 8) (con (.int 0))) nilE)) ρ1 N1 = .ok (.ref (M.length + 1)) (M ++ [.lst ([decide (w < 0), decide (0 < w)].map D.bl), .lst ([decide (w < 0), decide (0 < w)].map D.bl)]) := by
    refine (lst_ok (cons_ok (sgn_lt (v8 _)) (cons_ok (sgn_gt (v8 _)) nil_ok)) (small_ok (show 2 ≤ 1000000 by decide))).trans ?_
    rw [ap_len, ap2]; rfl
  refine ⟨[.lst ([decide (w < 0), decide (0 < w)].map D.bl), .lst ([decide (w < 0), decide (0 < w)].map D.bl)], ?_⟩
  unfold innerBody
  have s1 : setS 8 (callE (c 27) (consE (var 6) (consE (var 7) nilE))) ρ M = .ok (.nx ρ1) M := set_ok (i := 8) ((call2 (var_ok h6) (var_ok h7)).trans (C.c27 l m M hl hm))
  rw [seq_nx s1]
  refine (if_f (cond_same e1 e2 (C.c20 _ _ _ (sm_ref (ds := [decide (w < 0), decide (0 < w)].map D.bl) mem0 mem1 (by rw [List.length_map]; show 2 ≤ 100000; decide) (bl_flat _ _ _))))).trans rfl
theorem inner_loop {c : Fn} (C : Cs c) {x : W8.Its} {l : Ln} (hl : Lw l) : ∀ (ms : List Ln) (ρ : Env) (M : Mem), (∀ m ∈ ms, Lw m) → (∀ Y, x.ok (M ++ Y)) → ρ[6]? = some (some l.d) → 8 < ρ.length →
    ∃ o7 o8 Y, forL x (.nm 7) (innerBody c) (lnsD ms) ρ M = .ok (.nx ((ρ.set 7 o7).set 8 o8)) (M ++ Y)
  | [], ρ, M, _, okx, _, h8 => by
    refine ⟨ρ[7], ρ[8], [], ?_⟩
    have : (ρ.set 7 ρ[7]).set 8 ρ[8] = ρ := by
      rw [List.set_getElem_self, List.set_getElem_self]
    rw [this, List.append_nil, lnsD]
    exact for_nil (by have := okx []; rwa [List.append_nil] at this)
  | m :: ms, ρ, M, hm, okx, h6, h8 => by
    obtain ⟨Y, e⟩ := inner_step C (ρ := ρ.set 7 (some m.d)) (M := M) hl (hm m List.mem_cons_self) (by rw [List.getElem?_set_ne (by decide)]; exact h6) (by rw [List.getElem?_set_self (by omega)]) (by rw [List.length_set]; exact h8)
    obtain ⟨o7, o8, Y2, e2⟩ := inner_loop C hl ms ((ρ.set 7 (some m.d)).set 8 (some (.int (cmpD l.key m.key)))) (M ++ Y) (fun q hq => hm q (List.mem_cons_of_mem _ hq)) (fun Z => by rw [List.append_assoc]; exact okx _) (by rw [List.getElem?_set_ne (by decide), List.getElem?_set_ne (by decide)]; exact h6) (by rw [List.length_set, List.length_set]; exact h8)
    refine ⟨o7, o8, Y ++ Y2, ?_⟩
    rw [lnsD, for_nx (by have := okx []; rwa [List.append_nil] at this) (ρ1 := ρ.set 7 (some m.d)) rfl e, e2, List.append_assoc]
    congr 2
    rw [List.set_comm _ _ (by decide : 8 ≠ 7), List.set_set, List.set_set]
end W8

set_option Elab.async false
set_option linter.all false
set_option maxRecDepth 100000
namespace W8
open PySem L2 PySem.Spec PyProof.Rows

noncomputable def outerBody (c : Fn) : Stt := seqS (ifS (notT (asT (callE (c 20) (consE (lstE (consE (callE (c 10) (consE (var 6) nilE)) (consE (callKE (c 10) 0 1 [0] nilE (consE (var 6) nilE)) nilE))) (consE (opE mulD (lstE (consE (callE (c 21) (consE (var 6) nilE)) nilE)) (con (.int 2))) nilE))))) (retS (con (.bl false))) skipS) (forS (valI (slE (var 3) (smP (var 5)) noP)) (.nm 7) (innerBody c))
theorem sets_eq (ρ : Env) (a b o7 o8 p5 p6 p7 p8 : Option D) : ((((((((ρ.set 5 a).set 6 b).set 7 o7).set 8 o8).set 5 p5).set 6 p6).set 7 p7).set 8 p8) = ((((ρ.set 5 p5).set 6 p6).set 7 p7).set 8 p8) := by
  apply List.ext_getElem?
  intro j
  simp only [List.getElem?_set, List.length_set]
  repeat' split
  all_goals first | rfl | omega
theorem outer_step {c : Fn} (C : Cs c) {ρ : Env} {M : Mem} {n k : Nat} {lines ms : List Ln} {l : Ln} (hls : lines.drop k = l :: ms) (hlen : lines.length ≤ 1000) (hw : ∀ m ∈ lines, Lw m) (h3 : ρ[3]? = some (some (.ref n))) (hn : M[n]? = some (.lst (lnsD lines))) (h5 : ρ[5]? = some (some (.int (k : Nat)))) (h6 : ρ[6]? = some (some l.d)) (h8 : 8 < ρ.length) :
    ∃ o7 o8 Y, outerBody c ρ M = .ok (.nx ((ρ.set 7 o7).set 8 o8)) (M ++ Y) := by
  have hmem : ∀ m ∈ l :: ms, Lw m := fun m hm => hw m (by rw [← hls] at hm; exact List.mem_of_mem_drop hm)
  have hl := hmem l List.mem_cons_self
  let ss : List D := [.int l.size, .int l.size]
  have e1 : lstE (consE (callE (c 10) (consE (var 6) nilE)) (consE (callKE (c 10) 0 1 [0] nilE (consE (var 6) nilE)) nilE)) ρ M = .ok (.ref M.length) (M ++ [.lst ss]) :=
    lst_ok (cons_ok ((call1 (var_ok h6)).trans (C.c10 l M hl)) (cons_ok ((callK1 (var_ok h6)).trans (C.c10 l M hl)) nil_ok)) (small_ok (show 2 ≤ 1000000 by decide))
  let N1 : Mem := M ++ [.lst ss]
  have e2 : opE mulD (lstE (consE (callE (c 21) (consE (var 6) nilE)) nilE)) (con (.int 2)) ρ N1 = .ok (.ref (M.length + 2)) (M ++ [.lst ss, .lst [.int l.size], .lst ss]) := by
    have h1 : lstE (consE (callE (c 21) (consE (var 6) nilE)) nilE) ρ N1 = .ok (.ref (M.length + 1)) (M ++ [.lst ss, .lst [.int l.size]]) := by
      refine (lst_ok (cons_ok ((call1 (var_ok h6)).trans (C.c21 l N1 hl)) nil_ok) (small_ok (show 1 ≤ 1000000 by decide))).trans ?_
      rw [ap_len, ap2]
    rw [op_ok h1 (rfl : con (.int 2) ρ _ = .ok (.int 2) _)]
    unfold mulD
    simp only [mem1]
    rw [if_pos ⟨by decide, by decide, small_ok (show 1 * 2 ≤ 1000000 by decide)⟩]
    show R.ok (D.ref (M ++ [MO.lst ss, .lst [.int l.size]]).length) ((M ++ [MO.lst ss, .lst [.int l.size]]) ++ [.lst ss]) = _
    simp
  have hsame : (notT (asT (callE (c 20) (consE (lstE (consE (callE (c 10) (consE (var 6) nilE)) (consE (callKE (c 10) 0 1 [0] nilE (consE (var 6) nilE)) nilE))) (consE (opE mulD (lstE (consE (callE (c 21) (consE (var 6) nilE)) nilE)) (con (.int 2))) nilE))))) ρ M = .ok false (M ++ [.lst ss, .lst [.int l.size], .lst ss]) :=
    cond_same e1 e2 (C.c20 _ _ _ (sm_ref (ds := ss) mem0 (by simp) (show 2 ≤ 100000 by decide) (fun d hd => by
      simp only [ss, List.mem_cons, List.not_mem_nil, or_false, or_self] at hd
      subst hd
      exact sm_flat rfl)))
  let N2 : Mem := M ++ [.lst ss, .lst [.int l.size], .lst ss]
  have hn2 : N2[n]? = some (.lst (lnsD lines)) := by rw [List.getElem?_append_left (List.getElem?_eq_some_iff.mp hn).1]; exact hn
  have hsl : slE (var 3) (smP (var 5)) noP ρ N2 = .ok (.ref N2.length) (N2 ++ [.lst (lnsD (l :: ms))]) := by
    unfold slE noP smP
    rw [var_ok h3, R.bind_ok]
    simp only [var_ok h5, R.bind_ok]
    unfold slB
    simp only [hn2, cut_drop]
    rw [← hls, lnsD_map, lnsD_map, List.map_drop]
    rfl
  have hv : valI (slE (var 3) (smP (var 5)) noP) ρ N2 = .ok ⟨lnsD (l :: ms), [(N2.length, lnsD (l :: ms))]⟩ (N2 ++ [.lst (lnsD (l :: ms))]) := by
    unfold valI
    rw [hsl, R.bind_ok]
    unfold itOf
    simp only [mem0]
    rfl
  obtain ⟨o7, o8, Y, e⟩ := inner_loop C hl (x := ⟨lnsD (l :: ms), [(N2.length, lnsD (l :: ms))]⟩) (l :: ms) ρ (N2 ++ [.lst (lnsD (l :: ms))]) hmem (fun Y => lcl_ok (by rw [List.append_assoc]; exact mem0)) h6 h8
  refine ⟨o7, o8, [.lst ss, .lst [.int l.size], .lst ss] ++ ([.lst (lnsD (l :: ms))] ++ Y), ?_⟩
  unfold outerBody
  refine (seq_nx ((if_f hsame).trans rfl)).trans ((for_ok hv).trans (e.trans ?_))
  rw [← List.append_assoc, ← List.append_assoc]
theorem outer_loop {c : Fn} (C : Cs c) {x : W8.Its} {n : Nat} {lines : List Ln} (hlen : lines.length ≤ 1000) (hw : ∀ m ∈ lines, Lw m) : ∀ (ms : List Ln) (k : Nat) (ρ : Env) (M : Mem), lines.drop k = ms → (∀ Y, x.ok (M ++ Y)) → ρ[3]? = some (some (.ref n)) → M[n]? = some (.lst (lnsD lines)) → 8 < ρ.length →
    ∃ o5 o6 o7 o8 Y, forL x (.tp [5, 6]) (outerBody c) (enD k (lnsD ms)) ρ M = .ok (.nx ((((ρ.set 5 o5).set 6 o6).set 7 o7).set 8 o8)) (M ++ Y)
  | [], k, ρ, M, _, okx, _, _, h8 => by
    refine ⟨ρ[5], ρ[6], ρ[7], ρ[8], [], ?_⟩
    have : ((((ρ.set 5 ρ[5]).set 6 ρ[6]).set 7 ρ[7]).set 8 ρ[8]) = ρ := by
      rw [List.set_getElem_self, List.set_getElem_self, List.set_getElem_self, List.set_getElem_self]
    rw [this, List.append_nil, lnsD]
    exact for_nil (by have := okx []; rwa [List.append_nil] at this)
  | l :: ms, k, ρ, M, hls, okx, h3, hn, h8 => by
    obtain ⟨o7, o8, Y, e⟩ := outer_step C (ρ := (ρ.set 5 (some (.int (k : Nat)))).set 6 (some l.d)) (M := M) hls hlen hw (by rw [List.getElem?_set_ne (by decide), List.getElem?_set_ne (by decide)]; exact h3) hn (by rw [List.getElem?_set_ne (by decide), List.getElem?_set_self (by omega)]) (by rw [List.getElem?_set_self (by rw [List.length_set]; omega)]) (by rw [List.length_set, List.length_set]; exact h8)
    obtain ⟨p5, p6, p7, p8, Y2, e2⟩ := outer_loop C (x := x) hlen hw ms (k + 1) (((((ρ.set 5 (some (.int (k : Nat)))).set 6 (some l.d)).set 7 o7).set 8 o8)) (M ++ Y) (by
      have : lines.drop (k + 1) = (lines.drop k).drop 1 := by rw [List.drop_drop]
      rw [this, hls]; rfl) (fun Z => by rw [List.append_assoc]; exact okx _) (by rw [List.getElem?_set_ne (by decide), List.getElem?_set_ne (by decide), List.getElem?_set_ne (by decide), List.getElem?_set_ne (by decide)]; exact h3) (by rw [List.getElem?_append_left (List.getElem?_eq_some_iff.mp hn).1]; exact hn) (by simp only [List.length_set]; exact h8)
    refine ⟨p5, p6, p7, p8, Y ++ Y2, ?_⟩
    rw [lnsD, enD, for_nx (by have := okx []; rwa [List.append_nil] at this) (ρ1 := (ρ.set 5 (some (.int (k : Nat)))).set 6 (some l.d)) rfl e, e2, List.append_assoc, sets_eq]
end W8

set_option Elab.async false
set_option linter.all false
set_option maxRecDepth 100000
namespace W8
open PySem L2 PySem.Spec PyProof.Rows

def deckBody : Stt := setS 2 (opE modD (fnE intD (consE (opE addD (opE addD (opE mulD (var 2) (con (.int 48271))) (opE modD (fnE intD (consE (var 3) nilE)) (con (.int 2147483549)))) (con (.int 89))) nilE)) (con (.int 2147483587)))
theorem deck_loop {x : W8.Its} {N : Mem} (okx : x.ok N) (d0 d1 : D) : ∀ (ns : List Int) (m : Int) (o : Option D), 0 ≤ m → m < 2147483587 →
    ∃ (m' : Int) (o' : Option D), forL x (.nm 3) deckBody (ns.map D.int) [some d0, some d1, some (.int m), o] N = .ok (.nx [some d0, some d1, some (.int m'), o']) N ∧ 0 ≤ m' ∧ m' < 2147483587
  | [], m, o, h0, h1 => ⟨m, o, for_nil okx, h0, h1⟩
  | i :: ns, m, o, h0, h1 => by
    have p100 : (2 : Nat) ^ 100 = 1267650600228229401496703205376 := by decide
    have hf := fm_lt (a := m * 48271 + i.fmod 2147483549 + 89) (b := 2147483587) (by omega)
    obtain ⟨m', o', e, b0, b1⟩ := deck_loop okx d0 d1 ns ((m * 48271 + i.fmod 2147483549 + 89).fmod 2147483587) (some (.int i)) hf.1 hf.2
    refine ⟨m', o', ?_, b0, b1⟩
    rw [List.map_cons]
    refine (for_nx okx (ρ1 := [some d0, some d1, some (.int m), some (.int i)]) (ρ2 := [some d0, some d1, some (.int ((m * 48271 + i.fmod 2147483549 + 89).fmod 2147483587)), some (.int i)]) (M1 := N) rfl ?_).trans e
    unfold deckBody
    exact set_ok (i := 2) (mod_ok (int_ok (add_ok (add_ok (mul_ok (var_ok (d := .int m) rfl) rfl (by rw [p100]; omega) (by rw [p100]; decide)) (mod_ok (int_ok (var_ok (d := .int i) rfl)) rfl (by decide))) rfl)) rfl (by decide))
theorem s16_deck {fu : Nat} {c : Fn} {M : Mem} {d : D} {ns : List Int} (hs : ∀ Y : Mem, slB (M ++ Y) d none (some 63) = some (.ref (M ++ Y).length, (M ++ Y) ++ [.lst (ns.map D.int)])) (hl : ns.length ≤ 63) :
    ∃ X : Mem, runD 2 4 (m16 fu c) [d, .int 2413108] M = .ok (.ref (M.length + 4)) (M ++ X) ∧ Dk (M ++ X) (M.length + 4) (M.length + 3) 0 := by
  let cs : List D := ns.map D.int
  have hsl : ∀ (ρ : Env) (Y : Mem), ρ[0]? = some (some d) → valI (slE (var 0) noP (smP (con (.int 63)))) ρ (M ++ Y) = .ok ⟨cs, [((M ++ Y).length, cs)]⟩ ((M ++ Y) ++ [.lst cs]) := by
    intro ρ Y h
    have h1 : slE (var 0) noP (smP (con (.int 63))) ρ (M ++ Y) = .ok (.ref (M ++ Y).length) ((M ++ Y) ++ [.lst cs]) := by
      unfold slE noP smP
      rw [var_ok h, R.bind_ok]
      show lift (slB (M ++ Y) d none (some 63)) = _
      rw [hs Y]; rfl
    unfold valI
    rw [h1, R.bind_ok]
    unfold itOf
    simp only [mem0]
    rfl
  obtain ⟨m', o', e1, b0, b1⟩ := deck_loop (x := ⟨cs, [((M ++ ([] : Mem)).length, cs)]⟩ ) (N := (M ++ ([] : Mem)) ++ [.lst cs]) (lcl_ok mem0) d (.int 2413108) ns 2413108 none (by omega) (by omega)
  let X : Mem := [.lst cs, .lst cs, .lst cs, .lst cs.reverse, .dic (deckD (M.length + 3) m' 0)]
  have hm : m16 fu c [some d, some (.int 2413108), none, none] M = .ok (.rt (.ref (M.length + 4))) (M ++ X) := by
    show (seqS (setS 2 (var 1)) (seqS (forS (valI (slE (var 0) noP (smP (con (.int 63))))) (.nm 3) deckBody) (retS (dispE _)))) [some d, some (.int 2413108), none, none] M = _
    rw [seq_nx (set_ok (i := 2) (var_ok (d := .int 2413108) rfl))]
    show (seqS (forS _ _ _) _) [some d, some (.int 2413108), some (.int 2413108), none] M = _
    have hv := hsl [some d, some (.int 2413108), some (.int 2413108), none] [] rfl
    have hf := (for_ok (t := .nm 3) (b := deckBody) hv).trans e1
    rw [List.append_nil] at hf
    rw [seq_nx hf]
    refine ret_ok ?_
    have hv2 := hsl [some d, some (.int 2413108), some (.int m'), o'] [.lst cs] rfl
    have hlc : lcL ⟨cs, [((M ++ [MO.lst cs]).length, cs)]⟩ (.nm 3) tru (fnE intD (consE (var 3) nilE)) (wipeE [some d, some (.int 2413108), some (.int m'), o'] [3]) cs ((M ++ [.lst cs]) ++ [.lst cs]) = .ok cs ((M ++ [.lst cs]) ++ [.lst cs]) :=
      lc_list (g := D.int) (h := D.int) (lcl_ok mem0) ns fun i _ => ⟨[some d, some (.int 2413108), some (.int m'), some (.int i)], rfl, rfl, int_ok (var_ok (d := .int i) rfl)⟩
    have hc := lc_ok (vs := [3]) hv2 (by show (ns.map D.int).length ≤ _; rw [List.length_map]; exact small_ok (by omega)) hlc
    have hrev : stE (lcE (valI (slE (var 0) noP (smP (con (.int 63))))) [3] (.nm 3) tru (fnE intD (consE (var 3) nilE))) noP noP (smP (negE (con (.int 1)))) [some d, some (.int 2413108), some (.int m'), o'] (M ++ [.lst cs]) = .ok (.ref (M.length + 3)) (M ++ [.lst cs, .lst cs, .lst cs, .lst cs.reverse]) := by
      unfold stE
      rw [hc, R.bind_ok]
      show lift (stB _ _ none none (some (-1))) = _
      unfold stB
      rw [if_neg (by decide)]
      simp only [mem0, stepP_rev]
      simp [lift]
    unfold dispE prC
    rw [show con (.str "cells") [some d, some (.int 2413108), some (.int m'), o'] (M ++ [.lst cs]) = .ok (.str "cells") (M ++ [.lst cs]) from rfl, R.bind_ok, hrev, R.bind_ok]
    show R.bind (R.ok _ (M ++ [MO.lst cs, .lst cs, .lst cs, .lst cs.reverse])) _ = _
    rw [R.bind_ok]
    show (if 3 ≤ 15 then R.ok (D.ref (M ++ [MO.lst cs, .lst cs, .lst cs, .lst cs.reverse]).length) ((M ++ [MO.lst cs, .lst cs, .lst cs, .lst cs.reverse]) ++ [MO.dic (mrgD [(.inr "cells", .ref (M.length + 3)), (.inr "mixed", .int m'), (.inr "draws", .int 0)])]) else R.bad) = _
    rw [if_pos (by decide)]
    have : mrgD [(.inr "cells", .ref (M.length + 3)), (.inr "mixed", .int m'), (.inr "draws", .int 0)] = deckD (M.length + 3) m' 0 := rfl
    rw [this]
    simp [X]
  refine ⟨X, ?_, m', 0, ns.reverse, ?_⟩
  · refine (run_rt (M1 := M ++ X) (d := .ref (M.length + 4)) rfl hm).trans ?_
    rw [trunc_ok, if_neg]
    rintro ⟨h, _⟩
    have h : decide (M.length + 4 < M.length) = true := h
    exact absurd (of_decide_eq_true h) (by omega)
  · exact ⟨by simp [X], by simp [X, cs], by omega, b0, b1, by omega, by omega, by rw [List.length_reverse]; omega⟩
end W8

set_option Elab.async false
set_option linter.all false
set_option maxRecDepth 100000
namespace W8
open PySem L2 PySem.Spec PyProof.Rows

/-- no line, and it stays so -/
def BadV (a b : Nat) (M : Mem) (d : D) : Prop := ∀ M', Gr a b M M' → (∀ L, callK FU (L + 3) 5 [d] M' = .ok (.bl false) M') ∧ d.lo M'.length = true ∧ Sm M' 50 d d
theorem BadV.gr {a b : Nat} {M M1 : Mem} {d : D} (h : BadV a b M d) (g : Gr a b M M1) (la : a < M.length) (lb : b < M.length) : BadV a b M1 d := fun M' g' => h M' (g.trans g' la lb)
theorem bad_pure {a b : Nat} {M : Mem} {d : D} (hp : d.pure = true) (h5 : ∀ (L : Nat) (M' : Mem), callK FU (L + 3) 5 [d] M' = .ok (.bl false) M') (hs : ∀ M', Sm M' 50 d d) : BadV a b M d :=
  fun M' _ => ⟨fun L => h5 L M', D.pure_lo _ _ hp, hs M'⟩
theorem FU_pos : 1 < FU := by decide
theorem FU_pos0 : 0 < FU := by decide
abbrev fcBB (L : Nat) : FormC (callK FU (L + 2)) BB 1000 := formC FU L 1000 (by omega) BB (by decide)
theorem c2_yes (L : Nat) (x y z : D) (N : Mem) : callK FU (L + 2) 2 [.tup [x, y, z], k_TRIPLE] N = .ok (.bl true) N := (fcBB L).c2 [x, y, z] 3 N
theorem c2_not (L : Nat) (ds : List D) (h : ds.length ≠ 3) (N : Mem) : callK FU (L + 2) 2 [.tup ds, k_TRIPLE] N = .ok (.bl false) N := by
  refine ((fcBB L).c2 ds 3 N).trans ?_
  rw [decide_eq_false (by omega)]
theorem c2_kd (L : Nat) (d : D) (k : Kd) (N : Mem) (hk : kd N d = some k) (hn : k ≠ .tup) : callK FU (L + 2) 2 [d, k_TRIPLE] N = .ok (.bl false) N := by
  rw [callK_2]; exact s2_no FU _ d _ k N hk hn
theorem c3_kd (L : Nat) (d : D) (k : Kd) (N : Mem) (hk : kd N d = some k) (hn : k ≠ .tup) : callK FU (L + 2) 3 [d, .fn "is_whole"] N = .ok (.bl false) N := by
  rw [callK_3]; exact s3_no FU _ d _ k N hk hn
theorem c3_one (L : Nat) (d : D) (k : Kd) (N : Mem) (hk : ∀ N, kd N d = some k) (hn : isK k .int = false ∨ isK k .bl = true) : callK FU (L + 2) 3 [.tup [d], .fn "is_whole"] N = .ok (.bl false) N := by
  rw [callK_3]
  refine (s3_tup FU _ [d] (fun _ => false) N (small_ok (show 1 ≤ 1000000 by decide)) fun e he M => ?_).trans rfl
  rw [List.mem_singleton.mp he, callK_0]
  exact s0_no FU _ d k M (hk M) hn
/-- one that is no tuple -/
theorem k5_kd (L : Nat) (d : D) (k : Kd) (M : Mem) (hk : kd M d = some k) (hn : k ≠ .tup) : callK FU (L + 3) 5 [d] M = .ok (.bl false) M := by
  rw [callK_5]; exact s5_no1 FU_pos0 (t1_no (c2_kd L d k _ (kd_app hk) hn))
theorem k5_len (L : Nat) (ds : List D) (h : ds.length ≠ 3) (M : Mem) : callK FU (L + 3) 5 [.tup ds] M = .ok (.bl false) M := by
  rw [callK_5]; exact s5_no1 FU_pos0 (t1_no (c2_not L ds h _))
theorem k5_name (L : Nat) (x y z : D) (h : ∀ N, callK FU (L + 2) 4 [x] N = .ok (.bl false) N) (M : Mem) : callK FU (L + 3) 5 [.tup [x, y, z]] M = .ok (.bl false) M := by
  rw [callK_5]; exact s5_no1 FU_pos0 (t1_name (c2_yes L x y z _) (h _))
theorem k5_small (L : Nat) (nm : Str) (hnm : nm ∈ NAMES) (y z : D) (M : Mem) (h : ∀ Y, callK FU (L + 2) 3 [y, .fn "is_whole"] (M ++ Y) = .ok (.bl false) (M ++ Y)) : callK FU (L + 3) 5 [.tup [.str nm, y, z]] M = .ok (.bl false) M := by
  rw [callK_5]; exact s5_no2 FU_pos0 (t1_yes (c2_yes L _ y z _) ((fcBB L).c4 nm hnm _)) (t2_small (h _))
theorem k5_part (L : Nat) (nm : Str) (hnm : nm ∈ NAMES) (sm : List Int) (hs : ∀ i ∈ sm, -BB ≤ i ∧ i ≤ BB) (hl : sm.length ≤ 1000) (z : D) (k : Kd) (M : Mem) (hk : kd M z = some k) (hn : k ≠ .tup) : callK FU (L + 3) 5 [.tup [.str nm, .tup (sm.map D.int), z]] M = .ok (.bl false) M := by
  rw [callK_5]; exact s5_no2 FU_pos0 (t1_yes (c2_yes L _ _ z _) ((fcBB L).c4 nm hnm _)) (t2_part ((fcBB L).c3 sm hs hl _) (kd_app hk) hn)
theorem k5_in (L : Nat) (nm : Str) (hnm : nm ∈ NAMES) (sm : List Int) (hs : ∀ i ∈ sm, -BB ≤ i ∧ i ≤ BB) (hl : sm.length ≤ 1000) (zs : List D) (hz : zs.length ≤ 1000) (M : Mem) : callK FU (L + 3) 5 [.tup [.str nm, .tup (sm.map D.int), .tup (zs ++ [.tup []])]] M = .ok (.bl false) M := by
  rw [callK_5]; exact s5_in FU_pos hz (fun N => c2_yes L _ _ _ N) (fun N => (fcBB L).c4 nm hnm N) (fun N => (fcBB L).c3 sm hs hl N) (fun N => c2_not L [] (by decide) N)
theorem c4_A (L : Nat) (N : Mem) : callK FU (L + 2) 4 [.str "A"] N = .ok (.bl false) N := by
  rw [callK_4]
  exact (s4_str FU _ "A" N 65 [] (by decide) (by decide) rfl).trans rfl
theorem c4_when (L : Nat) (N : Mem) : callK FU (L + 2) 4 [.str "when"] N = .ok (.bl false) N := by
  rw [callK_4]; exact s4_word FU _ "when" N (by decide) (by decide) (by decide)
theorem c4_empty (L : Nat) (N : Mem) : callK FU (L + 2) 4 [.str ""] N = .ok (.bl false) N := by
  rw [callK_4]; exact s4_len0 FU _ N
theorem c4_int (L : Nat) (i : Int) (N : Mem) : callK FU (L + 2) 4 [.int i] N = .ok (.bl false) N := by
  rw [callK_4]; exact s4_no FU _ (.int i) .int N rfl (by decide)
/-! the picks -/
def badsD (n : Nat) (nm : Str) (sm : List Int) (ps : List Ln) : List D :=
  [.non, .tup [], .tup [.str nm, .tup (sm.map D.int)], .ref n, .tup [.str "A", .tup (sm.map D.int), .tup (lnsD ps)], .tup [.str "when", .tup (sm.map D.int), .tup (lnsD ps)],
   .tup [.str nm, .ref (n + 1), .tup (lnsD ps)], .tup [.str nm, .tup [.bl true], .tup (lnsD ps)], .tup [.str nm, .tup (sm.map D.int), .non], .tup [.str nm, .tup (sm.map D.int), .tup [(Ln.mk nm sm ps).d, .tup []]],
   .tup [.str nm, .tup (sm.map D.int), .tup (lnsD ps), .tup []], .tup [.str "", .tup [], .tup []], .tup [.int 7, .tup [], .tup []]]
def oddsD (n : Nat) : List D := [.non, .str "a()", .int 0, .tup [.str "a", .tup [], .ref n], .tup [.str "a", .tup [.str "0"], .tup []]]
theorem pure_ints (sm : List Int) : (D.tup (sm.map D.int)).pure = true := by
  show pures (sm.map D.int) = true
  induction sm with
  | nil => rfl
  | cons i sm ih => rw [List.map_cons]; exact ih
theorem lo_tup {n : Nat} {ds : List D} (h : ∀ d ∈ ds, d.lo n = true) : (D.tup ds).lo n = true := by
  show losD n ds = true
  induction ds with
  | nil => rfl
  | cons d ds ih =>
    show (d.lo n && losD n ds) = true
    rw [h d List.mem_cons_self, ih fun e he => h e (List.mem_cons_of_mem _ he)]
    rfl
theorem pure_tup {ds : List D} (h : ∀ d ∈ ds, d.pure = true) : (D.tup ds).pure = true := by
  show pures ds = true
  induction ds with
  | nil => rfl
  | cons d ds ih =>
    show (d.pure && pures ds) = true
    rw [h d List.mem_cons_self, ih fun e he => h e (List.mem_cons_of_mem _ he)]
    rfl
/-- what a line is made of -/
structure Pcs (nm : Str) (sm : List Int) (ps : List Ln) : Prop where
  hnm : nm ∈ NAMES
  hsm : ∀ i ∈ sm, -BB ≤ i ∧ i ≤ BB
  sl : sm.length ≤ 1000
  pl : ps.length ≤ 1000
  bd : Bd (.mk nm sm ps)
  hi : (Ln.mk nm sm ps).high ≤ 18
theorem Lw.pcs {nm : Str} {sm : List Int} {ps : List Ln} (h : Lw (.mk nm sm ps)) (hh : (Ln.mk nm sm ps).high ≤ 18) : Pcs nm sm ps := by
  have g := h.g
  have s := h.s
  rw [Ln.good] at g
  rw [Ln.size] at s
  have := length_sizes ps
  exact ⟨g.1, g.2.1, g.2.2.1, by omega, h.bd, hh⟩
section
variable {nm : Str} {sm : List Int} {ps : List Ln} (h : Pcs nm sm ps)
include h
theorem Pcs.ints (M : Mem) : Sm M 40 (.tup (sm.map D.int)) (.tup (sm.map D.int)) := by
  have := h.sl
  exact sm_tup (by rw [List.length_map]; omega) (sm_ints M _ sm)
theorem Pcs.parts (M : Mem) : Sm M 40 (.tup (lnsD ps)) (.tup (lnsD ps)) := by
  have := h.pl
  refine sm_tup (by rw [lns_len]; omega) fun d hd => ?_
  obtain ⟨p, hp, rfl⟩ := lns_mem hd
  have h1 := mem_highs hp
  have h2 := h.hi
  rw [Ln.high] at h2
  exact (sm_line M 17 p (by omega) (h.bd.parts.2.2.2 p hp)).more (by omega)
theorem Pcs.self (M : Mem) : Sm M 40 (Ln.mk nm sm ps).d (Ln.mk nm sm ps).d := (sm_line M 18 _ h.hi h.bd).more (by omega)
theorem Pcs.pparts : (D.tup (lnsD ps)).pure = true := lnsPure ps
end
theorem sm3 {M : Mem} {x y z : D} (hx : Sm M 40 x x) (hy : Sm M 40 y y) (hz : Sm M 40 z z) : Sm M 50 (.tup [x, y, z]) (.tup [x, y, z]) :=
  (sm_tup (n := 40) (by simp) fun d hd => by
    simp only [List.mem_cons, List.not_mem_nil, or_false] at hd
    rcases hd with rfl | rfl | rfl <;> assumption).more (by omega)
theorem sm_e (M : Mem) : Sm M 40 (.tup []) (.tup []) := sm_tup (by decide) fun d hd => by cases hd
theorem p3 {x y z : D} (hx : x.pure = true) (hy : y.pure = true) (hz : z.pure = true) : (D.tup [x, y, z]).pure = true := pure_tup fun d hd => by
  simp only [List.mem_cons, List.not_mem_nil, or_false] at hd
  rcases hd with rfl | rfl | rfl <;> assumption
theorem bads_bad {a b : Nat} {M : Mem} {nm : Str} {sm : List Int} {ps : List Ln} (h : Pcs nm sm ps) {n : Nat} (na : n ≠ a) (nb : n ≠ b) (na' : n + 1 ≠ a) (nb' : n + 1 ≠ b) (m0 : M[n]? = some (.lst [.str nm, .tup (sm.map D.int), .tup (lnsD ps)])) (m1 : M[n + 1]? = some (.lst [.int 0])) : ∀ d ∈ badsD n nm sm ps, BadV a b M d := by
  intro d hd
  unfold badsD at hd
  simp only [List.mem_cons, List.not_mem_nil, or_false] at hd
  have hS := pure_ints sm
  have hP := h.pparts
  rcases hd with rfl | rfl | rfl | rfl | rfl | rfl | rfl | rfl | rfl | rfl | rfl | rfl | rfl
  · exact bad_pure rfl (fun L M' => k5_kd L _ .non M' rfl (by decide)) fun M' => (sm_flat (n := 0) rfl).more (by omega)
  · exact bad_pure rfl (fun L M' => k5_len L [] (by decide) M') fun M' => (sm_e M').more (by omega)
  · refine bad_pure (pure_tup fun d hd => ?_) (fun L M' => k5_len L _ (by simp) M') fun M' => (sm_tup (n := 40) (by simp) fun d hd => ?_).more (by omega)
    · simp only [List.mem_cons, List.not_mem_nil, or_false] at hd
      rcases hd with rfl | rfl
      · rfl
      · exact hS
    · simp only [List.mem_cons, List.not_mem_nil, or_false] at hd
      rcases hd with rfl | rfl
      · exact sm_flat rfl
      · exact h.ints M'
  · intro M' g
    have e := g.get na nb m0
    refine ⟨fun L => k5_kd L _ .lst M' (by unfold kd; simp only [e]) (by decide), decide_eq_true (List.getElem?_eq_some_iff.mp e).1, (sm_ref (n := 40) e e (by simp) fun d hd => ?_).more (by omega)⟩
    simp only [List.mem_cons, List.not_mem_nil, or_false] at hd
    rcases hd with rfl | rfl | rfl
    · exact sm_flat rfl
    · exact h.ints M'
    · exact h.parts M'
  · exact bad_pure (p3 rfl hS hP) (fun L M' => k5_name L _ _ _ (c4_A L) M') fun M' => sm3 (sm_flat rfl) (h.ints M') (h.parts M')
  · exact bad_pure (p3 rfl hS hP) (fun L M' => k5_name L _ _ _ (c4_when L) M') fun M' => sm3 (sm_flat rfl) (h.ints M') (h.parts M')
  · intro M' g
    have e := g.get na' nb' m1
    refine ⟨fun L => k5_small L nm h.hnm _ _ M' fun Y => c3_kd L _ .lst _ (kd_app (by unfold kd; simp only [e])) (by decide), lo_tup fun d hd => ?_, sm3 (sm_flat rfl) (sm_ref (n := 39) e e (by simp) fun d hd => ?_) (h.parts M')⟩
    · simp only [List.mem_cons, List.not_mem_nil, or_false] at hd
      rcases hd with rfl | rfl | rfl
      · rfl
      · exact decide_eq_true (List.getElem?_eq_some_iff.mp e).1
      · exact D.pure_lo _ _ hP
    · rw [List.mem_singleton.mp hd]; exact sm_flat rfl
  · exact bad_pure (p3 rfl rfl hP) (fun L M' => k5_small L nm h.hnm _ _ M' fun Y => c3_one L (.bl true) .bl _ (fun _ => rfl) (.inr rfl)) fun M' => sm3 (sm_flat rfl) (sm_tup (n := 39) (by simp) fun d hd => by rw [List.mem_singleton.mp hd]; exact sm_flat rfl) (h.parts M')
  · exact bad_pure (p3 rfl hS rfl) (fun L M' => k5_part L nm h.hnm sm h.hsm h.sl .non .non M' rfl (by decide)) fun M' => sm3 (sm_flat rfl) (h.ints M') (sm_flat rfl)
  · refine bad_pure (p3 rfl hS (pure_tup fun d hd => ?_)) (fun L M' => k5_in L nm h.hnm sm h.hsm h.sl [(Ln.mk nm sm ps).d] (by simp) M') fun M' => (sm_tup (n := 42) (by simp) fun d hd => ?_).more (by omega)
    · simp only [List.mem_cons, List.not_mem_nil, or_false] at hd
      rcases hd with rfl | rfl
      · exact Ln.pure _
      · rfl
    · simp only [List.mem_cons, List.not_mem_nil, or_false] at hd
      rcases hd with rfl | rfl | rfl
      · exact sm_flat rfl
      · exact (h.ints M').more (by omega)
      · refine (sm_tup (n := 40) (by simp) fun d hd => ?_).more (by omega)
        simp only [List.mem_cons, List.not_mem_nil, or_false] at hd
        rcases hd with rfl | rfl
        · exact h.self M'
        · exact sm_e M'
  · refine bad_pure (pure_tup fun d hd => ?_) (fun L M' => k5_len L _ (by simp) M') fun M' => (sm_tup (n := 40) (by simp) fun d hd => ?_).more (by omega)
    · simp only [List.mem_cons, List.not_mem_nil, or_false] at hd
      rcases hd with rfl | rfl | rfl | rfl
      · rfl
      · exact hS
      · exact hP
      · rfl
    · simp only [List.mem_cons, List.not_mem_nil, or_false] at hd
      rcases hd with rfl | rfl | rfl | rfl
      · exact sm_flat rfl
      · exact h.ints M'
      · exact h.parts M'
      · exact sm_e M'
  · exact bad_pure rfl (fun L M' => k5_name L _ _ _ (c4_empty L) M') fun M' => sm3 (sm_flat rfl) (sm_e M') (sm_e M')
  · exact bad_pure rfl (fun L M' => k5_name L _ _ _ (c4_int L 7) M') fun M' => sm3 (sm_flat rfl) (sm_e M') (sm_e M')
theorem odds_bad {a b : Nat} {M : Mem} {l : Ln} (hl : Lw l) (hh : l.high ≤ 18) {n : Nat} (na : n ≠ a) (nb : n ≠ b) (m0 : M[n]? = some (.lst [l.d])) : ∀ d ∈ oddsD n, BadV a b M d := by
  intro d hd
  unfold oddsD at hd
  simp only [List.mem_cons, List.not_mem_nil, or_false] at hd
  rcases hd with rfl | rfl | rfl | rfl | rfl
  · exact bad_pure rfl (fun L M' => k5_kd L _ .non M' rfl (by decide)) fun M' => (sm_flat (n := 0) rfl).more (by omega)
  · exact bad_pure rfl (fun L M' => k5_kd L _ .str M' rfl (by decide)) fun M' => (sm_flat (n := 0) rfl).more (by omega)
  · exact bad_pure rfl (fun L M' => k5_kd L _ .int M' rfl (by decide)) fun M' => (sm_flat (n := 0) rfl).more (by omega)
  · intro M' g
    have e := g.get na nb m0
    refine ⟨fun L => k5_part L "a" (by simp [NAMES]) [] (fun i hi => by cases hi) (by simp) (.ref n) .lst M' (by unfold kd; simp only [e]) (by decide), lo_tup fun d hd => ?_, sm3 (sm_flat rfl) (sm_e M') (sm_ref (n := 39) e e (by simp) fun d hd => ?_)⟩
    · simp only [List.mem_cons, List.not_mem_nil, or_false] at hd
      rcases hd with rfl | rfl | rfl
      · rfl
      · rfl
      · exact decide_eq_true (List.getElem?_eq_some_iff.mp e).1
    · rw [List.mem_singleton.mp hd]; exact (sm_line M' 18 l hh hl.bd).more (by omega)
  · exact bad_pure rfl (fun L M' => k5_small L "a" (by simp [NAMES]) _ _ M' fun Y => c3_one L (.str "0") .str _ (fun _ => rfl) (.inl rfl)) fun M' => sm3 (sm_flat rfl) (sm_tup (n := 39) (by simp) fun d hd => by rw [List.mem_singleton.mp hd]; exact sm_flat rfl) (sm_e M')
end W8

set_option Elab.async false
set_option linter.all false
set_option maxRecDepth 100000
namespace W8
open PySem L2 PySem.Spec PyProof.Rows

theorem cs58 : Cs (callK FU 58) where
  c10 := fun l M h => k10 53 l M h.g (by have := h.s; show l.size < 1000; omega)
  c11 := fun l m M h h' => k11 53 l m M h.g h'.g (by have := h.s; show l.size < 1000; omega) (by have := h'.s; show m.size < 1000; omega) (by have := h.h; omega) h.bd h'.bd
  c20 := fun d e M h => s20_alike FU 58 d e M (h.more (by omega))
  c21 := fun l M h => s21_line FU 58 l M (by have := h.h; omega) (by have := h.s; omega)
  c27 := fun l m M h h' => by
    have q1 := h.h
    have q2 := h'.h
    have q3 := h.s
    have q4 := h'.s
    rw [show (58 : Nat) = 57 + 1 from rfl, callK_27]
    exact s27_line (s21_line FU 57 l M (by omega) (by omega)) (s21_line FU 57 m M (by omega) (by omega)) (s28_alk FU 53 57 l.d m.d M (alk_lines 26 l m q1 h.bd h'.bd) (by omega))
theorem f58_3 (a b : Nat) : FormedC (callK FU 58) a b 3 := formedC FU 52 a b 3 (by omega)
theorem f58_2 (a b : Nat) : FormedC (callK FU 58) a b 2 := formedC FU 53 a b 2 (by omega)
theorem f57_1 (a b : Nat) : FormedC (callK FU 57) a b 1 := formedC FU 53 a b 1 (by omega)
theorem d58 (a b : Nat) : DrawC (callK FU 58) a b := drawC FU 57 a b
theorem p58 (a b : Nat) : PickC (callK FU 58) a b := pickC FU 56 a b
def OtherC (c : Fn) (a b : Nat) : Prop := ∀ (M : Mem) (N : Nat) (l : Ln) (B : Int) (w : Nat), l.good B w → BIG ≤ B → 2 ≤ w → w ≤ 20 → l.size ≤ 1000 → l.high ≤ 30 → Dk M a b N → N + 60 ≤ 1000000 →
  ∃ (l' : Ln) (M' : Mem), c 26 [.ref a, l.d] M = .ok l'.d M' ∧ (l'.good (B + 1) (w + 1) ∧ l'.size ≤ l.size + 4 ∧ l'.high ≤ 2 * l.high + 2) ∧ SameBut a b M M' ∧ Dk M' a b (N + 60)
theorem o58 (a b : Nat) : OtherC (callK FU 58) a b := fun M N l B w g hB hw hw2 hs hh hk hN => by
  rw [show (58 : Nat) = 57 + 1 from rfl, callK_26]
  exact s26_other (drawC FU 56 a b) (pickC FU 55 a b) (f57_1 a b) (fun M => s22_line FU 57 l M (by omega) (by omega) (by omega))
    (fun p q M h => by rw [show (57 : Nat) = 56 + 1 from rfl, callK_23]; exact s23_line h)
    (fun p q x M h => by
      have := at_size h
      exact s24_line FU p 57 l q x M (by omega) (by omega) h)
    g hB hw hw2 hs hk hN
theorem lns_of' {Q : Ln → Prop} : ∀ (ys : List D), (∀ y ∈ ys, ∃ l : Ln, y = l.d ∧ Q l) → ∃ ps : List Ln, ys = lnsD ps ∧ ps.length = ys.length ∧ ∀ p ∈ ps, Q p
  | [], _ => ⟨[], rfl, rfl, fun p hp => by cases hp⟩
  | y :: ys, H => by
    obtain ⟨l, rfl, h⟩ := H y List.mem_cons_self
    obtain ⟨ps, rfl, lp, hp⟩ := lns_of' ys fun z hz => H z (List.mem_cons_of_mem _ hz)
    refine ⟨l :: ps, by rw [lnsD], by simp [lp], fun p hq => ?_⟩
    rcases List.mem_cons.mp hq with hq | hq
    · subst hq; exact h
    · exact hp p hq
abbrev E15 (a : Nat) (o1 o2 o3 o4 o5 o6 o7 o8 o9 o10 o11 o12 o13 o14 : Option D) : Env := [some (.ref a), o1, o2, o3, o4, o5, o6, o7, o8, o9, o10, o11, o12, o13, o14]
/-- a line among those of a turn -/
structure Lt (l : Ln) : Prop where
  g : l.good BB 1000
  s : l.size ≤ 48
  h : l.high ≤ 22
theorem Lt.lw {l : Ln} (h : Lt l) : Lw l := ⟨h.g, by have := h.s; omega, by have := h.h; omega⟩
noncomputable def makeS (c : Fn) (rest : Stt) : Stt := seqS (setS 2 (callE (c 25) (consE (var 0) (consE (con (.int 3)) nilE)))) (seqS (setS 3 (lstE (consE (var 2) (consE (callE (c 25) (consE (var 0) (consE (con (.int 2)) nilE))) nilE)))) (seqS (exprS (mtE extD (var 3) (consE (lcE (rng1I (consE (con (.int 3)) nilE)) [4] (.nm 4) tru (callE (c 26) (consE (var 0) (consE (var 2) nilE)))) nilE))) (seqS (exprS (mtE appD (var 3) (consE (callE (c 26) (consE (var 0) (consE (opE ixD (var 3) (negE (con (.int 1)))) nilE))) nilE))) rest)))
theorem make_ok {a b N : Nat} {M : Mem} (hk : Dk M a b N) (hN : N + 600 ≤ 1000000) (o1 o2 o3 o4 o5 o6 o7 o8 o9 o10 o11 o12 o13 o14 : Option D) :
    ∃ (first : Ln) (lines : List Ln) (n : Nat) (M' : Mem), Lt first ∧ first.high ≤ 4 ∧ first.size ≤ 40 ∧ lines.length = 6 ∧ (∀ m ∈ lines, Lt m) ∧ M'[n]? = some (.lst (lnsD lines)) ∧ n ≠ a ∧ n ≠ b ∧ Dk M' a b (N + 600) ∧
      ∀ rest : Stt, makeS (callK FU 58) rest (E15 a o1 o2 o3 o4 o5 o6 o7 o8 o9 o10 o11 o12 o13 o14) M = rest (E15 a o1 (some first.d) (some (.ref n)) o4 o5 o6 o7 o8 o9 o10 o11 o12 o13 o14) M' := by
  have hbb : BB = 9000000000000000000000000000000000000000 := rfl
  have hbig : BIG = 1000000000000000000000000000000000000000 := rfl
  have c3 : costF 3 = 200 := rfl
  have c2 : costF 2 = 65 := rfl
  have z3 : sizeF 3 = 40 := rfl
  have z2 : sizeF 2 = 13 := rfl
  obtain ⟨la, lb⟩ := hk.lt
  obtain ⟨first, M1, e1, ⟨g1, sz1, h1⟩, s1, k1⟩ := f58_3 a b M N hk (by omega)
  rw [c3] at k1
  rw [z3] at sz1
  obtain ⟨second, M2, e2, ⟨g2, sz2, h2⟩, s2, k2⟩ := f58_2 a b M1 (N + 200) k1 (by omega)
  rw [c2] at k2
  rw [z2] at sz2
  have l1 : M1.length = M.length := s1.1
  have l2 : M2.length = M.length := s2.1.trans l1
  let n := M2.length
  have na : n ≠ a := by show M2.length ≠ a; omega
  have nb : n ≠ b := by show M2.length ≠ b; omega
  -- the three others
  obtain ⟨ys, M3, e3, l3, g3, gr3, k3⟩ := lc_gr (a := a) (b := b) (x := ⟨rngD 0 (3 : Int).toNat, []⟩) (fun N => ok_nil N) (t := .nm 4) (e := callE (callK FU 58 26) (consE (var 0) (consE (var 2) nilE))) (ρ := E15 a o1 (some first.d) (some (.ref n)) none o5 o6 o7 o8 o9 o10 o11 o12 o13 o14) (f := fun z => E15 a o1 (some first.d) (some (.ref n)) (some z) o5 o6 o7 o8 o9 o10 o11 o12 o13 o14) (fun d M => rfl) (Good := fun y => ∃ l : Ln, y = l.d ∧ (l.good (BIG + 1) 3 ∧ l.size ≤ 44 ∧ l.high ≤ 10)) (step := 60) (top := 1000000) (fun M k z hk hN => by
      obtain ⟨l, M', e, ⟨gl, sl, hl⟩, s, K⟩ := o58 a b M k first BIG 2 g1 (by omega) (by omega) (by omega) (by omega) (by omega) hk hN
      exact ⟨l.d, M', (call2 (var_ok (d := .ref a) rfl) (var_ok (d := first.d) rfl)).trans e, ⟨l, rfl, gl, by omega, by omega⟩, Gr.same s, K⟩) (rngD 0 (3 : Int).toNat) (M2 ++ [.lst [first.d, second.d]]) (N + 200 + 65) k2.app (by rw [rngD_len]; show N + 200 + 65 + 3 * 60 ≤ 1000000; omega)
  rw [rngD_len] at l3 k3
  have l3 : ys.length = 3 := l3
  have k3 : Dk M3 a b (N + 200 + 65 + 3 * 60) := k3
  obtain ⟨others, rfl, lo, ho⟩ := lns_of' ys g3
  rw [lns_len] at l3
  have m3 : M3[n]? = some (.lst [first.d, second.d]) := gr3.get na nb (by show (M2 ++ [MO.lst [first.d, second.d]])[M2.length]? = _; exact mem0)
  have hn3 := (List.getElem?_eq_some_iff.mp m3).1
  let M4 : Mem := List.set (M3 ++ [MO.lst (lnsD others)]) n (MO.lst ([first.d, second.d] ++ lnsD others))
  have hn4 : n < (M3 ++ [MO.lst (lnsD others)]).length := by rw [List.length_append]; omega
  have m4 : M4[n]? = some (.lst (lnsD ([first, second] ++ others))) := by
    show ((M3 ++ [MO.lst (lnsD others)]).set n _)[n]? = _
    rw [List.getElem?_set_self hn4, lnsD_map, lnsD_map, List.map_append]; rfl
  have k4 : Dk M4 a b (N + 200 + 65 + 3 * 60) := k3.app.keep (List.getElem?_set_ne na) (List.getElem?_set_ne nb)
  -- the last one
  obtain ⟨init, last, hio⟩ : ∃ init last, others = init ++ [last] := by
    rcases List.eq_nil_or_concat others with e | ⟨i, l, e⟩
    · rw [e] at l3; cases l3
    · exact ⟨i, l, by rw [e, List.concat_eq_append]⟩
  obtain ⟨gl, sl, hl⟩ := ho last (by rw [hio]; simp)
  obtain ⟨oo, M5, e5, ⟨g5, sz5, h5⟩, s5, k5⟩ := o58 a b M4 (N + 200 + 65 + 3 * 60) last (BIG + 1) 3 gl (by omega) (by omega) (by omega) (by omega) (by omega) k4 (by omega)
  have m5 : M5[n]? = some (.lst (lnsD ([first, second] ++ others))) := by rw [s5.2 n na nb]; exact m4
  have hn5 := (List.getElem?_eq_some_iff.mp m5).1
  let lines : List Ln := ([first, second] ++ others) ++ [oo]
  let M6 : Mem := M5.set n (.lst (lnsD ([first, second] ++ others) ++ [oo.d]))
  have m6 : M6[n]? = some (.lst (lnsD lines)) := by
    show (M5.set n _)[n]? = _
    rw [List.getElem?_set_self hn5, ← lns_last]
  have k6 : Dk M6 a b (N + 600) := (k5.keep (List.getElem?_set_ne na) (List.getElem?_set_ne nb)).more (by omega)
  refine ⟨first, lines, n, M6, ⟨Ln.more g1 (by omega) (by omega), by omega, by omega⟩, h1, sz1, by simp [lines, l3], fun m hm => ?_, m6, na, nb, k6, fun rest => ?_⟩
  · rcases List.mem_append.mp hm with hm | hm
    · rcases List.mem_append.mp hm with hm | hm
      · simp only [List.mem_cons, List.not_mem_nil, or_false] at hm
        rcases hm with rfl | rfl
        · exact ⟨Ln.more g1 (by omega) (by omega), by omega, by omega⟩
        · exact ⟨Ln.more g2 (by omega) (by omega), by omega, by omega⟩
      · obtain ⟨q1, q2, q3⟩ := ho m hm
        exact ⟨Ln.more q1 (by omega) (by omega), by omega, by omega⟩
    · rw [List.mem_singleton.mp hm]
      exact ⟨Ln.more g5 (by omega) (by omega), by omega, by omega⟩
  · unfold makeS
    have t1 : setS 2 (callE (callK FU 58 25) (consE (var 0) (consE (con (.int 3)) nilE))) (E15 a o1 o2 o3 o4 o5 o6 o7 o8 o9 o10 o11 o12 o13 o14) M = .ok (.nx (E15 a o1 (some first.d) o3 o4 o5 o6 o7 o8 o9 o10 o11 o12 o13 o14)) M1 :=
      set_ok (i := 2) ((call2 (var_ok (d := .ref a) rfl) (rfl : con (.int 3) _ M = .ok (.int 3) M)).trans e1)
    have t2 : setS 3 (lstE (consE (var 2) (consE (callE (callK FU 58 25) (consE (var 0) (consE (con (.int 2)) nilE))) nilE))) (E15 a o1 (some first.d) o3 o4 o5 o6 o7 o8 o9 o10 o11 o12 o13 o14) M1 = .ok (.nx (E15 a o1 (some first.d) (some (.ref n)) o4 o5 o6 o7 o8 o9 o10 o11 o12 o13 o14)) (M2 ++ [.lst [first.d, second.d]]) :=
      set_ok (i := 3) (lst_ok (cons_ok (var_ok (d := first.d) rfl) (cons_ok ((call2 (var_ok (d := .ref a) rfl) (rfl : con (.int 2) _ M1 = .ok (.int 2) M1)).trans e2) nil_ok)) (small_ok (show 2 ≤ 1000000 by decide)))
    have hr := rng_ok (e := con (.int 3)) (ρ := E15 a o1 (some first.d) (some (.ref n)) o4 o5 o6 o7 o8 o9 o10 o11 o12 o13 o14) (M := M2 ++ [.lst [first.d, second.d]]) (r := 3) rfl (by omega) (by omega)
    have hlc := lc_ok (vs := [4]) hr (by rw [rngD_len]; exact small_ok (by decide)) e3
    have t3 : exprS (mtE extD (var 3) (consE (lcE (rng1I (consE (con (.int 3)) nilE)) [4] (.nm 4) tru (callE (callK FU 58 26) (consE (var 0) (consE (var 2) nilE)))) nilE)) (E15 a o1 (some first.d) (some (.ref n)) o4 o5 o6 o7 o8 o9 o10 o11 o12 o13 o14) (M2 ++ [.lst [first.d, second.d]]) = .ok (.nx (E15 a o1 (some first.d) (some (.ref n)) o4 o5 o6 o7 o8 o9 o10 o11 o12 o13 o14)) M4 :=
      expr_ok (extL_ok (n := n) (xs := [first.d, second.d]) (ys := lnsD others) rfl mem0 hlc (by rw [List.getElem?_append_left hn3]; exact m3) mem0 (by rw [lns_len, l3]; exact small_ok (show 2 + 3 ≤ 1000000 by decide)))
    have hlast : opE ixD (var 3) (negE (con (.int 1))) (E15 a o1 (some first.d) (some (.ref n)) o4 o5 o6 o7 o8 o9 o10 o11 o12 o13 o14) M4 = .ok last.d M4 := by
      rw [op_ok (var_ok (d := .ref n) rfl) (rfl : negE (con (.int 1)) _ _ = .ok (.int (-1)) _)]
      unfold ixD ixB
      have : lnsD ([first, second] ++ others) = lnsD ([first, second] ++ init) ++ [last.d] := by rw [hio, ← List.append_assoc, lns_last]
      simp only [m4, this, L2.atI_last]
      rfl
    have t4 : exprS (mtE appD (var 3) (consE (callE (callK FU 58 26) (consE (var 0) (consE (opE ixD (var 3) (negE (con (.int 1)))) nilE))) nilE)) (E15 a o1 (some first.d) (some (.ref n)) o4 o5 o6 o7 o8 o9 o10 o11 o12 o13 o14) M4 = .ok (.nx (E15 a o1 (some first.d) (some (.ref n)) o4 o5 o6 o7 o8 o9 o10 o11 o12 o13 o14)) M6 :=
      expr_ok (app_ok (n := n) (xs := lnsD ([first, second] ++ others)) rfl m4 ((call2 (var_ok (d := .ref a) rfl) hlast).trans e5) m5 (by rw [lns_len, List.length_append, l3]; exact small_ok (show 2 + 3 + 1 ≤ 1000000 by decide)))
    rw [seq_nx t1, seq_nx t2, seq_nx t3, seq_nx t4]
end W8

set_option Elab.async false
set_option linter.all false
set_option maxRecDepth 100000
namespace W8
open PySem L2 PySem.Spec PyProof.Rows

theorem put58 {first x q : Ln} {p : List Nat} (M : Mem) (hq : at' first p = some q) (hf : Lw first) (hx : Lw x) : callK FU 58 15 [first.d, plD p, x.d] M = .ok (put' first p x).d M := by
  have s1 := hf.s
  have s2 := hx.s
  have h1 := hf.h
  have ha := at_size hq
  rw [show (58 : Nat) = 57 + 1 from rfl, callK_15]
  refine s15_line (q := q) (k6 53 first M hf.g (by show first.size < 1000; omega)) ?_ (k6 53 x M hx.g (by show x.size < 1000; omega)) ?_
  · rw [show (57 : Nat) = 56 + 1 from rfl, callK_13]
    refine s13_ok ?_
    rw [show (56 : Nat) = 55 + 1 from rfl, callK_12]
    refine s12_line (fun i a b => ?_) (by omega) hq
    by_cases h : a ≤ i ∧ i ≤ b ∧ b ≤ 100000 ∧ 0 ≤ a
    · left
      rw [show (55 : Nat) = 54 + 1 from rfl, callK_1]
      refine s1_int FU _ i a b M ?_
      refine (whole_ok FU 53 i M).trans ?_
      rw [decide_eq_true (by omega), decide_eq_true (by omega)]; rfl
    · exact .inr h
  · rw [show (57 : Nat) = 56 + 1 from rfl, callK_14]
    exact s14_line (by omega) (by omega) hq
theorem law_put58 {first x q : Ln} {p : List Nat} (M : Mem) (hq : at' first p = some q) (hf : Lw first) : callK FU 58 24 [first.d, plD p, x.d] M = .ok (put' first p x).d M := by
  have s1 := hf.s
  have h1 := hf.h
  have ha := at_size hq
  exact s24_line FU p 58 first q x M (by omega) (by omega) hq
theorem mixed58 {a b N n : Nat} {M : Mem} {ds : List D} (hk : Dk M a b N) (hN : N + ds.length ≤ 1000000) (hds : M[n]? = some (.lst ds)) (h1 : ds.length ≤ 1000) :
    ∃ M' fs, callK FU 58 19 [.ref a, .ref n] M = .ok (.ref (M.length + 1)) (M' ++ [.lst [], .lst fs]) ∧ fs.Perm ds ∧ SameBut a b M M' ∧ Dk M' a b (N + ds.length) := by
  rw [show (58 : Nat) = 57 + 1 from rfl, callK_19]
  exact s19_mixed (drawC FU 56 a b) hk hN hds h1
theorem two_of {ds fs : List D} (h : fs.Perm ds) (h2 : 2 ≤ ds.length) : ∃ x y r, fs = x :: y :: r ∧ x ∈ ds ∧ y ∈ ds := by
  have hl := h.length_eq
  cases fs with
  | nil => simp at hl; omega
  | cons x fs =>
    cases fs with
    | nil => simp at hl; omega
    | cons y r => exact ⟨x, y, r, rfl, h.mem_iff.mp (by simp), h.mem_iff.mp (by simp)⟩
noncomputable def midS (c : Fn) (rest : Stt) : Stt := seqS (forS (enI (consE (var 3) nilE)) (.tp [5, 6]) (outerBody c)) (seqS (asgS (.tp [6, 7]) (slE (callE (c 19) (consE (var 0) (consE (var 3) nilE))) noP (smP (con (.int 2))))) (seqS (asgS (.tp [6, 7]) (ifE (asT (opE ltD (callE (c 27) (consE (var 6) (consE (var 7) nilE))) (con (.int 0)))) (tupE (consE (var 6) (consE (var 7) nilE))) (tupE (consE (var 7) (consE (var 6) nilE))))) (seqS (setS 9 (callE (c 18) (consE (var 0) (consE (callE (c 22) (consE (var 2) nilE)) nilE)))) (seqS (parS 10 11 (consE (callE (c 15) (consE (var 2) (consE (var 9) (consE (var 6) nilE)))) (consE (callKE (c 15) 0 3 [2, 1, 0] nilE (consE (var 7) (consE (var 9) (consE (var 2) nilE)))) nilE))) (seqS (ifS (orT (notT (asT (callE (c 20) (consE (lstE (consE (var 10) (consE (var 11) nilE))) (consE (lstE (consE (callE (c 24) (consE (var 2) (consE (var 9) (consE (var 6) nilE)))) (consE (callE (c 24) (consE (var 2) (consE (var 9) (consE (var 7) nilE)))) nilE))) nilE))))) (notT (asT (callE (c 20) (consE (callE (c 11) (consE (var 10) (consE (var 11) nilE))) (consE (opE neD (var 6) (var 7)) nilE)))))) (retS (con (.bl false))) skipS) rest)))))
theorem before_ne {A B : Ln} (b1 : Bd A) (b2 : Bd B) (h : cmpD A.key B.key ≤ 0) : decide (cmpD A.key B.key < 0) = !decide (cmpD A.d B.d = 0) := by
  by_cases hd : cmpD A.d B.d = 0
  · have e := (d_zero b1 b2).mp hd
    subst e
    rw [cmpD_self, cmpD_self]; rfl
  · have hk : cmpD A.key B.key ≠ 0 := fun z => hd ((d_zero b1 b2).mpr ((key_zero b1 b2).mp z))
    rw [decide_eq_true (by omega), decide_eq_false hd]; rfl
theorem mid_ok {a b N n : Nat} {M : Mem} {first : Ln} {lines : List Ln} (hk : Dk M a b N) (hN : N + 100 ≤ 1000000) (hf : Lt first) (hf4 : first.high ≤ 4) (hf40 : first.size ≤ 40) (hlen : lines.length = 6) (hls : ∀ m ∈ lines, Lt m) (hn : M[n]? = some (.lst (lnsD lines))) (o1 o4 o5 o6 o7 o8 o9 o10 o11 o12 o13 o14 : Option D) :
    ∃ (q5 q6 q7 q8 q9 q10 q11 : Option D) (M' : Mem), Dk M' a b (N + 100) ∧
      ∀ rest : Stt, midS (callK FU 58) rest (E15 a o1 (some first.d) (some (.ref n)) o4 o5 o6 o7 o8 o9 o10 o11 o12 o13 o14) M = rest (E15 a o1 (some first.d) (some (.ref n)) o4 q5 q6 q7 q8 q9 q10 q11 o12 o13 o14) M' := by
  have C := cs58
  have hfw := hf.lw
  -- the loop
  obtain ⟨p5, p6, p7, p8, Y, e1⟩ := outer_loop C (x := ⟨enD 0 (lnsD lines), [(n, lnsD lines)]⟩) (n := n) (lines := lines) (by omega) (fun m hm => (hls m hm).lw) lines 0 (E15 a o1 (some first.d) (some (.ref n)) o4 o5 o6 o7 o8 o9 o10 o11 o12 o13 o14) M List.drop_zero (fun Y p hp => by
    rw [List.mem_singleton.mp hp]
    rw [List.getElem?_append_left (List.getElem?_eq_some_iff.mp hn).1]; exact hn) rfl hn (by simp)
  have hen : enI (consE (var 3) nilE) (E15 a o1 (some first.d) (some (.ref n)) o4 o5 o6 o7 o8 o9 o10 o11 o12 o13 o14) M = .ok ⟨enD 0 (lnsD lines), [(n, lnsD lines)]⟩ M := by
    unfold enI
    rw [cons_ok (var_ok (d := .ref n) rfl) nil_ok, R.bind_ok]
    simp only [seqOf, hn]
    rfl
  have t1 : forS (enI (consE (var 3) nilE)) (.tp [5, 6]) (outerBody (callK FU 58)) (E15 a o1 (some first.d) (some (.ref n)) o4 o5 o6 o7 o8 o9 o10 o11 o12 o13 o14) M = .ok (.nx (E15 a o1 (some first.d) (some (.ref n)) o4 p5 p6 p7 p8 o9 o10 o11 o12 o13 o14)) (M ++ Y) := (for_ok hen).trans e1
  -- mixed
  have hn1 : (M ++ Y)[n]? = some (.lst (lnsD lines)) := by rw [List.getElem?_append_left (List.getElem?_eq_some_iff.mp hn).1]; exact hn
  obtain ⟨M2, fs, e2, pm, s2, k2⟩ := mixed58 (hk.app (X := Y)) (by rw [lns_len, hlen]; omega) hn1 (by rw [lns_len, hlen]; decide)
  rw [lns_len, hlen] at k2
  obtain ⟨x, y, r, rfl, hx, hy⟩ := two_of pm (by rw [lns_len, hlen]; decide)
  obtain ⟨one, hone, rfl⟩ := lns_mem hx
  obtain ⟨other, hother, rfl⟩ := lns_mem hy
  have l1 := hls one hone
  have l2 := hls other hother
  let M3 : Mem := (M2 ++ [.lst [], .lst (one.d :: other.d :: r)]) ++ [.lst [one.d, other.d]]
  have hsl : slE (callE (callK FU 58 19) (consE (var 0) (consE (var 3) nilE))) noP (smP (con (.int 2))) (E15 a o1 (some first.d) (some (.ref n)) o4 p5 p6 p7 p8 o9 o10 o11 o12 o13 o14) (M ++ Y) = .ok (.ref (M2 ++ [MO.lst [], .lst (one.d :: other.d :: r)]).length) M3 := by
    unfold slE
    rw [call2 (var_ok (d := .ref a) rfl) (var_ok (d := .ref n) rfl), e2, R.bind_ok]
    show lift (slB _ _ none (some ((2 : Nat) : Int))) = _
    unfold slB
    rw [← s2.1]
    simp only [mem1, cut_take]
    rfl
  have t2 : asgS (.tp [6, 7]) (slE (callE (callK FU 58 19) (consE (var 0) (consE (var 3) nilE))) noP (smP (con (.int 2)))) (E15 a o1 (some first.d) (some (.ref n)) o4 p5 p6 p7 p8 o9 o10 o11 o12 o13 o14) (M ++ Y) = .ok (.nx (E15 a o1 (some first.d) (some (.ref n)) o4 p5 (some one.d) (some other.d) p8 o9 o10 o11 o12 o13 o14)) M3 := by
    unfold asgS
    rw [hsl, R.bind_ok]
    unfold Tgt.put
    simp only [M3, mem0]
    rfl
  have k3 : Dk M3 a b (N + 6) := (k2.app).app
  -- the earlier one first
  obtain ⟨A, B, lA, lB, hAB, t3⟩ : ∃ A B : Ln, Lt A ∧ Lt B ∧ cmpD A.key B.key ≤ 0 ∧ asgS (.tp [6, 7]) (ifE (asT (opE ltD (callE (callK FU 58 27) (consE (var 6) (consE (var 7) nilE))) (con (.int 0)))) (tupE (consE (var 6) (consE (var 7) nilE))) (tupE (consE (var 7) (consE (var 6) nilE)))) (E15 a o1 (some first.d) (some (.ref n)) o4 p5 (some one.d) (some other.d) p8 o9 o10 o11 o12 o13 o14) M3 = .ok (.nx (E15 a o1 (some first.d) (some (.ref n)) o4 p5 (some A.d) (some B.d) p8 o9 o10 o11 o12 o13 o14)) M3 := by
    have hc : asT (opE ltD (callE (callK FU 58 27) (consE (var 6) (consE (var 7) nilE))) (con (.int 0))) (E15 a o1 (some first.d) (some (.ref n)) o4 p5 (some one.d) (some other.d) p8 o9 o10 o11 o12 o13 o14) M3 = .ok (decide (cmpD one.key other.key < 0)) M3 :=
      as_ok (sgn_lt ((call2 (var_ok (d := one.d) rfl) (var_ok (d := other.d) rfl)).trans (C.c27 one other M3 l1.lw l2.lw)))
    by_cases hw : cmpD one.key other.key < 0
    · refine ⟨one, other, l1, l2, by omega, ?_⟩
      rw [decide_eq_true hw] at hc
      unfold asgS ifE
      rw [hc, R.bind_ok, if_pos rfl, tup_ok (cons_ok (var_ok (d := one.d) rfl) (cons_ok (var_ok (d := other.d) rfl) nil_ok)) (small_ok (show 2 ≤ 1000000 by decide)), R.bind_ok]
      rfl
    · refine ⟨other, one, l2, l1, by rw [cmpD_anti one.key other.key]; omega, ?_⟩
      rw [decide_eq_false hw] at hc
      unfold asgS ifE
      rw [hc, R.bind_ok, if_neg (by decide), tup_ok (cons_ok (var_ok (d := other.d) rfl) (cons_ok (var_ok (d := one.d) rfl) nil_ok)) (small_ok (show 2 ≤ 1000000 by decide)), R.bind_ok]
      rfl
  -- the place
  obtain ⟨X, e22⟩ := s22_line FU 58 first M3 (by omega) (by omega) (by omega)
  have hpl := places_len first
  have hsp := size_pos first
  obtain ⟨la3, lb3⟩ := k3.lt
  obtain ⟨dp, M4, hd, e18, g4, k4⟩ := pick_at (p58 a b) (M := M3 ++ (.lst ((places first).map plD) :: X)) (i := M3.length) (ds := (places first).map plD) k3.app (by omega) (by omega) mem0 (by rw [List.length_map]; omega) (by rw [List.length_map]; omega) (fun d hd => places_pure first d hd _)
  obtain ⟨p, hp, rfl⟩ := List.mem_map.mp hd
  obtain ⟨q, hq⟩ := places_at first p hp
  have t4 : setS 9 (callE (callK FU 58 18) (consE (var 0) (consE (callE (callK FU 58 22) (consE (var 2) nilE)) nilE))) (E15 a o1 (some first.d) (some (.ref n)) o4 p5 (some A.d) (some B.d) p8 o9 o10 o11 o12 o13 o14) M3 = .ok (.nx (E15 a o1 (some first.d) (some (.ref n)) o4 p5 (some A.d) (some B.d) p8 (some (plD p)) o10 o11 o12 o13 o14)) M4 :=
    set_ok (i := 9) ((call2 (var_ok (d := .ref a) rfl) ((call1 (var_ok (d := first.d) rfl)).trans e22)).trans e18)
  -- near and far
  let near := put' first p A
  let far := put' first p B
  have t5 : parS 10 11 (consE (callE (callK FU 58 15) (consE (var 2) (consE (var 9) (consE (var 6) nilE)))) (consE (callKE (callK FU 58 15) 0 3 [2, 1, 0] nilE (consE (var 7) (consE (var 9) (consE (var 2) nilE)))) nilE)) (E15 a o1 (some first.d) (some (.ref n)) o4 p5 (some A.d) (some B.d) p8 (some (plD p)) o10 o11 o12 o13 o14) M4 = .ok (.nx (E15 a o1 (some first.d) (some (.ref n)) o4 p5 (some A.d) (some B.d) p8 (some (plD p)) (some near.d) (some far.d) o12 o13 o14)) M4 := by
    unfold parS
    rw [cons_ok ((call3 (var_ok (d := first.d) rfl) (var_ok (d := plD p) rfl) (var_ok (d := A.d) rfl)).trans (put58 M4 hq hfw lA.lw)) (cons_ok ((callK3 (var_ok (d := B.d) rfl) (var_ok (d := plD p) rfl) (var_ok (d := first.d) rfl)).trans (put58 M4 hq hfw lB.lw)) nil_ok), R.bind_ok]
    rfl
  have lnear : Lw near := by
    have h1 := put_size (a := A) hq
    have h2 := put_high (p := p) hf4 lA.h
    have h3 := lA.s
    exact ⟨put_good hf.g lA.g, by show (put' first p A).size ≤ 200; omega, h2⟩
  have lfar : Lw far := by
    have h1 := put_size (a := B) hq
    have h2 := put_high (p := p) hf4 lB.h
    have h3 := lB.s
    exact ⟨put_good hf.g lB.g, by show (put' first p B).size ≤ 200; omega, h2⟩
  let ρ5 := E15 a o1 (some first.d) (some (.ref n)) o4 p5 (some A.d) (some B.d) p8 (some (plD p)) (some near.d) (some far.d) o12 o13 o14
  let M5 : Mem := M4 ++ [.lst [near.d, far.d], .lst [near.d, far.d]]
  have c1 : notT (asT (callE (callK FU 58 20) (consE (lstE (consE (var 10) (consE (var 11) nilE))) (consE (lstE (consE (callE (callK FU 58 24) (consE (var 2) (consE (var 9) (consE (var 6) nilE)))) (consE (callE (callK FU 58 24) (consE (var 2) (consE (var 9) (consE (var 7) nilE)))) nilE))) nilE)))) ρ5 M4 = .ok false M5 := by
    have f1 : lstE (consE (var 10) (consE (var 11) nilE)) ρ5 M4 = .ok (.ref M4.length) (M4 ++ [.lst [near.d, far.d]]) := lst_ok (cons_ok (var_ok (d := near.d) rfl) (cons_ok (var_ok (d := far.d) rfl) nil_ok)) (small_ok (show 2 ≤ 1000000 by decide))
    have f2 : lstE (consE (callE (callK FU 58 24) (consE (var 2) (consE (var 9) (consE (var 6) nilE)))) (consE (callE (callK FU 58 24) (consE (var 2) (consE (var 9) (consE (var 7) nilE)))) nilE)) ρ5 (M4 ++ [.lst [near.d, far.d]]) = .ok (.ref (M4.length + 1)) M5 := by
      refine (lst_ok (cons_ok ((call3 (var_ok (d := first.d) rfl) (var_ok (d := plD p) rfl) (var_ok (d := A.d) rfl)).trans (law_put58 _ hq hfw)) (cons_ok ((call3 (var_ok (d := first.d) rfl) (var_ok (d := plD p) rfl) (var_ok (d := B.d) rfl)).trans (law_put58 _ hq hfw)) nil_ok)) (small_ok (show 2 ≤ 1000000 by decide))).trans ?_
      rw [ap_len, ap2]
    refine cond_same f1 f2 (C.c20 _ _ _ (sm_ref (ds := [near.d, far.d]) mem0 mem1 (show 2 ≤ 100000 by decide) fun d hd => ?_))
    simp only [List.mem_cons, List.not_mem_nil, or_false] at hd
    rcases hd with rfl | rfl
    · exact (sm_line _ 26 near lnear.h lnear.bd).more (by omega)
    · exact (sm_line _ 26 far lfar.h lfar.bd).more (by omega)
  have c2 : notT (asT (callE (callK FU 58 20) (consE (callE (callK FU 58 11) (consE (var 10) (consE (var 11) nilE))) (consE (opE neD (var 6) (var 7)) nilE)))) ρ5 M5 = .ok false M5 := by
    have f1 : callE (callK FU 58 11) (consE (var 10) (consE (var 11) nilE)) ρ5 M5 = .ok (.bl (decide (cmpD A.key B.key < 0))) M5 := by
      refine (call2 (var_ok (d := near.d) rfl) (var_ok (d := far.d) rfl)).trans ((C.c11 near far M5 lnear lfar).trans ?_)
      have : cmpD near.key far.key = cmpD A.key B.key := key_put hq
      rw [this]
    have f2 : opE neD (var 6) (var 7) ρ5 M5 = .ok (.bl (decide (cmpD A.key B.key < 0))) M5 := by
      rw [op_ok (var_ok (d := A.d) rfl) (var_ok (d := B.d) rfl)]
      unfold neD
      rw [eq_lines (by have := lA.h; omega) (by have := lB.h; omega) lA.lw.bd lB.lw.bd, before_ne lA.lw.bd lB.lw.bd hAB]
      rfl
    exact cond_same f1 f2 (C.c20 _ _ _ (sm_flat rfl))
  refine ⟨p5, some A.d, some B.d, p8, some (plD p), some near.d, some far.d, M5, (k4.app).more (by omega), fun rest => ?_⟩
  unfold midS
  rw [seq_nx t1, seq_nx t2, seq_nx t3, seq_nx t4, seq_nx t5, seq_nx ((if_f ((or_f c1).trans c2)).trans rfl)]
end W8

set_option Elab.async false
set_option linter.all false
set_option maxRecDepth 100000
namespace W8
open PySem L2 PySem.Spec PyProof.Rows

def badsE : Exs := (consE (con .non) (consE (tupE nilE) (consE (slE (var 2) noP (smP (con (.int 2)))) (consE (fnE listD (consE (var 2) nilE)) (consE (opE addD (tupE (consE (con (.str "A")) nilE)) (slE (var 2) (smP (con (.int 1))) noP)) (consE (opE addD (tupE (consE (con (.str "when")) nilE)) (slE (var 2) (smP (con (.int 1))) noP)) (consE (tupE (consE (opE ixD (var 2) (con (.int 0))) (consE (lstE (consE (con (.int 0)) nilE)) (consE (opE ixD (var 2) (con (.int 2))) nilE)))) (consE (tupE (consE (opE ixD (var 2) (con (.int 0))) (consE (tupE (consE (con (.bl true)) nilE)) (consE (opE ixD (var 2) (con (.int 2))) nilE)))) (consE (opE addD (slE (var 2) noP (smP (con (.int 2)))) (tupE (consE (con .non) nilE))) (consE (opE addD (slE (var 2) noP (smP (con (.int 2)))) (tupE (consE (tupE (consE (var 2) (consE (tupE nilE) nilE))) nilE))) (consE (opE addD (var 2) (tupE (consE (tupE nilE) nilE))) (consE (tupE (consE (con (.str "")) (consE (tupE nilE) (consE (tupE nilE) nilE)))) (consE (tupE (consE (con (.int 7)) (consE (tupE nilE) (consE (tupE nilE) nilE)))) nilE)))))))))))))
def oddsE : Exs := (consE (con .non) (consE (con (.str "a()")) (consE (con (.int 0)) (consE (tupE (consE (con (.str "a")) (consE (tupE nilE) (consE (lstE (consE (var 2) nilE)) nilE)))) (consE (tupE (consE (con (.str "a")) (consE (tupE (consE (con (.str "0")) nilE)) (consE (tupE nilE) nilE)))) nilE)))))
section
variable {ρ : Env}
theorem t0 (N : Mem) : tupE nilE ρ N = .ok (.tup []) N := tup_ok nil_ok (Nat.zero_le _)
theorem t1k {e : Ex} {d : D} {N N1 : Mem} (h : e ρ N = .ok d N1) : tupE (consE e nilE) ρ N = .ok (.tup [d]) N1 := tup_ok (cons_ok h nil_ok) (small_ok (show 1 ≤ 1000000 by decide))
theorem t3k {e e' e2 : Ex} {d d' d2 : D} {N N1 N2 N3 : Mem} (h : e ρ N = .ok d N1) (h' : e' ρ N1 = .ok d' N2) (h2 : e2 ρ N2 = .ok d2 N3) : tupE (consE e (consE e' (consE e2 nilE))) ρ N = .ok (.tup [d, d', d2]) N3 := tup_ok (cons_ok h (cons_ok h' (cons_ok h2 nil_ok))) (small_ok (show 3 ≤ 1000000 by decide))
end
theorem badsE_ok {ρ : Env} {nm : Str} {sm : List Int} {ps : List Ln} (h : ρ[2]? = some (some (Ln.mk nm sm ps).d)) (N : Mem) : badsE ρ N = .ok (badsD N.length nm sm ps) (N ++ [.lst [.str nm, .tup (sm.map D.int), .tup (lnsD ps)], .lst [.int 0]]) := by
  let S : D := .tup (sm.map D.int)
  let P : D := .tup (lnsD ps)
  have v2 : ∀ N, var 2 ρ N = .ok (.tup [.str nm, S, P]) N := fun N => (var_ok h).trans (by rw [Ln.d_mk])
  let N1 : Mem := N ++ [.lst [.str nm, S, P]]
  let N2 : Mem := N ++ [.lst [.str nm, S, P], .lst [.int 0]]
  have s2 : ∀ N, slE (var 2) noP (smP (con (.int 2))) ρ N = .ok (.tup [.str nm, S]) N := fun N => (sl_take (k := 2) (v2 N) rfl).trans rfl
  have s1 : ∀ N, slE (var 2) (smP (con (.int 1))) noP ρ N = .ok (.tup [S, P]) N := fun N => (sl_drop (k := 1) (v2 N) rfl).trans rfl
  have i0 : ∀ N, opE ixD (var 2) (con (.int 0)) ρ N = .ok (.str nm) N := fun N => ix_ok (v2 N) (at30 _ _ _)
  have i2 : ∀ N, opE ixD (var 2) (con (.int 2)) ρ N = .ok P N := fun N => ix_ok (v2 N) (at32 _ _ _)
  have e3 : fnE listD (consE (var 2) nilE) ρ N = .ok (.ref N.length) N1 := by
    rw [fn1 (v2 N)]
    rfl
  have e4 : opE addD (tupE (consE (con (.str "A")) nilE)) (slE (var 2) (smP (con (.int 1))) noP) ρ N1 = .ok (.tup [.str "A", S, P]) N1 := add_tup (xs := [.str "A"]) (t1k rfl) (s1 _) (by simp)
  have e5 : opE addD (tupE (consE (con (.str "when")) nilE)) (slE (var 2) (smP (con (.int 1))) noP) ρ N1 = .ok (.tup [.str "when", S, P]) N1 := add_tup (xs := [.str "when"]) (t1k rfl) (s1 _) (by simp)
  have e6 : tupE (consE (opE ixD (var 2) (con (.int 0))) (consE (lstE (consE (con (.int 0)) nilE)) (consE (opE ixD (var 2) (con (.int 2))) nilE))) ρ N1 = .ok (.tup [.str nm, .ref (N.length + 1), P]) N2 := by
    refine t3k (i0 _) ((lst_ok (es := [.int 0]) (cons_ok rfl nil_ok) (small_ok (show 1 ≤ 1000000 by decide))).trans ?_) (i2 _)
    rw [ap_len, ap2]
  have e7 : tupE (consE (opE ixD (var 2) (con (.int 0))) (consE (tupE (consE (con (.bl true)) nilE)) (consE (opE ixD (var 2) (con (.int 2))) nilE))) ρ N2 = .ok (.tup [.str nm, .tup [.bl true], P]) N2 := t3k (i0 _) (t1k rfl) (i2 _)
  have e8 : opE addD (slE (var 2) noP (smP (con (.int 2)))) (tupE (consE (con .non) nilE)) ρ N2 = .ok (.tup [.str nm, S, .non]) N2 := add_tup (ys := [.non]) (s2 _) (t1k rfl) (by simp)
  have e9 : opE addD (slE (var 2) noP (smP (con (.int 2)))) (tupE (consE (tupE (consE (var 2) (consE (tupE nilE) nilE))) nilE)) ρ N2 = .ok (.tup [.str nm, S, .tup [(Ln.mk nm sm ps).d, .tup []]]) N2 := add_tup (ys := [.tup [(Ln.mk nm sm ps).d, .tup []]]) (s2 _) (t1k (tup_ok (cons_ok (var_ok h) (cons_ok (t0 _) nil_ok)) (small_ok (show 2 ≤ 1000000 by decide)))) (show 2 + 1 ≤ 1000000 by decide)
  have e10 : opE addD (var 2) (tupE (consE (tupE nilE) nilE)) ρ N2 = .ok (.tup [.str nm, S, P, .tup []]) N2 := add_tup (ys := [.tup []]) (v2 _) (t1k (t0 _)) (show 3 + 1 ≤ 1000000 by decide)
  exact cons_ok rfl (cons_ok (t0 _) (cons_ok (s2 _) (cons_ok e3 (cons_ok e4 (cons_ok e5 (cons_ok e6 (cons_ok e7 (cons_ok e8 (cons_ok e9 (cons_ok e10 (cons_ok (t3k rfl (t0 _) (t0 _)) (cons_ok (t3k rfl (t0 _) (t0 _)) nil_ok))))))))))))
theorem oddsE_ok {ρ : Env} {f : D} (h : ρ[2]? = some (some f)) (N : Mem) : oddsE ρ N = .ok (oddsD N.length) (N ++ [.lst [f]]) :=
  cons_ok rfl (cons_ok rfl (cons_ok rfl (cons_ok (t3k rfl (t0 _) (lst_ok (cons_ok (var_ok h) nil_ok) (small_ok (show 1 ≤ 1000000 by decide)))) (cons_ok (t3k rfl (t1k rfl) (t0 _)) nil_ok))))
/-! errors -/
theorem er6 {d : D} {M : Mem} (L : Nat) (hd : d.lo M.length = true) (h : ∀ L, callK FU (L + 3) 5 [d] M = .ok (.bl false) M) : callK FU (L + 4) 6 [d] M = .err "BadLine" d M := by
  rw [callK_6]; exact s6_er hd (h L)
theorem er10 {d : D} {M : Mem} (hd : d.lo M.length = true) (h : ∀ L, callK FU (L + 3) 5 [d] M = .ok (.bl false) M) : callK FU 58 10 [d] M = .err "BadLine" d M := by
  rw [show (58 : Nat) = 57 + 1 from rfl, callK_10]; exact s10_er hd (er6 53 hd h)
theorem er11a {d e : D} {M : Mem} (hd : d.lo M.length = true) (h : ∀ L, callK FU (L + 3) 5 [d] M = .ok (.bl false) M) : callK FU 58 11 [d, e] M = .err "BadLine" d M := by
  rw [show (58 : Nat) = 57 + 1 from rfl, callK_11]; exact s11_er1 hd (er6 53 hd h)
theorem er11b {l : Ln} {e : D} {M : Mem} (hl : Lw l) (hd : e.lo M.length = true) (h : ∀ L, callK FU (L + 3) 5 [e] M = .ok (.bl false) M) : callK FU 58 11 [l.d, e] M = .err "BadLine" e M := by
  rw [show (58 : Nat) = 57 + 1 from rfl, callK_11]
  exact s11_er2 hd (k6 53 l M hl.g (by have := hl.s; show l.size < 1000; omega)) (er6 53 hd h)
theorem heard_er {c told line : Str} {b : Ex} {ρ : Env} {M M1 : Mem} {t : D} (h : b ρ M = .err c t M1) : heardE c told line b ρ M = .ok (.tup [.str line, t, .bl true]) M1 := by
  unfold heardE
  rw [h]
  simp
noncomputable def endS (c : Fn) : Stt := seqS (asgS (.tp [12, 13]) (tupE (consE (callE (c 18) (consE (var 0) (consE (lstE badsE) nilE))) (consE (callE (c 18) (consE (var 0) (consE (lstE oddsE) nilE))) nilE)))) (seqS (setS 14 (lstE (consE (heardE "BadLine" "told" "line" (callE (c 10) (consE (var 12) nilE))) nilE))) (seqS (exprS (mtE appD (var 14) (consE (heardE "BadLine" "told" "line" (callE (c 11) (consE (var 12) (consE (var 13) nilE)))) nilE))) (seqS (exprS (mtE appD (var 14) (consE (heardE "BadLine" "told" "line" (callKE (c 11) 0 2 [1, 0] nilE (consE (var 13) (consE (var 2) nilE)))) nilE))) (seqS (exprS (mtE appD (var 14) (consE (heardE "BadLine" "told" "line" (callE (c 11) (consE (var 13) (consE (var 2) nilE)))) nilE))) (ifS (notT (asT (callE (c 20) (consE (var 14) (consE (lstE (consE (tupE (consE (con (.str "line")) (consE (var 12) (consE (con (.bl true)) nilE)))) (consE (tupE (consE (con (.str "line")) (consE (var 12) (consE (con (.bl true)) nilE)))) (consE (tupE (consE (con (.str "line")) (consE (var 13) (consE (con (.bl true)) nilE)))) (consE (tupE (consE (con (.str "line")) (consE (var 13) (consE (con (.bl true)) nilE)))) nilE))))) nilE))))) (retS (con (.bl false))) skipS)))))
theorem end_ok {a b N : Nat} {M : Mem} {first : Ln} (hk : Dk M a b N) (hN : N + 10 ≤ 1000000) (hf : Lt first) (hf4 : first.high ≤ 4) (o1 o3 o4 o5 o6 o7 o8 o9 o10 o11 o12 o13 o14 : Option D) :
    ∃ (q12 q13 q14 : Option D) (M' : Mem), Dk M' a b (N + 10) ∧
      endS (callK FU 58) (E15 a o1 (some first.d) o3 o4 o5 o6 o7 o8 o9 o10 o11 o12 o13 o14) M = .ok (.nx (E15 a o1 (some first.d) o3 o4 o5 o6 o7 o8 o9 o10 o11 q12 q13 q14)) M' := by
  have C := cs58
  have hfw := hf.lw
  obtain ⟨la, lb⟩ := hk.lt
  obtain ⟨nm, sm, ps⟩ := first
  have pc := hfw.pcs (by omega)
  let ρ := E15 a o1 (some (Ln.mk nm sm ps).d) o3 o4 o5 o6 o7 o8 o9 o10 o11 o12 o13 o14
  let M1 : Mem := M ++ [.lst [.str nm, .tup (sm.map D.int), .tup (lnsD ps)], .lst [.int 0]]
  have hb1 : ∀ d ∈ badsD M.length nm sm ps, BadV a b M1 d := bads_bad pc (by omega) (by omega) (by omega) (by omega) mem0 mem1
  have la1 : a < M1.length := by simp [M1]; omega
  have lb1 : b < M1.length := by simp [M1]; omega
  obtain ⟨bad, M2, e1, hbad, g2, k2⟩ := pick_gr (p58 a b) (ρ := ρ) rfl (badsE_ok (ρ := ρ) rfl M) (hk.app) (by omega) (by show 0 < 13; decide) (by show 13 ≤ 100000; decide) (fun d hd => by
    have := (hb1 d hd (M1 ++ [.lst []]) (Gr.lay _ _)).2.1
    rwa [ap_len] at this)
  have B2 : BadV a b M2 bad := (hb1 bad hbad).gr g2 la1 lb1
  obtain ⟨la2, lb2⟩ := k2.lt
  let M3 : Mem := M2 ++ [.lst [(Ln.mk nm sm ps).d]]
  have la3 : a < M3.length := by simp [M3]; omega
  have lb3 : b < M3.length := by simp [M3]; omega
  have ho3 : ∀ d ∈ oddsD M2.length, BadV a b M3 d := odds_bad hfw (by omega) (by omega) (by omega) mem0
  obtain ⟨odd, M4, e2, hodd, g4, k4⟩ := pick_gr (p58 a b) (ρ := ρ) rfl (oddsE_ok (ρ := ρ) rfl M2) (k2.app) (by omega) (by show 0 < 5; decide) (by show 5 ≤ 100000; decide) (fun d hd => by
    have := (ho3 d hd (M3 ++ [.lst []]) (Gr.lay _ _)).2.1
    rwa [ap_len] at this)
  have O4 : BadV a b M4 odd := (ho3 odd hodd).gr g4 la3 lb3
  have B4 : BadV a b M4 bad := (B2.gr (Gr.lay _ _) la2 lb2).gr g4 la3 lb3
  have t1 : asgS (.tp [12, 13]) (tupE (consE (callE (callK FU 58 18) (consE (var 0) (consE (lstE badsE) nilE))) (consE (callE (callK FU 58 18) (consE (var 0) (consE (lstE oddsE) nilE))) nilE))) ρ M = .ok (.nx (E15 a o1 (some (Ln.mk nm sm ps).d) o3 o4 o5 o6 o7 o8 o9 o10 o11 (some bad) (some odd) o14)) M4 := by
    unfold asgS
    rw [tup_ok (cons_ok e1 (cons_ok e2 nil_ok)) (small_ok (show 2 ≤ 1000000 by decide)), R.bind_ok]
    rfl
  let tb : D := .tup [.str "line", bad, .bl true]
  let to : D := .tup [.str "line", odd, .bl true]
  let ρ1 := E15 a o1 (some (Ln.mk nm sm ps).d) o3 o4 o5 o6 o7 o8 o9 o10 o11 (some bad) (some odd) (some (.ref M4.length))
  have bb := B4 M4 (Gr.refl _ _ _)
  have bN : ∀ Y, (∀ L, callK FU (L + 3) 5 [bad] (M4 ++ Y) = .ok (.bl false) (M4 ++ Y)) ∧ bad.lo (M4 ++ Y).length = true ∧ Sm (M4 ++ Y) 50 bad bad := fun Y => B4 _ (Gr.lay _ _)
  have oN : ∀ Y, (∀ L, callK FU (L + 3) 5 [odd] (M4 ++ Y) = .ok (.bl false) (M4 ++ Y)) ∧ odd.lo (M4 ++ Y).length = true ∧ Sm (M4 ++ Y) 50 odd odd := fun Y => O4 _ (Gr.lay _ _)
  have t2 : setS 14 (lstE (consE (heardE "BadLine" "told" "line" (callE (callK FU 58 10) (consE (var 12) nilE))) nilE)) (E15 a o1 (some (Ln.mk nm sm ps).d) o3 o4 o5 o6 o7 o8 o9 o10 o11 (some bad) (some odd) o14) M4 = .ok (.nx ρ1) (M4 ++ [.lst [tb]]) :=
    set_ok (i := 14) (lst_ok (cons_ok (heard_er ((call1 (var_ok (d := bad) rfl)).trans (er10 bb.2.1 bb.1))) nil_ok) (small_ok (show 1 ≤ 1000000 by decide)))
  have app : ∀ (e : Ex) (xs : List D) (y : D), xs.length ≤ 10 → e ρ1 (M4 ++ [.lst xs]) = .ok y (M4 ++ [.lst xs]) → exprS (mtE appD (var 14) (consE e nilE)) ρ1 (M4 ++ [.lst xs]) = .ok (.nx ρ1) (M4 ++ [.lst (xs ++ [y])]) := by
    intro e xs y hx he
    refine (expr_ok (app_ok (n := M4.length) (xs := xs) rfl mem0 he mem0 (small_ok (by omega)))).trans ?_
    rw [mset0]
  have t3 := app (heardE "BadLine" "told" "line" (callE (callK FU 58 11) (consE (var 12) (consE (var 13) nilE)))) [tb] tb (show 1 ≤ 10 by decide) (heard_er ((call2 (var_ok (d := bad) rfl) (var_ok (d := odd) rfl)).trans (er11a (bN _).2.1 (bN _).1)))
  have t4 := app (heardE "BadLine" "told" "line" (callKE (callK FU 58 11) 0 2 [1, 0] nilE (consE (var 13) (consE (var 2) nilE)))) [tb, tb] to (show 2 ≤ 10 by decide) (heard_er ((callK2 (var_ok (d := odd) rfl) (var_ok (d := (Ln.mk nm sm ps).d) rfl)).trans (er11b hfw (oN _).2.1 (oN _).1)))
  have t5 := app (heardE "BadLine" "told" "line" (callE (callK FU 58 11) (consE (var 13) (consE (var 2) nilE)))) [tb, tb, to] to (show 3 ≤ 10 by decide) (heard_er ((call2 (var_ok (d := odd) rfl) (var_ok (d := (Ln.mk nm sm ps).d) rfl)).trans (er11a (oN _).2.1 (oN _).1)))
  let M5 : Mem := M4 ++ [.lst [tb, tb, to, to]]
  let M6 : Mem := M4 ++ [.lst [tb, tb, to, to], .lst [tb, tb, to, to]]
  have f2 : lstE (consE (tupE (consE (con (.str "line")) (consE (var 12) (consE (con (.bl true)) nilE)))) (consE (tupE (consE (con (.str "line")) (consE (var 12) (consE (con (.bl true)) nilE)))) (consE (tupE (consE (con (.str "line")) (consE (var 13) (consE (con (.bl true)) nilE)))) (consE (tupE (consE (con (.str "line")) (consE (var 13) (consE (con (.bl true)) nilE)))) nilE)))) ρ1 M5 = .ok (.ref (M4.length + 1)) M6 := by
    have u : ∀ N, tupE (consE (con (.str "line")) (consE (var 12) (consE (con (.bl true)) nilE))) ρ1 N = .ok tb N := fun N => t3k rfl (var_ok rfl) rfl
    have w : ∀ N, tupE (consE (con (.str "line")) (consE (var 13) (consE (con (.bl true)) nilE))) ρ1 N = .ok to N := fun N => t3k rfl (var_ok rfl) rfl
    refine (lst_ok (cons_ok (u _) (cons_ok (u _) (cons_ok (w _) (cons_ok (w _) nil_ok)))) (small_ok (show 4 ≤ 1000000 by decide))).trans ?_
    rw [ap_len, ap2]
  have stb : Sm M6 56 tb tb := sm_tup (n := 55) (show 3 ≤ 100000 by decide) fun d hd => by
    simp only [List.mem_cons, List.not_mem_nil, or_false] at hd
    rcases hd with rfl | rfl | rfl
    · exact sm_flat rfl
    · exact (bN _).2.2.more (by omega)
    · exact sm_flat rfl
  have sto : Sm M6 56 to to := sm_tup (n := 55) (show 3 ≤ 100000 by decide) fun d hd => by
    simp only [List.mem_cons, List.not_mem_nil, or_false] at hd
    rcases hd with rfl | rfl | rfl
    · exact sm_flat rfl
    · exact (oN _).2.2.more (by omega)
    · exact sm_flat rfl
  have hsame := cond_same (c := callK FU 58) (ρ := ρ1) (M := M5) (e1 := var 14) (var_ok (d := .ref M4.length) rfl) f2 (C.c20 _ _ _ (sm_ref (ds := [tb, tb, to, to]) mem0 mem1 (show 4 ≤ 100000 by decide) fun d hd => by
    simp only [List.mem_cons, List.not_mem_nil, or_false] at hd
    rcases hd with rfl | rfl | rfl | rfl <;> assumption))
  refine ⟨some bad, some odd, some (.ref M4.length), M6, (k4.app).more (by omega), ?_⟩
  unfold endS
  refine (seq_nx t1).trans ((seq_nx t2).trans ((seq_nx t3).trans ((seq_nx t4).trans ((seq_nx t5).trans ?_))))
  exact (if_f hsame).trans rfl
end W8

set_option Elab.async false
set_option linter.all false
set_option maxRecDepth 100000
namespace W8
open PySem L2 PySem.Spec PyProof.Rows

theorem trunc_some (M : Mem) (d : D) (M' : Mem) : ∃ M2, trunc M (.ok d M') = .ok d M2 := by
  rw [trunc_ok]
  split <;> exact ⟨_, rfl⟩
theorem turns_ok {a b : Nat} {x : W8.Its} (okx : ∀ N : Mem, x.ok N) : ∀ (ks : List D) (M : Mem) (N : Nat) (o1 o2 o3 o4 o5 o6 o7 o8 o9 o10 o11 o12 o13 o14 : Option D), Dk M a b N → N + ks.length * 1000 ≤ 1000000 →
    ∃ (ρ' : Env) (M' : Mem), forL x (.nm 1) (makeS (callK FU 58) (midS (callK FU 58) (endS (callK FU 58)))) ks (E15 a o1 o2 o3 o4 o5 o6 o7 o8 o9 o10 o11 o12 o13 o14) M = .ok (.nx ρ') M' ∧ Dk M' a b (N + ks.length * 1000)
  | [], M, N, o1, o2, o3, o4, o5, o6, o7, o8, o9, o10, o11, o12, o13, o14, hk, _ => ⟨_, M, for_nil (okx M), hk.more (by omega)⟩
  | k :: ks, M, N, o1, o2, o3, o4, o5, o6, o7, o8, o9, o10, o11, o12, o13, o14, hk, hN => by
    rw [List.length_cons, Nat.succ_mul] at hN
    obtain ⟨first, lines, n, M1, hf, h4, h40, hlen, hls, hn, na, nb, k1, e1⟩ := make_ok hk (by omega) (some k) o2 o3 o4 o5 o6 o7 o8 o9 o10 o11 o12 o13 o14
    obtain ⟨q5, q6, q7, q8, q9, q10, q11, M2, k2, e2⟩ := mid_ok k1 (by omega) hf h4 h40 hlen hls hn (some k) o4 o5 o6 o7 o8 o9 o10 o11 o12 o13 o14
    obtain ⟨q12, q13, q14, M3, k3, e3⟩ := end_ok k2 (by omega) hf h4 (some k) (some (.ref n)) o4 q5 q6 q7 q8 q9 q10 q11 o12 o13 o14
    have k3 : Dk M3 a b (N + 1000) := k3.more (by omega)
    obtain ⟨ρ', M', e4, k4⟩ := turns_ok okx ks M3 (N + 1000) (some k) (some first.d) (some (.ref n)) o4 q5 q6 q7 q8 q9 q10 q11 q12 q13 q14 k3 (by omega)
    refine ⟨ρ', M', ?_, k4.more (by rw [List.length_cons, Nat.succ_mul]; omega)⟩
    refine (for_nx (okx M) (ρ1 := E15 a (some k) o2 o3 o4 o5 o6 o7 o8 o9 o10 o11 o12 o13 o14) rfl ?_).trans e4
    rw [e1, e2, e3]
theorem s30_ok {a b : Nat} {M : Mem} (hk : Dk M a b 0) : ∃ M', callK FU 59 30 [.ref a] M = .ok (.bl true) M' := by
  obtain ⟨ρ', M', e, _⟩ := turns_ok (x := ⟨rngD 0 (3 : Int).toNat, []⟩) (fun N => ok_nil N) (rngD 0 (3 : Int).toNat) M 0 none none none none none none none none none none none none none none hk (by rw [rngD_len]; decide)
  rw [show (59 : Nat) = 58 + 1 from rfl, callK_30]
  have hr := rng_ok (e := con (.int 3)) (ρ := E15 a none none none none none none none none none none none none none none) (M := M) (r := 3) rfl (by omega) (by omega)
  have hm : m30 FU (callK FU 58) ([D.ref a].map some ++ List.replicate (15 - 1) none) M = .ok (.rt (.bl true)) M' := by
    show (seqS (forS (rng1I (consE (con (.int 3)) nilE)) (.nm 1) (makeS (callK FU 58) (midS (callK FU 58) (endS (callK FU 58))))) (retS (con (.bl true)))) (E15 a none none none none none none none none none none none none none none) M = _
    rw [seq_nx ((for_ok hr).trans e)]
    rfl
  obtain ⟨M2, h2⟩ := trunc_some M (.bl true) M'
  exact ⟨M2, (run_rt (M1 := M') (d := .bl true) rfl hm).trans h2⟩
theorem plain_law : PlainLaw := by
  intro ns hl d M h
  have hs : ∀ Y : Mem, slB (M ++ Y) d none (some 63) = some (.ref (M ++ Y).length, (M ++ Y) ++ [.lst (ns.map D.int)]) := by
    intro Y
    have hc : cutD (ns.map D.int) none (some 63) = ns.map D.int := by
      have := cut_take (ns.map D.int) 63
      rw [List.take_of_length_le (by rw [List.length_map]; exact hl)] at this
      exact this
    rcases h with ⟨rfl, rfl⟩ | ⟨rfl, rfl⟩
    · unfold slB
      simp only [hc]
    · unfold slB
      simp only [List.singleton_append, List.getElem?_cons_zero, hc]
  obtain ⟨X, e16, k⟩ := s16_deck (fu := FU) (c := callK FU 58) hs hl
  obtain ⟨M', e30⟩ := s30_ok k
  show ∃ M', callK FU (59 + 1) 31 [d] M = _
  rw [callK_31]
  have e16 : callK FU 59 16 [d, .int 2413108] M = .ok (.ref (M.length + 4)) (M ++ X) := by
    rw [show (59 : Nat) = 58 + 1 from rfl, callK_16]; exact e16
  have hm : m31 FU (callK FU 59) ([d].map some ++ List.replicate (1 - 1) none) M = .ok (.rt (.bl true)) M' := by
    show thruS (retS (callE (callK FU 59 30) (consE (callE (callK FU 59 16) (consE (var 0) (consE (con (.int 2413108)) nilE))) nilE))) [some d] M = _
    unfold thruS
    rw [ret_ok ((call1 ((call2 (var_ok (d := d) rfl) (rfl : con (.int 2413108) _ M = .ok (.int 2413108) M)).trans e16)).trans e30)]
    rfl
  obtain ⟨M2, h2⟩ := trunc_some M (.bl true) M'
  exact ⟨M2, (run_rt (M1 := M') (d := .bl true) rfl hm).trans h2⟩
end W8

set_option Elab.async false
-- THE THEOREM
open PySem PySem.W PyProof.Rows
set_option maxRecDepth 100000 in
set_option maxHeartbeats 0 in
theorem PySem.Challenge.cw_everyworking_k08_the_order_of_lines_holds : PySem.Challenge.rw_everyworking_k08_the_order_of_lines.Holds := by
  w_on; o_law; k_head; (case hw => w_witness2)
  k_fill
  refine W8.walkP (l := PySem.Challenge.rw_everyworking_k08_the_order_of_lines) (k := 3 * W8.LV) rfl rfl ⟨rfl, by decide, by decide⟩ (fun w h Y => by first | exact PySem.W.km_in_of Y | exact PySem.W.kIn_of Y) (by rfl) ?F
  case F =>
    intro w mg fa h hx htab KX G hmg
    have loose : ∃ t, mg "MOST_WHOLE" = some (.int 10000000000000000000000000000000000000000 t) := by
      obtain ⟨v, e, r⟩ := hx.2.val _ List.mem_cons_self
      cases r
      exact ⟨_, e⟩
    refine' W8.end_mk W8.plain_law KX G hmg htab ?a0 ?l0 ?c0 ?k0 ?a1 ?l1 ?c1 ?k1 ?a2 ?l2 ?c2 ?k2 ?a3 ?l3 ?c3 ?k3 ?a4 ?l4 ?c4 ?k4 ?a5 ?l5 ?c5 ?k5 ?a6 ?l6 ?c6 ?k6 ?a7 ?l7 ?c7 ?k7 ?a8 ?l8 ?c8 ?k8 ?a9 ?l9 ?c9 ?k9 ?a10 ?l10 ?c10 ?k10 ?a11 ?l11 ?c11 ?k11 ?a12 ?l12 ?c12 ?k12 ?a13 ?l13 ?c13 ?k13 ?a14 ?l14 ?c14 ?k14 ?a15 ?l15 ?c15 ?k15 ?a16 ?l16 ?c16 ?k16 ?a17 ?l17 ?c17 ?k17 ?a18 ?l18 ?c18 ?k18 ?a19 ?l19 ?c19 ?k19 ?a20 ?l20 ?c20 ?k20 ?a21 ?l21 ?c21 ?k21 ?a22 ?l22 ?c22 ?k22 ?a23 ?l23 ?c23 ?k23 ?a24 ?l24 ?c24 ?k24 ?a25 ?l25 ?c25 ?k25 ?a26 ?l26 ?c26 ?k26 ?a27 ?l27 ?c27 ?k27 ?a28 ?l28 ?c28 ?k28 ?a29 ?l29 ?c29 ?k29 ?a30 ?l30 ?c30 ?k30 ?a31 ?l31 ?c31 ?k31 ?z_all ?z_bool ?z_dict ?z_enumerate ?z_int ?z_isinstance ?z_len ?z_list ?z_max ?z_range ?z_reversed ?z_str ?z_sum ?z_tuple ?z_zip ?n_FIGURES ?n_MOST_NAME loose ?n_SMALL ?n_TRIPLE ?n_WORDS ?t_WORDS ?y_WORDS ?e1_BadLine ?e2_BadLine ?e3_BadLine ?e4_BadLine ?e5_BadLine ?e6_BadLine ?e7_BadLine ?e8_BadLine ?e9_BadLine ?e10_BadLine ?e11_BadLine ?e12_BadLine ?e13_BadLine ?e14_BadLine ?e1_BadPlace ?e2_BadPlace ?e3_BadPlace ?e4_BadPlace ?e5_BadPlace ?e6_BadPlace ?e7_BadPlace ?e8_BadPlace ?e9_BadPlace ?e10_BadPlace ?e11_BadPlace ?e12_BadPlace ?e13_BadPlace ?e14_BadPlace ?x1 ?x2 ?x3 ?x4 ?x5 ?y1 ?y2 ?y3 ?nP
    (case a0 => k_is)
    (case l0 => k_is)
    (case c0 => k_is)
    (case k0 => k_is)
    (case a1 => k_is)
    (case l1 => k_is)
    (case c1 => k_is)
    (case k1 => k_is)
    (case a2 => k_is)
    (case l2 => k_is)
    (case c2 => k_is)
    (case k2 => k_is)
    (case a3 => k_is)
    (case l3 => k_is)
    (case c3 => k_is)
    (case k3 => k_is)
    (case a4 => k_is)
    (case l4 => k_is)
    (case c4 => k_is)
    (case k4 => k_is)
    (case a5 => k_is)
    (case l5 => k_is)
    (case c5 => k_is)
    (case k5 => k_is)
    (case a6 => k_is)
    (case l6 => k_is)
    (case c6 => k_is)
    (case k6 => k_is)
    (case a7 => k_is)
    (case l7 => k_is)
    (case c7 => k_is)
    (case k7 => k_is)
    (case a8 => k_is)
    (case l8 => k_is)
    (case c8 => k_is)
    (case k8 => k_is)
    (case a9 => k_is)
    (case l9 => k_is)
    (case c9 => k_is)
    (case k9 => k_is)
    (case a10 => k_is)
    (case l10 => k_is)
    (case c10 => k_is)
    (case k10 => k_is)
    (case a11 => k_is)
    (case l11 => k_is)
    (case c11 => k_is)
    (case k11 => k_is)
    (case a12 => k_is)
    (case l12 => k_is)
    (case c12 => k_is)
    (case k12 => k_is)
    (case a13 => k_is)
    (case l13 => k_is)
    (case c13 => k_is)
    (case k13 => k_is)
    (case a14 => k_is)
    (case l14 => k_is)
    (case c14 => k_is)
    (case k14 => k_is)
    (case a15 => k_is)
    (case l15 => k_is)
    (case c15 => k_is)
    (case k15 => k_is)
    (case a16 => k_is)
    (case l16 => k_is)
    (case c16 => k_is)
    (case k16 => k_is)
    (case a17 => k_is)
    (case l17 => k_is)
    (case c17 => k_is)
    (case k17 => k_is)
    (case a18 => k_is)
    (case l18 => k_is)
    (case c18 => k_is)
    (case k18 => k_is)
    (case a19 => k_is)
    (case l19 => k_is)
    (case c19 => k_is)
    (case k19 => k_is)
    (case a20 => k_is)
    (case l20 => k_is)
    (case c20 => k_is)
    (case k20 => k_is)
    (case a21 => k_is)
    (case l21 => k_is)
    (case c21 => k_is)
    (case k21 => k_is)
    (case a22 => k_is)
    (case l22 => k_is)
    (case c22 => k_is)
    (case k22 => k_is)
    (case a23 => k_is)
    (case l23 => k_is)
    (case c23 => k_is)
    (case k23 => k_is)
    (case a24 => k_is)
    (case l24 => k_is)
    (case c24 => k_is)
    (case k24 => k_is)
    (case a25 => k_is)
    (case l25 => k_is)
    (case c25 => k_is)
    (case k25 => k_is)
    (case a26 => k_is)
    (case l26 => k_is)
    (case c26 => k_is)
    (case k26 => k_is)
    (case a27 => k_is)
    (case l27 => k_is)
    (case c27 => k_is)
    (case k27 => k_is)
    (case a28 => k_is)
    (case l28 => k_is)
    (case c28 => k_is)
    (case k28 => k_is)
    (case a29 => k_is)
    (case l29 => k_is)
    (case c29 => k_is)
    (case k29 => k_is)
    (case a30 => k_is)
    (case l30 => k_is)
    (case c30 => k_is)
    (case k30 => k_is)
    (case a31 => k_is)
    (case l31 => k_is)
    (case c31 => k_is)
    (case k31 => k_is)
    (case z_all => k_is)
    (case z_bool => k_is)
    (case z_dict => k_is)
    (case z_enumerate => k_is)
    (case z_int => k_is)
    (case z_isinstance => k_is)
    (case z_len => k_is)
    (case z_list => k_is)
    (case z_max => k_is)
    (case z_range => k_is)
    (case z_reversed => k_is)
    (case z_str => k_is)
    (case z_sum => k_is)
    (case z_tuple => k_is)
    (case z_zip => k_is)
    (case n_FIGURES => k_is)
    (case n_MOST_NAME => k_is)
    (case n_SMALL => k_is)
    (case n_TRIPLE => k_is)
    (case n_WORDS => k_is)
    (case t_WORDS => k_is)
    (case y_WORDS => rfl)
    (case e1_BadLine => k_is)
    (case e2_BadLine => k_is)
    (case e3_BadLine => k_is)
    (case e4_BadLine => k_is)
    (case e5_BadLine => k_is)
    (case e6_BadLine => k_is)
    (case e7_BadLine => k_is)
    (case e8_BadLine => k_is)
    (case e9_BadLine => k_is)
    (case e10_BadLine => k_is)
    (case e11_BadLine => k_is)
    (case e12_BadLine => k_is)
    (case e13_BadLine => k_is)
    (case e14_BadLine => k_is)
    (case e1_BadPlace => k_is)
    (case e2_BadPlace => k_is)
    (case e3_BadPlace => k_is)
    (case e4_BadPlace => k_is)
    (case e5_BadPlace => k_is)
    (case e6_BadPlace => k_is)
    (case e7_BadPlace => k_is)
    (case e8_BadPlace => k_is)
    (case e9_BadPlace => k_is)
    (case e10_BadPlace => k_is)
    (case e11_BadPlace => k_is)
    (case e12_BadPlace => k_is)
    (case e13_BadPlace => k_is)
    (case e14_BadPlace => k_is)
    (case x1 => k_is)
    (case x2 => k_is)
    (case x3 => k_is)
    (case x4 => k_is)
    (case x5 => k_is)
    (case y1 => rfl)
    (case y2 => k_is)
    (case y3 => rfl)
    (case nP => first | kernel_rfl | rfl | exact (by with_unfolding_all rfl))
