import PyProof.Rows.All
import Wide.All
import OpenK.AllK
import Wide.FinOn
import HandS.ForMost
import HandS.Exc
import HandS.ExcOwn
import HandS.WordsExc
import HandS.IsInst
import HandS.Lambda
import KE.KDictKeyed
import KE.KeyNested
import HandS.Flow
import HandS.TupAny
import HandS.TupMul
import HandS.SortInts
import HandS.Deep
import HandS.Conv
import HandS.Walk
import HandS.Style
import KE.KExcSuper
import HandS.Zip
import HandS.Small
import HandS.Dict
import HandS.Iter
import KE.KTupSum
import KE.GoesEnum
import HandS.ExcField
import PyProof.P3In
import HandS.More
import HandS.EndTab
import KE.KNestM
import KE.DataMinMax
import KE.SortData
import KE.SortKeyHeap
import KE.OsSortAny
import KE.KRevSl
import HandS.SetFor
import HandS.Strs
import PyProof.ListMulRoad
import PyProof.FactsAll.tuple_2
import HandS.TupLe
import KE.KDictDisplayH
import KE.KDictWalk
import HandS.Sort
import PyProof.MaxThree
import HandS.TupSets
import KE.KItemsList
import PySem.Challenge.RW_loadturns_k22_whole_numbers_on_tags
set_option Elab.async false
set_option linter.all false
set_option maxRecDepth 100000
set_option maxHeartbeats 4000000
/-! DL: a layer of plain data over the abstract heap. D: data; DO: what a mutable object holds; R: what an expression comes to. -/
namespace DL
open PySem PySem.Spec PyProof.Rows L2

/-- plain data; obj n is the n-th mutable object of the store -/
inductive D where
  | non | bl (b : Bool) | int (i : Int) | str (x : Str) | tup (xs : List D) | lst (xs : List D) | frz (xs : List D) | obj (n : Nat)
instance : Inhabited D := ⟨.non⟩
/-- a mutable object's content -/
inductive DO where
  | lst (xs : List D)
  | dk (kvs : List (Key × D))
  | dt (kvs : List (List Key × D))
  | ins (c : Nat) (fs : List (Str × D))
  | dn (kvs : List (NestedKey × D))
  | st (l : List Int)
abbrev En := List (Option D)
abbrev Sto := List DO
/-- K: what the top wrote; T: tables of lambdas' code; xc, xf: classes of errors and their field; cc: own classes -/
structure Cc where
  K : PySem.W.Frag
  T : List (Addr × Str)
  xc : Nat → Addr
  xf : Nat → Str
  cc : Nat → Addr
  w : World

/-- where the store's objects lie (o), and new lists that nobody else knows yet (x) -/
structure Nm where
  o : List Addr
  x : List Addr
/-- a list that is locked, or the top's own -/
def FrL (C : Cc) (H : Hp) (a : Addr) (vs : List V) : Prop :=
  (∃ o, H a = some (.frz o (.lst vs))) ∨
    ∃ (o : Obj) (its : Array Value) (n : Nat), C.K.lookup a = some o ∧ o.cls = .type "list" ∧ o.dict = none ∧ o.data = .seq its n ∧ its.size ≤ sizeLine ∧ Vals vs its.toList
theorem FrL.sq {C : Cc} {H a vs} (h : FrL C H a vs) : SqL C.K H a vs := by
  rcases h with ⟨o, h⟩ | h
  · exact .inl (.inr ⟨o, h⟩)
  · exact .inr h

mutual
inductive Rep (C : Cc) (η : Nm) (H : Hp) : V → D → Prop
  | non : Rep C η H .non .non
  | bl (b : Bool) : Rep C η H (.bl b) (.bl b)
  | int (i : Int) : Rep C η H (.int i) (.int i)
  | str (x : Str) : Rep C η H (.str x) (.str x)
  | tup {a : Addr} {vs : List V} {ds : List D} : SqT C.K H a vs → Reps C η H vs ds → Rep C η H (.ref a) (.tup ds)
  | lst {a : Addr} {vs : List V} {ds : List D} : H a = some (.lst vs) → a ∉ η.o → a ∉ η.x → Reps C η H vs ds → Rep C η H (.ref a) (.lst ds)
  | frz {a : Addr} {vs : List V} {ds : List D} : FrL C H a vs → Reps C η H vs ds → Rep C η H (.ref a) (.frz ds)
  | obj {a : Addr} {n : Nat} : η.o[n]? = some a → Rep C η H (.ref a) (.obj n)
inductive Reps (C : Cc) (η : Nm) (H : Hp) : List V → List D → Prop
  | nil : Reps C η H [] []
  | cons {v : V} {d : D} {vs : List V} {ds : List D} : Rep C η H v d → Reps C η H vs ds → Reps C η H (v :: vs) (d :: ds)
end

/-- pairs of a dict -/
inductive RepK {κ : Type} (C : Cc) (η : Nm) (H : Hp) : List (κ × V) → List (κ × D) → Prop
  | nil : RepK C η H [] []
  | cons {k : κ} {v : V} {d : D} {vs : List (κ × V)} {ds : List (κ × D)} : Rep C η H v d → RepK C η H vs ds → RepK C η H ((k, v) :: vs) ((k, d) :: ds)
mutual
/-- a key as data -/
def nkD : NestedKey → D
  | .none => .non
  | .num i => .int i
  | .text x => .str x
  | .tup ks => .tup (nkDs ks)
def nkDs : List NestedKey → List D
  | [] => []
  | k :: ks => nkD k :: nkDs ks
end
inductive RepN (C : Cc) (η : Nm) (H : Hp) : List (NestedKey × Addr × V) → List (NestedKey × D) → Prop
  | nil : RepN C η H [] []
  | cons {k : NestedKey} {b : Addr} {v : V} {d : D} {xs ds} : Rep C η H (.ref b) (nkD k) → k.depth ≤ 8 → Rep C η H v d → RepN C η H xs ds → RepN C η H ((k, b, v) :: xs) ((k, d) :: ds)
def NR (p : NestedKey × Addr × V) (q : NestedKey × Addr × Value) : Prop := p.1 = q.1 ∧ p.2.1 = q.2.1 ∧ RelV p.2.2 q.2.2
/-- the dict at a has keys of any depth -/
def NRaw (w : World) (a : Addr) (xs : List (NestedKey × Addr × V)) : HO := .ext fun h => xs.length ≤ sizeLine ∧ (a == sysModules) = false ∧ ∃ ys : List (NestedKey × Addr × Value), Paired NR xs ys ∧
  ∃ o es, h.get? a = some o ∧ o.ExactDict ∧ o.data = .dict es ys.length ∧ es.toList = ys.map (fun y => (⟨y.1.hash w, .ref y.2.1, y.2.2⟩ : DictEntry)) ∧ (ys.map (·.1)).Nodup
/-- what stands at a -/
inductive RepO (C : Cc) (η : Nm) (H : Hp) (a : Addr) : HO → DO → Prop
  | lst {vs ds} : Reps C η H vs ds → RepO C η H a (.lst vs) (.lst ds)
  | dk {vs ds} : RepK C η H vs ds → RepO C η H a (.dK vs) (.dk ds)
  | dt {vs ds} : RepK C η H vs ds → RepO C η H a (.dT vs) (.dt ds)
  | ins {dx vs ds c} : RepK C η H vs ds → RepO C η H a (.ins (C.cc c) dx vs) (.ins c ds)
  | dn {xs ds} : RepN C η H xs ds → RepO C η H a (NRaw C.w a xs) (.dn ds)
  | st {l : List Int} : l.Nodup → RepO C η H a (.set (fun i => decide (i ∈ l)) l.length) (.st l)

/-- nothing stands there, but maybe a table -/
def Nw (H : Hp) (b : Addr) : Prop := ∀ o, H b = some o → ∃ ps, o = .tbl ps
theorem Nw.of {H : Hp} {b : Addr} (h : H b = none) : Nw H b := fun o e => by rw [h] at e; cases e
/-- the heap grows: what the store does not hold stands, but tables -/
structure Nxt (C : Cc) (η : Nm) (H : Hp) (η' : Nm) (H' : Hp) : Prop where
  pre : η.o <+: η'.o
  hx : η'.x = η.x
  keep : ∀ b o, H b = some o → b ∉ η.o → (∀ ps, o ≠ .tbl ps) → H' b = some o
  tups : ∀ b xs, H b = some (.tup xs) → H' b = some (.tup xs)
  frzs : ∀ b o u, H b = some (.frz o u) → H' b = some (.frz o u)
  new : ∀ b ∈ η'.o, b ∉ η.o → Nw H b
  there : ∀ b o, H b = some o → (∀ ps, o ≠ .tbl ps) → ∃ o', H' b = some o' ∧ ∀ ps, o' ≠ .tbl ps
theorem Nxt.refl (C : Cc) (η H) : Nxt C η H η H := ⟨List.prefix_refl _, rfl, fun _ _ h _ _ => h, fun _ _ h => h, fun _ _ _ h => h, fun b h n => absurd h n, fun _ o h t => ⟨o, h, t⟩⟩
theorem Nxt.nw {C : Cc} {η H η' H'} (n : Nxt C η H η' H') {b : Addr} (h : Nw H' b) : Nw H b := fun o e => by
  by_cases t : ∃ ps, o = .tbl ps
  · exact t
  · obtain ⟨o', e', t'⟩ := n.there b o e fun ps z => t ⟨ps, z⟩
    obtain ⟨ps, z⟩ := h o' e'
    exact absurd z (t' ps)
theorem Nxt.trans {C : Cc} {η H η1 H1 η2 H2} (a : Nxt C η H η1 H1) (b : Nxt C η1 H1 η2 H2) : Nxt C η H η2 H2 where
  pre := a.pre.trans b.pre
  hx := b.hx.trans a.hx
  keep := fun c o h n t => b.keep c o (a.keep c o h n t) (fun m => by
    obtain ⟨ps, e⟩ := a.new c m n o h
    exact t ps e) t
  tups := fun c xs h => b.tups c xs (a.tups c xs h)
  frzs := fun c o u h => b.frzs c o u (a.frzs c o u h)
  new := fun c m n => by
    by_cases m1 : c ∈ η1.o
    · exact a.new c m1 n
    · exact a.nw (b.new c m m1)
  there := fun c o h t => by
    obtain ⟨o1, h1, t1⟩ := a.there c o h t
    exact b.there c o1 h1 t1
theorem Nxt.get {C : Cc} {η H η' H'} (n : Nxt C η H η' H') {i : Nat} {a : Addr} (h : η.o[i]? = some a) : η'.o[i]? = some a := by
  obtain ⟨t, e⟩ := n.pre
  rw [← e, List.getElem?_append_left (List.getElem?_eq_some_iff.mp h).1]
  exact h
theorem Nxt.sqT {C : Cc} {η H η' H'} (n : Nxt C η H η' H') {a : Addr} {vs : List V} (h : SqT C.K H a vs) : SqT C.K H' a vs := by
  rcases h with (h | ⟨o, h⟩) | h
  · exact .inl (.inl (n.tups _ _ h))
  · exact .inl (.inr ⟨o, n.frzs _ _ _ h⟩)
  · exact .inr h
theorem Nxt.lst {C : Cc} {η H η' H'} (n : Nxt C η H η' H') {a : Addr} {vs : List V} (h : H a = some (.lst vs)) (m : a ∉ η.o) (mx : a ∉ η.x) : H' a = some (.lst vs) ∧ a ∉ η'.o ∧ a ∉ η'.x := by
  refine ⟨n.keep _ _ h m (fun ps z => by cases z), fun m' => ?_, by rw [n.hx]; exact mx⟩
  obtain ⟨ps, e⟩ := n.new a m' m _ h
  cases e
theorem Nxt.frL {C : Cc} {η H η' H'} (n : Nxt C η H η' H') {a : Addr} {vs : List V} (h : FrL C H a vs) : FrL C H' a vs := by
  rcases h with ⟨o, h⟩ | h
  · exact .inl ⟨o, n.frzs _ _ _ h⟩
  · exact .inr h
mutual
theorem Rep.mono {C : Cc} {η H η' H'} (n : Nxt C η H η' H') : ∀ {v : V} {d : D}, Rep C η H v d → Rep C η' H' v d
  | _, _, .non => .non
  | _, _, .bl b => .bl b
  | _, _, .int i => .int i
  | _, _, .str x => .str x
  | _, _, .tup h r => .tup (n.sqT h) (Reps.mono n r)
  | _, _, .lst h m mx r => .lst (n.lst h m mx).1 (n.lst h m mx).2.1 (n.lst h m mx).2.2 (Reps.mono n r)
  | _, _, .frz h r => .frz (n.frL h) (Reps.mono n r)
  | _, _, .obj h => .obj (n.get h)
theorem Reps.mono {C : Cc} {η H η' H'} (n : Nxt C η H η' H') : ∀ {vs : List V} {ds : List D}, Reps C η H vs ds → Reps C η' H' vs ds
  | _, _, .nil => .nil
  | _, _, .cons h r => .cons (Rep.mono n h) (Reps.mono n r)
end
/-- .. but what is hidden may be changed -/
structure NxtW (C : Cc) (η : Nm) (H : Hp) (η' : Nm) (H' : Hp) : Prop where
  pre : η.o <+: η'.o
  hx : η'.x = η.x
  keep : ∀ b o, H b = some o → b ∉ η.o → b ∉ η.x → (∀ ps, o ≠ .tbl ps) → H' b = some o
  tups : ∀ b xs, H b = some (.tup xs) → H' b = some (.tup xs)
  frzs : ∀ b o u, H b = some (.frz o u) → H' b = some (.frz o u)
  new : ∀ b ∈ η'.o, b ∉ η.o → Nw H b
theorem Nxt.w {C : Cc} {η H η' H'} (n : Nxt C η H η' H') : NxtW C η H η' H' := ⟨n.pre, n.hx, fun b o h m _ t => n.keep b o h m t, n.tups, n.frzs, n.new⟩
theorem NxtW.get {C : Cc} {η H η' H'} (n : NxtW C η H η' H') {i : Nat} {a : Addr} (h : η.o[i]? = some a) : η'.o[i]? = some a := by
  obtain ⟨t, e⟩ := n.pre
  rw [← e, List.getElem?_append_left (List.getElem?_eq_some_iff.mp h).1]
  exact h
theorem NxtW.sqT {C : Cc} {η H η' H'} (n : NxtW C η H η' H') {a : Addr} {vs : List V} (h : SqT C.K H a vs) : SqT C.K H' a vs := by
  rcases h with (h | ⟨o, h⟩) | h
  · exact .inl (.inl (n.tups _ _ h))
  · exact .inl (.inr ⟨o, n.frzs _ _ _ h⟩)
  · exact .inr h
theorem NxtW.lst {C : Cc} {η H η' H'} (n : NxtW C η H η' H') {a : Addr} {vs : List V} (h : H a = some (.lst vs)) (m : a ∉ η.o) (mx : a ∉ η.x) : H' a = some (.lst vs) ∧ a ∉ η'.o ∧ a ∉ η'.x := by
  refine ⟨n.keep _ _ h m mx (fun ps z => by cases z), fun m' => ?_, by rw [n.hx]; exact mx⟩
  obtain ⟨ps, e⟩ := n.new a m' m _ h
  cases e
theorem NxtW.frL {C : Cc} {η H η' H'} (n : NxtW C η H η' H') {a : Addr} {vs : List V} (h : FrL C H a vs) : FrL C H' a vs := by
  rcases h with ⟨o, h⟩ | h
  · exact .inl ⟨o, n.frzs _ _ _ h⟩
  · exact .inr h
mutual
theorem Rep.monoW {C : Cc} {η H η' H'} (n : NxtW C η H η' H') : ∀ {v : V} {d : D}, Rep C η H v d → Rep C η' H' v d
  | _, _, .non => .non
  | _, _, .bl b => .bl b
  | _, _, .int i => .int i
  | _, _, .str x => .str x
  | _, _, .tup h r => .tup (n.sqT h) (Reps.monoW n r)
  | _, _, .lst h m mx r => .lst (n.lst h m mx).1 (n.lst h m mx).2.1 (n.lst h m mx).2.2 (Reps.monoW n r)
  | _, _, .frz h r => .frz (n.frL h) (Reps.monoW n r)
  | _, _, .obj h => .obj (n.get h)
theorem Reps.monoW {C : Cc} {η H η' H'} (n : NxtW C η H η' H') : ∀ {vs : List V} {ds : List D}, Reps C η H vs ds → Reps C η' H' vs ds
  | _, _, .nil => .nil
  | _, _, .cons h r => .cons (Rep.monoW n h) (Reps.monoW n r)
end
theorem NxtW.refl (C : Cc) (η H) : NxtW C η H η H := (Nxt.refl C η H).w
theorem RepK.mono {κ : Type} {C : Cc} {η H η' H'} (n : Nxt C η H η' H') : ∀ {vs : List (κ × V)} {ds : List (κ × D)}, RepK C η H vs ds → RepK C η' H' vs ds
  | _, _, .nil => .nil
  | _, _, .cons h r => .cons (h.mono n) (RepK.mono n r)
theorem RepN.mono {C : Cc} {η H η' H'} (n : Nxt C η H η' H') : ∀ {xs : List (NestedKey × Addr × V)} {ds : List (NestedKey × D)}, RepN C η H xs ds → RepN C η' H' xs ds
  | _, _, .nil => .nil
  | _, _, .cons h k g r => .cons (h.mono n) k (g.mono n) (RepN.mono n r)
theorem RepO.mono {C : Cc} {η H η' H'} (n : Nxt C η H η' H') {a : Addr} {o : HO} {m : DO} (h : RepO C η H a o m) : RepO C η' H' a o m := by
  cases h with
  | lst h => exact .lst (h.mono n)
  | dk h => exact .dk (h.mono n)
  | dt h => exact .dt (h.mono n)
  | ins h => exact .ins (h.mono n)
  | dn h => exact .dn (h.mono n)
  | st h => exact .st h

/-! ### lists of data -/
section
variable {C : Cc} {η : Nm} {H : Hp}
theorem Reps.length : ∀ {vs : List V} {ds : List D}, Reps C η H vs ds → vs.length = ds.length
  | _, _, .nil => rfl
  | _, _, .cons _ r => by rw [List.length_cons, List.length_cons, Reps.length r]
theorem Reps.get : ∀ {vs : List V} {ds : List D} {i : Nat} {d : D}, Reps C η H vs ds → ds[i]? = some d → ∃ v, vs[i]? = some v ∧ Rep C η H v d
  | _, _, _, _, .nil, h => by simp at h
  | _, _, 0, _, .cons h r, e => by
    cases Option.some.inj e
    exact ⟨_, rfl, h⟩
  | _, _, i + 1, d, .cons h r, e => by
    obtain ⟨v, e1, r1⟩ := Reps.get (i := i) r (by simpa using e)
    exact ⟨v, by simpa using e1, r1⟩
theorem Reps.get' : ∀ {vs : List V} {ds : List D} {i : Nat} {v : V}, Reps C η H vs ds → vs[i]? = some v → ∃ d, ds[i]? = some d ∧ Rep C η H v d
  | _, _, _, _, .nil, h => by simp at h
  | _, _, 0, _, .cons h r, e => by
    cases Option.some.inj e
    exact ⟨_, rfl, h⟩
  | _, _, i + 1, d, .cons h r, e => by
    obtain ⟨v, e1, r1⟩ := Reps.get' (i := i) r (by simpa using e)
    exact ⟨v, by simpa using e1, r1⟩
theorem Reps.append : ∀ {vs ws : List V} {ds es : List D}, Reps C η H vs ds → Reps C η H ws es → Reps C η H (vs ++ ws) (ds ++ es)
  | _, _, _, _, .nil, s => s
  | _, _, _, _, .cons h r, s => .cons h (Reps.append r s)
theorem Reps.take : ∀ {vs : List V} {ds : List D} (n : Nat), Reps C η H vs ds → Reps C η H (vs.take n) (ds.take n)
  | _, _, 0, _ => by simpa using .nil
  | _, _, _ + 1, .nil => by simpa using .nil
  | _, _, n + 1, .cons h r => .cons h (Reps.take n r)
theorem Reps.drop : ∀ {vs : List V} {ds : List D} (n : Nat), Reps C η H vs ds → Reps C η H (vs.drop n) (ds.drop n)
  | _, _, 0, r => r
  | _, _, _ + 1, .nil => by simpa using .nil
  | _, _, n + 1, .cons h r => Reps.drop n r
theorem Reps.set : ∀ {vs : List V} {ds : List D} (n : Nat) {v : V} {d : D}, Reps C η H vs ds → Rep C η H v d → Reps C η H (vs.set n v) (ds.set n d)
  | _, _, _, _, _, .nil, _ => .nil
  | _, _, 0, _, _, .cons _ r, h => .cons h r
  | _, _, n + 1, _, _, .cons g r, h => .cons g (Reps.set n r h)
theorem Reps.reverse {vs : List V} {ds : List D} (r : Reps C η H vs ds) : Reps C η H vs.reverse ds.reverse := by
  induction vs generalizing ds with
  | nil => cases r; exact .nil
  | cons v vs ih =>
    cases r with
    | cons h r =>
      rw [List.reverse_cons, List.reverse_cons]
      exact (ih r).append (.cons h .nil)
theorem Reps.erase : ∀ {vs : List V} {ds : List D} (n : Nat), Reps C η H vs ds → Reps C η H (vs.eraseIdx n) (ds.eraseIdx n)
  | _, _, _, .nil => .nil
  | _, _, 0, .cons _ r => r
  | _, _, n + 1, .cons g r => .cons g (Reps.erase n r)
theorem Reps.cut {vs : List V} {ds : List D} (r : Reps C η H vs ds) (lo hi : Option Int) : Reps C η H (cutV vs lo hi) ((ds.drop (HT.sIx ds.length 0 lo)).take (HT.sIx ds.length ds.length hi - HT.sIx ds.length 0 lo)) := by
  unfold cutV
  rw [r.length]
  exact (r.drop _).take _
end
end DL
namespace DL
open PySem PySem.Spec PyProof.Rows L2

/-- p is nobody's -/
def Nm.hide (η : Nm) (p : Addr) : Nm := ⟨η.o, p :: η.x⟩
structure Ok (C : Cc) (η : Nm) (H : Hp) (μ : Sto) : Prop where
  nd : η.o.Nodup
  len : η.o.length = μ.length
  at_ : ∀ (n : Nat) (a : Addr) (m : DO), η.o[n]? = some a → μ[n]? = some m → ∃ o, H a = some o ∧ RepO C η H a o m
  hid : ∀ b ∈ η.x, ∃ o, H b = some o ∧ ∀ ps, o ≠ .tbl ps
  tab : LamX.Tabs C.T H
/-- the slots -/
structure Slots (C : Cc) (η : Nm) (H : Hp) (σ : L2.St) (ρ : En) : Prop where
  len : σ.length = ρ.length
  at_ : ∀ (i : Nat) (d : D), ρ[i]? = some (some d) → ∃ v, σ[i]? = some (some v) ∧ Rep C η H v d
theorem Slots.mono {C : Cc} {η H η' H' σ ρ} (n : Nxt C η H η' H') (s : Slots C η H σ ρ) : Slots C η' H' σ ρ :=
  ⟨s.len, fun i d h => let ⟨v, e, r⟩ := s.at_ i d h; ⟨v, e, r.mono n⟩⟩
theorem Slots.monoW {C : Cc} {η H η' H' σ ρ} (n : NxtW C η H η' H') (s : Slots C η H σ ρ) : Slots C η' H' σ ρ :=
  ⟨s.len, fun i d h => let ⟨v, e, r⟩ := s.at_ i d h; ⟨v, e, r.monoW n⟩⟩
theorem Slots.set {C : Cc} {η H σ ρ} (s : Slots C η H σ ρ) (i : Nat) {v : V} {d : D} (r : Rep C η H v d) : Slots C η H (σ.set i (some v)) (ρ.set i (some d)) := by
  refine ⟨by simp [s.len], fun j e h => ?_⟩
  by_cases hj : i = j
  · subst hj
    by_cases hl : i < ρ.length
    · rw [List.getElem?_set_self hl] at h
      cases h
      exact ⟨v, by rw [List.getElem?_set_self (by rw [s.len]; exact hl)], r⟩
    · rw [List.getElem?_eq_none (by simpa using hl)] at h
      cases h
  · rw [List.getElem?_set_ne hj] at h
    rw [List.getElem?_set_ne hj]
    exact s.at_ j e h
def wipeE (ρ : En) : List Nat → En
  | [] => ρ
  | v :: vs => (wipeE ρ vs).set v none
theorem Slots.setN {C : Cc} {η H σ ρ} (s : Slots C η H σ ρ) (i : Nat) : Slots C η H (σ.set i none) (ρ.set i none) := by
  refine ⟨by simp [s.len], fun j e h => ?_⟩
  by_cases hj : i = j
  · subst hj
    by_cases hl : i < ρ.length
    · rw [List.getElem?_set_self hl] at h
      cases h
    · rw [List.getElem?_eq_none (by simpa using hl)] at h
      cases h
  · rw [List.getElem?_set_ne hj] at h
    rw [List.getElem?_set_ne hj]
    exact s.at_ j e h
theorem Slots.wipe {C : Cc} {η H σ ρ} (s : Slots C η H σ ρ) : ∀ l : List Nat, Slots C η H (L2.wipe σ l) (wipeE ρ l)
  | [] => s
  | v :: vs => (Slots.wipe s vs).setN v

/-- the heap grew by things that nobody knew -/
theorem Same.nxt {C : Cc} {η H H'} (s : L2.Same H H') : Nxt C η H η H' :=
  ⟨List.prefix_refl _, rfl, fun b o h _ _ => s b o h, fun b xs h => s b _ h, fun b o u h => s b _ h, fun b h n => absurd h n, fun b o h t => ⟨o, s b o h, t⟩⟩
theorem Same.new {H : Hp} {p : Addr} {o : HO} (h : H p = none) : L2.Same H (upd H p o) := fun b u e => by
  rw [upd_ne (ne_of_none e h)]
  exact e
theorem Ok.same {C : Cc} {η H H' μ} (ok : Ok C η H μ) (s : L2.Same H H') : Ok C η H' μ :=
  ⟨ok.nd, ok.len, fun n a m h1 h2 => let ⟨o, h, r⟩ := ok.at_ n a m h1 h2; ⟨o, s a o h, r.mono (Same.nxt s)⟩, fun b m => let ⟨o, h, t⟩ := ok.hid b m; ⟨o, s b o h, t⟩, ok.tab.ext s⟩
theorem Ok.not_hid {C : Cc} {η H μ} (ok : Ok C η H μ) {p : Addr} (h : Nw H p) : p ∉ η.x := fun m => by
  obtain ⟨o, ho, t⟩ := ok.hid p m
  obtain ⟨ps, e⟩ := h o ho
  exact t ps e
theorem Ok.not_mem {C : Cc} {η H μ} (ok : Ok C η H μ) {p : Addr} (h : H p = none) : p ∉ η.o := fun m => by
  obtain ⟨n, e⟩ := List.mem_iff_getElem?.mp m
  have hn : n < μ.length := by rw [← ok.len]; exact (List.getElem?_eq_some_iff.mp e).1
  obtain ⟨o, ho, _⟩ := ok.at_ n p μ[n] e (List.getElem?_eq_getElem hn)
  rw [h] at ho
  cases ho

/-! ### what an expression comes to -/
inductive R (α : Type) where
  | ok (a : α) (μ : Sto)
  | ex (c : Nat) (d : D) (μ : Sto)
  | bad
def R.bind {α β : Type} (r : R α) (f : α → Sto → R β) : R β := match r with
  | .ok a μ => f a μ
  | .ex c d μ => .ex c d μ
  | .bad => .bad
abbrev FE (α : Type) := En → Sto → R α
@[simp] theorem R.bind_ok {α β : Type} (a : α) (μ : Sto) (f : α → Sto → R β) : (R.ok a μ).bind f = f a μ := rfl
@[simp] theorem R.bind_ex {α β : Type} (c : Nat) (d : D) (μ : Sto) (f : α → Sto → R β) : (R.ex c d μ : R α).bind f = .ex c d μ := rfl
@[simp] theorem R.bind_bad {α β : Type} (f : α → Sto → R β) : (R.bad : R α).bind f = .bad := rfl

/-- an error as it lies in the heap -/
def ExRep (C : Cc) (η : Nm) (H : Hp) (c : Nat) (d : D) (cls : Value) (dd : Option Addr) : Prop :=
  cls = .ref (C.xc c) ∧ ∃ a v, dd = some a ∧ H a = some (.xd [(C.xf c, v)]) ∧ Rep C η H v d
/-- what is asked behind an expression: P of the result -/
def Post {α : Type} (C : Cc) (W : WX) (η : Nm) (H : Hp) (σ : L2.St) (P : α → Nm → Hp → Sto → Prop) : R α → Prop
  | .ok a μ => ∀ η' H', Nxt C η H η' H' → Ok C η' H' μ → P a η' H' μ
  | .ex c d μ => ∀ η' H' cls dd, Nxt C η H η' H' → Ok C η' H' μ → ExRep C η' H' c d cls dd → W cls dd σ H'
  | .bad => False
abbrev PV (C : Cc) (Q : VK) : D → Nm → Hp → Sto → Prop := fun d η' H' _ => ∀ v, Rep C η' H' v d → Q v H'
abbrev PVs (C : Cc) (Q : List V → Hp → Prop) : List D → Nm → Hp → Sto → Prop := fun ds η' H' _ => ∀ vs, Reps C η' H' vs ds → Q vs H'
/-- a new list at p -/
abbrev PL (C : Cc) (H : Hp) (Q : VK) : List D → Nm → Hp → Sto → Prop := fun ds η' H' μ' => ∀ p vs, p ∉ η'.o → Nw H p → H' p = some (.lst vs) → Ok C (η'.hide p) H' μ' → Reps C (η'.hide p) H' vs ds → Q (.ref p) H'
def tD (C : Cc) (W : WX) (f : FE D) : TE := fun σ H Q => ∃ η ρ μ, Slots C η H σ ρ ∧ Ok C η H μ ∧ Post C W η H σ (PV C Q) (f ρ μ)
def tDA (C : Cc) (W : WX) (f : FE (List D)) : TA := fun σ H Q => ∃ η ρ μ, Slots C η H σ ρ ∧ Ok C η H μ ∧ Post C W η H σ (PVs C Q) (f ρ μ)
def tDL (C : Cc) (W : WX) (f : FE (List D)) : TE := fun σ H Q => ∃ η ρ μ, Slots C η H σ ρ ∧ Ok C η H μ ∧ Post C W η H σ (PL C H Q) (f ρ μ)
def tDT (C : Cc) (W : WX) (f : FE Bool) : TT := fun σ H Q => ∃ η ρ μ, Slots C η H σ ρ ∧ Ok C η H μ ∧ Post C W η H σ (fun b _ H' _ => Q b H') (f ρ μ)
theorem Post.mono {α : Type} {C : Cc} {W : WX} {η H η1 H1 σ} {P : α → Nm → Hp → Sto → Prop} {r : R α} (h : Post C W η H σ P r) (n : Nxt C η H η1 H1) : Post C W η1 H1 σ P r := by
  cases r with
  | ok a μ => exact fun η' H' n' o => h η' H' (n.trans n') o
  | ex c d μ => exact fun η' H' cls dd n' o x => h η' H' cls dd (n.trans n') o x
  | bad => exact h
theorem Post.imp {α : Type} {C : Cc} {W : WX} {η H σ} {P P' : α → Nm → Hp → Sto → Prop} {r : R α} (h : Post C W η H σ P r) (i : ∀ a η' H' μ, r = .ok a μ → Nxt C η H η' H' → Ok C η' H' μ → P a η' H' μ → P' a η' H' μ) : Post C W η H σ P' r := by
  cases r with
  | ok a μ => exact fun η' H' n' o => i a η' H' μ rfl n' o (h η' H' n' o)
  | ex c d μ => exact h
  | bad => exact h
/-- the value stands as it is -/
theorem Post.now {α : Type} {C : Cc} {W : WX} {η H σ} {P : α → Nm → Hp → Sto → Prop} {a : α} {μ : Sto} (h : Post C W η H σ P (.ok a μ)) (o : Ok C η H μ) : P a η H μ := h η H (Nxt.refl ..) o
/-- first r, then k -/
theorem Post.bind {α β : Type} {C : Cc} {W : WX} {η H σ} {P : β → Nm → Hp → Sto → Prop} {P1 : α → Nm → Hp → Sto → Prop} {r : R α} {k : α → Sto → R β} (h : Post C W η H σ P (r.bind k))
    (i : ∀ a η1 H1 μ1, Nxt C η H η1 H1 → Ok C η1 H1 μ1 → Post C W η1 H1 σ P (k a μ1) → P1 a η1 H1 μ1) : Post C W η H σ P1 r := by
  cases r with
  | ok a μ => exact fun η1 H1 n o => i a η1 H1 μ n o (Post.mono (show Post C W η H σ P (k a μ) from h) n)
  | ex c d μ => exact h
  | bad => exact h

/-- .. with what it came to -/
theorem Post.bind' {α β : Type} {C : Cc} {W : WX} {η H σ} {P : β → Nm → Hp → Sto → Prop} {P1 : α → Nm → Hp → Sto → Prop} {r : R α} {k : α → Sto → R β} (h : Post C W η H σ P (r.bind k))
    (i : ∀ a η1 H1 μ1, r = .ok a μ1 → Nxt C η H η1 H1 → Ok C η1 H1 μ1 → Post C W η1 H1 σ P (k a μ1) → P1 a η1 H1 μ1) : Post C W η H σ P1 r := by
  cases r with
  | ok a μ => exact fun η1 H1 n o => i a η1 H1 μ rfl n o (Post.mono (show Post C W η H σ P (k a μ) from h) n)
  | ex c d μ => exact h
  | bad => exact h
structure DE (X : Cx) (C : Cc) (W : WX) (e : Expr) (f : FE D) : Prop where
  pe : PE X e (tD C W f)
structure DEL (X : Cx) (C : Cc) (W : WX) (e : Expr) (f : FE (List D)) : Prop where
  pe : PE X e (tDL C W f)
structure DA (X : Cx) (C : Cc) (W : WX) (es : List Expr) (f : FE (List D)) : Prop where
  pa : PA X es (tDA C W f)
  len : ∀ ρ μ ds μ', f ρ μ = .ok ds μ' → ds.length = es.length
structure DT (X : Cx) (C : Cc) (W : WX) (e : Expr) (f : FE Bool) : Prop where
  pt : PT X e (tDT C W f)

/-- a weaker reading -/
theorem pe_imp {X : Cx} {e : Expr} {t t' : TE} (h : PE X e t) (i : ∀ σ H Q, t' σ H Q → t σ H Q) : PE X e t' := ⟨fun pins s σ H Q I q => h.run pins s σ H Q I (i σ H Q q)⟩
theorem pa_imp {X : Cx} {e : List Expr} {t t' : TA} (h : PA X e t) (i : ∀ σ H Q, t' σ H Q → t σ H Q) : PA X e t' := ⟨fun pos pins s σ H Q I q => h.run pos pins s σ H Q I (i σ H Q q)⟩
theorem pt_imp {X : Cx} {e : Expr} {t t' : TT} (h : PT X e t) (i : ∀ σ H Q, t' σ H Q → t σ H Q) : PT X e t' := ⟨fun pins s σ H Q I q => h.run pins s σ H Q I (i σ H Q q)⟩
theorem ps_imp {X : Cx} {e : Stmt} {t t' : TS} (h : PS X e t) (i : ∀ E σ H, t' E σ H → t E σ H) : PS X e t' := ⟨fun pins s σ H E I q => h.run pins s σ H E I (i E σ H q)⟩
theorem pss_imp {X : Cx} {e : List Stmt} {t t' : TS} (h : PSs X e t) (i : ∀ E σ H, t' E σ H → t E σ H) : PSs X e t' := ⟨fun pins s σ H E I q => h.run pins s σ H E I (i E σ H q)⟩

section
variable {X : Cx} {C : Cc} {W : WX} {e a b : Expr} {es : List Expr} {pos : Pos} {f fa fb fc : FE D}
/-! ### names, constants -/
def eVar (i : Nat) : FE D := fun ρ μ => match ρ[i]? with | some (some d) => .ok d μ | _ => .bad
def eC (d : D) : FE D := fun _ μ => .ok d μ
theorem tD_start {f : FE D} {σ H Q} {t : TE} (i : ∀ η ρ μ, Slots C η H σ ρ → Ok C η H μ → Post C W η H σ (PV C Q) (f ρ μ) → t σ H Q) : tD C W f σ H Q → t σ H Q := fun ⟨η, ρ, μ, s, o, p⟩ => i η ρ μ s o p
theorem de_var (i : Nat) {x : Str} {pos : Pos} (hN : X.N[i]? = some x := by rfl) (hv : Vis X.env.scope x := by first | exact Or.inl rfl | exact Or.inr (Or.inl rfl) | exact Or.inr (Or.inr rfl)) (hd : (x == ("__debug__" : Str)) = false := by decide)
    (hcd : (x == ("__classdict__" : Str)) = false := by decide) : DE X C W (.Name x pos) (eVar i) := by
  refine ⟨pe_imp (pe_var hN hv hd hcd) fun σ H Q => ?_⟩
  rintro ⟨η, ρ, μ, s, o, p⟩
  unfold eVar at p
  split at p
  · rename_i d h
    obtain ⟨v, e, r⟩ := s.at_ i d h
    exact ⟨v, e, p.now o v r⟩
  · exact p.elim
theorem de_c {v : V} {d : D} (h : PE X e (tC v)) (r : ∀ η H, Rep C η H v d) : DE X C W e (eC d) := by
  refine ⟨pe_imp h fun σ H Q => ?_⟩
  rintro ⟨η, ρ, μ, s, o, p⟩
  exact p.now o v (r η H)
theorem de_int {i j pos} : DE X C W (.Constant (.int i) j pos) (eC (.int i)) := de_c pe_int fun _ _ => .int i
theorem de_bl {b j pos} : DE X C W (.Constant (.bool b) j pos) (eC (.bl b)) := de_c pe_bl fun _ _ => .bl b
theorem de_non {j pos} : DE X C W (.Constant .none j pos) (eC .non) := de_c pe_non fun _ _ => .non
theorem de_str {x j pos} : DE X C W (.Constant (.str x) j pos) (eC (.str x)) := de_c pe_str fun _ _ => .str x
/-- a constant of the module -/
theorem de_gint {x : Str} {i : Int} {t : Tok} {pos : Pos} (hm : X.mg x = some (.int i t)) (hg : Gl X x := by rfl) (hd : (x == ("__debug__" : Str)) = false := by decide) : DE X C W (.Name x pos) (eC (.int i)) := de_c (pe_glob (v := .int i) hg hm ⟨_, rfl⟩ hd) fun _ _ => .int i
theorem de_gstr {x z : Str} {t : Tok} {pos : Pos} (hm : X.mg x = some (.str z t)) (hg : Gl X x := by rfl) (hd : (x == ("__debug__" : Str)) = false := by decide) : DE X C W (.Name x pos) (eC (.str z)) := de_c (pe_glob (v := .str z) hg hm ⟨_, rfl⟩ hd) fun _ _ => .str z

/-! ### operators on values -/
/-- g: what comes of two values; none: not told -/
def eOp (g : D → D → Option D) (fa fb : FE D) : FE D := fun ρ μ => (fa ρ μ).bind fun x μ1 => (fb ρ μ1).bind fun y μ2 => match g x y with | some z => .ok z μ2 | none => .bad
/-- two expressions, then r -/
theorem tD_two {r : R2} {g : D → D → Sto → R D}
    (hr : ∀ η H μ σ Q x y d e, Ok C η H μ → Rep C η H x d → Rep C η H y e → Post C W η H σ (PV C Q) (g d e μ) → r x y H Q) {σ H Q}
    (h : tD C W (fun ρ μ => (fa ρ μ).bind fun x μ1 => (fb ρ μ1).bind fun y μ2 => g x y μ2) σ H Q) : tOp r (tD C W fa) (tD C W fb) σ H Q := by
  obtain ⟨η, ρ, μ, s, o, p⟩ := h
  refine ⟨η, ρ, μ, s, o, p.bind fun d η1 H1 μ1 n1 o1 p1 x rx => ?_⟩
  refine ⟨η1, ρ, μ1, s.mono n1, o1, p1.bind fun e η2 H2 μ2 n2 o2 p2 y ry => ?_⟩
  exact hr η2 H2 μ2 σ Q x y d e o2 (rx.mono n2) ry p2
theorem de_op {op : Operator} {r : R2} {g : D → D → Option D} (ho : OpR X (binaryOp op) r)
    (hr : ∀ η H x y d e z Q, Rep C η H x d → Rep C η H y e → g d e = some z → (∀ v, Rep C η H v z → Q v H) → r x y H Q) (ha : DE X C W a fa) (hb : DE X C W b fb) : DE X C W (.BinOp a op b pos) (eOp g fa fb) := by
  refine ⟨pe_imp (pe_op ho ha.pe hb.pe) fun σ H Q h => tD_two (g := fun x y μ2 => match g x y with | some z => .ok z μ2 | none => .bad) (fun η H μ σ Q x y d e o rx ry p => ?_) h⟩
  cases hg : g d e with
  | none => simp only [hg] at p; exact p.elim
  | some z =>
    simp only [hg] at p
    exact hr η H x y d e z Q rx ry hg fun v rv => p.now o v rv
theorem Rep.int_inv {η H v} {i : Int} (r : Rep C η H v (.int i)) : v = .int i := by cases r; rfl
theorem Rep.bl_inv {η H v} {i : Bool} (r : Rep C η H v (.bl i)) : v = .bl i := by cases r; rfl
theorem Rep.str_inv {η H v} {i : Str} (r : Rep C η H v (.str i)) : v = .str i := by cases r; rfl
/-- ints to an int -/
def gI (c : Int → Int → Bool) (g : Int → Int → Int) : D → D → Option D
  | .int i, .int j => if c i j = true then some (.int (g i j)) else none
  | _, _ => none
def gI0 (g : Int → Int → Int) : D → D → Option D
  | .int i, .int j => some (.int (g i j))
  | _, _ => none
theorem rI0_ok {g : Int → Int → Int} (η H x y d e z) (Q : VK) (rx : Rep C η H x d) (ry : Rep C η H y e) (h : gI0 g d e = some z) (q : ∀ v, Rep C η H v z → Q v H) : rI0 (fun i j => .int (g i j)) x y H Q := by
  unfold gI0 at h
  split at h
  · cases h
    exact ⟨_, _, rx.int_inv, ry.int_inv, q _ (.int _)⟩
  · cases h
theorem rI_ok {c : Int → Int → Bool} {P : Int → Int → Prop} {g : Int → Int → Int} (hc : ∀ i j, c i j = true → P i j) (η H x y d e z) (Q : VK) (rx : Rep C η H x d) (ry : Rep C η H y e) (h : gI c g d e = some z) (q : ∀ v, Rep C η H v z → Q v H) : rI P (fun i j => .int (g i j)) x y H Q := by
  unfold gI at h
  split at h
  · split at h
    · rename_i hcc
      cases h
      exact ⟨_, _, rx.int_inv, ry.int_inv, hc _ _ hcc, q _ (.int _)⟩
    · cases h
  · cases h
/-- of a proposition: a Bool that nothing unfolds -/
noncomputable def bP (p : Prop) : Bool := @decide p (Classical.propDecidable p)
theorem bP_iff {p : Prop} : bP p = true ↔ p := by
  unfold bP
  exact @decide_eq_true_iff p (Classical.propDecidable p)
noncomputable def cMul (i j : Int) : Bool := bP ((-18446744073709551616 < i ∧ i < 18446744073709551616) ∨ (-18446744073709551616 < j ∧ j < 18446744073709551616))
noncomputable def cDiv (_ j : Int) : Bool := bP (0 < j ∧ j < 1073741824)
noncomputable def cMod (_ j : Int) : Bool := bP (0 < j)
noncomputable def cPow (i j : Int) : Bool := bP (0 ≤ j ∧ j ≤ 1000000 ∧ i.natAbs < 18446744073709551616)
abbrev eAdd := eOp (gI0 (· + ·))
abbrev eSub := eOp (gI0 (· - ·))
noncomputable abbrev eMul := eOp (gI cMul (· * ·))
noncomputable abbrev eDiv := eOp (gI cDiv (· / ·))
noncomputable abbrev eMod := eOp (gI cMod (· % ·))
noncomputable abbrev ePow := eOp (gI cPow (fun i j => i ^ j.toNat))
theorem de_add (ha : DE X C W a fa) (hb : DE X C W b fb) : DE X C W (.BinOp a .Add b pos) (eAdd fa fb) := de_op op_add rI0_ok ha hb
theorem de_sub (ha : DE X C W a fa) (hb : DE X C W b fb) : DE X C W (.BinOp a .Sub b pos) (eSub fa fb) := de_op op_sub rI0_ok ha hb
theorem de_mul (ha : DE X C W a fa) (hb : DE X C W b fb) : DE X C W (.BinOp a .Mult b pos) (eMul fa fb) := de_op op_mul (rI_ok fun i j h => bP_iff.mp h) ha hb
theorem de_div (ha : DE X C W a fa) (hb : DE X C W b fb) : DE X C W (.BinOp a .FloorDiv b pos) (eDiv fa fb) := de_op op_fdiv (rI_ok fun i j h => bP_iff.mp h) ha hb
theorem de_mod (ha : DE X C W a fa) (hb : DE X C W b fb) : DE X C W (.BinOp a .Mod b pos) (eMod fa fb) := de_op op_mod (rI_ok fun i j h => bP_iff.mp h) ha hb
theorem de_pow (ha : DE X C W a fa) (hb : DE X C W b fb) : DE X C W (.BinOp a .Pow b pos) (ePow fa fb) := de_op op_pow (rI_ok fun i j h => bP_iff.mp h) ha hb
/-- -a -/
def eNeg (fa : FE D) : FE D := fun ρ μ => (fa ρ μ).bind fun x μ1 => match x with | .int i => .ok (.int (-i)) μ1 | _ => .bad
theorem de_neg (ha : DE X C W a fa) : DE X C W (.UnaryOp .USub a pos) (eNeg fa) := by
  refine ⟨pe_imp (pe_un un_neg ha.pe) fun σ H Q => ?_⟩
  rintro ⟨η, ρ, μ, s, o, p⟩
  refine ⟨η, ρ, μ, s, o, p.bind fun d η1 H1 μ1 n1 o1 p1 x rx => ?_⟩
  split at p1
  · exact ⟨_, rx.int_inv, p1.now o1 _ (.int _)⟩
  · exact p1.elim

/-! ### comparisons -/
theorem de_cmp {op : CmpOp} {r : R2} {g : D → D → Sto → Option Bool} (ho : OpR X (compareOp op) r)
    (hr : ∀ η H μ x y d e z Q, Ok C η H μ → Rep C η H x d → Rep C η H y e → g d e μ = some z → Q (.bl z) H → r x y H Q) (hm : behindInMarks op b = false) (ha : DE X C W a fa) (hb : DE X C W b fb) :
    DE X C W (.Compare a [op] [b] pos) (fun ρ μ => (fa ρ μ).bind fun x μ1 => (fb ρ μ1).bind fun y μ2 => match g x y μ2 with | some z => .ok (.bl z) μ2 | none => .bad) := by
  refine ⟨pe_imp (pe_cmpR ho ha.pe hb.pe hm) fun σ H Q h => tD_two (g := fun x y μ2 => match g x y μ2 with | some z => .ok (.bl z) μ2 | none => .bad) (fun η H μ σ Q x y d e o rx ry p => ?_) h⟩
  cases hg : g d e μ with
  | none => simp only [hg] at p; exact p.elim
  | some z =>
    simp only [hg] at p
    exact hr η H μ x y d e z Q o rx ry hg (p.now o _ (.bl z))
def eCmp (g : D → D → Sto → Option Bool) (fa fb : FE D) : FE D := fun ρ μ => (fa ρ μ).bind fun x μ1 => (fb ρ μ1).bind fun y μ2 => match g x y μ2 with | some z => .ok (.bl z) μ2 | none => .bad
def gB (g : Int → Int → Bool) : D → D → Sto → Option Bool
  | .int i, .int j, _ => some (g i j)
  | _, _, _ => none
theorem rB_ok {g : Int → Int → Bool} (η H μ x y d e z) (Q : VK) (_ : Ok C η H μ) (rx : Rep C η H x d) (ry : Rep C η H y e) (h : gB g d e μ = some z) (q : Q (.bl z) H) : rI0 (fun i j => .bl (g i j)) x y H Q := by
  unfold gB at h
  split at h
  · cases h
    exact ⟨_, _, rx.int_inv, ry.int_inv, q⟩
  · cases h
abbrev gLt := gB fun i j => decide (i < j)
abbrev gLe := gB fun i j => decide (i ≤ j)
abbrev gGt := gB fun i j => decide (j < i)
abbrev gGe := gB fun i j => decide (j ≤ i)
theorem de_lt (ha : DE X C W a fa) (hb : DE X C W b fb) : DE X C W (.Compare a [.Lt] [b] pos) (eCmp gLt fa fb) := de_cmp op_lt rB_ok (nomark _) ha hb
theorem de_le (ha : DE X C W a fa) (hb : DE X C W b fb) : DE X C W (.Compare a [.LtE] [b] pos) (eCmp gLe fa fb) := de_cmp op_le rB_ok (nomark _) ha hb
theorem de_gt (ha : DE X C W a fa) (hb : DE X C W b fb) : DE X C W (.Compare a [.Gt] [b] pos) (eCmp gGt fa fb) := de_cmp op_gt rB_ok (nomark _) ha hb
theorem de_ge (ha : DE X C W a fa) (hb : DE X C W b fb) : DE X C W (.Compare a [.GtE] [b] pos) (eCmp gGe fa fb) := de_cmp op_ge rB_ok (nomark _) ha hb
end
end DL
namespace DL
open PySem PySem.Spec PyProof.Rows L2

/-! ### sequences, ints -/
def lstAt (μ : Sto) (n : Nat) : Option (List D) := match μ[n]? with | some (.lst ds) => some ds | _ => none
theorem lstAt_iff {μ : Sto} {n : Nat} {ds : List D} : lstAt μ n = some ds ↔ μ[n]? = some (.lst ds) := by
  unfold lstAt
  split
  · rename_i e h
    rw [h]
    constructor
    · intro z; cases z; rfl
    · intro z; cases z; rfl
  · rename_i h
    constructor
    · intro z; cases z
    · intro z; exact absurd z (h ds)
def seqOf (μ : Sto) : D → Option (List D)
  | .tup ds => some ds
  | .lst ds => some ds
  | .frz ds => some ds
  | .obj n => lstAt μ n
  | _ => none
def asInts : List D → Option (List Int)
  | [] => some []
  | .int i :: r => (asInts r).map (i :: ·)
  | _ :: _ => none
def asBls : List D → Option (List Bool)
  | [] => some []
  | .bl i :: r => (asBls r).map (i :: ·)
  | _ :: _ => none
@[simp] theorem asInts_map : ∀ ns : List Int, asInts (ns.map D.int) = some ns
  | [] => rfl
  | n :: ns => by simp [asInts, asInts_map ns]
theorem asInts_inv : ∀ {ds : List D} {ns : List Int}, asInts ds = some ns → ds = ns.map D.int
  | [], ns, h => by cases Option.some.inj h; rfl
  | .int i :: r, ns, h => by
    unfold asInts at h
    cases e : asInts r with
    | none => rw [e] at h; cases h
    | some ms =>
      rw [e] at h
      cases Option.some.inj h
      rw [asInts_inv e]
      rfl
  | .non :: _, _, h => by cases h
  | .bl _ :: _, _, h => by cases h
  | .str _ :: _, _, h => by cases h
  | .tup _ :: _, _, h => by cases h
  | .lst _ :: _, _, h => by cases h
  | .frz _ :: _, _, h => by cases h
  | .obj _ :: _, _, h => by cases h
@[simp] theorem asBls_map : ∀ ns : List Bool, asBls (ns.map D.bl) = some ns
  | [] => rfl
  | n :: ns => by simp [asBls, asBls_map ns]
theorem asBls_inv : ∀ {ds : List D} {ns : List Bool}, asBls ds = some ns → ds = ns.map D.bl
  | [], ns, h => by cases Option.some.inj h; rfl
  | .bl i :: r, ns, h => by
    unfold asBls at h
    cases e : asBls r with
    | none => rw [e] at h; cases h
    | some ms =>
      rw [e] at h
      cases Option.some.inj h
      rw [asBls_inv e]
      rfl
  | .non :: _, _, h => by cases h
  | .int _ :: _, _, h => by cases h
  | .str _ :: _, _, h => by cases h
  | .tup _ :: _, _, h => by cases h
  | .lst _ :: _, _, h => by cases h
  | .frz _ :: _, _, h => by cases h
  | .obj _ :: _, _, h => by cases h
section
variable {C : Cc} {η : Nm} {H : Hp} {μ : Sto}
theorem Reps.ints : ∀ {ns : List Int} {vs : List V}, Reps C η H vs (ns.map D.int) → vs = ns.map V.int
  | [], _, .nil => rfl
  | n :: ns, _, .cons h r => by rw [h.int_inv, Reps.ints r]; rfl
theorem Reps.of_ints : ∀ ns : List Int, Reps C η H (ns.map V.int) (ns.map D.int)
  | [] => .nil
  | n :: ns => .cons (.int n) (Reps.of_ints ns)
theorem Reps.bls : ∀ {ns : List Bool} {vs : List V}, Reps C η H vs (ns.map D.bl) → vs = ns.map V.bl
  | [], _, .nil => rfl
  | n :: ns, _, .cons h r => by rw [h.bl_inv, Reps.bls r]; rfl
theorem Ok.get (ok : Ok C η H μ) {n : Nat} {a : Addr} {m : DO} (h1 : η.o[n]? = some a) (h2 : μ[n]? = some m) : ∃ o, H a = some o ∧ RepO C η H a o m := ok.at_ n a m h1 h2
theorem Ok.lst (ok : Ok C η H μ) {n : Nat} {a : Addr} {ds : List D} (h1 : η.o[n]? = some a) (h2 : μ[n]? = some (.lst ds)) : ∃ vs, H a = some (.lst vs) ∧ Reps C η H vs ds := by
  obtain ⟨o, h, r⟩ := ok.get h1 h2
  cases r with
  | lst r => exact ⟨_, h, r⟩
theorem seq_ok (ok : Ok C η H μ) {x : V} {d : D} {ds : List D} (r : Rep C η H x d) (h : seqOf μ d = some ds) : ∃ a vs, x = .ref a ∧ (SqL C.K H a vs ∨ SqT C.K H a vs) ∧ Reps C η H vs ds := by
  cases r with
  | tup h1 h2 => cases h; exact ⟨_, _, rfl, .inr h1, h2⟩
  | lst h1 _ _ h2 => cases h; exact ⟨_, _, rfl, .inl (.of h1), h2⟩
  | frz h1 h2 => cases h; exact ⟨_, _, rfl, .inl h1.sq, h2⟩
  | @obj a n h1 =>
    obtain ⟨vs, h2, h3⟩ := ok.lst h1 (lstAt_iff.mp h)
    exact ⟨_, vs, rfl, .inl (.of h2), h3⟩
  | _ => cases h
/-- a list, not a tuple -/
def listOf (μ : Sto) : D → Option (List D)
  | .lst ds => some ds
  | .frz ds => some ds
  | .obj n => lstAt μ n
  | _ => none
theorem list_ok (ok : Ok C η H μ) {x : V} {d : D} {ds : List D} (r : Rep C η H x d) (h : listOf μ d = some ds) : ∃ a vs, x = .ref a ∧ SqL C.K H a vs ∧ Reps C η H vs ds := by
  cases r with
  | lst h1 _ _ h2 => cases h; exact ⟨_, _, rfl, .of h1, h2⟩
  | frz h1 h2 => cases h; exact ⟨_, _, rfl, h1.sq, h2⟩
  | @obj a n h1 =>
    obtain ⟨vs, h2, h3⟩ := ok.lst h1 (lstAt_iff.mp h)
    exact ⟨_, vs, rfl, .of h2, h3⟩
  | _ => cases h

/-! ### truth -/
def truD (μ : Sto) : D → Option Bool
  | .non => some false
  | .bl b => some b
  | .int i => some (i != 0)
  | .str x => if x.length ≤ 16777216 then some ((x.length : Int) != 0) else none
  | .tup ds => some (!ds.isEmpty)
  | .lst ds => some (!ds.isEmpty)
  | .frz ds => some (!ds.isEmpty)
  | .obj n => match μ[n]? with | some (.lst ds) => some (!ds.isEmpty) | some (.dk kvs) => some (!kvs.isEmpty) | some (.dt _) => none | some (.ins _ _) => none | some (.dn _) => none | some (.st _) => none | none => none
theorem truD_obj (μ : Sto) (n : Nat) : truD μ (.obj n) = match μ[n]? with | some (.lst ds) => some (!ds.isEmpty) | some (.dk kvs) => some (!kvs.isEmpty) | some (.dt _) => none | some (.ins _ _) => none | some (.dn _) => none | some (.st _) => none | none => none := by rw [truD]
theorem truD_str (μ : Sto) (x : Str) : truD μ (.str x) = if x.length ≤ 16777216 then some ((x.length : Int) != 0) else none := by rw [truD]
theorem Reps.isEmpty {vs : List V} {ds : List D} (r : Reps C η H vs ds) : vs.isEmpty = ds.isEmpty := by cases r <;> rfl
theorem RepK.isEmpty {κ : Type} {vs : List (κ × V)} {ds : List (κ × D)} (r : RepK C η H vs ds) : vs.isEmpty = ds.isEmpty := by cases r <;> rfl
theorem tru_of (ok : Ok C η H μ) {x : V} {d : D} {k : Bool} (r : Rep C η H x d) (h : truD μ d = some k) : TruV C.K x H k := by
  cases r with
  | non => cases h; rfl
  | bl b => cases h; rfl
  | int i => cases h; rfl
  | str y =>
    rw [truD_str] at h
    split at h
    · cases h
      exact ⟨by rw [sizeLine_eq]; assumption, rfl⟩
    · cases h
  | tup h1 h2 => cases h; exact .inr (.inl ⟨_, h1, by rw [h2.isEmpty]⟩)
  | lst h1 _ _ h2 => cases h; exact .inl ⟨_, .of h1, by rw [h2.isEmpty]⟩
  | frz h1 h2 => cases h; exact .inl ⟨_, h1.sq, by rw [h2.isEmpty]⟩
  | @obj a n h1 =>
    rw [truD_obj] at h
    split at h
    · rename_i z
      cases h
      obtain ⟨vs, h2, h3⟩ := ok.lst h1 z
      exact .inl ⟨vs, .of h2, by rw [h3.isEmpty]⟩
    · rename_i z
      cases h
      obtain ⟨o, h2, h3⟩ := ok.get h1 z
      cases h3 with
      | dk h3 => exact .inr (.inr ⟨_, h2, by rw [h3.isEmpty]⟩)
    · cases h
    · cases h
    · cases h
    · cases h
    · cases h

/-! ### data, for == -/
mutual
def toPy : D → Option PyData
  | .non => some .none
  | .bl b => some (.bool b)
  | .int i => some (.int i)
  | .str x => some (.str x)
  | .tup ds => (toPys ds).map .tuple
  | .lst ds => (toPys ds).map .list
  | .frz ds => (toPys ds).map .list
  | .obj _ => none
def toPys : List D → Option (List PyData)
  | [] => some []
  | d :: ds => match toPy d, toPys ds with | some p, some ps => some (p :: ps) | _, _ => none
end
mutual
theorem Rep.dp : ∀ {v : V} {d : D} {p : PyData}, Rep C η H v d → toPy d = some p → Dp C.K H v p
  | _, _, _, .non, h => by cases h; exact .non
  | _, _, _, .bl b, h => by cases h; exact .bl b
  | _, _, _, .int i, h => by cases h; exact .int i
  | _, _, _, .str x, h => by cases h; exact .str x
  | _, _, _, .tup (ds := ds) h1 h2, h => by
    unfold toPy at h
    cases e : toPys ds with
    | none => rw [e] at h; cases h
    | some ps => rw [e] at h; cases h; exact .tup h1 (Reps.dp h2 e)
  | _, _, _, .lst (ds := ds) h1 _ _ h2, h => by
    unfold toPy at h
    cases e : toPys ds with
    | none => rw [e] at h; cases h
    | some ps => rw [e] at h; cases h; exact .lst (.of h1) (Reps.dp h2 e)
  | _, _, _, .frz (ds := ds) h1 h2, h => by
    unfold toPy at h
    cases e : toPys ds with
    | none => rw [e] at h; cases h
    | some ps => rw [e] at h; cases h; exact .lst h1.sq (Reps.dp h2 e)
  | _, _, _, .obj _, h => by cases h
theorem Reps.dp : ∀ {vs : List V} {ds : List D} {ps : List PyData}, Reps C η H vs ds → toPys ds = some ps → DpAll C.K H vs ps
  | _, _, _, .nil, h => by cases h; exact .nil
  | _, _, _, .cons (d := d) (ds := ds) h1 h2, h => by
    unfold toPys at h
    cases e : toPy d with
    | none => rw [e] at h; cases h
    | some p =>
      cases e2 : toPys ds with
      | none => rw [e, e2] at h; cases h
      | some ps => rw [e, e2] at h; cases h; exact .cons (Rep.dp h1 e) (Reps.dp h2 e2)
end
def toPyS (μ : Sto) : D → Option PyData
  | .obj n => match lstAt μ n with | some ds => (toPys ds).map .list | none => none
  | d => toPy d
theorem toPyS_obj (μ : Sto) (n : Nat) : toPyS μ (.obj n) = match lstAt μ n with | some ds => (toPys ds).map .list | none => none := by rw [toPyS]
theorem Rep.dpS (ok : Ok C η H μ) {v : V} {d : D} {p : PyData} (r : Rep C η H v d) (h : toPyS μ d = some p) : Dp C.K H v p := by
  cases r with
  | @obj a n h1 =>
    rw [toPyS_obj] at h
    split at h
    · rename_i ds z
      cases e : toPys ds with
      | none => rw [e] at h; cases h
      | some ps =>
        rw [e] at h
        cases h
        obtain ⟨vs, h2, h3⟩ := ok.lst h1 (lstAt_iff.mp z)
        exact .lst (.of h2) (h3.dp e)
    · cases h
  | non => exact Rep.dp (η := η) .non h
  | bl b => exact Rep.dp (η := η) (.bl b) h
  | int i => exact Rep.dp (η := η) (.int i) h
  | str x => exact Rep.dp (η := η) (.str x) h
  | tup h1 h2 => exact Rep.dp (η := η) (.tup h1 h2) h
  | lst h1 m mx h2 => exact Rep.dp (η := η) (.lst h1 m mx h2) h
  | frz h1 h2 => exact Rep.dp (η := η) (.frz h1 h2) h
/-- a == b -/
def gEq (x y : D) (μ : Sto) : Option Bool := match toPyS μ x, toPyS μ y with
  | some d, some e => if SeqAt.shaped d = true ∧ SeqAt.shaped e = true then some (PyData.eqv d e) else none
  | _, _ => none
def gNe (x y : D) (μ : Sto) : Option Bool := (gEq x y μ).map not
def gIs (x y : D) (_ : Sto) : Option Bool := match x, y with
  | .non, .non => some true
  | _, .non => some false
  | _, _ => none
def gIsN (x y : D) (μ : Sto) : Option Bool := (gIs x y μ).map not
end

/-- what an operator of comparison comes to -/
structure OC (X : Cx) (C : Cc) (op : CmpOp) (g : D → D → Sto → Option Bool) : Prop where
  ex : ∃ r, OpR X (compareOp op) r ∧ ∀ η H μ x y d e z Q, Ok C η H μ → Rep C η H x d → Rep C η H y e → g d e μ = some z → Q (.bl z) H → r x y H Q
section
variable {X : Cx} {C : Cc} {W : WX} {e a b c : Expr} {es rest : List Expr} {pos : Pos} {f fa fb fc : FE D} {g g' : D → D → Sto → Option Bool} {op op' : CmpOp} {ta tb : FE Bool}
theorem oc_lt : OC X C .Lt gLt := ⟨_, op_lt, rB_ok⟩
theorem oc_le : OC X C .LtE gLe := ⟨_, op_le, rB_ok⟩
theorem oc_gt : OC X C .Gt gGt := ⟨_, op_gt, rB_ok⟩
theorem oc_ge : OC X C .GtE gGe := ⟨_, op_ge, rB_ok⟩
theorem oc_eq (hu : X.A.units + 64 < cLine) (hK : X.K = C.K := by rfl) : OC X C .Eq gEq := by
  refine ⟨_, op_eqD hu, fun η H μ x y d e z Q ok rx ry h q => ?_⟩
  unfold gEq at h
  split at h
  · rename_i p1 p2 h1 h2
    split at h
    · rename_i hs
      cases h
      exact ⟨p1, p2, hK ▸ rx.dpS ok h1, hK ▸ ry.dpS ok h2, hs.1, hs.2, q⟩
    · cases h
  · cases h
theorem oc_ne (hu : X.A.units + 64 < cLine) (hK : X.K = C.K := by rfl) : OC X C .NotEq gNe := by
  refine ⟨_, op_neD hu, fun η H μ x y d e z Q ok rx ry h q => ?_⟩
  unfold gNe gEq at h
  split at h
  · rename_i p1 p2 h1 h2
    split at h
    · rename_i hs
      cases h
      exact ⟨p1, p2, hK ▸ rx.dpS ok h1, hK ▸ ry.dpS ok h2, hs.1, hs.2, q⟩
    · cases h
  · cases h
theorem gIs_ok {η H} {x y : V} {d e : D} {z : Bool} {μ : Sto} (rx : Rep C η H x d) (ry : Rep C η H y e) (h : gIs d e μ = some z) : y = .non ∧ decide (x = .non) = z := by
  unfold gIs at h
  split at h
  · cases h
    cases rx
    cases ry
    exact ⟨rfl, by decide⟩
  · cases h
    rename_i hn
    cases ry
    refine ⟨rfl, decide_eq_false fun z => ?_⟩
    subst z
    cases rx
    exact hn rfl
  · cases h
theorem oc_is : OC X C .Is gIs := by
  refine ⟨_, op_isN, fun η H μ x y d e z Q ok rx ry h q => ?_⟩
  obtain ⟨h1, h2⟩ := gIs_ok rx ry h
  exact ⟨h1, by rw [h2]; exact q⟩
theorem oc_isN : OC X C .IsNot gIsN := by
  refine ⟨_, op_notN, fun η H μ x y d e z Q ok rx ry h q => ?_⟩
  unfold gIsN at h
  cases e1 : gIs d e μ with
  | none => rw [e1] at h; cases h
  | some k =>
    rw [e1] at h
    cases h
    obtain ⟨h1, h2⟩ := gIs_ok rx ry e1
    exact ⟨h1, by rw [h2]; exact q⟩
/-- as a value -/
theorem de_c1 (oc : OC X C op g) (ha : DE X C W a fa) (hb : DE X C W b fb) (hm : behindInMarks op b = false := by rfl) : DE X C W (.Compare a [op] [b] pos) (eCmp g fa fb) := by
  obtain ⟨r, ho, hr⟩ := oc.ex
  exact de_cmp ho hr hm ha hb
/-- as a test -/
def tCmp (g : D → D → Sto → Option Bool) (fa fb : FE D) : FE Bool := fun ρ μ => (fa ρ μ).bind fun x μ1 => (fb ρ μ1).bind fun y μ2 => match g x y μ2 with | some z => .ok z μ2 | none => .bad
theorem dt_c1 (oc : OC X C op g) (ha : DE X C W a fa) (hb : DE X C W b fb) (hm : behindInMarks op b = false := by rfl) : DT X C W (.Compare a [op] [b] pos) (tCmp g fa fb) := by
  obtain ⟨r, ho, hr⟩ := oc.ex
  refine ⟨pt_imp (pt_cmpR ho ha.pe hb.pe hm) fun σ H Q => ?_⟩
  rintro ⟨η, ρ, μ, s, o, p⟩
  refine ⟨η, ρ, μ, s, o, Post.bind p fun d η1 H1 μ1 n1 o1 p1 x rx => ?_⟩
  refine ⟨η1, ρ, μ1, s.mono n1, o1, Post.bind p1 fun e η2 H2 μ2 n2 o2 p2 y ry => ?_⟩
  cases hg : g d e μ2 with
  | none => simp only [hg] at p2; exact p2.elim
  | some z =>
    simp only [hg] at p2
    exact hr η2 H2 μ2 x y d e z _ o2 (rx.mono n2) ry hg ⟨z, rfl, p2.now o2⟩
/-- a op b op' c -/
def eChain (g g' : D → D → Sto → Option Bool) (fa fb fc : FE D) : FE Bool := fun ρ μ => (fa ρ μ).bind fun x μ1 => (fb ρ μ1).bind fun y μ2 => match g x y μ2 with
  | some true => (fc ρ μ2).bind fun z μ3 => match g' y z μ3 with | some k => .ok k μ3 | none => .bad
  | some false => .ok false μ2
  | none => .bad
theorem chain_core {r r' : R2} (hr : ∀ η H μ x y d e z Q, Ok C η H μ → Rep C η H x d → Rep C η H y e → g d e μ = some z → Q (.bl z) H → r x y H Q) (hr' : ∀ η H μ x y d e z Q, Ok C η H μ → Rep C η H x d → Rep C η H y e → g' d e μ = some z → Q (.bl z) H → r' x y H Q) {σ H} {Q : Bool → Hp → Prop} {Q' : VK}
    (hQ : ∀ b H, Q b H → Q' (.bl b) H) (h : tDT C W (eChain g g' fa fb fc) σ H Q) : tChain r r' (tD C W fa) (tD C W fb) (tD C W fc) σ H Q' := by
  obtain ⟨η, ρ, μ, s, o, p⟩ := h
  refine ⟨η, ρ, μ, s, o, Post.bind p fun d η1 H1 μ1 n1 o1 p1 x rx => ?_⟩
  refine ⟨η1, ρ, μ1, s.mono n1, o1, Post.bind p1 fun e η2 H2 μ2 n2 o2 p2 y ry => ?_⟩
  cases hg : g d e μ2 with
  | none => simp only [hg] at p2; exact p2.elim
  | some z =>
    simp only [hg] at p2
    refine hr η2 H2 μ2 x y d e z _ o2 (rx.mono n2) ry hg ⟨z, rfl, ?_⟩
    cases z with
    | false => exact iteF (hQ _ _ (p2.now o2))
    | true =>
      refine iteT ⟨η2, ρ, μ2, (s.mono n1).mono n2, o2, Post.bind p2 fun c η3 H3 μ3 n3 o3 p3 z rz => ?_⟩
      cases hg' : g' e c μ3 with
      | none => simp only [hg'] at p3; exact p3.elim
      | some k =>
        simp only [hg'] at p3
        exact hr' η3 H3 μ3 y z e c k _ o3 (ry.mono n3) rz hg' (hQ _ _ (p3.now o3))
def eOfT (t : FE Bool) : FE D := fun ρ μ => (t ρ μ).bind fun b μ1 => .ok (.bl b) μ1
theorem tDT_of {t : FE Bool} {σ H Q} (h : tD C W (eOfT t) σ H Q) : tDT C W t σ H fun b H' => Q (.bl b) H' := by
  obtain ⟨η, ρ, μ, s, o, p⟩ := h
  exact ⟨η, ρ, μ, s, o, Post.bind p fun b η1 H1 μ1 n1 o1 p1 => p1.now o1 _ (.bl b)⟩
theorem de_chain (oc : OC X C op g) (oc' : OC X C op' g') (ha : DE X C W a fa) (hb : DE X C W b fb) (hc : DE X C W c fc) (hm : lastMarks [op, op'] [b, c] = false := by with_unfolding_all rfl) : DE X C W (.Compare a [op, op'] [b, c] pos) (eOfT (eChain g g' fa fb fc)) := by
  obtain ⟨r, ho, hr⟩ := oc.ex
  obtain ⟨r', ho', hr'⟩ := oc'.ex
  exact ⟨pe_imp (pe_chain ho ho' ha.pe hb.pe hc.pe hm) fun σ H Q h => chain_core hr hr' (fun _ _ q => q) (tDT_of h)⟩
theorem dt_chain (oc : OC X C op g) (oc' : OC X C op' g') (ha : DE X C W a fa) (hb : DE X C W b fb) (hc : DE X C W c fc) (hm : lastMarks [op, op'] [b, c] = false := by with_unfolding_all rfl) : DT X C W (.Compare a [op, op'] [b, c] pos) (eChain g g' fa fb fc) := by
  obtain ⟨r, ho, hr⟩ := oc.ex
  obtain ⟨r', ho', hr'⟩ := oc'.ex
  exact ⟨pt_imp (pt_chain ho ho' ha.pe hb.pe hc.pe hm) fun σ H Q h => chain_core hr hr' (fun b _ q => ⟨b, rfl, q⟩) h⟩

/-! ### tests -/
def tTru (fa : FE D) : FE Bool := fun ρ μ => (fa ρ μ).bind fun x μ1 => match truD μ1 x with | some k => .ok k μ1 | none => .bad
theorem dt_tru (ha : DE X C W a fa) (hK : X.K = C.K := by rfl) (he : ∀ whole, isTrue a X.env whole = (do let v ← whole; standAt a.pos; holding [v] (truthy v)) := by intro _; rfl) : DT X C W a (tTru fa) := by
  refine ⟨pt_imp (pt_truth ha.pe he) fun σ H Q => ?_⟩
  rintro ⟨η, ρ, μ, s, o, p⟩
  refine ⟨η, ρ, μ, s, o, Post.bind p fun d η1 H1 μ1 n1 o1 p1 x rx => ?_⟩
  cases hg : truD μ1 d with
  | none => simp only [hg] at p1; exact p1.elim
  | some k =>
    simp only [hg] at p1
    exact ⟨k, hK ▸ tru_of o1 rx hg, p1.now o1⟩
def tAnd (ta tb : FE Bool) : FE Bool := fun ρ μ => (ta ρ μ).bind fun k μ1 => if k = true then tb ρ μ1 else .ok false μ1
def tOr (ta tb : FE Bool) : FE Bool := fun ρ μ => (ta ρ μ).bind fun k μ1 => if k = true then .ok true μ1 else tb ρ μ1
def tNot (ta : FE Bool) : FE Bool := fun ρ μ => (ta ρ μ).bind fun k μ1 => .ok (!k) μ1
structure DW (X : Cx) (C : Cc) (W : WX) (e : Expr) (f : FE Bool) : Prop where
  pw : PW X e (tDT C W f)
theorem pw_imp {X : Cx} {e : Expr} {t t' : TT} (h : PW X e t) (i : ∀ σ H Q, t' σ H Q → t σ H Q) : PW X e t' := ⟨fun wh pins s σ H Q I q => h.run wh pins s σ H Q I (i σ H Q q)⟩
theorem DW.dt (h : DW X C W e ta) : DT X C W e ta := ⟨h.pw.pt⟩
theorem dw_and1 (ha : DT X C W a ta) : DW X C W (.BoolOp .And [a] pos) ta := ⟨pw_and1 ha.pt⟩
theorem dw_or1 (ha : DT X C W a ta) : DW X C W (.BoolOp .Or [a] pos) ta := ⟨pw_or1 ha.pt⟩
theorem dw_and (ha : DT X C W a ta) (hb : DW X C W (.BoolOp .And (b :: rest) pos) tb) : DW X C W (.BoolOp .And (a :: b :: rest) pos) (tAnd ta tb) := by
  refine ⟨pw_imp (pw_and ha.pt hb.pw) fun σ H Q => ?_⟩
  rintro ⟨η, ρ, μ, s, o, p⟩
  refine ⟨η, ρ, μ, s, o, Post.bind p fun k η1 H1 μ1 n1 o1 p1 => ?_⟩
  cases k with
  | true => exact iteT ⟨η1, ρ, μ1, s.mono n1, o1, p1⟩
  | false => exact iteF (p1.now o1)
theorem dw_or (ha : DT X C W a ta) (hb : DW X C W (.BoolOp .Or (b :: rest) pos) tb) : DW X C W (.BoolOp .Or (a :: b :: rest) pos) (tOr ta tb) := by
  refine ⟨pw_imp (pw_or ha.pt hb.pw) fun σ H Q => ?_⟩
  rintro ⟨η, ρ, μ, s, o, p⟩
  refine ⟨η, ρ, μ, s, o, Post.bind p fun k η1 H1 μ1 n1 o1 p1 => ?_⟩
  cases k with
  | true => exact iteT (p1.now o1)
  | false => exact iteF ⟨η1, ρ, μ1, s.mono n1, o1, p1⟩
theorem dt_not (ha : DT X C W a ta) : DT X C W (.UnaryOp .Not a pos) (tNot ta) := by
  refine ⟨pt_imp (pt_not ha.pt) fun σ H Q => ?_⟩
  rintro ⟨η, ρ, μ, s, o, p⟩
  exact ⟨η, ρ, μ, s, o, Post.bind p fun k η1 H1 μ1 n1 o1 p1 => p1.now o1⟩
/-- and, or, not as values -/
def eAnd (fa fb : FE D) : FE D := fun ρ μ => (fa ρ μ).bind fun x μ1 => match truD μ1 x with | some true => fb ρ μ1 | some false => .ok x μ1 | none => .bad
def eOr (fa fb : FE D) : FE D := fun ρ μ => (fa ρ μ).bind fun x μ1 => match truD μ1 x with | some true => .ok x μ1 | some false => fb ρ μ1 | none => .bad
def eNot (fa : FE D) : FE D := fun ρ μ => (fa ρ μ).bind fun x μ1 => match truD μ1 x with | some k => .ok (.bl (!k)) μ1 | none => .bad
theorem de_and (ha : DE X C W a fa) (hb : DE X C W (.BoolOp .And (b :: rest) pos) fb) (hK : X.K = C.K := by rfl) : DE X C W (.BoolOp .And (a :: b :: rest) pos) (eAnd fa fb) := by
  refine ⟨pe_imp (pe_andT ha.pe hb.pe) fun σ H Q => ?_⟩
  rintro ⟨η, ρ, μ, s, o, p⟩
  refine ⟨η, ρ, μ, s, o, Post.bind p fun d η1 H1 μ1 n1 o1 p1 x rx => ?_⟩
  cases hg : truD μ1 d with
  | none => simp only [hg] at p1; exact p1.elim
  | some k =>
    simp only [hg] at p1
    refine ⟨k, hK ▸ tru_of o1 rx hg, ?_⟩
    cases k with
    | true => exact iteT ⟨η1, ρ, μ1, s.mono n1, o1, p1⟩
    | false => exact iteF (p1.now o1 _ rx)
theorem de_or (ha : DE X C W a fa) (hb : DE X C W (.BoolOp .Or (b :: rest) pos) fb) (hK : X.K = C.K := by rfl) : DE X C W (.BoolOp .Or (a :: b :: rest) pos) (eOr fa fb) := by
  refine ⟨pe_imp (pe_orT ha.pe hb.pe) fun σ H Q => ?_⟩
  rintro ⟨η, ρ, μ, s, o, p⟩
  refine ⟨η, ρ, μ, s, o, Post.bind p fun d η1 H1 μ1 n1 o1 p1 x rx => ?_⟩
  cases hg : truD μ1 d with
  | none => simp only [hg] at p1; exact p1.elim
  | some k =>
    simp only [hg] at p1
    refine ⟨k, hK ▸ tru_of o1 rx hg, ?_⟩
    cases k with
    | true => exact iteT (p1.now o1 _ rx)
    | false => exact iteF ⟨η1, ρ, μ1, s.mono n1, o1, p1⟩
theorem de_not (ha : DE X C W a fa) (hK : X.K = C.K := by rfl) : DE X C W (.UnaryOp .Not a pos) (eNot fa) := by
  refine ⟨pe_imp (pe_notT ha.pe) fun σ H Q => ?_⟩
  rintro ⟨η, ρ, μ, s, o, p⟩
  refine ⟨η, ρ, μ, s, o, Post.bind p fun d η1 H1 μ1 n1 o1 p1 x rx => ?_⟩
  cases hg : truD μ1 d with
  | none => simp only [hg] at p1; exact p1.elim
  | some k =>
    simp only [hg] at p1
    exact ⟨k, hK ▸ tru_of o1 rx hg, p1.now o1 _ (.bl _)⟩
/-- a if t else b -/
def eIf (t : FE Bool) (fa fb : FE D) : FE D := fun ρ μ => (t ρ μ).bind fun k μ1 => if k = true then fa ρ μ1 else fb ρ μ1
theorem de_if (hc : DT X C W c ta) (ha : DE X C W a fa) (hb : DE X C W b fb) : DE X C W (.IfExp c a b pos) (eIf ta fa fb) := by
  refine ⟨pe_imp (pe_ifExp hc.pt ha.pe hb.pe) fun σ H Q => ?_⟩
  rintro ⟨η, ρ, μ, s, o, p⟩
  refine ⟨η, ρ, μ, s, o, Post.bind p fun k η1 H1 μ1 n1 o1 p1 => ?_⟩
  cases k with
  | true => exact iteT ⟨η1, ρ, μ1, s.mono n1, o1, p1⟩
  | false => exact iteF ⟨η1, ρ, μ1, s.mono n1, o1, p1⟩
theorem de_one {op} (ha : DE X C W a fa) : DE X C W (.BoolOp op [a] pos) fa := ⟨pe_one ha.pe⟩
end
end DL
namespace DL
open PySem PySem.Spec PyProof.Rows L2

section
variable {X : Cx} {C : Cc} {W : WX} {e a b c : Expr} {es rest : List Expr} {pos : Pos} {f fa fb fc : FE D} {fs : FE (List D)} {fl fm : FE (List D)}
/-! ### argument lists -/
def eNil : FE (List D) := fun _ μ => .ok [] μ
def eCons (fa : FE D) (fr : FE (List D)) : FE (List D) := fun ρ μ => (fa ρ μ).bind fun d μ1 => (fr ρ μ1).bind fun ds μ2 => .ok (d :: ds) μ2
theorem da_nil : DA X C W [] eNil := by
  refine ⟨pa_imp pa_nil fun σ H Q => ?_, fun ρ μ ds μ' h => by cases h; rfl⟩
  rintro ⟨η, ρ, μ, s, o, p⟩
  exact p.now o [] .nil
theorem da_cons (ha : DE X C W a fa) (hr : DA X C W es fs) (hs : starEach (a :: es) X.env = (false, eval a X.env) :: starEach es X.env := by rfl) : DA X C W (a :: es) (eCons fa fs) := by
  refine ⟨pa_imp (pa_cons ha.pe hr.pa hs) fun σ H Q => ?_, fun ρ μ ds μ' h => by
    unfold eCons at h
    cases e1 : fa ρ μ with
    | ok d μ1 =>
      rw [e1, R.bind_ok] at h
      cases e2 : fs ρ μ1 with
      | ok ds μ2 => rw [e2, R.bind_ok] at h; cases h; rw [List.length_cons, List.length_cons, hr.len _ _ _ _ e2]
      | ex c d μ2 => rw [e2] at h; cases h
      | bad => rw [e2] at h; cases h
    | ex c d μ1 => rw [e1] at h; cases h
    | bad => rw [e1] at h; cases h⟩
  rintro ⟨η, ρ, μ, s, o, p⟩
  refine ⟨η, ρ, μ, s, o, Post.bind p fun d η1 H1 μ1 n1 o1 p1 x rx => ?_⟩
  exact ⟨η1, ρ, μ1, s.mono n1, o1, Post.bind p1 fun ds η2 H2 μ2 n2 o2 p2 xs rxs => p2.now o2 (x :: xs) (.cons (rx.mono n2) rxs)⟩
/-! ### new tuples, new lists -/
def SZ : Nat := 16777216
theorem sz_eq : SZ = sizeLine := by rw [sizeLine_eq]; rfl
theorem rep_new_tup {η H} {p : Addr} {vs : List V} {ds : List D} (hp : H p = none) (r : Reps C η H vs ds) : Rep C η (upd H p (.tup vs)) (.ref p) (.tup ds) := .tup (.of upd_same) (r.mono (Same.nxt (Same.new hp)))
theorem Post.new {α : Type} {η H σ} {P : α → Nm → Hp → Sto → Prop} {x : α} {μ : Sto} (h : Post C W η H σ P (.ok x μ)) (o : Ok C η H μ) {p : Addr} {ho : HO} (hp : H p = none) : P x η (upd H p ho) μ :=
  h η _ (Same.nxt (Same.new hp)) (o.same (Same.new hp))
def eTup (fs : FE (List D)) : FE D := fun ρ μ => (fs ρ μ).bind fun ds μ1 => if ds.length ≤ SZ then .ok (.tup ds) μ1 else .bad
theorem de_tup {x1} (h : DA X C W es fs) : DE X C W (.Tuple es x1 pos) (eTup fs) := by
  refine ⟨pe_imp (pe_tup h.pa) fun σ H Q => ?_⟩
  rintro ⟨η, ρ, μ, s, o, p⟩
  refine ⟨η, ρ, μ, s, o, Post.bind p fun ds η1 H1 μ1 n1 o1 p1 xs rx => ?_⟩
  split at p1
  · rename_i hz
    refine ⟨by rw [rx.length, ← sz_eq]; exact hz, fun q hq => ?_⟩
    exact Post.new p1 o1 hq _ (rep_new_tup hq rx)
  · exact p1.elim
/-! ### nobody knows p -/
mutual
theorem Rep.hide {η : Nm} {H : Hp} {p : Addr} (hp : H p = Option.none) : ∀ {v : V} {d : D}, Rep C η H v d → Rep C (η.hide p) H v d
  | _, _, .non => .non
  | _, _, .bl b => .bl b
  | _, _, .int i => .int i
  | _, _, .str x => .str x
  | _, _, .tup h r => .tup h (Reps.hide hp r)
  | _, _, .lst h m mx r => .lst h m (fun z => by
      rcases List.mem_cons.mp z with z | z
      · rw [z, hp] at h; cases h
      · exact mx z) (Reps.hide hp r)
  | _, _, .frz h r => .frz h (Reps.hide hp r)
  | _, _, .obj h => .obj h
theorem Reps.hide {η : Nm} {H : Hp} {p : Addr} (hp : H p = Option.none) : ∀ {vs : List V} {ds : List D}, Reps C η H vs ds → Reps C (η.hide p) H vs ds
  | _, _, .nil => .nil
  | _, _, .cons h r => .cons (Rep.hide hp h) (Reps.hide hp r)
end
mutual
theorem Rep.show_ {η : Nm} {H : Hp} {p : Addr} : ∀ {v : V} {d : D}, Rep C (η.hide p) H v d → Rep C η H v d
  | _, _, .non => .non
  | _, _, .bl b => .bl b
  | _, _, .int i => .int i
  | _, _, .str x => .str x
  | _, _, .tup h r => .tup h (Reps.show_ r)
  | _, _, .lst h m mx r => .lst h m (fun z => mx (List.mem_cons_of_mem _ z)) (Reps.show_ r)
  | _, _, .frz h r => .frz h (Reps.show_ r)
  | _, _, .obj h => .obj h
theorem Reps.show_ {η : Nm} {H : Hp} {p : Addr} : ∀ {vs : List V} {ds : List D}, Reps C (η.hide p) H vs ds → Reps C η H vs ds
  | _, _, .nil => .nil
  | _, _, .cons h r => .cons (Rep.show_ h) (Reps.show_ r)
end
def Nm.add (η : Nm) (p : Addr) : Nm := ⟨η.o ++ [p], η.x⟩
mutual
theorem Rep.add {η : Nm} {H : Hp} {p : Addr} : ∀ {v : V} {d : D}, Rep C (η.hide p) H v d → Rep C (η.add p) H v d
  | _, _, .non => .non
  | _, _, .bl b => .bl b
  | _, _, .int i => .int i
  | _, _, .str x => .str x
  | _, _, .tup h r => .tup h (Reps.add r)
  | _, _, .lst h m mx r => .lst h (fun z => by
      rcases List.mem_append.mp z with z | z
      · exact m z
      · cases List.mem_singleton.mp z
        exact mx List.mem_cons_self) (fun z => mx (List.mem_cons_of_mem _ z)) (Reps.add r)
  | _, _, .frz h r => .frz h (Reps.add r)
  | _, _, .obj (n := n) h => .obj (by
      show (η.o ++ [p])[n]? = _
      have h' : η.o[n]? = some _ := h
      rw [List.getElem?_append_left (List.getElem?_eq_some_iff.mp h').1]; exact h')
theorem Reps.add {η : Nm} {H : Hp} {p : Addr} : ∀ {vs : List V} {ds : List D}, Reps C (η.hide p) H vs ds → Reps C (η.add p) H vs ds
  | _, _, .nil => .nil
  | _, _, .cons h r => .cons (Rep.add h) (Reps.add r)
end
theorem RepK.map {κ : Type} {η η' H H'} (f : ∀ v d, Rep C η H v d → Rep C η' H' v d) : ∀ {vs : List (κ × V)} {ds : List (κ × D)}, RepK C η H vs ds → RepK C η' H' vs ds
  | _, _, .nil => .nil
  | _, _, .cons h r => .cons (f _ _ h) (RepK.map f r)
theorem RepN.map {C : Cc} {η η' H H'} (f : ∀ v d, Rep C η H v d → Rep C η' H' v d) : ∀ {vs : List (NestedKey × Addr × V)} {ds : List (NestedKey × D)}, RepN C η H vs ds → RepN C η' H' vs ds
  | _, _, .nil => .nil
  | _, _, .cons h k g r => .cons (f _ _ h) k (f _ _ g) (RepN.map f r)
theorem RepO.map {η η' H H'} (f : ∀ v d, Rep C η H v d → Rep C η' H' v d) (g : ∀ v d, Reps C η H v d → Reps C η' H' v d) {a : Addr} {o : HO} {m : DO} (h : RepO C η H a o m) : RepO C η' H' a o m := by
  cases h with
  | lst h => exact .lst (g _ _ h)
  | dk h => exact .dk (h.map f)
  | dt h => exact .dt (h.map f)
  | ins h => exact .ins (h.map f)
  | dn h => exact .dn (h.map f)
  | st h => exact .st h
theorem Ok.hide {η : Nm} {H : Hp} {μ : Sto} {p : Addr} {u : HO} (hp : H p = none) (o : Ok C η H μ) (hu : ∀ ps, u ≠ .tbl ps) : Ok C (η.hide p) (upd H p u) μ := by
  have s := Same.new (o := u) hp
  refine ⟨o.nd, o.len, fun n a m h1 h2 => ?_, fun b m => ?_, o.tab.ext s⟩
  · obtain ⟨w, h, r⟩ := o.at_ n a m h1 h2
    exact ⟨w, s _ _ h, (r.map (fun _ _ => Rep.hide hp) fun _ _ => Reps.hide hp).mono (Same.nxt s)⟩
  · rcases List.mem_cons.mp m with e | m
    · exact ⟨u, by rw [e, upd_same], hu⟩
    · obtain ⟨w, h, t⟩ := o.hid b m
      exact ⟨w, s _ _ h, t⟩
theorem Ok.show_ {η : Nm} {H : Hp} {μ : Sto} {p : Addr} (o : Ok C (η.hide p) H μ) : Ok C η H μ :=
  ⟨o.nd, o.len, fun n a m h1 h2 => let ⟨u, h, r⟩ := o.at_ n a m h1 h2; ⟨u, h, r.map (fun _ _ => Rep.show_) fun _ _ => Reps.show_⟩, fun b m => o.hid b (List.mem_cons_of_mem _ m), o.tab⟩
theorem Ok.add {η : Nm} {H : Hp} {μ : Sto} {p : Addr} {ho : HO} {m : DO} (o : Ok C (η.hide p) H μ) (np : p ∉ η.o) (hp : H p = some ho) (r : RepO C (η.hide p) H p ho m) : Ok C (η.add p) H (μ ++ [m]) := by
  refine ⟨?_, ?_, fun n a m' h1 h2 => ?_, fun b m => o.hid b (List.mem_cons_of_mem _ m), o.tab⟩
  · show (η.o ++ [p]).Nodup
    rw [List.nodup_append]
    exact ⟨o.nd, by simp, fun a ha b hb e => by
      cases List.mem_singleton.mp hb
      exact np (e ▸ ha)⟩
  · show (η.o ++ [p]).length = _
    have := o.len
    rw [List.length_append, List.length_append, show η.o.length = μ.length from this]
    rfl
  · have hl : η.o.length = μ.length := o.len
    have h1' : (η.o ++ [p])[n]? = some a := h1
    by_cases hn : n < μ.length
    · rw [List.getElem?_append_left (by omega)] at h1'
      rw [List.getElem?_append_left hn] at h2
      obtain ⟨u, h, r⟩ := o.at_ n a m' h1' h2
      exact ⟨u, h, r.map (fun _ _ => Rep.add) fun _ _ => Reps.add⟩
    · have hlt := (List.getElem?_eq_some_iff.mp h2).1
      rw [List.length_append, List.length_singleton] at hlt
      have e : n = μ.length := by omega
      subst e
      rw [List.getElem?_append_right (by omega)] at h1'
      rw [List.getElem?_append_right (by omega)] at h2
      simp [hl] at h1' h2
      subst h1' h2
      exact ⟨ho, hp, r.map (fun _ _ => Rep.add) fun _ _ => Reps.add⟩
theorem Nxt.add {η : Nm} {H : Hp} {η1 : Nm} {H1 : Hp} (n : Nxt C η H η1 H1) {p : Addr} (hp : Nw H p) : Nxt C η H (η1.add p) H1 :=
  ⟨n.pre.trans (List.prefix_append _ _), n.hx, n.keep, n.tups, n.frzs, fun b m nm => by
    rcases List.mem_append.mp m with m | m
    · exact n.new b m nm
    · cases List.mem_singleton.mp m
      exact hp, n.there⟩
theorem Nxt.hide {η : Nm} {H : Hp} {η1 : Nm} {H1 : Hp} (n : Nxt C η H η1 H1) (p : Addr) : Nxt C (η.hide p) H (η1.hide p) H1 :=
  ⟨n.pre, by show p :: η1.x = p :: η.x; rw [n.hx], n.keep, n.tups, n.frzs, n.new, n.there⟩
/-- the last step of a rule that lays a new list -/
theorem Post.newL {η H H0 η0 σ} {Q : VK} {ds : List D} {μ : Sto} (h : Post C W η H σ (PL C H0 Q) (.ok ds μ)) (n0 : Nxt C η0 H0 η H) (o : Ok C η H μ) {p : Addr} {vs : List V} (hp : H p = none) (r : Reps C η H vs ds) : Q (.ref p) (upd H p (.lst vs)) :=
  Post.new h o hp p vs (o.not_mem hp) (n0.nw (.of hp)) upd_same (o.hide hp (fun ps z => by cases z)) ((r.hide hp).mono (Same.nxt (Same.new hp)))
def eLst (fs : FE (List D)) : FE (List D) := fun ρ μ => (fs ρ μ).bind fun ds μ1 => if ds.length ≤ SZ then .ok ds μ1 else .bad
theorem de_lst (h : DA X C W es fs) : DEL X C W (.List es pos) (eLst fs) := by
  refine ⟨pe_imp (pe_lst h.pa) fun σ H Q => ?_⟩
  rintro ⟨η, ρ, μ, s, o, p⟩
  refine ⟨η, ρ, μ, s, o, Post.bind p fun ds η1 H1 μ1 n1 o1 p1 xs rx => ?_⟩
  split at p1
  · rename_i hz
    exact ⟨by rw [rx.length, ← sz_eq]; exact hz, fun q hq => Post.newL p1 n1 o1 hq rx⟩
  · exact p1.elim
/-- a new list that nobody changes -/
def eFz (fl : FE (List D)) : FE D := fun ρ μ => (fl ρ μ).bind fun ds μ1 => .ok (.lst ds) μ1
theorem fz_read {σ H Q} : tD C W (eFz fl) σ H Q → tDL C W fl σ H Q := by
  rintro ⟨η, ρ, μ, s, o, p⟩
  refine ⟨η, ρ, μ, s, o, Post.bind p fun ds η1 H1 μ1 n1 o1 p1 q vs m hn hq o2 r => p1.now o1 _ (.lst hq m (by rw [n1.hx]; exact o.not_hid hn) r.show_)⟩
theorem DEL.fz (h : DEL X C W e fl) : DE X C W e (eFz fl) := ⟨pe_imp h.pe fun σ H Q => fz_read⟩
/-- a new list that is changed -/
def eMu (fl : FE (List D)) : FE D := fun ρ μ => (fl ρ μ).bind fun ds μ1 => .ok (.obj μ1.length) (μ1 ++ [.lst ds])
theorem mu_read {σ H Q} : tD C W (eMu fl) σ H Q → tDL C W fl σ H Q := by
  rintro ⟨η, ρ, μ, s, o, p⟩
  refine ⟨η, ρ, μ, s, o, ?_⟩
  cases hf : fl ρ μ with
  | ok ds μ1 =>
    intro η1 H1 n1 o1 q vs m hn hq o2 r
    have p' : Post C W η H σ (PV C Q) (.ok (.obj μ1.length) (μ1 ++ [.lst ds])) := by
      have := p
      unfold eMu at this
      rw [hf] at this
      exact this
    refine p' (η1.add q) H1 (n1.add hn) (o2.add m hq (.lst r)) (.ref q) (.obj ?_)
    show (η1.o ++ [q])[μ1.length]? = some q
    rw [← o1.len]
    simp
  | ex c d μ1 =>
    have := p
    unfold eMu at this
    rw [hf] at this
    exact this
  | bad =>
    have := p
    unfold eMu at this
    rw [hf] at this
    exact this
theorem DEL.mu (h : DEL X C W e fl) : DE X C W e (eMu fl) := ⟨pe_imp h.pe fun σ H Q => mu_read⟩
end
end DL
namespace DL
open PySem PySem.Spec PyProof.Rows L2

section
variable {X : Cx} {C : Cc} {W : WX} {e a b c : Expr} {es rest : List Expr} {pos : Pos} {f fa fb fc : FE D} {fs : FE (List D)} {fl fm : FE (List D)}
/-! ### x[i] -/
def gIx (μ : Sto) (x y : D) : Option D := match y with
  | .int i => match x with
    | .str z => if z.length ≤ SZ then (atI z.cps.toList i).map fun c => .str ⟨#[c]⟩ else none
    | _ => (seqOf μ x).bind fun ds => atI ds i
  | _ => none
theorem Reps.atI {η : Nm} {H : Hp} {vs : List V} {ds : List D} {i : Int} {d : D} (r : Reps C η H vs ds) (h : atI ds i = some d) : ∃ v, L2.atI vs i = some v ∧ Rep C η H v d := by
  unfold L2.atI at h ⊢
  rw [r.length]
  cases e : ixN ds.length i with
  | none => rw [e] at h; cases h
  | some j =>
    rw [e] at h
    exact r.get h
def eIx (fa fb : FE D) : FE D := fun ρ μ => (fa ρ μ).bind fun x μ1 => (fb ρ μ1).bind fun y μ2 => match gIx μ2 x y with | some z => .ok z μ2 | none => .bad
theorem de_ix (ha : DE X C W a fa) (hb : DE X C W b fb) (hs : PlainIx b := by exact fun _ _ => rfl) (hK : X.K = C.K := by rfl) : DE X C W (.Subscript a b pos) (eIx fa fb) := by
  refine ⟨pe_imp (pe_ix ix_seq ha.pe hb.pe hs) fun σ H Q h => tD_two (g := fun x y μ2 => match gIx μ2 x y with | some z => .ok z μ2 | none => .bad) (fun η H μ σ Q x y d e o rx ry p => ?_) h⟩
  cases hg : gIx μ d e with
  | none => simp only [hg] at p; exact p.elim
  | some z =>
    simp only [hg] at p
    unfold gIx at hg
    split at hg
    · rename_i i
      cases ry
      split at hg
      · rename_i z'
        cases rx
        split at hg
        · rename_i hz
          cases e1 : atI z'.cps.toList i with
          | none => rw [e1] at hg; cases hg
          | some c =>
            rw [e1] at hg
            cases hg
            exact .inr (.inr ⟨z', i, c, rfl, rfl, by rw [← sz_eq]; exact hz, e1, p.now o _ (.str _)⟩)
        · cases hg
      · cases e1 : seqOf μ d with
        | none => rw [e1] at hg; cases hg
        | some ds =>
          rw [e1] at hg
          obtain ⟨q, vs, rfl, hq, r⟩ := seq_ok o rx e1
          obtain ⟨v, h1, h2⟩ := r.atI hg
          rw [← hK] at hq
          rcases hq with hq | hq
          · exact .inl ⟨q, vs, i, v, rfl, rfl, hq, h1, p.now o v h2⟩
          · exact .inr (.inl ⟨q, vs, i, v, rfl, rfl, hq, h1, p.now o v h2⟩)
    · cases hg

/-! ### slices -/
structure DO_ (X : Cx) (C : Cc) (W : WX) (e : Option Expr) (f : FE (Option Int)) : Prop where
  po : PO X e (fun σ H Q => ∃ η ρ μ, Slots C η H σ ρ ∧ Ok C η H μ ∧ Post C W η H σ (fun i _ H' _ => Q i H') (f ρ μ))
theorem po_imp {e : Option Expr} {t t' : TO} (h : PO X e t) (i : ∀ σ H Q, t' σ H Q → t σ H Q) : PO X e t' := ⟨fun pins s σ H Q I q => h.run pins s σ H Q I (i σ H Q q)⟩
def oNone : FE (Option Int) := fun _ μ => .ok none μ
def oSome (fa : FE D) : FE (Option Int) := fun ρ μ => (fa ρ μ).bind fun x μ1 => match x with | .int i => .ok (some i) μ1 | _ => .bad
theorem do_none : DO_ X C W none oNone := by
  refine ⟨po_imp po_none fun σ H Q => ?_⟩
  rintro ⟨η, ρ, μ, s, o, p⟩
  exact p.now o
theorem do_some (ha : DE X C W a fa) : DO_ X C W (some a) (oSome fa) := by
  refine ⟨po_imp (po_some ha.pe) fun σ H Q => ?_⟩
  rintro ⟨η, ρ, μ, s, o, p⟩
  refine ⟨η, ρ, μ, s, o, Post.bind p fun d η1 H1 μ1 n1 o1 p1 x rx => ?_⟩
  split at p1
  · exact ⟨_, rx.int_inv, p1.now o1⟩
  · exact p1.elim
def cutD (ds : List D) (lo hi : Option Int) : List D := (ds.drop (HT.sIx ds.length 0 lo)).take (HT.sIx ds.length ds.length hi - HT.sIx ds.length 0 lo)
theorem cutD_whole (ds : List D) (lo hi : Option Int) (h : HT.sIx ds.length 0 lo = 0 ∧ HT.sIx ds.length ds.length hi = ds.length) : cutD ds lo hi = ds := by
  unfold cutD
  rw [h.1, h.2]
  simp
variable {lo hi : Option Expr} {fo fh : FE (Option Int)} {p2 : Pos}
/-- t[lo:hi] of a tuple -/
def eCutT (fa : FE D) (fo fh : FE (Option Int)) : FE D := fun ρ μ => (fa ρ μ).bind fun x μ1 => (fo ρ μ1).bind fun i μ2 => (fh ρ μ2).bind fun j μ3 => match x with | .tup ds => .ok (.tup (cutD ds i j)) μ3 | _ => .bad
theorem de_cutT (ha : DE X C W a fa) (hl : DO_ X C W lo fo) (hh : DO_ X C W hi fh) (hK : X.K = C.K := by rfl) : DE X C W (.Subscript a (.Slice lo hi none p2) pos) (eCutT fa fo fh) := by
  refine ⟨pe_imp (pe_slice sl_tupA ha.pe hl.po hh.po) fun σ H Q => ?_⟩
  rintro ⟨η, ρ, μ, s, o, p⟩
  refine ⟨η, ρ, μ, s, o, Post.bind p fun d η1 H1 μ1 n1 o1 p1 x rx => ?_⟩
  refine ⟨η1, ρ, μ1, s.mono n1, o1, Post.bind p1 fun i η2 H2 μ2 n2 o2 p2 => ?_⟩
  refine ⟨η2, ρ, μ2, (s.mono n1).mono n2, o2, Post.bind p2 fun j η3 H3 μ3 n3 o3 p3 => ?_⟩
  split at p3
  · have rx' := (rx.mono n2).mono n3
    cases rx' with
    | tup h1 h2 =>
      rename_i ds a' vs
      refine ⟨_, vs, rfl, by rw [hK]; exact h1, fun hw => ?_, fun hw q hq => ?_⟩
      · refine p3.now o3 _ ?_
        rw [h2.length] at hw
        rw [cutD_whole _ _ _ hw]
        exact .tup h1 h2
      · exact Post.new p3 o3 hq _ (rep_new_tup hq (h2.cut i j))
  · exact p3.elim
/-- xs[lo:hi] of a list -/
def eCutL (fa : FE D) (fo fh : FE (Option Int)) : FE (List D) := fun ρ μ => (fa ρ μ).bind fun x μ1 => (fo ρ μ1).bind fun i μ2 => (fh ρ μ2).bind fun j μ3 => match listOf μ3 x with | some ds => .ok (cutD ds i j) μ3 | none => .bad
theorem de_cutL (ha : DE X C W a fa) (hl : DO_ X C W lo fo) (hh : DO_ X C W hi fh) (hK : X.K = C.K := by rfl) : DEL X C W (.Subscript a (.Slice lo hi none p2) pos) (eCutL fa fo fh) := by
  refine ⟨pe_imp (pe_slice sl_list ha.pe hl.po hh.po) fun σ H Q => ?_⟩
  rintro ⟨η, ρ, μ, s, o, p⟩
  refine ⟨η, ρ, μ, s, o, Post.bind p fun d η1 H1 μ1 n1 o1 p1 x rx => ?_⟩
  refine ⟨η1, ρ, μ1, s.mono n1, o1, Post.bind p1 fun i η2 H2 μ2 n2 o2 p2 => ?_⟩
  refine ⟨η2, ρ, μ2, (s.mono n1).mono n2, o2, Post.bind p2 fun j η3 H3 μ3 n3 o3 p3 => ?_⟩
  cases e : listOf μ3 d with
  | none => simp only [e] at p3; exact p3.elim
  | some ds =>
    simp only [e] at p3
    obtain ⟨q, vs, rfl, hq, r⟩ := list_ok o3 ((rx.mono n2).mono n3) e
    exact ⟨q, vs, rfl, by rw [hK]; exact hq, fun l hl => Post.newL p3 ((n1.trans n2).trans n3) o3 hl (r.cut i j)⟩

/-! ### t + u, xs + ys -/
def eCatT (fa fb : FE D) : FE D := fun ρ μ => (fa ρ μ).bind fun x μ1 => (fb ρ μ1).bind fun y μ2 => match x, y with | .tup ds, .tup es => if ds.length + es.length ≤ SZ then .ok (.tup (ds ++ es)) μ2 else .bad | _, _ => .bad
theorem de_catT (ha : DE X C W a fa) (hb : DE X C W b fb) (hK : X.K = C.K := by rfl) : DE X C W (.BinOp a .Add b pos) (eCatT fa fb) := by
  refine ⟨pe_imp (pe_op op_catA ha.pe hb.pe) fun σ H Q h => tD_two (g := fun x y μ2 => match x, y with | .tup ds, .tup es => if ds.length + es.length ≤ SZ then .ok (.tup (ds ++ es)) μ2 else .bad | _, _ => .bad) (fun η H μ σ Q x y d e o rx ry p => ?_) h⟩
  split at p
  · rename_i ds es
    split at p
    · rename_i hz
      cases rx with
      | tup h1 h2 =>
        cases ry with
        | tup g1 g2 =>
          rename_i a' vs b' ws
          refine ⟨_, _, vs, ws, rfl, rfl, by rw [hK]; exact h1, by rw [hK]; exact g1, by rw [h2.length, g2.length, ← sz_eq]; exact hz, fun e => ?_, fun _ e => ?_, fun _ _ q hq => ?_⟩
          · subst e
            have e2 : ds = [] := by cases h2; rfl
            rw [e2] at p
            exact p.now o _ (.tup g1 g2)
          · subst e
            have e2 : es = [] := by cases g2; rfl
            rw [e2, List.append_nil] at p
            exact p.now o _ (.tup h1 h2)
          · exact Post.new p o hq _ (rep_new_tup hq (h2.append g2))
    · exact p.elim
  · exact p.elim
/-- a list that stands in the heap by itself -/
def ownL (μ : Sto) : D → Option (List D)
  | .lst ds => some ds
  | .obj n => lstAt μ n
  | _ => none
theorem own_ok {η : Nm} {H : Hp} {μ : Sto} (ok : Ok C η H μ) {x : V} {d : D} {ds : List D} (r : Rep C η H x d) (h : ownL μ d = some ds) : ∃ a vs, x = .ref a ∧ H a = some (.lst vs) ∧ Reps C η H vs ds := by
  cases r with
  | lst h1 _ _ h2 => cases h; exact ⟨_, _, rfl, h1, h2⟩
  | @obj a n h1 =>
    obtain ⟨vs, h2, h3⟩ := ok.lst h1 (lstAt_iff.mp h)
    exact ⟨_, vs, rfl, h2, h3⟩
  | _ => cases h
def eCatL (fa fb : FE D) : FE (List D) := fun ρ μ => (fa ρ μ).bind fun x μ1 => (fb ρ μ1).bind fun y μ2 => match ownL μ2 x, ownL μ2 y with | some ds, some es => if ds.length + es.length ≤ SZ then .ok (ds ++ es) μ2 else .bad | _, _ => .bad
theorem de_catL (ha : DE X C W a fa) (hb : DE X C W b fb) : DEL X C W (.BinOp a .Add b pos) (eCatL fa fb) := by
  refine ⟨pe_imp (pe_op op_cat ha.pe hb.pe) fun σ H Q => ?_⟩
  rintro ⟨η, ρ, μ, s, o, p⟩
  refine ⟨η, ρ, μ, s, o, Post.bind p fun d η1 H1 μ1 n1 o1 p1 x rx => ?_⟩
  refine ⟨η1, ρ, μ1, s.mono n1, o1, Post.bind p1 fun e η2 H2 μ2 n2 o2 p2 y ry => ?_⟩
  cases e1 : ownL μ2 d with
  | none => simp only [e1] at p2; exact p2.elim
  | some ds =>
    cases e2 : ownL μ2 e with
    | none => simp only [e1, e2] at p2; exact p2.elim
    | some es =>
      simp only [e1, e2] at p2
      split at p2
      · rename_i hz
        obtain ⟨q, vs, rfl, hq, r⟩ := own_ok o2 (rx.mono n2) e1
        obtain ⟨q', vs', rfl, hq', r'⟩ := own_ok o2 ry e2
        exact ⟨q, q', vs, vs', rfl, rfl, hq, hq', by rw [r.length, r'.length, ← sz_eq]; exact hz, fun l hl => Post.newL p2 (n1.trans n2) o2 hl (r.append r')⟩
      · exact p2.elim
/-- s + t, texts -/
def gStr2 : D → D → Option D
  | .str x, .str y => if x.length + y.length ≤ SZ then some (.str (x ++ y)) else none
  | _, _ => none
theorem de_catS (ha : DE X C W a fa) (hb : DE X C W b fb) : DE X C W (.BinOp a .Add b pos) (eOp gStr2 fa fb) := de_op op_add_str (fun η H x y d e z Q rx ry h q => by
  unfold gStr2 at h
  split at h
  · split at h
    · rename_i hz
      cases h
      exact ⟨_, _, rx.str_inv, ry.str_inv, by rw [← sz_eq]; exact hz, q _ (.str _)⟩
    · cases h
  · cases h) ha hb

/-! ### calls of built-ins -/
structure CC (X : Cx) (C : Cc) (f : Value) (g : List D → Sto → R D) : Prop where
  ex : ∃ r, CallR X f r ∧ ∀ (W : WX) η H μ σ Q xs ds, Ok C η H μ → Reps C η H xs ds → Post C W η H σ (PV C Q) (g ds μ) → r xs H Q
structure CCL (X : Cx) (C : Cc) (f : Value) (g : List D → Sto → R (List D)) : Prop where
  ex : ∃ r, CallR X f r ∧ ∀ (W : WX) η H μ σ Q η0 H0 xs ds, Nxt C η0 H0 η H → Ok C η H μ → Reps C η H xs ds → Post C W η H σ (PL C H0 Q) (g ds μ) → r xs H Q
def eCall {α : Type} (g : List D → Sto → R α) (fs : FE (List D)) : FE α := fun ρ μ => (fs ρ μ).bind g
variable {x : Str} {p : Pos} {bid T : String} {g : List D → Sto → R D} {gl : List D → Sto → R (List D)}
theorem de_cb (cc : CC X C (.builtin bid) g) (hm : X.mg x = none) (hv : bootBuiltins x = some (.builtin bid)) (ha : DA X C W (e :: es) fs) (hg : Gl X x := by rfl) (hn : x ≠ "__name__" := by decide) (hdb : (x == ("__debug__" : Str)) = false := by decide)
    (he : starEach (e :: es) X.env = (false, eval e X.env) :: starEach es X.env := by rfl) (hpl : (backTo pos (starEach es X.env)).any (·.1) = false := by rfl) : DE X C W (.Call (.Name x p) (e :: es) [] pos) (eCall g fs) := by
  obtain ⟨r, hr, hq⟩ := cc.ex
  refine ⟨pe_imp (pe_callB hr hg hm hv ha.pa hn hdb he hpl) fun σ H Q => ?_⟩
  rintro ⟨η, ρ, μ, s, o, p⟩
  exact ⟨η, ρ, μ, s, o, Post.bind p fun ds η1 H1 μ1 n1 o1 p1 xs rx => hq W η1 H1 μ1 σ Q xs ds o1 rx p1⟩
theorem de_ct (cc : CC X C (.type T) g) (hm : X.mg x = none) (hv : bootBuiltins x = some (.type T)) (ha : DA X C W (e :: es) fs) (hg : Gl X x := by rfl) (hn : x ≠ "__name__" := by decide) (hdb : (x == ("__debug__" : Str)) = false := by decide)
    (he : starEach (e :: es) X.env = (false, eval e X.env) :: starEach es X.env := by rfl) (hpl : (backTo pos (starEach es X.env)).any (·.1) = false := by rfl) : DE X C W (.Call (.Name x p) (e :: es) [] pos) (eCall g fs) := by
  obtain ⟨r, hr, hq⟩ := cc.ex
  refine ⟨pe_imp (pe_callTy hr hg hm hv ha.pa hn hdb he hpl) fun σ H Q => ?_⟩
  rintro ⟨η, ρ, μ, s, o, p⟩
  exact ⟨η, ρ, μ, s, o, Post.bind p fun ds η1 H1 μ1 n1 o1 p1 xs rx => hq W η1 H1 μ1 σ Q xs ds o1 rx p1⟩
theorem de_cbl (cc : CCL X C (.builtin bid) gl) (hm : X.mg x = none) (hv : bootBuiltins x = some (.builtin bid)) (ha : DA X C W (e :: es) fs) (hg : Gl X x := by rfl) (hn : x ≠ "__name__" := by decide) (hdb : (x == ("__debug__" : Str)) = false := by decide)
    (he : starEach (e :: es) X.env = (false, eval e X.env) :: starEach es X.env := by rfl) (hpl : (backTo pos (starEach es X.env)).any (·.1) = false := by rfl) : DEL X C W (.Call (.Name x p) (e :: es) [] pos) (eCall gl fs) := by
  obtain ⟨r, hr, hq⟩ := cc.ex
  refine ⟨pe_imp (pe_callB hr hg hm hv ha.pa hn hdb he hpl) fun σ H Q => ?_⟩
  rintro ⟨η, ρ, μ, s, o, p⟩
  exact ⟨η, ρ, μ, s, o, Post.bind p fun ds η1 H1 μ1 n1 o1 p1 xs rx => hq W η1 H1 μ1 σ Q η H xs ds n1 o1 rx p1⟩
theorem de_ctl (cc : CCL X C (.type T) gl) (hm : X.mg x = none) (hv : bootBuiltins x = some (.type T)) (ha : DA X C W (e :: es) fs) (hg : Gl X x := by rfl) (hn : x ≠ "__name__" := by decide) (hdb : (x == ("__debug__" : Str)) = false := by decide)
    (he : starEach (e :: es) X.env = (false, eval e X.env) :: starEach es X.env := by rfl) (hpl : (backTo pos (starEach es X.env)).any (·.1) = false := by rfl) : DEL X C W (.Call (.Name x p) (e :: es) [] pos) (eCall gl fs) := by
  obtain ⟨r, hr, hq⟩ := cc.ex
  refine ⟨pe_imp (pe_callTy hr hg hm hv ha.pa hn hdb he hpl) fun σ H Q => ?_⟩
  rintro ⟨η, ρ, μ, s, o, p⟩
  exact ⟨η, ρ, μ, s, o, Post.bind p fun ds η1 H1 μ1 n1 o1 p1 xs rx => hq W η1 H1 μ1 σ Q η H xs ds n1 o1 rx p1⟩

theorem Reps.one {η : Nm} {H : Hp} {xs : List V} {d : D} (r : Reps C η H xs [d]) : ∃ x, xs = [x] ∧ Rep C η H x d := by
  cases r with
  | cons h t => cases t; exact ⟨_, rfl, h⟩
theorem Reps.two {η : Nm} {H : Hp} {xs : List V} {d e : D} (r : Reps C η H xs [d, e]) : ∃ x y, xs = [x, y] ∧ Rep C η H x d ∧ Rep C η H y e := by
  cases r with
  | cons h t =>
    obtain ⟨y, rfl, h2⟩ := t.one
    exact ⟨_, y, rfl, h, h2⟩
/-- len -/
def gLen : List D → Sto → R D
  | [.str z], μ => if z.length ≤ SZ then .ok (.int z.length) μ else .bad
  | [d], μ => match seqOf μ d with | some ds => .ok (.int ds.length) μ | none => .bad
  | _, _ => .bad
theorem cc_len (hK : X.K = C.K := by rfl) : CC X C (.builtin "len") gLen := by
  refine ⟨_, call_len, fun W η H μ σ Q xs ds o rx p => ?_⟩
  unfold gLen at p
  split at p
  · split at p
    · rename_i hz
      obtain ⟨x, rfl, r⟩ := rx.one
      cases r
      exact ⟨_, _, rfl, ⟨by rw [← sz_eq]; exact hz, rfl⟩, p.now o _ (.int _)⟩
    · exact p.elim
  · split at p
    · rename_i ds' e1
      obtain ⟨x, rfl, r⟩ := rx.one
      obtain ⟨q, vs, rfl, hq, r2⟩ := seq_ok o r e1
      refine ⟨_, vs.length, rfl, ?_, ?_⟩
      · rw [← hK] at hq
        rcases hq with hq | hq
        · exact .inl ⟨vs, hq, rfl⟩
        · exact .inr ⟨vs, hq, rfl⟩
      · rw [r2.length]
        exact p.now o _ (.int _)
    · exact p.elim
  · exact p.elim
/-- one int in -/
def gInt1 (h : Int → Int) : List D → Sto → R D
  | [.int i], μ => .ok (.int (h i)) μ
  | _, _ => .bad
def gInt2 (h : Int → Int → Int) : List D → Sto → R D
  | [.int i, .int j], μ => .ok (.int (h i j)) μ
  | _, _ => .bad
abbrev gAbs := gInt1 fun i => if i < 0 then -i else i
abbrev gMax2 := gInt2 fun i j => if j > i then j else i
abbrev gMin2 := gInt2 fun i j => if j < i then j else i
abbrev gIntOf := gInt1 fun i => i
theorem cc_abs : CC X C (.builtin "abs") gAbs := by
  refine ⟨_, call_abs, fun W η H μ σ Q xs ds o rx p => ?_⟩
  unfold gAbs gInt1 at p
  split at p
  · obtain ⟨x, rfl, r⟩ := rx.one
    exact ⟨_, by rw [r.int_inv], p.now o _ (.int _)⟩
  · exact p.elim
theorem cc_max2 (hc : X.calm = true := by rfl) : CC X C (.builtin "max") gMax2 := by
  refine ⟨_, call_max2 hc, fun W η H μ σ Q xs ds o rx p => ?_⟩
  unfold gMax2 gInt2 at p
  split at p
  · obtain ⟨x, y, rfl, r, r2⟩ := rx.two
    exact ⟨_, _, by rw [r.int_inv, r2.int_inv], p.now o _ (.int _)⟩
  · exact p.elim
theorem cc_min2 (hc : X.calm = true := by rfl) : CC X C (.builtin "min") gMin2 := by
  refine ⟨_, call_min2 hc, fun W η H μ σ Q xs ds o rx p => ?_⟩
  unfold gMin2 gInt2 at p
  split at p
  · obtain ⟨x, y, rfl, r, r2⟩ := rx.two
    exact ⟨_, _, by rw [r.int_inv, r2.int_inv], p.now o _ (.int _)⟩
  · exact p.elim
theorem cc_int : CC X C (.type "int") gIntOf := by
  refine ⟨_, call_int1, fun W η H μ σ Q xs ds o rx p => ?_⟩
  unfold gIntOf gInt1 at p
  split at p
  · obtain ⟨x, rfl, r⟩ := rx.one
    exact .inl ⟨_, by rw [r.int_inv], p.now o _ (.int _)⟩
  · exact p.elim
/-- sum, max, min, any, all of a list -/
def gInts (h : List Int → Option D) : List D → Sto → R D
  | [d], μ => match listOf μ d with
    | some ds => match asInts ds with | some ns => (match h ns with | some z => .ok z μ | none => .bad) | none => .bad
    | none => .bad
  | _, _ => .bad
theorem gInts_inv {h : List Int → Option D} {η H μ σ} {Q : VK} {xs : List V} {ds : List D} (o : Ok C η H μ) (rx : Reps C η H xs ds) (p : Post C W η H σ (PV C Q) (gInts h ds μ)) :
    ∃ a ns z, xs = [.ref a] ∧ SqL C.K H a (ns.map V.int) ∧ h ns = some z ∧ ∀ v, Rep C η H v z → Q v H := by
  unfold gInts at p
  split at p
  · obtain ⟨x, rfl, r⟩ := rx.one
    split at p
    · rename_i ds' e1
      split at p
      · rename_i ns e2
        split at p
        · rename_i z e3
          obtain ⟨q, vs, rfl, hq, r2⟩ := list_ok o r e1
          cases asInts_inv e2
          rw [r2.ints] at hq
          exact ⟨q, ns, z, rfl, hq, e3, fun v rv => p.now o v rv⟩
        · exact p.elim
      · exact p.elim
    · exact p.elim
  · exact p.elim
abbrev gSum := gInts fun ns => some (.int ns.sum)
def maxL : List Int → Option D
  | [] => none
  | n :: ns => some (.int (ns.foldl max n))
def minL : List Int → Option D
  | [] => none
  | n :: ns => some (.int (ns.foldl min n))
theorem foldl_max (ns : List Int) : ∀ n, (ns.foldl max n ∈ n :: ns) ∧ ∀ y ∈ n :: ns, y ≤ ns.foldl max n := by
  induction ns with
  | nil => intro n; simp
  | cons m ns ih =>
    intro n
    obtain ⟨h1, h2⟩ := ih (max n m)
    rw [List.foldl_cons]
    refine ⟨?_, fun y hy => ?_⟩
    · rcases List.mem_cons.mp h1 with e | h
      · rw [e]
        rcases Int.le_total n m with h | h
        · rw [Int.max_eq_right h]; simp
        · rw [Int.max_eq_left h]; simp
      · simp [h]
    · have hm := h2 (max n m) (by simp)
      rcases List.mem_cons.mp hy with e | h
      · subst e; omega
      · rcases List.mem_cons.mp h with e | h
        · subst e; omega
        · exact h2 y (by simp [h])
theorem foldl_min (ns : List Int) : ∀ n, (ns.foldl min n ∈ n :: ns) ∧ ∀ y ∈ n :: ns, ns.foldl min n ≤ y := by
  induction ns with
  | nil => intro n; simp
  | cons m ns ih =>
    intro n
    obtain ⟨h1, h2⟩ := ih (min n m)
    rw [List.foldl_cons]
    refine ⟨?_, fun y hy => ?_⟩
    · rcases List.mem_cons.mp h1 with e | h
      · rw [e]
        rcases Int.le_total n m with h | h
        · rw [Int.min_eq_left h]; simp
        · rw [Int.min_eq_right h]; simp
      · simp [h]
    · have hm := h2 (min n m) (by simp)
      rcases List.mem_cons.mp hy with e | h
      · subst e; omega
      · rcases List.mem_cons.mp h with e | h
        · subst e; omega
        · exact h2 y (by simp [h])
abbrev gMaxL := gInts maxL
abbrev gMinL := gInts minL
theorem cc_sum (hc : X.calm = true := by rfl) (hK : X.K = C.K := by rfl) : CC X C (.builtin "sum") gSum := by
  refine ⟨_, cr_sum hc, fun W η H μ σ Q xs ds o rx p => ?_⟩
  obtain ⟨a, ns, z, rfl, hq, hz, q⟩ := gInts_inv o rx p
  cases hz
  exact ⟨a, ns, rfl, by rw [hK]; exact hq, q _ (.int _)⟩
theorem cc_maxL (hc : X.calm = true := by rfl) (hK : X.K = C.K := by rfl) : CC X C (.builtin "max") gMaxL := by
  refine ⟨_, cr_max hc, fun W η H μ σ Q xs ds o rx p => ?_⟩
  obtain ⟨a, ns, z, rfl, hq, hz, q⟩ := gInts_inv o rx p
  cases ns with
  | nil => cases hz
  | cons n ns =>
    cases hz
    refine ⟨a, n :: ns, rfl, by rw [hK]; exact hq, by simp, fun m hm hle => ?_⟩
    obtain ⟨h1, h2⟩ := foldl_max ns n
    have e : m = ns.foldl max n := Int.le_antisymm (h2 m hm) (hle _ h1)
    rw [e]
    exact q _ (.int _)
theorem cc_minL (hc : X.calm = true := by rfl) (hK : X.K = C.K := by rfl) : CC X C (.builtin "min") gMinL := by
  refine ⟨_, cr_min hc, fun W η H μ σ Q xs ds o rx p => ?_⟩
  obtain ⟨a, ns, z, rfl, hq, hz, q⟩ := gInts_inv o rx p
  cases ns with
  | nil => cases hz
  | cons n ns =>
    cases hz
    refine ⟨a, n :: ns, rfl, by rw [hK]; exact hq, by simp, fun m hm hle => ?_⟩
    obtain ⟨h1, h2⟩ := foldl_min ns n
    have e : m = ns.foldl min n := Int.le_antisymm (hle _ h1) (h2 m hm)
    rw [e]
    exact q _ (.int _)
def gBls (h : List Bool → Bool) : List D → Sto → R D
  | [d], μ => match listOf μ d with
    | some ds => match asBls ds with | some ns => .ok (.bl (h ns)) μ | none => .bad
    | none => .bad
  | _, _ => .bad
theorem gBls_inv {h : List Bool → Bool} {η H μ σ} {Q : VK} {xs : List V} {ds : List D} (o : Ok C η H μ) (rx : Reps C η H xs ds) (p : Post C W η H σ (PV C Q) (gBls h ds μ)) :
    ∃ a ns, xs = [.ref a] ∧ SqL C.K H a (ns.map V.bl) ∧ Q (.bl (h ns)) H := by
  unfold gBls at p
  split at p
  · obtain ⟨x, rfl, r⟩ := rx.one
    split at p
    · rename_i ds' e1
      split at p
      · rename_i ns e2
        obtain ⟨q, vs, rfl, hq, r2⟩ := list_ok o r e1
        cases asBls_inv e2
        rw [r2.bls] at hq
        exact ⟨q, ns, rfl, hq, p.now o _ (.bl _)⟩
      · exact p.elim
    · exact p.elim
  · exact p.elim
abbrev gAny := gBls fun bs => bs.any id
abbrev gAll := gBls fun bs => bs.all id
theorem cc_any (hc : X.calm = true := by rfl) (hK : X.K = C.K := by rfl) : CC X C (.builtin "any") gAny := by
  refine ⟨_, cr_any hc, fun W η H μ σ Q xs ds o rx p => ?_⟩
  obtain ⟨a, ns, rfl, hq, q⟩ := gBls_inv o rx p
  exact ⟨a, ns, rfl, by rw [hK]; exact hq, q⟩
theorem cc_all (hc : X.calm = true := by rfl) (hK : X.K = C.K := by rfl) : CC X C (.builtin "all") gAll := by
  refine ⟨_, cr_all hc, fun W η H μ σ Q xs ds o rx p => ?_⟩
  obtain ⟨a, ns, rfl, hq, q⟩ := gBls_inv o rx p
  exact ⟨a, ns, rfl, by rw [hK]; exact hq, q⟩
/-- tuple(x), list(x) -/
def gTupOf : List D → Sto → R D
  | [.tup ds], μ => .ok (.tup ds) μ
  | [d], μ => match listOf μ d with | some ds => .ok (.tup ds) μ | none => .bad
  | _, _ => .bad
theorem cc_tup (hK : X.K = C.K := by rfl) : CC X C (.type "tuple") gTupOf := by
  refine ⟨_, call_tuple_of, fun W η H μ σ Q xs ds o rx p => ?_⟩
  unfold gTupOf at p
  split at p
  · obtain ⟨x, rfl, r⟩ := rx.one
    cases r with
    | tup h1 h2 => exact ⟨_, _, rfl, .inr ⟨by rw [hK]; exact h1, p.now o _ (.tup h1 h2)⟩⟩
  · split at p
    · rename_i ds' e1
      obtain ⟨x, rfl, r⟩ := rx.one
      obtain ⟨q, vs, rfl, hq, r2⟩ := list_ok o r e1
      exact ⟨q, vs, rfl, .inl ⟨by rw [hK]; exact hq, fun l hl => Post.new p o hl _ (rep_new_tup hl r2)⟩⟩
    · exact p.elim
  · exact p.elim
def gListOf : List D → Sto → R (List D)
  | [d], μ => match seqOf μ d with | some ds => .ok ds μ | none => .bad
  | _, _ => .bad
theorem cc_list (hK : X.K = C.K := by rfl) : CCL X C (.type "list") gListOf := by
  refine ⟨_, call_list_of, fun W η H μ σ Q η0 H0 xs ds n0 o rx p => ?_⟩
  unfold gListOf at p
  split at p
  · split at p
    · rename_i ds' e1
      obtain ⟨x, rfl, r⟩ := rx.one
      obtain ⟨q, vs, rfl, hq, r2⟩ := seq_ok o r e1
      exact ⟨q, vs, rfl, by rw [hK]; exact hq, fun l hl => Post.newL p n0 o hl r2⟩
    · exact p.elim
  · exact p.elim
/-- sorted(xs), ints -/
def sortI (ns : List Int) : List Int := ns.mergeSort fun a b => decide (a ≤ b)
def gSortI : List D → Sto → R (List D)
  | [d], μ => match listOf μ d with
    | some ds => match asInts ds with | some ns => .ok ((sortI ns).map .int) μ | none => .bad
    | none => .bad
  | _, _ => .bad
theorem sorted_uniq : ∀ {l m : List Int}, l.Perm m → l.Pairwise (· ≤ ·) → m.Pairwise (· ≤ ·) → l = m := by
  intro l m hp h1 h2
  exact hp.eq_of_pairwise (fun a b _ _ h1 h2 => Int.le_antisymm h1 h2) h1 h2
theorem sortI_perm (ns : List Int) : (sortI ns).Perm ns := List.mergeSort_perm _ _
theorem sortI_pw (ns : List Int) : (sortI ns).Pairwise (· ≤ ·) := by
  have := List.pairwise_mergeSort (le := fun a b : Int => decide (a ≤ b)) (fun a b c h1 h2 => by simp at *; omega) (fun a b => by simp; omega) ns
  exact this.imp fun h => by simpa using h
theorem cc_sortI (hK : X.K = C.K := by rfl) : CCL X C (.builtin "sorted") gSortI := by
  refine ⟨_, cr_sortedI, fun W η H μ σ Q η0 H0 xs ds n0 o rx p => ?_⟩
  unfold gSortI at p
  split at p
  · split at p
    · rename_i ds' e1
      split at p
      · rename_i ns e2
        obtain ⟨x, rfl, r⟩ := rx.one
        obtain ⟨q, vs, rfl, hq, r2⟩ := list_ok o r e1
        cases asInts_inv e2
        rw [r2.ints] at hq
        refine ⟨q, ns, rfl, by rw [hK]; exact hq, fun ns' l hp hs hl => ?_⟩
        have e : ns' = sortI ns := sorted_uniq (hp.trans (sortI_perm ns).symm) hs (sortI_pw ns)
        rw [e]
        exact Post.newL p n0 o hl (Reps.of_ints _)
      · exact p.elim
    · exact p.elim
  · exact p.elim
end
end DL
namespace DL
open PySem PySem.Spec PyProof.Rows L2

/-! ### statements -/
inductive SR where
  | nx (ρ : En) (μ : Sto)
  | rt (d : D) (μ : Sto)
  | bk (ρ : En) (μ : Sto)
  | ct (ρ : En) (μ : Sto)
  | ex (c : Nat) (d : D) (ρ : En) (μ : Sto)
  | bad
abbrev FS := En → Sto → SR
def R.st {α : Type} (r : R α) (ρ : En) (k : α → Sto → SR) : SR := match r with
  | .ok a μ => k a μ
  | .ex c d μ => .ex c d ρ μ
  | .bad => .bad
@[simp] theorem R.st_ok {α : Type} (a : α) (μ : Sto) (ρ : En) (k : α → Sto → SR) : (R.ok a μ).st ρ k = k a μ := rfl
@[simp] theorem R.st_ex {α : Type} (c : Nat) (d : D) (μ : Sto) (ρ : En) (k : α → Sto → SR) : (R.ex c d μ : R α).st ρ k = .ex c d ρ μ := rfl
@[simp] theorem R.st_bad {α : Type} (ρ : En) (k : α → Sto → SR) : (R.bad : R α).st ρ k = .bad := rfl
def PostS (C : Cc) (W : WX) (η : Nm) (H : Hp) (E : Ends) : SR → Prop
  | .nx ρ μ => ∀ η' H' σ', Nxt C η H η' H' → Ok C η' H' μ → Slots C η' H' σ' ρ → E.nx σ' H'
  | .rt d μ => ∀ η' H' v, Nxt C η H η' H' → Ok C η' H' μ → Rep C η' H' v d → E.rt v H'
  | .bk ρ μ => ∀ η' H' σ', Nxt C η H η' H' → Ok C η' H' μ → Slots C η' H' σ' ρ → E.bk σ' H'
  | .ct ρ μ => ∀ η' H' σ', Nxt C η H η' H' → Ok C η' H' μ → Slots C η' H' σ' ρ → E.ct σ' H'
  | .ex c d ρ μ => ∀ η' H' σ' cls dd, Nxt C η H η' H' → Ok C η' H' μ → Slots C η' H' σ' ρ → ExRep C η' H' c d cls dd → W cls dd σ' H'
  | .bad => False
def tDS (C : Cc) (W : WX) (F : FS) : TS := fun E σ H => ∃ η ρ μ, Slots C η H σ ρ ∧ Ok C η H μ ∧ PostS C W η H E (F ρ μ)
structure DS (X : Cx) (C : Cc) (W : WX) (st : Stmt) (F : FS) : Prop where
  ps : PS X st (tDS C W F)
structure DSs (X : Cx) (C : Cc) (W : WX) (st : List Stmt) (F : FS) : Prop where
  ps : PSs X st (tDS C W F)
theorem PostS.mono {C : Cc} {W : WX} {η H η1 H1} {E : Ends} {r : SR} (h : PostS C W η H E r) (n : Nxt C η H η1 H1) : PostS C W η1 H1 E r := by
  cases r with
  | nx ρ μ => exact fun η' H' σ' n' o s => h η' H' σ' (n.trans n') o s
  | rt d μ => exact fun η' H' σ' n' o s => h η' H' σ' (n.trans n') o s
  | bk ρ μ => exact fun η' H' σ' n' o s => h η' H' σ' (n.trans n') o s
  | ct ρ μ => exact fun η' H' σ' n' o s => h η' H' σ' (n.trans n') o s
  | ex c d ρ μ => exact fun η' H' σ' cls dd n' o s x => h η' H' σ' cls dd (n.trans n') o s x
  | bad => exact h
/-- first an expression -/
theorem PostS.bindE {α : Type} {C : Cc} {W : WX} {η H σ ρ} {E : Ends} {P1 : α → Nm → Hp → Sto → Prop} {r : R α} {k : α → Sto → SR} (s : Slots C η H σ ρ) (h : PostS C W η H E (r.st ρ k))
    (i : ∀ a η1 H1 μ1, Nxt C η H η1 H1 → Ok C η1 H1 μ1 → Slots C η1 H1 σ ρ → PostS C W η1 H1 E (k a μ1) → P1 a η1 H1 μ1) : Post C W η H σ P1 r := by
  cases r with
  | ok a μ => exact fun η1 H1 n o => i a η1 H1 μ n o (s.mono n) (PostS.mono (show PostS C W η H E (k a μ) from h) n)
  | ex c d μ => exact fun η' H' cls dd n o x => h η' H' σ cls dd n o (s.mono n) x
  | bad => exact h
section
variable {X : Cx} {C : Cc} {W : WX} {e a b : Expr} {st : Stmt} {rest body ob : List Stmt} {pos : Pos} {f fa fb : FE D} {F G : FS} {t : FE Bool}
def sNext : FS := fun ρ μ => .nx ρ μ
def sSeq (F G : FS) : FS := fun ρ μ => match F ρ μ with | .nx ρ1 μ1 => G ρ1 μ1 | r => r
theorem ds_nil : DSs X C W [] sNext := by
  refine ⟨pss_imp pss_nil fun E σ H => ?_⟩
  rintro ⟨η, ρ, μ, s, o, p⟩
  exact p η H σ (Nxt.refl ..) o s
theorem ds_cons (h1 : DS X C W st F) (h2 : DSs X C W rest G) : DSs X C W (st :: rest) (sSeq F G) := by
  refine ⟨pss_imp (pss_cons h1.ps h2.ps) fun E σ H => ?_⟩
  rintro ⟨η, ρ, μ, s, o, p⟩
  refine ⟨η, ρ, μ, s, o, ?_⟩
  unfold sSeq at p
  cases hf : F ρ μ with
  | nx ρ1 μ1 =>
    rw [hf] at p
    exact fun η' H' σ' n' o' s' => ⟨η', ρ1, μ1, s', o', PostS.mono (show PostS C W η H E (G ρ1 μ1) from p) n'⟩
  | rt d μ1 => rw [hf] at p; exact p
  | bk ρ1 μ1 => rw [hf] at p; exact p
  | ct ρ1 μ1 => rw [hf] at p; exact p
  | ex c d ρ1 μ1 => rw [hf] at p; exact p
  | bad => rw [hf] at p; exact p
theorem ds_one (h1 : DS X C W st F) : DSs X C W [st] F := ⟨pss_one h1.ps⟩
theorem ds_pass : DS X C W (.Pass pos) sNext := by
  refine ⟨ps_imp ps_pass fun E σ H => ?_⟩
  rintro ⟨η, ρ, μ, s, o, p⟩
  exact p η H σ (Nxt.refl ..) o s
def sBreak : FS := fun ρ μ => .bk ρ μ
def sCont : FS := fun ρ μ => .ct ρ μ
theorem ds_break : DS X C W (.Break pos) sBreak := by
  refine ⟨ps_imp ps_break fun E σ H => ?_⟩
  rintro ⟨η, ρ, μ, s, o, p⟩
  exact p η H σ (Nxt.refl ..) o s
theorem ds_cont : DS X C W (.Continue pos) sCont := by
  refine ⟨ps_imp ps_continue fun E σ H => ?_⟩
  rintro ⟨η, ρ, μ, s, o, p⟩
  exact p η H σ (Nxt.refl ..) o s
def sExpr (fe : FE D) : FS := fun ρ μ => (fe ρ μ).st ρ fun _ μ1 => .nx ρ μ1
theorem ds_expr (he : DE X C W e f) (hs : swapsWith e none pos.line X.env = pure false := by rfl) : DS X C W (.Expr e pos) (sExpr f) := by
  refine ⟨ps_imp (ps_expr he.pe hs) fun E σ H => ?_⟩
  rintro ⟨η, ρ, μ, s, o, p⟩
  exact ⟨η, ρ, μ, s, o, PostS.bindE s p fun d η1 H1 μ1 n1 o1 s1 p1 v rv => p1 η1 H1 σ (Nxt.refl ..) o1 s1⟩
def sRet (fe : FE D) : FS := fun ρ μ => (fe ρ μ).st ρ fun d μ1 => .rt d μ1
theorem ds_ret (he : DE X C W e f) : DS X C W (.Return (some e) pos) (sRet f) := by
  refine ⟨ps_imp (ps_ret he.pe) fun E σ H => ?_⟩
  rintro ⟨η, ρ, μ, s, o, p⟩
  exact ⟨η, ρ, μ, s, o, PostS.bindE s p fun d η1 H1 μ1 n1 o1 s1 p1 v rv => p1 η1 H1 v (Nxt.refl ..) o1 rv⟩
def sRetN : FS := fun _ μ => .rt .non μ
theorem ds_retN : DS X C W (.Return none pos) sRetN := by
  refine ⟨ps_imp ps_retN fun E σ H => ?_⟩
  rintro ⟨η, ρ, μ, s, o, p⟩
  exact p η H _ (Nxt.refl ..) o .non
def sIf (t : FE Bool) (F G : FS) : FS := fun ρ μ => (t ρ μ).st ρ fun k μ1 => if k = true then F ρ μ1 else G ρ μ1
theorem ds_if (hc : DT X C W e t) (h1 : DSs X C W body F) (h2 : DSs X C W ob G) : DS X C W (.If e body ob pos) (sIf t F G) := by
  refine ⟨ps_imp (ps_if hc.pt h1.ps h2.ps) fun E σ H => ?_⟩
  rintro ⟨η, ρ, μ, s, o, p⟩
  refine ⟨η, ρ, μ, s, o, PostS.bindE s p fun k η1 H1 μ1 n1 o1 s1 p1 => ?_⟩
  cases k with
  | true => exact iteT ⟨η1, ρ, μ1, s1, o1, p1⟩
  | false => exact iteF ⟨η1, ρ, μ1, s1, o1, p1⟩

/-! ### targets -/
abbrev FG := D → En → Option En
def tDG (C : Cc) (l : List Nat) (g : FG) : TG := fun v σ H Q => ∃ η d ρ ρ', Slots C η H σ ρ ∧ Rep C η H v d ∧ g d ρ = some ρ' ∧ ∀ σ', Slots C η H σ' ρ' → wipe σ' l = wipe σ l → Q σ' H
def tDGs (C : Cc) (l : List Nat) (g : List D → En → Option En) : TGs := fun vs σ H Q => ∃ η ds ρ ρ', Slots C η H σ ρ ∧ Reps C η H vs ds ∧ g ds ρ = some ρ' ∧ ∀ σ', Slots C η H σ' ρ' → wipe σ' l = wipe σ l → Q σ' H
structure DG (X : Cx) (C : Cc) (e : Expr) (l : List Nat) (g : FG) : Prop where
  pg : PG X e (tDG C l g)
structure DGs (X : Cx) (C : Cc) (e : List Expr) (l : List Nat) (g : List D → En → Option En) : Prop where
  pg : PGs X e (tDGs C l g)
theorem pg_imp {e : Expr} {t t' : TG} (h : PG X e t) (i : ∀ v σ H Q, t' v σ H Q → t v σ H Q) : PG X e t' := ⟨fun pins s σ H v u Q I r q => h.run pins s σ H v u Q I r (i v σ H Q q)⟩
theorem pgs_imp {e : List Expr} {t t' : TGs} (h : PGs X e t) (i : ∀ v σ H Q, t' v σ H Q → t v σ H Q) : PGs X e t' := ⟨fun pins s σ H v u Q I r q => h.run pins s σ H v u Q I r (i v σ H Q q)⟩
def tgN (i : Nat) : FG := fun d ρ => some (ρ.set i (some d))
theorem dg_name (i : Nat) {x : Str} (hN : X.N.Nodup) (hi : X.N[i]? = some x := by rfl) (hx : Loc X.env.scope x := by first | exact Or.inl rfl | exact Or.inr rfl) (hf : X.fn x = true ∨ X.env.scope.names.lookup x = some .local := by first | exact .inl rfl | exact .inr rfl) : DG X C (.Name x pos) [i] (tgN i) := by
  refine ⟨pg_imp (pg_name hN hi hx hf) fun v σ H Q => ?_⟩
  rintro ⟨η, d, ρ, ρ', s, r, h, q⟩
  cases h
  refine q _ (s.set i r) ?_
  show (σ.set i (some v)).set i none = σ.set i none
  rw [List.set_set]
def tgsNil : List D → En → Option En := fun ds ρ => match ds with | [] => some ρ | _ => none
def tgsCons (g : FG) (gs : List D → En → Option En) : List D → En → Option En := fun ds ρ => match ds with | d :: r => (g d ρ).bind fun ρ1 => gs r ρ1 | [] => none
theorem dgs_nil : DGs X C [] [] tgsNil := by
  refine ⟨pgs_imp pgs_nil fun v σ H Q => ?_⟩
  rintro ⟨η, ds, ρ, ρ', s, r, h, q⟩
  unfold tgsNil at h
  split at h
  · cases h
    cases r
    exact ⟨rfl, q σ s rfl⟩
  · cases h
theorem set_swap (σ : L2.St) (i j : Nat) : (σ.set i none).set j none = (σ.set j none).set i none := by
  by_cases h : i = j
  · subst h; rfl
  · rw [List.set_comm _ _ h]
theorem wipe_set (σ : L2.St) (i : Nat) : ∀ l, wipe (σ.set i none) l = (wipe σ l).set i none
  | [] => rfl
  | v :: vs => by
    show (wipe (σ.set i none) vs).set v none = ((wipe σ vs).set v none).set i none
    rw [wipe_set σ i vs, set_swap]
theorem wipe_app (σ : L2.St) (l2 : List Nat) : ∀ l1, wipe σ (l1 ++ l2) = wipe (wipe σ l2) l1
  | [] => rfl
  | v :: vs => by
    show (wipe σ (vs ++ l2)).set v none = (wipe (wipe σ l2) vs).set v none
    rw [wipe_app σ l2 vs]
theorem wipe_swap (σ : L2.St) (l2 : List Nat) : ∀ l1, wipe (wipe σ l2) l1 = wipe (wipe σ l1) l2
  | [] => rfl
  | v :: vs => by
    show (wipe (wipe σ l2) vs).set v none = wipe ((wipe σ vs).set v none) l2
    rw [wipe_set, wipe_swap σ l2 vs]
theorem dgs_cons {es : List Expr} {l1 l2 : List Nat} {g : FG} {gs : List D → En → Option En} (h1 : DG X C e l1 g) (h2 : DGs X C es l2 gs) (hs : (assignEach (e :: es) X.env).map (·.2) = assign e X.env :: (assignEach es X.env).map (·.2) := by rfl) : DGs X C (e :: es) (l1 ++ l2) (tgsCons g gs) := by
  refine ⟨pgs_imp (pgs_cons h1.pg h2.pg hs) fun v σ H Q => ?_⟩
  rintro ⟨η, ds, ρ, ρ', s, r, h, q⟩
  unfold tgsCons at h
  split at h
  · rename_i d dr
    cases r with
    | cons r1 r2 =>
      cases e1 : g d ρ with
      | none => rw [e1] at h; cases h
      | some ρ1 =>
        rw [e1] at h
        refine ⟨_, _, rfl, η, d, ρ, ρ1, s, r1, e1, fun σ1 s1 w1 => ⟨η, dr, ρ1, ρ', s1, r2, h, fun σ2 s2 w2 => q σ2 s2 ?_⟩⟩
        rw [wipe_app, w2, wipe_swap, w1, wipe_swap, ← wipe_app]
  · cases h
/-- (a, b, ..) = a tuple -/
def tgT (gs : List D → En → Option En) : FG := fun d ρ => match d with | .tup ds => gs ds ρ | _ => none
theorem dg_tup {es : List Expr} {k : Nat} {l : List Nat} {gs : List D → En → Option En} (h : DGs X C es l gs) (hlen : ∀ ds ρ ρ', gs ds ρ = some ρ' → ds.length = es.length) (hc : X.calm = true := by rfl) (hK : X.K = C.K := by rfl)
    (hn : (assignEach es X.env).length = es.length := by rfl) (hst : (assignEach es X.env).findIdx? (·.1) = none := by rfl) : DG X C (.Tuple es k pos) l (tgT gs) := by
  refine ⟨pg_imp (pg_tup hc h.pg hn hst) fun v σ H Q => ?_⟩
  rintro ⟨η, d, ρ, ρ', s, r, h, q⟩
  unfold tgT at h
  split at h
  · cases r with
    | tup h1 h2 =>
      rename_i ds _ vs
      exact ⟨_, vs, rfl, by rw [hK]; exact h1, by rw [h2.length]; exact hlen _ _ _ h, η, ds, ρ, ρ', s, h2, h, q⟩
  · cases h
theorem tgs_len_nil : ∀ ds ρ ρ', tgsNil ds ρ = some ρ' → ds.length = ([] : List Expr).length := by
  intro ds ρ ρ' h
  unfold tgsNil at h
  split at h
  · rfl
  · cases h
theorem tgs_len_cons {g : FG} {gs : List D → En → Option En} {es : List Expr} (h : ∀ ds ρ ρ', gs ds ρ = some ρ' → ds.length = es.length) : ∀ ds ρ ρ', tgsCons g gs ds ρ = some ρ' → ds.length = (e :: es).length := by
  intro ds ρ ρ' h2
  unfold tgsCons at h2
  split at h2
  · cases e1 : g _ ρ with
    | none => rw [e1] at h2; cases h2
    | some ρ1 =>
      rw [e1] at h2
      rw [List.length_cons, List.length_cons, h _ _ _ h2]
  · cases h2

/-! ### name = e; (a, b) = e -/
def sAsg (fe : FE D) (g : FG) : FS := fun ρ μ => (fe ρ μ).st ρ fun d μ1 => match g d ρ with | some ρ' => .nx ρ' μ1 | none => .bad
theorem ds_asg {tg : Expr} {l : List Nat} {g : FG} (he : DE X C W e f) (hg : DG X C tg l g) (hs : swapsWithSole [tg] e pos.line X.env = pure false := by rfl) (hw : swappedStores [tg] e X.env = pure none := by rfl)
    (h1 : (assignEach [tg] X.env).map (·.2) = [assign tg X.env] := by rfl) : DS X C W (.Assign [tg] e pos) (sAsg f g) := by
  refine ⟨ps_imp (ps_asg he.pe hg.pg hs hw h1) fun E σ H => ?_⟩
  rintro ⟨η, ρ, μ, s, o, p⟩
  refine ⟨η, ρ, μ, s, o, PostS.bindE s p fun d η1 H1 μ1 n1 o1 s1 p1 v rv => ?_⟩
  cases e1 : g d ρ with
  | none => rw [e1] at p1; exact p1.elim
  | some ρ' =>
    rw [e1] at p1
    exact ⟨η1, d, ρ, ρ', s1, rv, e1, fun σ' s' _ => p1 η1 H1 σ' (Nxt.refl ..) o1 s'⟩
def sSet (i : Nat) (fe : FE D) : FS := fun ρ μ => (fe ρ μ).st ρ fun d μ1 => .nx (ρ.set i (some d)) μ1
theorem ds_set (i : Nat) {x : Str} {pos' : Pos} (hN : X.N.Nodup) (he : DE X C W e f) (hi : X.N[i]? = some x := by rfl) (hx : Loc X.env.scope x := by first | exact Or.inl rfl | exact Or.inr rfl) (hs : swapsWith e (some (.Name x pos')) pos.line X.env = pure false := by rfl)
    (hf : X.fn x = true ∨ X.env.scope.names.lookup x = some .local := by first | exact .inl rfl | exact .inr rfl) : DS X C W (.Assign [.Name x pos'] e pos) (sSet i f) := by
  refine ⟨ps_imp (ps_set hN hi hx he.pe hs hf) fun E σ H => ?_⟩
  rintro ⟨η, ρ, μ, s, o, p⟩
  exact ⟨η, ρ, μ, s, o, PostS.bindE s p fun d η1 H1 μ1 n1 o1 s1 p1 v rv => p1 η1 H1 _ (Nxt.refl ..) o1 (s1.set i rv)⟩
/-- a, b = x, y -/
def sPar (i j : Nat) (fs : FE (List D)) : FS := fun ρ μ => (fs ρ μ).st ρ fun ds μ1 => match ds with | [d, e] => .nx ((ρ.set i (some d)).set j (some e)) μ1 | _ => .bad
theorem ds_par (i j : Nat) {x y : Str} {px py pt : Pos} {kt k2 pt2} {fs : FE (List D)} (hN : X.N.Nodup) (ha : DA X C W [a, b] fs) (hij : i ≠ j := by decide) (hi : X.N[i]? = some x := by rfl) (hj : X.N[j]? = some y := by rfl)
    (hx : X.env.scope.names.lookup x = some .local := by rfl) (hy : X.env.scope.names.lookup y = some .local := by rfl) (hc : X.calm = true := by rfl)
    (hw : swappedStores [.Tuple [.Name x px, .Name y py] kt pt] (.Tuple [a, b] k2 pt2) X.env = pure (some [x, y]) := by rfl)
    (hs : swapsWithSole [.Tuple [.Name x px, .Name y py] kt pt] (.Tuple [a, b] k2 pt2) pos.line X.env = pure false := by rfl) :
    DS X C W (.Assign [.Tuple [.Name x px, .Name y py] kt pt] (.Tuple [a, b] k2 pt2) pos) (sPar i j fs) := by
  refine ⟨ps_imp (ps_par hc hN hi hj hij hx hy ha.pa hw hs) fun E σ H => ?_⟩
  rintro ⟨η, ρ, μ, s, o, p⟩
  refine ⟨η, ρ, μ, s, o, PostS.bindE s p fun ds η1 H1 μ1 n1 o1 s1 p1 vs rv => ?_⟩
  split at p1
  · obtain ⟨v, w, rfl, r1, r2⟩ := rv.two
    exact ⟨v, w, rfl, p1 η1 H1 _ (Nxt.refl ..) o1 ((s1.set i r1).set j r2)⟩
  · exact p1.elim
/-- a, b, c = x, y, z -/
def sPar3 (i j l : Nat) (fs : FE (List D)) : FS := fun ρ μ => (fs ρ μ).st ρ fun ds μ1 => match ds with | [d, e, f] => .nx (((ρ.set i (some d)).set j (some e)).set l (some f)) μ1 | _ => .bad
theorem ds_par3 (i j l : Nat) {x y z : Str} {c : Expr} {px py pz pt : Pos} {kt k2 pt2} {fs : FE (List D)} (hN : X.N.Nodup) (ha : DA X C W [a, b, c] fs) (hij : i ≠ j := by decide) (hil : i ≠ l := by decide) (hjl : j ≠ l := by decide) (hi : X.N[i]? = some x := by rfl) (hj : X.N[j]? = some y := by rfl) (hl : X.N[l]? = some z := by rfl)
    (hx : X.env.scope.names.lookup x = some .local := by rfl) (hy : X.env.scope.names.lookup y = some .local := by rfl) (hz : X.env.scope.names.lookup z = some .local := by rfl) (hc : X.calm = true := by rfl)
    (hw : swappedStores [.Tuple [.Name x px, .Name y py, .Name z pz] kt pt] (.Tuple [a, b, c] k2 pt2) X.env = pure (some [x, y, z]) := by rfl)
    (hs : swapsWithSole [.Tuple [.Name x px, .Name y py, .Name z pz] kt pt] (.Tuple [a, b, c] k2 pt2) pos.line X.env = pure false := by rfl) :
    DS X C W (.Assign [.Tuple [.Name x px, .Name y py, .Name z pz] kt pt] (.Tuple [a, b, c] k2 pt2) pos) (sPar3 i j l fs) := by
  refine ⟨ps_imp (ps_par3 hc hN hi hj hl hij hil hjl hx hy hz ha.pa hw hs) fun E σ H => ?_⟩
  rintro ⟨η, ρ, μ, s, o, p⟩
  refine ⟨η, ρ, μ, s, o, PostS.bindE s p fun ds η1 H1 μ1 n1 o1 s1 p1 vs rv => ?_⟩
  split at p1
  · cases rv with
    | cons r1 rv =>
      obtain ⟨v, w, rfl, r2, r3⟩ := rv.two
      exact ⟨_, v, w, rfl, p1 η1 H1 _ (Nxt.refl ..) o1 (((s1.set i r1).set j r2).set l r3)⟩
  · exact p1.elim
/-- name op= e, ints -/
def sAug (i : Nat) (g : Int → Int → Option Int) (fe : FE D) : FS := fun ρ μ => match ρ[i]? with
  | some (some (.int x)) => (fe ρ μ).st ρ fun d μ1 => match d with | .int y => (match g x y with | some z => .nx (ρ.set i (some (.int z))) μ1 | none => .bad) | _ => .bad
  | _ => .bad
theorem ds_aug (i : Nat) {x : Str} {op : Operator} {ti : TIp} {pos' : Pos} {g : Int → Int → Option Int} (ho : PIp X op ti) (hg : ∀ a b c H Q, g a b = some c → Q (.int c) H → ti (.int a) (.int b) H Q) (hN : X.N.Nodup) (he : DE X C W e f) (hi : X.N[i]? = some x := by rfl) (hx : Loc X.env.scope x := by first | exact Or.inl rfl | exact Or.inr rfl)
    (hf : X.fn x = true ∨ X.env.scope.names.lookup x = some .local := by first | exact .inl rfl | exact .inr rfl) : DS X C W (.AugAssign (.Name x pos') op e pos) (sAug i g f) := by
  refine ⟨ps_imp (ps_aug hN hi hx he.pe ho hf) fun E σ H => ?_⟩
  rintro ⟨η, ρ, μ, s, o, p⟩
  unfold sAug at p
  split at p
  · rename_i x' hx'
    obtain ⟨v, hv, rv⟩ := s.at_ i _ hx'
    cases rv
    refine ⟨_, hv, η, ρ, μ, s, o, PostS.bindE s p fun d η1 H1 μ1 n1 o1 s1 p1 w rw' => ?_⟩
    split at p1
    · cases rw'
      split at p1
      · rename_i z hz
        exact hg _ _ _ _ _ hz (p1 η1 H1 _ (Nxt.refl ..) o1 (s1.set i (.int _)))
      · exact p1.elim
    · exact p1.elim
  · exact p.elim
def gAugAdd : Int → Int → Option Int := fun a b => some (a + b)
def gAugSub : Int → Int → Option Int := fun a b => some (a - b)
theorem ds_augAdd (i : Nat) {x : Str} {pos' : Pos} (hN : X.N.Nodup) (he : DE X C W e f) (hi : X.N[i]? = some x := by rfl) (hx : Loc X.env.scope x := by first | exact Or.inl rfl | exact Or.inr rfl)
    (hf : X.fn x = true ∨ X.env.scope.names.lookup x = some .local := by first | exact .inl rfl | exact .inr rfl) : DS X C W (.AugAssign (.Name x pos') .Add e pos) (sAug i gAugAdd f) :=
  ds_aug i ip_add (fun a b c H Q h q => by cases h; exact ⟨a, b, rfl, rfl, q⟩) hN he hi hx hf
theorem ds_augSub (i : Nat) {x : Str} {pos' : Pos} (hN : X.N.Nodup) (he : DE X C W e f) (hi : X.N[i]? = some x := by rfl) (hx : Loc X.env.scope x := by first | exact Or.inl rfl | exact Or.inr rfl)
    (hf : X.fn x = true ∨ X.env.scope.names.lookup x = some .local := by first | exact .inl rfl | exact .inr rfl) : DS X C W (.AugAssign (.Name x pos') .Sub e pos) (sAug i gAugSub f) :=
  ds_aug i ip_sub (fun a b c H Q h q => by cases h; exact ⟨a, b, rfl, rfl, q⟩) hN he hi hx hf
end
end DL
namespace DL
open PySem PySem.Spec PyProof.Rows L2
open Classical in
/-- what is walked stands as it was when the walk began -/
def chk (gd : List (Nat × DO)) (μ : Sto) : Prop := ∀ p ∈ gd, μ[p.1]? = some p.2
@[simp] theorem chk_nil (μ : Sto) : chk [] μ ↔ True := by simp [chk]
@[simp] theorem chk_cons (p : Nat × DO) (gd : List (Nat × DO)) (μ : Sto) : chk (p :: gd) μ ↔ μ[p.1]? = some p.2 ∧ chk gd μ := by simp [chk]
noncomputable instance (gd : List (Nat × DO)) (μ : Sto) : Decidable (chk gd μ) := Classical.propDecidable _
abbrev ItD := List D × List (Nat × DO)
/-- how an iterator walks data -/
def WalkD (C : Cc) (J : It) (items : List D) (gd : List (Nat × DO)) (η1 : Nm) (H1 : Hp) : Prop :=
  ∀ η1' : Nm, (∀ vs ds, Reps C η1 H1 vs ds → Reps C η1' H1 vs ds) → η1'.o = η1.o → ∀ η H μ, NxtW C η1' H1 η H → Ok C η H μ → chk gd μ →
    (∀ i, i < items.length → J.go i H ∧ ∀ x H', J.yld i H x H' → ∃ d, items[i]? = some d ∧ L2.Same H H' ∧ Rep C η H' x d) ∧ J.stop items.length H
def tDI (C : Cc) (W : WX) (fi : FE ItD) : TI := fun σ H R => ∃ η ρ μ, Slots C η H σ ρ ∧ Ok C η H μ ∧ Post C W η H σ (fun it η' H' _ => ∀ J, WalkD C J it.1 it.2 η' H' → R J H') (fi ρ μ)
structure DI (X : Cx) (C : Cc) (W : WX) (tg iter : Expr) (fi : FE ItD) : Prop where
  pi : PI X tg iter (tDI C W fi)
theorem pi_imp {X : Cx} {tg e : Expr} {t t' : TI} (h : PI X tg e t) (i : ∀ σ H Q, t' σ H Q → t σ H Q) : PI X tg e t' := ⟨fun pins s σ H Q I q => h.run pins s σ H Q I (i σ H Q q)⟩
theorem pi_or {X : Cx} {tg e : Expr} {t t' : TI} (h : PI X tg e t) (h' : PI X tg e t') : PI X tg e (fun σ H Q => t σ H Q ∨ t' σ H Q) := ⟨fun pins s σ H Q I q => by
  rcases q with q | q
  · exact h.run pins s σ H Q I q
  · exact h'.run pins s σ H Q I q⟩
section
variable {X : Cx} {C : Cc} {W : WX} {tg e a b : Expr} {st : Stmt} {body : List Stmt} {pos : Pos} {f fa fb : FE D} {F G : FS} {t : FE Bool} {g : FG} {l : List Nat} {fi : FE ItD} {fs : FE (List D)}
/-! ### lists, tuples -/
def seqIt (μ : Sto) : D → Option ItD
  | .tup ds => some (ds, [])
  | .lst ds => some (ds, [])
  | .frz ds => some (ds, [])
  | .obj n => (lstAt μ n).map fun ds => (ds, [(n, .lst ds)])
  | _ => none
def iSeq (fa : FE D) : FE ItD := fun ρ μ => (fa ρ μ).bind fun x μ1 => match seqIt μ1 x with | some it => .ok it μ1 | none => .bad
theorem walkD_list {η1 : Nm} {H1 : Hp} {p : Addr} {vs : List V} {ds : List D} (h : ∀ η1' η H, η1'.o = η1.o → (∀ vs ds, Reps C η1 H1 vs ds → Reps C η1' H1 vs ds) → NxtW C η1' H1 η H → SqL C.K H p vs ∧ Reps C η H vs ds) : WalkD C (Itl C.K p) ds [] η1 H1 := by
  intro η1' hr ho η H μ n o _
  obtain ⟨hq, r⟩ := h η1' η H ho hr n
  refine ⟨fun i hi => ⟨⟨vs, vs[i]'(by rw [r.length]; exact hi), hq, by rw [List.getElem?_eq_getElem]⟩, ?_⟩, ⟨vs, hq, by rw [r.length]; exact Nat.le_refl _⟩⟩
  rintro x H' ⟨rfl, hx⟩
  obtain ⟨d, h1, h2⟩ := r.get' (hx vs hq)
  exact ⟨d, h1, Same.refl _, h2⟩
theorem walkD_obj {η1 : Nm} {H1 : Hp} {p : Addr} {k : Nat} {ds : List D} (hk : η1.o[k]? = some p) : WalkD C (Itl C.K p) ds [(k, .lst ds)] η1 H1 := by
  intro η1' hr ho η H μ n o hc
  rw [← ho] at hk
  have h1 := n.get hk
  obtain ⟨vs, hq, r⟩ := o.lst h1 (by simpa using hc)
  refine ⟨fun i hi => ⟨⟨vs, vs[i]'(by rw [r.length]; exact hi), .of hq, by rw [List.getElem?_eq_getElem]⟩, ?_⟩, ⟨vs, .of hq, by rw [r.length]; exact Nat.le_refl _⟩⟩
  rintro x H' ⟨rfl, hx⟩
  obtain ⟨d, h1, h2⟩ := r.get' (hx vs (.of hq))
  exact ⟨d, h1, Same.refl _, h2⟩
theorem walkD_tup {η1 : Nm} {H1 : Hp} {p : Addr} {vs : List V} {ds : List D} (hq : SqT C.K H1 p vs) (r : Reps C η1 H1 vs ds) : WalkD C (Itt C.K p) ds [] η1 H1 := by
  intro η1' hr ho η H μ n o _
  have hq := n.sqT hq
  have r := (hr _ _ r).monoW n
  refine ⟨fun i hi => ⟨⟨vs, vs[i]'(by rw [r.length]; exact hi), hq, by rw [List.getElem?_eq_getElem]⟩, ?_⟩, ⟨vs, hq, by rw [r.length]; exact Nat.le_refl _⟩⟩
  rintro x H' ⟨rfl, hx⟩
  obtain ⟨d, h1, h2⟩ := r.get' (hx vs hq)
  exact ⟨d, h1, Same.refl _, h2⟩
theorem list_walk {η : Nm} {H : Hp} {μ : Sto} (o : Ok C η H μ) {v : V} {d : D} {it : ItD} (r : Rep C η H v d) (h : seqIt μ d = some it) (nt : ∀ ds, d ≠ .tup ds) :
    ∃ p vs, v = .ref p ∧ SqL C.K H p vs ∧ WalkD C (Itl C.K p) it.1 it.2 η H := by
  cases r with
  | tup h1 h2 => exact absurd rfl (nt _)
  | @lst p vs ds h1 m mx h2 =>
    cases h
    refine ⟨p, vs, rfl, .of h1, walkD_list (vs := vs) fun η1' η' H' ho hr n => ?_⟩
    have r1 : Reps C η H [.ref p] [.lst ds] := .cons (.lst h1 m mx h2) .nil
    cases hr _ _ r1 with
    | cons q _ =>
      cases q with
      | lst g1 m1 mx1 g2 =>
        have n2 := n.lst g1 m1 mx1
        rw [h1] at g1
        cases g1
        exact ⟨.of n2.1, g2.monoW n⟩
  | frz h1 h2 =>
    cases h
    exact ⟨_, _, rfl, h1.sq, walkD_list fun η1' η' H' ho hr n => ⟨(n.frL h1).sq, (hr _ _ h2).monoW n⟩⟩
  | @obj p k h1 =>
    have h' : (lstAt μ k).map (fun ds => (ds, [(k, DO.lst ds)])) = some it := h
    cases e : lstAt μ k with
    | none => rw [e] at h'; cases h'
    | some ds =>
      rw [e] at h'
      cases h'
      obtain ⟨vs, g1, g2⟩ := o.lst h1 (lstAt_iff.mp e)
      exact ⟨p, vs, rfl, .of g1, walkD_obj h1⟩
  | _ => cases h
theorem di_seq (ha : DE X C W a fa) (hK : X.K = C.K := by rfl) : DI X C W tg a (iSeq fa) := by
  refine ⟨pi_imp (pi_or (pi_list ha.pe) (pi_tup ha.pe)) fun σ H Q => ?_⟩
  rintro ⟨η, ρ, μ, s, o, p⟩
  unfold iSeq at p
  cases hf : fa ρ μ with
  | bad => rw [hf] at p; exact p.elim
  | ex c d μ1 => rw [hf] at p; exact .inl ⟨η, ρ, μ, s, o, by rw [hf]; exact p⟩
  | ok d μ1 =>
    rw [hf] at p
    have p' : Post C W η H σ _ (match seqIt μ1 d with | some it => R.ok it μ1 | none => .bad) := p
    cases hs : seqIt μ1 d with
    | none => rw [hs] at p'; exact p'.elim
    | some it =>
      rw [hs] at p'
      by_cases ht : ∃ ds, d = .tup ds
      · refine .inr ⟨η, ρ, μ, s, o, ?_⟩
        rw [hf]
        intro η1 H1 n1 o1 v rv
        obtain ⟨ds, rfl⟩ := ht
        cases rv with
        | tup g1 g2 => cases hs; exact ⟨_, rfl, ⟨_, by rw [hK]; exact g1⟩, p' η1 H1 n1 o1 _ (by rw [hK]; exact walkD_tup g1 g2)⟩
      · refine .inl ⟨η, ρ, μ, s, o, ?_⟩
        rw [hf]
        intro η1 H1 n1 o1 v rv
        obtain ⟨q, vs, rfl, h1, h2⟩ := list_walk o1 rv hs fun ds z => ht ⟨ds, z⟩
        exact ⟨q, rfl, ⟨vs, by rw [hK]; exact h1⟩, p' η1 H1 n1 o1 _ (by rw [hK]; exact h2)⟩
/-! ### range -/
def rangeD (lo : Int) (n : Nat) : List D := (List.range n).map fun i : Nat => D.int (lo + (i : Int))
theorem rangeD_length (lo : Int) (n : Nat) : (rangeD lo n).length = n := by simp [rangeD]
theorem walkD_range {η1 : Nm} {H1 : Hp} {lo : Int} {n : Nat} : WalkD C (Itr lo n) (rangeD lo n) [] η1 H1 := by
  intro η1' hr ho η H μ nx o _
  rw [rangeD_length]
  refine ⟨fun i hi => ⟨hi, ?_⟩, Nat.le_refl _⟩
  rintro x H' ⟨rfl, rfl⟩
  refine ⟨.int (lo + i), ?_, Same.refl _, .int _⟩
  unfold rangeD
  rw [List.getElem?_map, List.getElem?_range hi]
  rfl
noncomputable def small (i : Int) : Bool := bP (-4611686018427387904 ≤ i ∧ i < 4611686018427387904)
theorem small_iff {i : Int} : small i = true ↔ -(2 ^ 62) ≤ i ∧ i < 2 ^ 62 := by
  unfold small
  rw [bP_iff]
  constructor <;> intro h <;> omega
noncomputable def gRange1 : List D → Sto → R ItD
  | [.int j], μ => if small j = true then .ok (rangeD 0 j.toNat, []) μ else .bad
  | _, _ => .bad
noncomputable def gRange2 : List D → Sto → R ItD
  | [.int i, .int j], μ => if small i = true ∧ small j = true then .ok (rangeD i (j - i).toNat, []) μ else .bad
  | _, _ => .bad
theorem di_range1 {p : Pos} (hm : X.mg "range" = none) (ha : DA X C W [a] fs) (hg : Gl X "range" := by rfl) (hs : starEach [a] X.env = [(false, eval a X.env)] := by rfl) : DI X C W tg (.Call (.Name "range" p) [a] [] pos) (eCall gRange1 fs) := by
  refine ⟨pi_imp (pi_range1 hg hm ha.pa hs) fun σ H Q => ?_⟩
  rintro ⟨η, ρ, μ, s, o, p⟩
  refine ⟨η, ρ, μ, s, o, Post.bind p fun ds η1 H1 μ1 n1 o1 p1 vs rv => ?_⟩
  unfold gRange1 at p1
  split at p1
  · split at p1
    · rename_i hz
      obtain ⟨x, rfl, r⟩ := rv.one
      cases r
      obtain ⟨h1, h2⟩ := small_iff.mp hz
      exact ⟨_, rfl, h1, h2, p1.now o1 _ walkD_range⟩
    · exact p1.elim
  · exact p1.elim
theorem di_range2 {p : Pos} (hm : X.mg "range" = none) (ha : DA X C W [a, b] fs) (hg : Gl X "range" := by rfl) (hs : starEach [a, b] X.env = [(false, eval a X.env), (false, eval b X.env)] := by rfl) (hs2 : starEach [b] X.env = [(false, eval b X.env)] := by rfl) : DI X C W tg (.Call (.Name "range" p) [a, b] [] pos) (eCall gRange2 fs) := by
  refine ⟨pi_imp (pi_range2 hg hm ha.pa hs hs2) fun σ H Q => ?_⟩
  rintro ⟨η, ρ, μ, s, o, p⟩
  refine ⟨η, ρ, μ, s, o, Post.bind p fun ds η1 H1 μ1 n1 o1 p1 vs rv => ?_⟩
  unfold gRange2 at p1
  split at p1
  · split at p1
    · rename_i hz
      obtain ⟨x, y, rfl, r, r2⟩ := rv.two
      cases r
      cases r2
      obtain ⟨h1, h2⟩ := small_iff.mp hz.1
      obtain ⟨h3, h4⟩ := small_iff.mp hz.2
      exact ⟨_, _, rfl, ⟨h1, h2, h3, h4⟩, p1.now o1 _ walkD_range⟩
    · exact p1.elim
  · exact p1.elim

/-! ### for -/
noncomputable def forD (gd : List (Nat × DO)) (g : FG) (F : FS) : List D → FS
  | [], ρ, μ => if chk gd μ then .nx ρ μ else .bad
  | d :: ds, ρ, μ => if chk gd μ then (match g d ρ with
    | none => .bad
    | some ρ1 => match F ρ1 μ with
      | .nx ρ2 μ2 => forD gd g F ds ρ2 μ2
      | .ct ρ2 μ2 => forD gd g F ds ρ2 μ2
      | .bk ρ2 μ2 => .nx ρ2 μ2
      | r => r) else .bad
noncomputable def sFor (fi : FE ItD) (g : FG) (F : FS) : FS := fun ρ μ => (fi ρ μ).st ρ fun it μ1 => forD it.2 g F it.1 ρ μ1
theorem ds_for (hp : PassesOwn (model X.prog X.w) X.A X.env X.xe) (hi : DI X C W tg e fi) (hg : DG X C tg l g) (hb : DSs X C W body F) (hc : X.calm = true := by rfl)
    (hs : ∀ x, foldedSetIterable e X.env x = pure x := by intro _; rfl) : DS X C W (.For tg e body [] pos) (sFor fi g F) := by
  refine ⟨ps_imp (ps_for hp hc hi.pi hg.pg hb.ps hs) fun E σ H => ?_⟩
  rintro ⟨η, ρ, μ, s, o, p⟩
  refine ⟨η, ρ, μ, s, o, PostS.bindE s p fun it η1 H1 μ1 n1 o1 s1 p1 J hJ => ?_⟩
  obtain ⟨items, gd⟩ := it
  refine ⟨fun i m σ H => m = items.length - i ∧ i ≤ items.length ∧ ∃ η ρ μ, Nxt C η1 H1 η H ∧ Slots C η H σ ρ ∧ Ok C η H μ ∧ PostS C W η H E (forD gd g F (items.drop i) ρ μ), ⟨items.length, by simp, Nat.zero_le _, η1, ρ, μ1, Nxt.refl .., s1, o1, by simpa using p1⟩, ?_⟩
  rintro i m σ H ⟨rfl, hi, η, ρ, μ, n, s, o, p⟩
  by_cases hlt : i < items.length
  · right
    have ed : items.drop i = items[i] :: items.drop (i + 1) := by rw [List.drop_eq_getElem_cons hlt]
    rw [ed] at p
    unfold forD at p
    by_cases hck : chk gd μ
    · rw [if_pos hck] at p
      obtain ⟨w1, w2⟩ := hJ η1 (fun _ _ z => z) rfl η H μ n.w o hck
      obtain ⟨go, yl⟩ := w1 i hlt
      refine ⟨go, fun σ' H' => items.length - (i + 1) = items.length - (i + 1) ∧ i + 1 ≤ items.length ∧ ∃ η ρ μ, Nxt C η1 H1 η H' ∧ Slots C η H' σ' ρ ∧ Ok C η H' μ ∧ PostS C W η H' E (forD gd g F (items.drop (i + 1)) ρ μ), fun σ' H' q => ⟨items.length - (i + 1), by omega, q⟩, fun x H' y => ?_⟩
      obtain ⟨d, hd, sm, rx⟩ := yl x H' y
      have hd' : d = items[i] := by rw [List.getElem?_eq_getElem hlt] at hd; exact (Option.some.inj hd).symm
      subst hd'
      have n2 : Nxt C η H η H' := Same.nxt sm
      cases hgd : g items[i] ρ with
      | none => rw [hgd] at p; exact p.elim
      | some ρ1 =>
        rw [hgd] at p
        refine ⟨η, items[i], ρ, ρ1, s.mono n2, rx, hgd, fun σ1 s1' _ => ⟨η, ρ1, μ, s1', o.same sm, ?_⟩⟩
        have p2 := p
        cases hF : F ρ1 μ with
        | nx ρ2 μ2 =>
          simp only [hF] at p2
          exact fun η3 H3 σ3 n3 o3 s3 => ⟨rfl, hlt, η3, ρ2, μ2, (n.trans n2).trans n3, s3, o3, (p2.mono n2).mono n3⟩
        | ct ρ2 μ2 =>
          simp only [hF] at p2
          exact fun η3 H3 σ3 n3 o3 s3 => ⟨rfl, hlt, η3, ρ2, μ2, (n.trans n2).trans n3, s3, o3, (p2.mono n2).mono n3⟩
        | bk ρ2 μ2 =>
          simp only [hF] at p2
          exact p2.mono n2
        | rt d μ2 =>
          simp only [hF] at p2
          exact p2.mono n2
        | ex c d ρ2 μ2 =>
          simp only [hF] at p2
          exact p2.mono n2
        | bad =>
          simp only [hF] at p2
          exact p2.elim
    · rw [if_neg hck] at p
      exact p.elim
  · have e : i = items.length := by omega
    subst e
    left
    rw [List.drop_length] at p
    unfold forD at p
    by_cases hck : chk gd μ
    · rw [if_pos hck] at p
      exact ⟨(hJ η1 (fun _ _ z => z) rfl η H μ n.w o hck).2, p η H σ (Nxt.refl ..) o s⟩
    · rw [if_neg hck] at p
      exact p.elim

/-! ### while: at most k turns -/
def whileD (t : FE Bool) (F : FS) : Nat → FS
  | 0, _, _ => .bad
  | k + 1, ρ, μ => (t ρ μ).st ρ fun b μ1 => if b = true then (match F ρ μ1 with
      | .nx ρ2 μ2 => whileD t F k ρ2 μ2
      | .ct ρ2 μ2 => whileD t F k ρ2 μ2
      | .bk ρ2 μ2 => .nx ρ2 μ2
      | r => r) else .nx ρ μ1
theorem ds_while (k : Nat) (hp : PassesOwn (model X.prog X.w) X.A X.env X.xe) (hc : DT X C W e t) (hb : DSs X C W body F) : DS X C W (.While e body [] pos) (whileD t F k) := by
  refine ⟨ps_imp (ps_while hp hc.pt hb.ps) fun E σ H => ?_⟩
  rintro ⟨η, ρ, μ, s, o, p⟩
  refine ⟨fun m σ H => ∃ η ρ μ, Slots C η H σ ρ ∧ Ok C η H μ ∧ PostS C W η H E (whileD t F m ρ μ), ⟨k, η, ρ, μ, s, o, p⟩, ?_⟩
  rintro m σ H ⟨η, ρ, μ, s, o, p⟩
  cases m with
  | zero => exact p.elim
  | succ m =>
    unfold whileD at p
    refine ⟨η, ρ, μ, s, o, PostS.bindE s p fun b η1 H1 μ1 n1 o1 s1 p1 => ?_⟩
    cases b with
    | false => exact iteF (p1 η1 H1 σ (Nxt.refl ..) o1 s1)
    | true =>
      refine iteT ⟨fun σ' H' => ∃ η ρ μ, Slots C η H' σ' ρ ∧ Ok C η H' μ ∧ PostS C W η H' E (whileD t F m ρ μ), fun σ' H' q => ⟨m, Nat.lt_succ_self _, q⟩, η1, ρ, μ1, s1, o1, ?_⟩
      rw [if_pos rfl] at p1
      have p2 := p1
      cases hF : F ρ μ1 with
      | nx ρ2 μ2 =>
        simp only [hF] at p2
        exact fun η3 H3 σ3 n3 o3 s3 => ⟨η3, ρ2, μ2, s3, o3, p2.mono n3⟩
      | ct ρ2 μ2 =>
        simp only [hF] at p2
        exact fun η3 H3 σ3 n3 o3 s3 => ⟨η3, ρ2, μ2, s3, o3, p2.mono n3⟩
      | bk ρ2 μ2 =>
        simp only [hF] at p2
        exact p2
      | rt d μ2 =>
        simp only [hF] at p2
        exact p2
      | ex c d ρ2 μ2 =>
        simp only [hF] at p2
        exact p2
      | bad =>
        simp only [hF] at p2
        exact p2.elim
end
end DL
namespace DL
open PySem PySem.Spec PyProof.Rows L2
/-- nothing may be raised -/
def R.nox {α : Type} (r : R α) : R α := match r with | .ok a μ => .ok a μ | _ => .bad
@[simp] theorem R.nox_ok {α : Type} (a : α) (μ : Sto) : (R.ok a μ).nox = .ok a μ := rfl
@[simp] theorem R.nox_bad {α : Type} : (R.bad : R α).nox = .bad := rfl
@[simp] theorem R.nox_ex {α : Type} (c : Nat) (d : D) (μ : Sto) : (R.ex c d μ : R α).nox = .bad := rfl
def W0 : WX := fun _ _ _ _ => False
theorem Post.bindN {α β : Type} {C : Cc} {W : WX} {η H σ σ'} {P : β → Nm → Hp → Sto → Prop} {P1 : α → Nm → Hp → Sto → Prop} {r : R α} {k : α → Sto → R β} (h : Post C W η H σ P (r.nox.bind k))
    (i : ∀ a η1 H1 μ1, Nxt C η H η1 H1 → Ok C η1 H1 μ1 → Post C W η1 H1 σ P (k a μ1) → P1 a η1 H1 μ1) : Post C W0 η H σ' P1 r := by
  cases r with
  | ok a μ => exact fun η1 H1 n o => i a η1 H1 μ n o (Post.mono (show Post C W η H σ P (k a μ) from h) n)
  | ex c d μ => exact (show False from h).elim
  | bad => exact h
theorem Slots.hide {C : Cc} {η : Nm} {H : Hp} {σ ρ} {p : Addr} (hp : H p = none) (s : Slots C η H σ ρ) : Slots C (η.hide p) H σ ρ := ⟨s.len, fun i d h => let ⟨v, e, r⟩ := s.at_ i d h; ⟨v, e, r.hide hp⟩⟩
section
variable {C : Cc}
mutual
theorem Rep.wr {η : Nm} {H : Hp} {p : Addr} {vs ws : List V} (hp : H p = some (.lst vs)) : ∀ {v : V} {d : D}, Rep C (η.hide p) H v d → Rep C (η.hide p) (upd H p (.lst ws)) v d
  | _, _, .non => .non
  | _, _, .bl b => .bl b
  | _, _, .int i => .int i
  | _, _, .str x => .str x
  | _, _, .tup h r => .tup (by
      rcases h with (h | ⟨o, h⟩) | h
      · exact .inl (.inl (by rw [upd_ne (ne_of h hp (by intro z; cases z))]; exact h))
      · exact .inl (.inr ⟨o, by rw [upd_ne (ne_of h hp (by intro z; cases z))]; exact h⟩)
      · exact .inr h) (Reps.wr hp r)
  | _, _, .lst h m mx r => .lst (by rw [upd_ne (fun z => mx (by rw [z]; exact List.mem_cons_self))]; exact h) m mx (Reps.wr hp r)
  | _, _, .frz h r => .frz (by
      rcases h with ⟨o, h⟩ | h
      · exact .inl ⟨o, by rw [upd_ne (ne_of h hp (by intro z; cases z))]; exact h⟩
      · exact .inr h) (Reps.wr hp r)
  | _, _, .obj h => .obj h
theorem Reps.wr {η : Nm} {H : Hp} {p : Addr} {vs ws : List V} (hp : H p = some (.lst vs)) : ∀ {xs : List V} {ds : List D}, Reps C (η.hide p) H xs ds → Reps C (η.hide p) (upd H p (.lst ws)) xs ds
  | _, _, .nil => .nil
  | _, _, .cons h r => .cons (Rep.wr hp h) (Reps.wr hp r)
end
/-- nothing of a lambda's tables is a list, an object, a dict -/
theorem Tabs.wr {T : List (Addr × Str)} {H : Hp} {p : Addr} {u w : HO} (hp : H p = some u) (hu : ∀ ps, u ≠ .tbl ps) (hc : ∀ c q, u ≠ LamX.CodeO c q) (t : LamX.Tabs T H) : LamX.Tabs T (upd H p w) := fun x hx => by
  obtain ⟨ps, h1, h2, h3⟩ := t x hx
  refine ⟨ps, by rw [upd_ne (fun z => hu ps (by rw [z, hp] at h1; exact Option.some.inj h1))]; exact h1, h2, fun pos cv h => ?_⟩
  obtain ⟨c, e, hc'⟩ := h3 pos cv h
  exact ⟨c, e, by rw [upd_ne (fun z => hc c x.2 (by rw [z, hp] at hc'; exact (Option.some.inj hc').trans (by rw [z])))]; exact hc'⟩
theorem lst_codeO {vs : List V} (c : Addr) (q : Str) : HO.lst vs ≠ LamX.CodeO c q := fun z => by
  unfold LamX.CodeO at z
  cases z
theorem Ok.wrH {η : Nm} {H : Hp} {μ : Sto} {p : Addr} {vs ws : List V} (o : Ok C (η.hide p) H μ) (hp : H p = some (.lst vs)) (np : p ∉ η.o) : Ok C (η.hide p) (upd H p (.lst ws)) μ := by
  refine ⟨o.nd, o.len, fun n a m h1 h2 => ?_, fun b m => ?_, Tabs.wr hp (fun ps z => by cases z) (fun c q => lst_codeO c q) o.tab⟩
  · obtain ⟨w, h, r⟩ := o.at_ n a m h1 h2
    have ha : a ≠ p := fun z => np (by rw [← z]; exact List.mem_iff_getElem?.mpr ⟨n, h1⟩)
    exact ⟨w, by rw [upd_ne ha]; exact h, r.map (fun _ _ => Rep.wr hp) fun _ _ => Reps.wr hp⟩
  · by_cases hb : b = p
    · exact ⟨_, by rw [hb, upd_same], fun ps z => by cases z⟩
    · rw [upd_ne hb]; exact o.hid b m
theorem Nxt.wrH {η1 η : Nm} {H1 H : Hp} {p : Addr} {vs ws : List V} (n : Nxt C η1 H1 η H) (h1 : H1 p = Option.none) : Nxt C η1 H1 η (upd H p (.lst ws)) :=
  ⟨n.pre, n.hx, fun b o h m t => by rw [upd_ne (ne_of_none h h1)]; exact n.keep b o h m t, fun b xs h => by rw [upd_ne (ne_of_none h h1)]; exact n.tups b xs h, fun b o u h => by rw [upd_ne (ne_of_none h h1)]; exact n.frzs b o u h, n.new,
    fun b o h t => by rw [upd_ne (ne_of_none h h1)]; exact n.there b o h t⟩
/-- what is hidden may be shown again -/
theorem Nxt.unhide {η1 η : Nm} {H1 H : Hp} {p : Addr} (n : Nxt C (η1.hide p) H1 η H) : ∃ η' : Nm, η = η'.hide p ∧ Nxt C η1 H1 η' H :=
  ⟨⟨η.o, η1.x⟩, by have := n.hx; cases η; simp only at this; subst this; rfl, ⟨n.pre, rfl, n.keep, n.tups, n.frzs, n.new, n.there⟩⟩
end
/-- a step while A is hidden; what is asked stands over the first state -/
theorem Post.bindH {α β : Type} {C : Cc} {W : WX} {η η1 : Nm} {H H1 : Hp} {σ σ' : L2.St} {A : Addr} {P : β → Nm → Hp → Sto → Prop} {P1 : α → Nm → Hp → Sto → Prop} {r : R α} {k : α → Sto → R β} (h : Post C W η1 H1 σ P (r.nox.bind k))
    (i : ∀ a η3 H3 μ3, Nxt C η H η3 H3 → Nxt C (η.hide A) H (η3.hide A) H3 → Ok C (η3.hide A) H3 μ3 → Post C W η1 H1 σ P (k a μ3) → P1 a (η3.hide A) H3 μ3) : Post C W0 (η.hide A) H σ' P1 r := by
  cases r with
  | ok a μ =>
    intro η2 H2 n2 o2
    obtain ⟨η', rfl, n'⟩ := n2.unhide
    exact i a η' H2 μ n' n2 o2 (show Post C W η1 H1 σ P (k a μ) from h)
  | ex c d μ => exact (show False from h).elim
  | bad => exact h
structure DTs (X : Cx) (C : Cc) (W : WX) (ifs : List Expr) (f : FE Bool) : Prop where
  pt : PTs X ifs (tDT C W f)
theorem pts_imp {X : Cx} {e : List Expr} {t t' : TT} (h : PTs X e t) (i : ∀ σ H Q, t' σ H Q → t σ H Q) : PTs X e t' := ⟨fun pins s σ H Q I q => h.run pins s σ H Q I (i σ H Q q)⟩
section
variable {X : Cx} {C : Cc} {W : WX} {tg elt e a b : Expr} {ifs : List Expr} {st : Stmt} {body : List Stmt} {pos : Pos} {te fa fb : FE D} {F G : FS} {tt : FE Bool} {g : FG} {l : List Nat} {fi : FE ItD} {fs : FE (List D)}
def tYesD : FE Bool := fun _ μ => .ok true μ
theorem dts_nil : DTs X C W [] tYesD := by
  refine ⟨pts_imp pts_nil fun σ H Q => ?_⟩
  rintro ⟨η, ρ, μ, s, o, p⟩
  exact p.now o
theorem dts_one (h : DT X C W e tt) : DTs X C W [e] tt := ⟨pts_one h.pt⟩
/-! ### list comprehensions -/
noncomputable def lcD (gd : List (Nat × DO)) (g : FG) (tt : FE Bool) (te : FE D) (ρ : En) : List D → Sto → R (List D)
  | [], μ => if chk gd μ then .ok [] μ else .bad
  | d :: ds, μ => if chk gd μ then (match g d ρ with
    | none => .bad
    | some ρ1 => (tt ρ1 μ).nox.bind fun k μ1 => if k = true then (te ρ1 μ1).nox.bind fun y μ2 => (lcD gd g tt te ρ ds μ2).bind fun ys μ3 => .ok (y :: ys) μ3 else lcD gd g tt te ρ ds μ1) else .bad
noncomputable def eLc (fi : FE ItD) (vs : List Nat) (g : FG) (tt : FE Bool) (te : FE D) : FE (List D) := fun ρ μ => (fi ρ μ).bind fun it μ1 => if it.1.length ≤ SZ then lcD it.2 g tt te (wipeE ρ vs) it.1 μ1 else .bad
theorem R.bind_bind {α β γ : Type} (r : R α) (f : α → Sto → R β) (k : β → Sto → R γ) : (r.bind f).bind k = r.bind fun a μ => (f a μ).bind k := by cases r <;> rfl
theorem bind_ite {α β : Type} (c : Prop) [Decidable c] (x y : R α) (k : α → Sto → R β) : (if c then x else y).bind k = if c then x.bind k else y.bind k := by split <;> rfl
/-- the reading of a comprehension -/
theorem lc_core (gd : List (Nat × DO)) (items : List D) (vs : List Nat) {σ : L2.St} {ρ : En} {η0 η1 : Nm} {H0 H1 : Hp} {μ1 : Sto} {Q : VK} {J : It} (n0 : Nxt C η0 H0 η1 H1) (o1 : Ok C η1 H1 μ1) (s1 : Slots C η1 H1 σ ρ) (hz : items.length ≤ SZ) (hJ : WalkD C J items gd η1 H1)
    (p : Post C W η1 H1 σ (PL C H0 Q) (lcD gd g tt te (wipeE ρ vs) items μ1)) {G : TG} {T : TT} {Te : TE} (hG : ∀ v σ H Q, tDG C vs g v σ H Q → G v σ H Q) (hT : ∀ σ H Q, tDT C W0 tt σ H Q → T σ H Q) (hTe : ∀ σ H Q, tD C W0 te σ H Q → Te σ H Q) :
    ∀ A, H1 A = none → ∃ Wi : Nat → Nat → Hp → Prop, (∃ m, Wi 0 m (upd H1 A (.lst []))) ∧ ∀ i m H, Wi i m H →
      (J.stop i H ∧ Q (.ref A) H) ∨ (J.go i H ∧ ∃ Nx : Hp → Prop, (∀ H', Nx H' → ∃ m', m' < m ∧ Wi (i + 1) m' H') ∧ ∀ x H', J.yld i H x H' → G x (wipe σ vs) H' fun σ2 H2 => wipe σ2 vs = wipe σ vs ∧ T σ2 H2 fun b H3 =>
        if b = true then Te σ2 H3 fun y H4 => ∃ acc, H4 A = some (.lst acc) ∧ acc.length < sizeLine ∧ Nx (upd H4 A (.lst (acc ++ [y]))) else Nx H3) := by
  intro A hA
  have hide1 := Same.new (o := HO.lst []) hA
  refine ⟨fun i m H => m = items.length - i ∧ i ≤ items.length ∧ ∃ η μ acc ds, Nxt C η1 H1 η H ∧ Ok C (η.hide A) H μ ∧ A ∉ η.o ∧ H A = some (.lst acc) ∧ Reps C (η.hide A) H acc ds ∧ ds.length ≤ i ∧
    Post C W η1 H1 σ (PL C H0 Q) ((lcD gd g tt te (wipeE ρ vs) (items.drop i) μ).bind fun ys μ' => .ok (ds ++ ys) μ'), ⟨items.length, by simp, Nat.zero_le _, η1, μ1, [], [], Same.nxt hide1, o1.hide hA (fun ps z => by cases z), o1.not_mem hA, upd_same, .nil, Nat.le_refl _, ?_⟩, ?_⟩
  · have e : ((lcD gd g tt te (wipeE ρ vs) (items.drop 0) μ1).bind fun ys μ' => R.ok ([] ++ ys) μ') = lcD gd g tt te (wipeE ρ vs) items μ1 := by
      rw [List.drop_zero]
      cases lcD gd g tt te (wipeE ρ vs) items μ1 <;> rfl
    rw [e]
    exact p
  · rintro i m H ⟨rfl, hi, η, μ, acc, ds, n, o, na, hacc, racc, hl, p⟩
    have oS : Ok C η H μ := o.show_
    have nH : Nxt C (η1.hide A) H1 (η.hide A) H := n.hide A
    have sH : Slots C (η.hide A) H σ ρ := (s1.hide hA).mono nH
    by_cases hlt : i < items.length
    · right
      have ed : items.drop i = items[i] :: items.drop (i + 1) := by rw [List.drop_eq_getElem_cons hlt]
      rw [ed] at p
      unfold lcD at p
      by_cases hck : chk gd μ
      · rw [if_pos hck] at p
        obtain ⟨w1, w2⟩ := hJ (η1.hide A) (fun _ _ r => r.hide hA) rfl (η.hide A) H μ nH.w o hck
        obtain ⟨go, yl⟩ := w1 i hlt
        refine ⟨go, fun H' => items.length - (i + 1) = items.length - (i + 1) ∧ i + 1 ≤ items.length ∧ ∃ η μ acc ds, Nxt C η1 H1 η H' ∧ Ok C (η.hide A) H' μ ∧ A ∉ η.o ∧ H' A = some (.lst acc) ∧ Reps C (η.hide A) H' acc ds ∧ ds.length ≤ i + 1 ∧
          Post C W η1 H1 σ (PL C H0 Q) ((lcD gd g tt te (wipeE ρ vs) (items.drop (i + 1)) μ).bind fun ys μ' => .ok (ds ++ ys) μ'), fun H' q => ⟨items.length - (i + 1), by omega, q⟩, fun x H' y => hG _ _ _ _ ?_⟩
        obtain ⟨d, hd, sm, rx⟩ := yl x H' y
        have hd' : d = items[i] := by rw [List.getElem?_eq_getElem hlt] at hd; exact (Option.some.inj hd).symm
        subst hd'
        have n2 : Nxt C (η.hide A) H (η.hide A) H' := Same.nxt sm
        cases hgd : g items[i] (wipeE ρ vs) with
        | none => rw [hgd] at p; exact (show False from p).elim
        | some ρ1 =>
          rw [hgd] at p
          refine ⟨η.hide A, items[i], wipeE ρ vs, ρ1, (sH.mono n2).wipe vs, rx, hgd, fun σ2 s2 w2 => ⟨?_, hT _ _ _ ⟨η.hide A, ρ1, μ, s2, o.same sm, ?_⟩⟩⟩
          · rw [w2]
            -- wiping twice is wiping once
            have idem : ∀ l : List Nat, ∀ σ : L2.St, wipe (wipe σ l) l = wipe σ l := by
              intro l
              induction l with
              | nil => intro σ; rfl
              | cons v vs ih =>
                intro σ
                show (wipe ((wipe σ vs).set v none) vs).set v none = (wipe σ vs).set v none
                rw [wipe_set, ih, List.set_set]
            exact idem vs σ
          · dsimp only at p
            rw [R.bind_bind] at p
            refine Post.bindH p fun b η3 H3 μ3 n3 n3' o3 p3 => ?_
            have nn := (n.trans (Same.nxt sm)).trans n3
            clear ed
            have na3 : A ∉ η3.o := fun z => by
              obtain ⟨ps, e⟩ := n3.new A z na _ (sm _ _ hacc)
              cases e
            have hacc3 : H3 A = some (.lst acc) := n3.keep _ _ (sm _ _ hacc) na (fun ps z => by cases z)
            have racc3 : Reps C (η3.hide A) H3 acc ds := (racc.mono n2).mono n3'
            cases b with
            | false =>
              refine iteF ⟨rfl, hlt, η3, μ3, acc, ds, nn, o3, na3, hacc3, racc3, Nat.le_succ_of_le hl, ?_⟩
              rw [bind_ite, if_neg (by simp)] at p3
              exact p3
            | true =>
              refine iteT (hTe _ _ _ ⟨η3.hide A, ρ1, μ3, s2.mono n3', o3, ?_⟩)
              rw [bind_ite, if_pos rfl, R.bind_bind] at p3
              refine Post.bindH p3 fun y η4 H4 μ4 n4 n4' o4 p4 => fun v rv => ?_
              have na4 : A ∉ η4.o := fun z => by
                obtain ⟨ps, e⟩ := n4.new A z na3 _ hacc3
                cases e
              have hacc4 : H4 A = some (.lst acc) := n4.keep _ _ hacc3 na3 (fun ps z => by cases z)
              have racc4 : Reps C (η4.hide A) H4 acc ds := racc3.mono n4'
              have hlen := racc4.length
              refine ⟨acc, hacc4, ?_, rfl, hlt, η4, μ4, acc ++ [v], ds ++ [y], Nxt.wrH (vs := acc) (nn.trans n4) hA, o4.wrH hacc4 na4, na4, upd_same, (racc4.append (.cons rv .nil)).wr hacc4, ?_, ?_⟩
              · rw [hlen, ← sz_eq]; omega
              · rw [List.length_append, List.length_singleton]; omega
              · rw [R.bind_bind] at p4
                have e : ∀ r : R (List D), (r.bind fun a μ => (R.ok (y :: a) μ).bind fun ys μ' => R.ok (ds ++ ys) μ') = r.bind fun ys μ' => R.ok (ds ++ [y] ++ ys) μ' := by
                  intro r
                  cases r with
                  | ok a μ => simp
                  | _ => rfl
                rw [e] at p4
                exact p4
      · rw [if_neg hck] at p
        exact (show False from p).elim
    · have e : i = items.length := by omega
      subst e
      left
      rw [List.drop_length] at p
      unfold lcD at p
      by_cases hck : chk gd μ
      · rw [if_pos hck] at p
        obtain ⟨w1, w2⟩ := hJ (η1.hide A) (fun _ _ r => r.hide hA) rfl (η.hide A) H μ nH.w o hck
        refine ⟨w2, ?_⟩
        have p2 : Post C W η1 H1 σ (PL C H0 Q) (.ok (ds ++ []) μ) := p
        rw [List.append_nil] at p2
        exact p2 η H n oS A acc na (n0.nw (.of hA)) hacc o racc
      · rw [if_neg hck] at p
        exact (show False from p).elim
/-- the block of a comprehension: its parts in every block that may run -/
structure Blk (X : Cx) (C : Cc) (scope : Scope) (tg elt : Expr) (ifs : List Expr) (vs : List Nat) (g : FG) (tt : FE Bool) (te : FE D) : Prop where
  hg : ∀ (s : Shared) (H : Hp) (A : Addr) (cl : List (Str × Addr)) (fp : List Addr), DG (X.blk s H scope (compEnvC scope cl A X.env) fp) C tg vs g
  ht : ∀ (s : Shared) (H : Hp) (A : Addr) (cl : List (Str × Addr)) (fp : List Addr), DTs (X.blk s H scope (compEnvC scope cl A X.env) fp) C W0 ifs tt
  he : ∀ (s : Shared) (H : Hp) (A : Addr) (cl : List (Str × Addr)) (fp : List Addr), DE (X.blk s H scope (compEnvC scope cl A X.env) fp) C W0 elt te
theorem lc_read (vs : List Nat) {σ H Q} (h : tDL C W (eLc fi vs g tt te) σ H Q) : tLc (tDI C W fi) (tDG C vs g) (tDT C W0 tt) (tD C W0 te) vs σ H Q := by
  obtain ⟨η, ρ, μ, s, o, p⟩ := h
  refine ⟨η, ρ, μ, s, o, Post.bind p fun it η1 H1 μ1 n1 o1 p1 J hJ => ?_⟩
  split at p1
  · rename_i hz
    exact lc_core it.2 it.1 vs n1 o1 (s.mono n1) hz hJ p1 (fun _ _ _ _ z => z) (fun _ _ _ z => z) (fun _ _ _ z => z)
  · exact p1.elim
variable {scope : Scope}
theorem de_lc (own : List (Str × Nat)) (hN : X.N.Nodup) (hi : DI X C W tg e fi) (ok : BlkOk X.N X.env.scope scope own) (B : Blk X C scope tg elt ifs (own.map (·.2)) g tt te) (hc : X.calm = true := by rfl) (hs : ∀ x, foldedSetIterable e X.env x = pure x := by intro _; rfl) :
    DEL X C W (.ListComp elt [⟨tg, e, ifs, 0⟩] scope pos) (eLc fi (own.map (·.2)) g tt te) :=
  ⟨pe_imp (pe_lc hc hN hi.pi ok (fun s H A cl fp => (B.hg s H A cl fp).pg) (fun s H A cl fp => (B.ht s H A cl fp).pt) (fun s H A cl fp => (B.he s H A cl fp).pe) hs) fun σ H Q h => lc_read _ h⟩
/-- name = [..], on one row, the name a local -/
theorem set_read (i : Nat) {fl : FE (List D)} {T : FE D} {E : Ends} {σ H} (hT : ∀ σ H Q, tD C W T σ H Q → tDL C W fl σ H Q) (h : tDS C W (sSet i T) E σ H) : tDL C W fl σ H (fun v H1 => gName i v σ H1 E.nx) := by
  refine hT _ _ _ ?_
  obtain ⟨η, ρ, μ, s, o, p⟩ := h
  exact ⟨η, ρ, μ, s, o, PostS.bindE s p fun d η1 H1 μ1 n1 o1 s1 p1 v rv => p1 η1 H1 _ (Nxt.refl ..) o1 (s1.set i rv)⟩
theorem ds_setLc (i : Nat) {T : FE D} {y : Str} {py spos : Pos} (own : List (Str × Nat)) (hT : ∀ σ H Q, tD C W T σ H Q → tDL C W (eLc fi (own.map (·.2)) g tt te) σ H Q) (hN : X.N.Nodup) (hi : DI X C W tg e fi) (ok : BlkOk X.N X.env.scope scope own) (B : Blk X C scope tg elt ifs (own.map (·.2)) g tt te)
    (hy : X.N[i]? = some y := by rfl) (hyl : X.env.scope.names.lookup y = some .local := by rfl)
    (hsw : swapsWith (.ListComp elt [⟨tg, e, ifs, 0⟩] scope pos) (some (.Name y py)) spos.line X.env = pure true := by exact sw_true rfl rfl rfl (by decide +kernel)) (hc : X.calm = true := by rfl) (hs : ∀ x, foldedSetIterable e X.env x = pure x := by intro _; rfl) :
    DS X C W (.Assign [.Name y py] (.ListComp elt [⟨tg, e, ifs, 0⟩] scope pos) spos) (sSet i T) :=
  ⟨ps_imp (ps_setLc (i := i) hc hN hy hyl hsw hi.pi ok (fun s H A cl fp => (B.hg s H A cl fp).pg) (fun s H A cl fp => (B.ht s H A cl fp).pt) (fun s H A cl fp => (B.he s H A cl fp).pe) hs) fun E σ H h => lc_read _ (set_read i hT h)⟩
end
end DL
namespace DL
open PySem PySem.Spec PyProof.Rows L2
/-! ### defs -/
abbrev FD := List D → Sto → R D
def PostF (C : Cc) (η : Nm) (H : Hp) (Q : VK) (E : XK) : R D → Prop
  | .ok d μ => ∀ η' H' v, Nxt C η H η' H' → Ok C η' H' μ → Rep C η' H' v d → Q v H'
  | .ex c d μ => ∀ η' H' cls dd, Nxt C η H η' H' → Ok C η' H' μ → ExRep C η' H' c d cls dd → E cls dd H'
  | .bad => False
def spD (C : Cc) (n : Nat) (G : FD) : Sp := fun vs H Q E => ∃ η ds μ, vs.length = n ∧ Reps C η H vs ds ∧ Ok C η H μ ∧ PostF C η H Q E (G ds μ)
/-- a def's body, from its arguments -/
def runF (n : Nat) (F : FS) : FD := fun ds μ => match F (ds.map some ++ List.replicate (n - ds.length) none) μ with
  | .nx _ μ' => .ok .non μ'
  | .rt d μ' => .ok d μ'
  | .ex c d _ μ' => .ex c d μ'
  | _ => .bad
theorem slots_start {C : Cc} {η : Nm} {H : Hp} {vs : List V} {ds : List D} (N : List Str) (r : Reps C η H vs ds) : Slots C η H (L2.start N vs) (ds.map some ++ List.replicate (N.length - ds.length) none) := by
  have hl := r.length
  refine ⟨by unfold L2.start; simp [hl], fun i d h => ?_⟩
  by_cases hi : i < ds.length
  · rw [List.getElem?_append_left (by simpa using hi), List.getElem?_map] at h
    cases e : ds[i]? with
    | none => rw [e] at h; cases h
    | some d' =>
      rw [e] at h
      cases h
      obtain ⟨v, h1, h2⟩ := r.get e
      refine ⟨v, ?_, h2⟩
      unfold L2.start
      rw [List.getElem?_append_left (by simp [hl, hi]), List.getElem?_map, h1]
      rfl
  · rw [List.getElem?_append_right (by simpa using hi), List.getElem?_replicate] at h
    split at h <;> cases h
section
variable {P : Program} {w : World} {K : PySem.W.Frag} {mg : Str → Option Value} {base : Heap} {C : Cc}
/-- THE RULE for a def -/
theorem df_of {x qual : Str} {st : Stmt} {f : Addr} {fd : FuncData} {N ps : List Str} {k : Nat} {F : FS} (Fn : Fun K x qual st f fd) (S : FnScope N ps (defScope st))
    (hb : ∀ (cdv : Value) (A : Around) (outer : List Env) (s : Shared) (H : Hp) (E : XK), Room k (A.deeper (envOfC qual (defScope st) s.heap.objs.size f cdv)) →
      DSs (cxOf (L2.CX P w) P w K mg base N qual (defScope st) f cdv A outer s H E) C (fun cls d _ H => E cls d H) (defBody st) F) : FnOk P w K mg base (L2.CX P w) (k + 1) f fd ps (spD C ps.length (runF N.length F)) := by
  refine Fn.okX S (fun vs H Q E h => by obtain ⟨η, ds, μ, hl, _⟩ := h; exact hl) (fun cdv A outer s H vs Q E hr h => ⟨_, (hb cdv A outer s H E hr).ps, ?_⟩)
  obtain ⟨η, ds, μ, hl, r, o, p⟩ := h
  refine ⟨η, _, μ, slots_start N r, o, ?_⟩
  unfold runF at p
  cases hF : F (ds.map some ++ List.replicate (N.length - ds.length) none) μ with
  | nx ρ μ' =>
    simp only [hF] at p
    exact fun η' H' σ' n o' _ => p η' H' _ n o' .non
  | rt d μ' =>
    simp only [hF] at p
    exact p
  | ex c d ρ μ' =>
    simp only [hF] at p
    exact fun η' H' σ' cls dd n o' _ x => p η' H' cls dd n o' x
  | bk ρ μ' => simp only [hF] at p; exact p.elim
  | ct ρ μ' => simp only [hF] at p; exact p.elim
  | bad => simp only [hF] at p; exact p.elim
/-- a weaker promise: G' tells less, or drops what nobody knows any more -/
def LeR (r r' : R D) : Prop := r' = .bad ∨ r = r'
theorem PostF.le {η H} {Q : VK} {E : XK} {r r' : R D} (l : LeR r r') (h : PostF C η H Q E r') : PostF C η H Q E r := by
  rcases l with l | l
  · rw [l] at h; exact h.elim
  · rw [l]; exact h
theorem df_le {f : Addr} {fd : FuncData} {ps : List Str} {k : Nat} {G G' : FD} (F : FnOk P w K mg base (L2.CX P w) k f fd ps (spD C ps.length G)) (h : ∀ ds μ, LeR (G ds μ) (G' ds μ)) : FnOk P w K mg base (L2.CX P w) k f fd ps (spD C ps.length G') :=
  F.imp fun vs H Q E ⟨η, ds, μ, hl, r, o, p⟩ => ⟨η, ds, μ, hl, r, o, PostF.le (h ds μ) p⟩
end
/-- a callee: where it stands, how its arguments bind -/
structure Cal (K : PySem.W.Frag) (mg : Str → Option Value) (x : Str) (f : Addr) (fd : FuncData) (ps : List Str) : Prop where
  gm : mg x = some (.ref f)
  kp : PySem.W.keepIn K (.ref f) = true
  bd : Binds K fd ps []
section
variable {X : Cx} {C : Cc} {W : WX} {e a b : Expr} {es : List Expr} {pos p : Pos} {x : Str} {f : Addr} {fd : FuncData} {ps : List Str} {k : Nat} {G : FD} {fs : FE (List D)}
theorem PostF.of {η H σ} {Q : VK} {r : R D} (h : Post C W η H σ (PV C Q) r) : PostF C η H Q (WE W σ) r := by
  cases r with
  | ok d μ => exact fun η' H' v n o r => h η' H' n o v r
  | ex c d μ => exact h
  | bad => exact h
/-- f(e, ..) -/
theorem de_call (c : Cal X.K X.mg x f fd ps) (F : FnOk X.prog X.w X.K X.mg X.base (L2.CX X.prog X.w) k f fd ps (spD C ps.length G)) (hr : Room k X.A) (tk : Takes X W) (ha : DA X C W (e :: es) fs) (hl : (e :: es).length = ps.length := by rfl) (hg : Gl X x := by rfl)
    (hdb : (x == ("__debug__" : Str)) = false := by decide) (he : starEach (e :: es) X.env = (false, eval e X.env) :: starEach es X.env := by rfl) (hpl : (backTo pos (starEach es X.env)).any (·.1) = false := by rfl) : DE X C W (.Call (.Name x p) (e :: es) [] pos) (eCall G fs) := by
  refine ⟨pe_imp (pe_callS F hr hg c.gm c.kp c.bd (fun σ => passAt tk σ) ha.pa hdb he hpl) fun σ H Q => ?_⟩
  rintro ⟨η, ρ, μ, s, o, p⟩
  exact ⟨η, ρ, μ, s, o, Post.bind' p fun ds η1 H1 μ1 eq n1 o1 p1 vs rv => ⟨η1, ds, μ1, by rw [rv.length, ha.len _ _ _ _ eq]; exact hl, rv, o1, PostF.of p1⟩⟩
/-- f() -/
def eCall0 (G : FD) : FE D := fun _ μ => G [] μ
theorem pe_callS0 {sp : Sp} {E : L2.St → XK} {CX : CXT} (F : FnOk X.prog X.w X.K X.mg X.base CX k f fd ps sp) (hr : Room k X.A) (hg : Gl X x) (hm : X.mg x = some (.ref f)) (hk : PySem.W.keepIn X.K (.ref f) = true) (hb : Binds X.K fd ps []) (hx : ∀ σ, PassesAt CX X σ (E σ))
    (hdb : (x == ("__debug__" : Str)) = false := by decide) : PE X (.Call (.Name x p) [] [] pos) (fun σ H Q => sp [] H Q (E σ)) := by
  refine ⟨fun pins s σ H Q I h => ?_⟩
  refine wpAny_Call_Name_kw (ld_glob I hg hm ?_ hdb)
  exact PySem.W.callWith_K0 I.kIn hk (run_fnS (us := []) F hr hb (hx σ) I .nil h)
theorem de_call0 (c : Cal X.K X.mg x f fd ps) (F : FnOk X.prog X.w X.K X.mg X.base (L2.CX X.prog X.w) k f fd ps (spD C ps.length G)) (hr : Room k X.A) (tk : Takes X W) (hl : 0 = ps.length := by rfl) (hg : Gl X x := by rfl) (hdb : (x == ("__debug__" : Str)) = false := by decide) : DE X C W (.Call (.Name x p) [] [] pos) (eCall0 G) := by
  refine ⟨pe_imp (pe_callS0 F hr hg c.gm c.kp c.bd (fun σ => passAt tk σ) hdb) fun σ H Q => ?_⟩
  rintro ⟨η, ρ, μ, s, o, p⟩
  exact ⟨η, [], μ, hl, .nil, o, PostF.of p⟩
/-! ### keywords -/
def perm {α : Type} (π : List Nat) (l : List α) : List α := π.filterMap fun i => l[i]?
structure DK (X : Cx) (C : Cc) (W : WX) (kws : List Keyword) (f : FE (List D)) : Prop where
  pk : PK X kws (tDA C W f)
  len : ∀ ρ μ ds μ', f ρ μ = .ok ds μ' → ds.length = kws.length
theorem pk_imp {e : List Keyword} {t t' : TA} (h : PK X e t) (i : ∀ σ H Q, t' σ H Q → t σ H Q) : PK X e t' := ⟨fun pos pins s σ H Q I q => h.run pos pins s σ H Q I (i σ H Q q)⟩
theorem dk_nil : DK X C W [] eNil := by
  refine ⟨pk_imp pk_nil fun σ H Q => ?_, fun ρ μ ds μ' h => by cases h; rfl⟩
  rintro ⟨η, ρ, μ, s, o, p⟩
  exact p.now o [] .nil
theorem dk_cons {nm : Option Str} {kpos : Pos} {kws : List Keyword} {fa : FE D} (ha : DE X C W a fa) (hr : DK X C W kws fs) : DK X C W (⟨nm, a, kpos⟩ :: kws) (eCons fa fs) := by
  refine ⟨pk_imp (pk_cons ha.pe hr.pk) fun σ H Q => ?_, fun ρ μ ds μ' h => by
    unfold eCons at h
    cases e1 : fa ρ μ with
    | ok d μ1 =>
      rw [e1, R.bind_ok] at h
      cases e2 : fs ρ μ1 with
      | ok ds μ2 => rw [e2, R.bind_ok] at h; cases h; rw [List.length_cons, List.length_cons, hr.len _ _ _ _ e2]
      | ex c d μ2 => rw [e2] at h; cases h
      | bad => rw [e2] at h; cases h
    | ex c d μ1 => rw [e1] at h; cases h
    | bad => rw [e1] at h; cases h⟩
  rintro ⟨η, ρ, μ, s, o, p⟩
  refine ⟨η, ρ, μ, s, o, Post.bind p fun d η1 H1 μ1 n1 o1 p1 x rx => ?_⟩
  exact ⟨η1, ρ, μ1, s.mono n1, o1, Post.bind p1 fun ds η2 H2 μ2 n2 o2 p2 xs rxs => p2.now o2 (x :: xs) (.cons (rx.mono n2) rxs)⟩
/-- how keywords alone bind: the i-th parameter is the keyword π i -/
def KB (K : PySem.W.Frag) (fd : FuncData) (ps ks : List Str) (π : List Nat) : Prop :=
  ∀ (s : Shared) (ws : List Value), K.In s.heap → ws.length = ks.length → BindsTo s fd ⟨[], ks.zip ws⟩ (ps.zip (perm π ws))
theorem Vals.perm {zs : List V} {ws : List Value} (r : Vals zs ws) : ∀ π : List Nat, Vals (DL.perm π zs) (DL.perm π ws)
  | [] => .nil
  | i :: π => by
    unfold DL.perm
    rw [List.filterMap_cons, List.filterMap_cons]
    cases e : zs[i]? with
    | none =>
      have e2 := r.none_of e
      rw [e2]
      exact Vals.perm r π
    | some x =>
      obtain ⟨u, h1, h2⟩ := r.get e
      rw [h1]
      exact .cons h2 (Vals.perm r π)
theorem Reps.perm {η : Nm} {H : Hp} {zs : List V} {ds : List D} (r : Reps C η H zs ds) : ∀ π : List Nat, Reps C η H (DL.perm π zs) (DL.perm π ds)
  | [] => .nil
  | i :: π => by
    unfold DL.perm
    rw [List.filterMap_cons, List.filterMap_cons]
    cases e : zs[i]? with
    | none =>
      have e2 : ds[i]? = none := by
        rw [List.getElem?_eq_none_iff] at e ⊢
        rw [← r.length]; exact e
      rw [e2]
      exact Reps.perm r π
    | some x =>
      obtain ⟨u, h1, h2⟩ := r.get' e
      rw [h1]
      exact .cons h2 (Reps.perm r π)
def eCallK (G : FD) (π : List Nat) (fs : FE (List D)) : FE D := fun ρ μ => (fs ρ μ).bind fun ds μ1 => G (perm π ds) μ1
theorem pe_callKS {sp : Sp} {E : L2.St → XK} {CX : CXT} {ks : List Str} {kws : List Keyword} {π : List Nat} {tk : TA} (F : FnOk X.prog X.w X.K X.mg X.base CX k f fd ps sp) (hr : Room k X.A) (hg : Gl X x) (hm : X.mg x = some (.ref f)) (hk : PySem.W.keepIn X.K (.ref f) = true) (hb : KB X.K fd ps ks π) (hx : ∀ σ, PassesAt CX X σ (E σ))
    (hkw : PK X kws tk) (hall : (backToKw pos (keywordEach kws X.env)).all (·.1.isSome) = true := by rfl) (hks : (backToKw pos (keywordEach kws X.env)).filterMap (·.1) = ks := by rfl)
    (hdb : (x == ("__debug__" : Str)) = false := by decide) (hpl : ((backTo pos (starEach [] X.env)).any (·.1) || (backToKw pos (keywordEach kws X.env)).any (·.1.isNone)) = false := by rfl) :
    PE X (.Call (.Name x p) [] kws pos) (fun σ H Q => tk σ H fun zs H1 => zs.length = ks.length ∧ sp (perm π zs) H1 Q (E σ)) := by
  refine ⟨fun pins s σ H Q I h => ?_⟩
  refine wpAny_Call_Name_kw (ld_glob I hg hm ?_ hdb)
  refine PySem.W.callWith_KW0 (h₀ := X.base) I.ok.mod.kin hk hall (thn (hkw.run pos pins s σ H _ I h) fun ws s1 hh => ?_) hpl
  obtain ⟨zs, H1, I1, rz, hl, q⟩ := hh
  refine ⟨I1.kIn, ?_⟩
  rw [hks]
  have r2 := Vals.perm rz π
  refine wpAny_call (codeAny_mono (F.run X.A X.stack s1 H1 ⟨[], ks.zip ws⟩ (perm π ws) (perm π zs) Q (E σ) hr I1.env0 (hb s1 ws I1.kIn (by rw [← rz.length]; exact hl)) r2 q) fun r s' hq => ?_)
  cases r with
  | error e => exact hx σ pins H1 s1 e s' I1 hq
  | ok fl =>
    cases fl with
    | ret u => exact I1.after hq
    | next => exact False.elim hq
    | brk => exact False.elim hq
    | cont => exact False.elim hq
theorem perm_length {α β : Type} (l : List α) (m : List β) (h : l.length = m.length) : ∀ π : List Nat, (perm π l).length = (perm π m).length
  | [] => rfl
  | i :: π => by
    have ih := perm_length l m h π
    unfold perm at ih ⊢
    rw [List.filterMap_cons, List.filterMap_cons]
    by_cases hi : i < l.length
    · rw [List.getElem?_eq_getElem hi, List.getElem?_eq_getElem (show i < m.length by omega)]
      simp [ih]
    · rw [List.getElem?_eq_none (by omega), List.getElem?_eq_none (by omega)]
      exact ih
theorem de_callK {ks : List Str} {kws : List Keyword} (π : List Nat) (c : Cal X.K X.mg x f fd ps) (hkb : KB X.K fd ps ks π) (F : FnOk X.prog X.w X.K X.mg X.base (L2.CX X.prog X.w) k f fd ps (spD C ps.length G)) (hr : Room k X.A) (tk : Takes X W) (ha : DK X C W kws fs)
    (hl : kws.length = ks.length := by rfl) (hl2 : (perm π ks).length = ps.length := by rfl) (hg : Gl X x := by rfl) (hall : (backToKw pos (keywordEach kws X.env)).all (·.1.isSome) = true := by rfl) (hks : (backToKw pos (keywordEach kws X.env)).filterMap (·.1) = ks := by rfl)
    (hdb : (x == ("__debug__" : Str)) = false := by decide) (hpl : ((backTo pos (starEach [] X.env)).any (·.1) || (backToKw pos (keywordEach kws X.env)).any (·.1.isNone)) = false := by rfl) : DE X C W (.Call (.Name x p) [] kws pos) (eCallK G π fs) := by
  refine ⟨pe_imp (pe_callKS F hr hg c.gm c.kp hkb (fun σ => passAt tk σ) ha.pk hall hks hdb hpl) fun σ H Q => ?_⟩
  rintro ⟨η, ρ, μ, s, o, p⟩
  refine ⟨η, ρ, μ, s, o, Post.bind' p fun ds η1 H1 μ1 eq n1 o1 p1 vs rv => ?_⟩
  have h1 : vs.length = ks.length := by rw [rv.length, ha.len _ _ _ _ eq]; exact hl
  exact ⟨h1, η1, perm π ds, μ1, by rw [perm_length vs ks h1]; exact hl2, rv.perm π, o1, PostF.of p1⟩
end
end DL
/-! An own error over ValueError (classes between them allowed) whose __init__ says super().__init__(p); self.p = p. -/
namespace PySem
namespace SupX
open PySem.W PySem.Calls PyProof.Rows PySem.HandSPX
def sA (prm : Str) (p1 p2 : Pos) : Arguments := { posonlyargs := [], args := [{ arg := "self", annotation := none, pos := p1 }, { arg := prm, annotation := none, pos := p2 }], vararg := none, kwonlyargs := [], kw_defaults := [], kwarg := none, defaults := [] }
def sCallee (q1 q2 q3 : Pos) : Expr := .Attribute (.Call (.Name "super" q1) [] [] q2) "__init__" q3
def sB (prm : Str) (q1 q2 q3 q4 q5 q6 q7 q8 q9 q10 : Pos) : List Stmt := [.Expr (.Call (sCallee q1 q2 q3) [.Name prm q4] [] q5) q6, .Assign [.Attribute (.Name "self" q7) prm q8] (.Name prm q9) q10]
def sS (prm : Str) : Scope := { kind := .function, names := [(PySem.Str.ofString "self", .local), (prm, .local), (PySem.Str.ofString "__class__", .free), (PySem.Str.ofString "super", .globalImplicit)], isGenerator := false, isCoroutine := false, more := [] }
/-- the row of super().__init__(p) is evaluated as a method's call (the places of the text tell it) -/
def EvSup (prm : Str) (q1 q2 q3 q4 q5 : Pos) : Prop := ∀ env : Env, eval (.Call (sCallee q1 q2 q3) [.Name prm q4] [] q5) env = (do
  let ov ← attributeBase (.Call (.Name "super" q1) [] [] q2) "__init__" env (eval (.Call (.Name "super" q1) [] [] q2) env)
  standAt q3.atName
  let (f, first) ← holding [ov] (getMethod ov "__init__" (do return (← importBound (.Call (.Name "super" q1) [] [] q2) env).getD true))
  callWith q5 f first (backTo q5 (starEach [.Name prm q4] env)) [])
/-- the parameter's name is an ordinary one -/
structure Prm (prm : Str) : Prop where
  loc : (sS prm).names.lookup prm = some .local
  sup : (sS prm).names.lookup ("super" : Str) = some .globalImplicit
  cls : (sS prm).names.lookup ("__class__" : Str) = some .free
  dbg : (prm == ("__debug__" : Str)) = false
  ns : ¬ prm = ("self" : Str)
  bind : ∀ (q : Str) (b : List Stmt) (kV doc pm cdv ct : Value) (an : Option Addr) (cc : Addr) (p1 p2 : Pos) (u v : Value), bindArgs (ksFn "__init__" q (sA prm p1 p2) b (sS prm) .none kV doc pm an cdv ct cc) ⟨[u, v], []⟩ = pure [(("self" : Str), u), (prm, v)]
/-- what the top has written of the class at C and its __init__ at fI; prog: the text -/
structure SupTxt (prog : Program) (K : Frag) (mg : Str → Option Value) (nmC prm : Str) (C fI : Addr) : Prop where
  pr : Prm prm
  gC : mg nmC = some (.ref C)
  cls : ∃ nm q N bs bm sn sub ab col dd k0 k1 k2 k3 k5, K.lookup C = some (excClassObj nm q C N bs bm true sn sub ab col dd k0 k1 k2 k3 k5 "ValueError.__new__") ∧ refsVE bm = true
  sa : findIn K (.ref C) "__setattr__" = some (some (.builtin "object.__setattr__"))
  ga : findIn K (.ref C) "__getattribute__" = some (some (.builtin "BaseException.__getattribute__"))
  gg : findIn K (.ref C) "__getattr__" = some none
  noN : findIn K (.ref C) prm = some none
  iC : findIn K (.ref C) "__init__" = some (some (.ref fI))
  tC : typeIn K (.ref fI) = some (.type "function")
  kC : keepIn K (.ref C) = true
  exC : subIn K (.ref C) (.type "BaseException") = some true
  tyC : typeIn K (.ref C) = some (.type "type")
  hdC : hasDictIn K C = true
  te : exmOne K (.ref C) (.ref C) = some true
  veC : subIn K (.ref C) (.type "ValueError") = some true
  mC : mroIn K C (.ref C) = some true
  suC : ks_superIn K C C "__init__" = some (some (.builtin "ValueError.__init__"))
  gsup : mg "super" = none
  opq : nsIn K cStatics "thirdparty.any" = some none
  top : (prog.main.scope.names.lookup ("super" : Str)).isSome = false
  fn : ∃ (oc : Value) (od : Option Addr) (q : Str) (kV doc pm : Value) (an : Option Addr) (cda : Addr) (ct : Value) (cc : Addr) (osl : Array (Option Value)) (p1 p2 q1 q2 q3 q4 q5 q6 q7 q8 q9 q10 : Pos) (o2 o3 : Value) (d2 d3 : Option Addr) (vs : Array Value) (s2 s3 : Array (Option Value)) (file : Str) (tf : Tok),
    EvSup prm q1 q2 q3 q4 q5 ∧ K.lookup fI = some ⟨oc, od, .func (ksFn "__init__" q (sA prm p1 p2) (sB prm q1 q2 q3 q4 q5 q6 q7 q8 q9 q10) (sS prm) .none kV doc pm an (.ref cda) ct cc), osl⟩ ∧ codeIn K (.ref cda) q = true ∧
    K.lookup cda = some ⟨o2, d2, .fields vs, s2⟩ ∧ vs[2]? = some (.str file tf) ∧ ((prog.main.file : Str) == file) = true ∧ K.lookup cc = some ⟨o3, d3, .cell (some (.ref C)), s3⟩
theorem cls_clsIn {K : Frag} {C : Addr} {nm q N bs bm hdct sn sub ab col dd k0 k1 k2 k3 k5 newId} (hC : K.lookup C = some (excClassObj nm q C N bs bm hdct sn sub ab col dd k0 k1 k2 k3 k5 newId)) :
    clsIn K C = some { name := nm, bases := bs, mro := .ref C :: bm, ns := N, qualname := q, hasDict := hdct, slotNames := sn, subclasses := sub, abstract := ab, collection := col, hasDel := false } := by unfold clsIn; rw [hC] <;> rfl
section
variable {prog : Program} {w : World} {M : Model} {A : Around} {E : Value → Shared → Prop} {h : Heap} {g : Array GenState} {d : Drawn} {t : Nat} {os : OsState}
/-- ValueError.__init__ bound to e, called -/
theorem call_mw {nm q : Str} {C N : Addr} {bs bm : List Value} {hdct : Bool} {sn : List Str} {sub : List Value} {ab : Bool} {col : Option Bool} {dd : Option Addr} {k0 k1 k2 k3 k5 : Option Value} {u e t0 : Addr} {rest : List Value} {Q : Value → Shared → Prop}
    (hC : h.get? C = some (excClassObj nm q C N bs bm hdct sn sub ab col dd k0 k1 k2 k3 k5 "ValueError.__new__")) (he : h.get? e = some (excO C t0)) (hu : h.get? u = some (kxs_mw "ValueError.__init__" e)) (hrest : rest.length ≤ sizeLine)
    (hq : ∀ h' t1, (∀ b o, b ≠ e → h.get? b = some o → h'.get? b = some o) → h'.get? e = some (excO C t1) → Q .none ⟨h', g, d, t, os⟩) :
    wpAny (model prog w) A (call (.ref u) rest) Q E ⟨h, g, d, t, os⟩ := by
  refine wpAny_call (codeAny_of_tree ?_)
  show wpAny _ A.in1 (callAny (.ref u) ⟨rest, []⟩) _ _ _
  simp only [callAny]
  refine wpAny_bind (wpAny_load hu ?_)
  simp only [kxs_mw, show (Value.type "method-wrapper" == Value.type "method" || Value.type "method-wrapper" == Value.type "builtin_function_or_method" || Value.type "method-wrapper" == Value.type "method-wrapper") = true by decide, if_true]
  refine KFB.if_so (by decide) ?_
  refine wpAny_bind (check_bound_init F.excBase_ValueError.toExcCallFacts hC he rfl ?_)
  refine wpAny_bind (wpAny_pure (wpAny_pure ?_))
  refine ⟨plainId_quiet F.excBase_ValueError.init.plain _, codeAny_builtin F.excBase_ValueError.initEntry ?_⟩
  exact exc_init_tree (cls := .ref C) (t0 := t0) (dv := none) (c2 := .none) (c3 := .none) (b4 := .bool false) he hrest fun h' k e' _ => hq h' _ k e'
end
/-- what __init__ leaves of a fresh error at x -/
structure SupEnd (prm : Str) (h h' : Heap) (x C dx t1 : Addr) (v : Value) : Prop where
  keep : ∀ b o, b ≠ x → h.get? b = some o → h'.get? b = some o
  obj : h'.get? x = some { cls := .ref C, dict := some dx, data := .fields #[.ref t1, .none, .none, .none, .bool false, .none] }
  dbig : h.objs.size ≤ dx
  dne : dx ≠ x
  ns : h'.Ns1 dx (fun y => if y = prm then some v else none)
section
variable {prog : Program} {w : World} {A : Around} {R : Result → Shared → Prop} {s : Shared} {K : Frag} {mg mb : Str → Option Value} {nmC prm : Str} {C fI : Addr}
theorem sup_init (T : SupTxt prog K mg nmC prm C fI) {x t0 : Addr} {v : Value} (X : K.In s.heap) (hg : s.heap.Ns mainGlobals mg) (hb : s.heap.Ns builtinsNs mb) (hbb : mb "super" = some (.type "super")) (hlim : s.heap.NoLimit) (hx : s.heap.get? x = some (excO C t0)) (hnx : K.lookup x = none) (hroom : A.depth < recursionLimit)
    (hq : ∀ h' tk dx t1, SupEnd prm s.heap h' x C dx t1 v → R (.ok (.ret .none)) { s with heap := h', toks := tk }) :
    codeAny (model prog w) A (.call (.ref fI) ⟨[.ref x, v], []⟩) R s := by
  obtain ⟨oc, od, q, kV, doc, pm, an, cda, ct, cc, osl, p1, p2, q1, q2, q3, q4, q5, q6, q7, q8, q9, q10, o2, o3, d2, d3, vs, s2, s3, file, tf, hev, ho, hcd, hcda, hvs, hfile, hcc⟩ := T.fn
  obtain ⟨nm, qn, N, bs, bm, sn, sub, ab, col, dd, k0, k1, k2, k3, k5, hC, hbm⟩ := T.cls
  have hcl := cls_clsIn hC
  have hp := T.pr
  refine ks_codeAny_call_defAt (binds := [(("self" : Str), .ref x), (prm, v)]) hroom (X _ _ ho) rfl hlim (codeRec_of X hcd) rfl (BindsTo.of_eq (hp.bind ..)) ?_ ?_ (fun h₀ hns k => ?_)
  · intro y hy
    have hy : y ∈ (sS prm).names := hy
    simp only [sS, List.mem_cons, List.not_mem_nil, or_false] at hy
    rcases hy with rfl | rfl | rfl | rfl <;> (intro z; cases z)
  · intro y hy
    simp only [List.mem_cons, List.not_mem_nil, or_false] at hy
    rcases hy with rfl | rfl
    · show (sS prm).names.lookup ("self" : Str) = _
      simp [sS, List.lookup]
    · exact hp.loc
  -- the frame
  have hL : s.heap.get? s.heap.objs.size = none := Heap.get?_none_of_le (Nat.le_refl _)
  have X₀ : K.In h₀ := X.keeps k
  have hx₀ := k _ _ hx
  have look_self : (([(("self" : Str), Value.ref x), (prm, v)] : List (Str × Value)).reverse.lookup ("self" : Str)) = some (.ref x) := by
    have : (("self" : Str) == prm) = false := by simpa using fun e => hp.ns e.symm
    simp [List.lookup, this]
  have look_prm : (([(("self" : Str), Value.ref x), (prm, v)] : List (Str × Value)).reverse.lookup prm) = some v := by simp [List.lookup]
  show wpAt _ _ _ (execs (sB prm q1 q2 q3 q4 q5 q6 q7 q8 q9 q10) _) _ _ _
  unfold sB
  refine ks_wpAt_execs_cons (ks_wpAt_Expr_any ?_ rfl rfl)
  refine ks_wpAt_MethodCall ?_ (hev _)
  refine ks_wpAt_super_base (f := fI) (cc := cda) (ar := { arg := "self", annotation := none, pos := p1 }) hp.sup hp.cls (by decide) rfl (X₀ _ _ ho) rfl rfl rfl (X₀ _ _ hcda) rfl hvs hfile T.top ?_
  refine ks_loadName_global rfl hp.sup (loadGlobal_builtin (hg.keeps k) T.gsup (hb.keeps k) hbb ⟨rfl, ?_⟩)
  refine wpAny_loadName_free rfl hp.cls rfl ⟨_, X₀ _ _ hcc, rfl⟩ ?_
  refine wpAny_loadName_local (m := fun y => ([(("self" : Str), Value.ref x), (prm, v)] : List (Str × Value)).reverse.lookup y) rfl (by show (sS prm).names.lookup ("self" : Str) = _; simp [sS, List.lookup]) hns look_self ?_
  refine ks_wpAny_isType_cls (X₀ _ _ hC) rfl ⟨rfl, ?_⟩
  refine ks_wpAny_call_super (X₀ _ _ hC) rfl hx₀ rfl (fun c e => by cases e) (looks_mroIn X₀ T.mC) (fun h1 e1 kk1 => ?_)
  -- super().__init__
  have X1 : K.In h1 := X₀.keeps kk1
  have I1 : InstAt h1 x (excO C t0) C none := ⟨kk1 _ _ hx₀, rfl, rfl, trivial⟩
  refine kxs_getMethod (i := "ValueError.__init__") (B := "ValueError") kxs_ValueError e1 (looks_opaque X1 T.opq) (l₀ := .ref C :: bm) ((looks_clsIn X1 hcl).andThen .now) rfl X1 ?_ (I1.type.andThen (looks_subIn X1 T.veC)) (ks_ne X1 I1 hcl) (by decide) ?_
  · have := T.suC
    unfold ks_superIn at this
    rw [hcl] at this
    exact this
  have hmw : (h1.push (kxs_mw "ValueError.__init__" x)).get? h1.objs.size = some (kxs_mw "ValueError.__init__" x) := Heap.get?_push_at rfl rfl
  have k2 : ∀ b o, h₀.get? b = some o → (h1.push (kxs_mw "ValueError.__init__" x)).get? b = some o := fun b o e => Heap.get?_push_of_some _ (kk1 b o e)
  show wpAny _ _ (callWith q5 (.ref h1.objs.size) [] (backTo q5 (starEach [.Name prm q4] _)) []) _ _ _
  refine kxs_callWith (i := "ValueError.__init__") (x := x) rfl (evalArgs_plain (spliced_cons ?_))
  refine wpAny_Name (wpAny_loadName_local rfl hp.loc (hns.keeps k2) look_prm ?_) hp.dbg
  refine spliced_nil ⟨hmw, ?_⟩
  refine call_mw (rest := [v]) (t0 := t0) (k2 _ _ (X₀ _ _ hC)) (k2 _ _ hx₀) hmw (by show 1 ≤ sizeLine; rw [sizeLine_eq]; omega) (fun h3 t1 k3 hx3 => ?_)
  -- self.p = p
  have xL : s.heap.objs.size ≠ x := Nat.ne_of_gt (Heap.lt_size hx)
  have hL0 : s.heap.objs.size < h₀.objs.size := hns.lt
  have ns3 : h3.Ns s.heap.objs.size (fun y => ([(("self" : Str), Value.ref x), (prm, v)] : List (Str × Value)).reverse.lookup y) := by
    obtain ⟨oL, es, ep, hL, r⟩ := hns.keeps k2
    exact ⟨oL, es, ep, k3 _ _ xL hL, r⟩
  have xC : C ≠ x := Ne.symm (ks_ne X1 I1 hcl)
  have X3 : K.In h3 := fun b o e => k3 b o (fun z => by
    rw [z, hnx] at e
    cases e) (k2 _ _ (X₀ _ _ e))
  refine wpAt_of_wpAny (wpAny_execs_cons (plainObj_wpAny_Assign_Attribute ?_))
  refine wpAny_Name (wpAny_loadName_local rfl hp.loc ns3 look_prm ?_) hp.dbg
  refine wpAny_Name (wpAny_loadName_local rfl (by show (sS prm).names.lookup ("self" : Str) = _; simp [sS, List.lookup]) ns3 look_self ?_) (by decide)
  refine set_plain X3 (ox := excO C t1) (od := none) ⟨hx3, rfl, rfl, trivial⟩ T.sa ?_
  refine exc_osa X3 hx3 hcl (show refsVE (.ref C :: bm) = true from hbm) rfl T.noN (fun h4 tk4 dx k4 dn dne hx4 hn4 => ?_)
  refine wpAny_execs_nil (hq h4 tk4 dx t1 ⟨fun b o hb e => k4 b o hb (k3 b o hb (k2 b o (k b o e))), hx4, Nat.le_trans (Nat.le_of_lt ns3.lt) dn, dne, hn4⟩)
/-- a made error: its own dict holds its field -/
structure SupMade (prm : Str) (h h' : Heap) (e C d : Addr) (v : Value) : Prop where
  keep : ∀ b o, h.get? b = some o → h'.get? b = some o
  new : h.objs.size ≤ e
  obj : ∃ oe vs, h'.get? e = some oe ∧ oe.cls = .ref C ∧ oe.dict = some d ∧ oe.data = .fields vs ∧ vs[1]? = some .none
  dbig : h.objs.size ≤ d
  dne : d ≠ e
  ns : h'.Ns1 d (fun y => if y = prm then some v else none)
theorem sup_made (T : SupTxt prog K mg nmC prm C fI) {v : Value} (X : K.In s.heap) (hg : s.heap.Ns mainGlobals mg) (hb : s.heap.Ns builtinsNs mb) (hbb : mb "super" = some (.type "super")) (hlim : s.heap.NoLimit) (hroom : A.depth + 1 < recursionLimit)
    (hq : ∀ h' tk e d, SupMade prm s.heap h' e C d v → R (.ok (.ret (.ref e))) { s with heap := h', toks := tk }) :
    codeAny (model prog w) A (.call (.ref C) ⟨[v], []⟩) R s := by
  obtain ⟨nm, q, N, bs, bm, sn, sub, ab, col, dd, k0, k1, k2, k3, k5, hC, hbm⟩ := T.cls
  obtain ⟨hp, g, dr, tk, os⟩ := s
  have k : ∀ b o, hp.get? b = some o → ((hp.push (kdv_tup [v])).push (excO C hp.objs.size)).get? b = some o := fun b o e => Heap.get?_push_of_some _ (Heap.get?_push_of_some _ e)
  have hget : ((hp.push (kdv_tup [v])).push (excO C hp.objs.size)).get? (hp.objs.size + 1) = some (excO C hp.objs.size) := by heap_get
  have hnx : K.lookup (hp.objs.size + 1) = none := by
    cases e : K.lookup (hp.objs.size + 1) with
    | none => rfl
    | some o =>
      have z : hp.get? (hp.objs.size + 1) = some o := X _ _ e
      exact absurd (Nat.lt_of_succ_lt (Heap.lt_size z)) (Nat.lt_irrefl _)
  have h1 : ([v] : List Value).length ≤ sizeLine := by rw [sizeLine_eq]; exact (by decide : 1 ≤ 16777216)
  refine call_own F.excBase_ValueError (fun X => refsVE_contains X bm hbm) (X _ _ hC) (looks_findIn X T.iC) (fun self => bind_fn X self T.tC) h1 ?_
  refine sup_init (s := ⟨(hp.push (kdv_tup [v])).push (excO C hp.objs.size), g, dr, tk, os⟩) T (X.keeps k) (hg.keeps k) (hb.keeps k) hbb (hlim.keeps k) hget hnx ?_ fun h' tk' dx t1 ⟨k', hx, dn, dne, hns⟩ => ?_
  · show A.depth + 1 < recursionLimit
    exact hroom
  · have old : ∀ b o, hp.get? b = some o → h'.get? b = some o := fun b o e => k' b o (Nat.ne_of_lt (Nat.lt_succ_of_lt (Heap.lt_size e))) (k b o e)
    have z : hp.objs.size + 1 + 1 ≤ dx := by
      first
        | (simpa only [Heap.size_push] using dn)
        | exact dn
        | (have q := dn; rw [Heap.size_push, Heap.size_push] at q; exact q)
    exact ⟨rfl, hq h' tk' (hp.objs.size + 1) dx ⟨old, Nat.le_succ _, ⟨_, _, hx, rfl, rfl, rfl, rfl⟩, Nat.le_trans (Nat.le_trans (Nat.le_succ _) (Nat.le_succ _)) z, dne, hns⟩⟩
end
end SupX
end PySem
namespace DL
open PySem PySem.Spec PyProof.Rows L2
/-- facts of a written class of errors, as number c of the frame -/
structure Xc (C : Cc) (prog : Program) (mg : Str → Option Value) (c : Nat) (nmC : Str) (fI : Addr) : Prop where
  txt : SupX.SupTxt prog C.K mg nmC (C.xf c) (C.xc c) fI
section
variable {X : Cx} {C : Cc} {W : WX} {a e : Expr} {pos p pos2 : Pos} {f fa : FE D} {fs : FE (List D)} {c : Nat} {nmC : Str} {fI : Addr} {k : Nat}
theorem relO_one {prm : Str} {v : V} {v' : Value} (r : RelV v v') (f : Str) : RelO (List.lookup f [(prm, v)]) (if f = prm then some v' else none) := by
  by_cases hw : f = prm
  · subst hw
    rw [if_pos rfl]
    have q : List.lookup f [(f, v)] = some v := by simp [List.lookup]
    rw [q]
    exact r
  · rw [if_neg hw]
    have qw : (f == prm) = false := by simpa using hw
    have q2 : List.lookup f [(prm, v)] = none := by simp [List.lookup, qw]
    rw [q2]
    trivial
/-- C(e), an error made -/
def tMkX (C : Addr) (prm : Str) (te : TE) : L2.St → Hp → XK → Prop := fun σ H Q => te σ H fun x H1 => ∃ v, [x] = [v] ∧ ∀ d, H1 d = none → Q (.ref C) (some d) (upd H1 d (.xd [(prm, v)]))
theorem pmk_sup {te : TE} (T : SupX.SupTxt X.prog X.K X.mg nmC (C.xf c) (C.xc c) fI) (hr : Room k X.A) (ha : PE X a te) (hg : Gl X nmC := by rfl) (hdb : (nmC == ("__debug__" : Str)) = false := by decide)
    (he : starEach (a :: []) X.env = (false, eval a X.env) :: starEach [] X.env := by rfl) (hpl : (backTo pos (starEach [] X.env)).any (·.1) = false := by rfl) :
    PMk X (.Call (.Name nmC p) [a] [] pos) (tMkX (C.xc c) (C.xf c) te) := by
  intro pins s σ H Q I h
  refine wpAny_Call_Name_kw (ld_glob I hg T.gC ?_ hdb)
  have hpa : PA X [a] (tCons te tNil) := L2.pa_cons ha L2.pa_nil he
  refine PySem.W.callWith_K (h₀ := X.base) I.ok.mod.kin T.kC (thn (hpa.run pos pins s σ H (fun vs H1 => ∃ v, vs = [v] ∧ ∀ d, H1 d = none → Q (.ref (C.xc c)) (some d) (upd H1 d (.xd [(C.xf c, v)]))) I ?_) fun us s1 hh => ?_) he hpl
  · exact h
  obtain ⟨vs, H1, I1, r1, v, ev, q1⟩ := hh
  subst ev
  refine ⟨I1.kIn, ?_⟩
  cases r1 with
  | cons rv rn =>
    rename_i v' us'
    cases rn
    show wpAny _ _ (call (.ref (C.xc c)) [v']) _ _ _
    have hlim := I1.nolimit
    obtain ⟨mb, hb, hbb⟩ := I1.ok.mod.blt
    have hgl : s1.heap.Ns mainGlobals X.mg := I1.ok.mod.glob.keeps I1.bk
    have hbl : s1.heap.Ns builtinsNs mb := hb.keeps I1.bk
    have hsup : mb "super" = some (.type "super") := (hbb "super" (by decide)).trans (by decide +kernel)
    obtain ⟨hp, g, dr, tk, os⟩ := s1
    refine wpAny_call (SupX.sup_made T I1.kIn hgl hbl hsup hlim (by have := hr.dp; omega) fun h' tk' e d M => ?_)
    show MkP X pins σ Q (.ref e) ⟨h', g, dr, tk', os⟩
    obtain ⟨oe, fv, hoe, hc, hd, hdat, h1⟩ := M.obj
    have hns := M.ns
    obtain ⟨G', g1, g2⟩ := restrict h' fun b => decide (b ≠ e)
    have gk : ∀ b, b ≠ e → G'.get? b = h'.get? b := fun b hb => g1 b (decide_eq_true hb)
    have ge : G'.get? e = none := g2 e (by simp)
    have old : ∀ b o, hp.get? b = some o → G'.get? b = some o := fun b o q => (gk b (Nat.ne_of_lt (Nat.lt_of_lt_of_le (Heap.lt_size q) M.new))).trans (M.keep b o q)
    have ob : ObjOk X.prog X.w (upd H1 d (.xd [(C.xf c, v)])) G' d (.xd [(C.xf c, v)]) :=
      ⟨_, hns.at (fun o q => (gk d M.dne).trans q), fun f => relO_one rv f⟩
    have J : Inv X pins σ (upd H1 d (.xd [(C.xf c, v)])) ⟨G', g, dr, tk', os⟩ := I1.laid (t' := tk') old M.dbig ob
    refine ⟨e, oe, fv, ⟨G', g, dr, tk', os⟩, _, .ref (C.xc c), some d, rfl, J, fun b o q => ?_, ge, hoe, ⟨hc, hd⟩, hdat, h1, ?_, rfl, I1.bare, raises_own T.exC T.tyC, q1 d (I1.hok.fresh M.dbig)⟩
    · by_cases hb : b = e
      · have q' : G'.get? b = some o := q
        rw [hb, ge] at q'; cases q'
      · exact (gk b hb).symm.trans q
    · rw [upd_ne (Ne.symm M.dne)]
      exact I1.hok.fresh M.new
/-- raise C(e) -/
def sRaise (c : Nat) (fa : FE D) : FS := fun ρ μ => (fa ρ μ).st ρ fun d μ1 => .ex c d ρ μ1
theorem ds_raise (T : SupX.SupTxt X.prog X.K X.mg nmC (C.xf c) (C.xc c) fI) (hr : Room k X.A) (tk : Takes X W) (ha : DE X C W a fa) (hc : X.calm = true := by rfl) (hg : Gl X nmC := by rfl) (hdb : (nmC == ("__debug__" : Str)) = false := by decide)
    (he : starEach (a :: []) X.env = (false, eval a X.env) :: starEach [] X.env := by rfl) (hpl : (backTo pos (starEach [] X.env)).any (·.1) = false := by rfl) :
    DS X C W (.Raise (some (.Call (.Name nmC p) [a] [] pos)) none pos2) (sRaise c fa) := by
  refine ⟨ps_imp (ps_raise hc tk (pmk_sup (C := C) (c := c) T hr ha.pe hg hdb he hpl)) fun E σ H => ?_⟩
  rintro ⟨η, ρ, μ, s, o, p⟩
  refine ⟨η, ρ, μ, s, o, PostS.bindE s p fun d η1 H1 μ1 n1 o1 s1 p1 v rv => ⟨v, rfl, fun q hq => ?_⟩⟩
  have sm := Same.new (o := HO.xd [(C.xf c, v)]) hq
  exact p1 η1 _ σ _ _ (Same.nxt sm) (o1.same sm) (s1.mono (Same.nxt sm)) ⟨rfl, q, v, rfl, upd_same, rv.mono (Same.nxt sm)⟩
end
end DL
namespace DL
open PySem PySem.Spec PyProof.Rows L2

/-! ### a mutable object is written -/
structure MutO (o : HO) : Prop where
  tbl : ∀ ps, o ≠ .tbl ps
  code : ∀ c q, o ≠ LamX.CodeO c q
  tup : ∀ xs, o ≠ .tup xs
  frz : ∀ ob u, o ≠ .frz ob u
section
variable {C : Cc} {η : Nm} {H : Hp} {μ : Sto}
theorem NRaw_code (w : World) (a : Addr) (xs : List (NestedKey × Addr × V)) (c : Addr) (q : Str) : NRaw w a xs ≠ LamX.CodeO c q := fun z => by
  have z' := HO.ext.inj z
  let o : Obj := { cls := .none, data := .fields #[.none, .str q default] }
  let h : Heap := { objs := Array.replicate (c + 1) o }
  have hg : ∀ b x, h.get? b = some x → x = o := fun b x e => by
    unfold Heap.get? at e
    split at e
    · cases e
    · have e' : (Array.replicate (c + 1) o)[b]? = some x := e
      rw [Array.getElem?_replicate] at e'
      split at e'
      · exact (Option.some.inj e').symm
      · cases e'
  have hc : h.get? c = some o := by
    unfold Heap.get?
    have : h.objs[c]? = some o := by
      show (Array.replicate (c + 1) o)[c]? = some o
      rw [Array.getElem?_replicate, if_pos (Nat.lt_succ_self c)]
    rw [this]
  have hb := congrFun z' h
  have hp : ∃ (oc : Obj) (vs : Array Value) (t : Tok), h.get? c = some oc ∧ oc.data = .fields vs ∧ vs[1]? = some (.str q t) := ⟨o, _, _, hc, rfl, rfl⟩
  rw [← hb] at hp
  obtain ⟨_, _, ys, _, o2, es, e2, _, e3, _⟩ := hp
  rw [hg _ _ e2] at e3
  cases e3
theorem RepO.mut {a : Addr} {o : HO} {m : DO} (h : RepO C η H a o m) : MutO o := by
  cases h <;> exact ⟨fun _ z => (by first | (cases z; done) | (unfold NRaw at z; cases z)), fun c q z => (by first | exact NRaw_code _ _ _ _ _ z | (unfold LamX.CodeO at z; cases z)), fun _ z => (by first | (cases z; done) | (unfold NRaw at z; cases z)), fun _ _ z => (by first | (cases z; done) | (unfold NRaw at z; cases z))⟩
theorem Nxt.put {a : Addr} {o u : HO} (h : H a = some o) (mo : MutO o) (mu : MutO u) (ha : a ∈ η.o) : Nxt C η H η (upd H a u) := by
  refine ⟨List.prefix_refl _, rfl, fun b o' hb nb t => ?_, fun b xs hb => ?_, fun b ob w hb => ?_, fun b hb nb => absurd hb nb, fun b o' hb t => ?_⟩
  · rw [upd_ne (fun z => nb (by rw [z]; exact ha))]; exact hb
  · rw [upd_ne (fun z => mo.tup xs (by rw [z, h] at hb; exact Option.some.inj hb))]; exact hb
  · rw [upd_ne (fun z => mo.frz ob w (by rw [z, h] at hb; exact Option.some.inj hb))]; exact hb
  · by_cases z : b = a
    · exact ⟨u, by rw [z, upd_same], mu.tbl⟩
    · exact ⟨o', by rw [upd_ne z]; exact hb, t⟩
theorem Ok.put (ok : Ok C η H μ) {n : Nat} {a : Addr} {m m0 : DO} {u : HO} (h1 : η.o[n]? = some a) (h2 : μ[n]? = some m0) (r : RepO C η H a u m) : Ok C η (upd H a u) (μ.set n m) ∧ Nxt C η H η (upd H a u) := by
  obtain ⟨o, ho, ro⟩ := ok.get h1 h2
  have hm : a ∈ η.o := List.mem_iff_getElem?.mpr ⟨n, h1⟩
  have mo := ro.mut
  have mu := r.mut
  have nx : Nxt C η H η (upd H a u) := Nxt.put ho mo mu hm
  refine ⟨⟨ok.nd, by rw [List.length_set]; exact ok.len, fun n' a' m' e1 e2 => ?_, fun b hb => ?_, Tabs.wr ho mo.tbl mo.code ok.tab⟩, nx⟩
  · by_cases hn : n = n'
    · subst hn
      rw [h1] at e1
      cases e1
      rw [List.getElem?_set_self (List.getElem?_eq_some_iff.mp h2).1] at e2
      cases e2
      exact ⟨u, upd_same, r.mono nx⟩
    · rw [List.getElem?_set_ne hn] at e2
      have ha : a' ≠ a := fun z => by
        subst z
        have l1 := (List.getElem?_eq_some_iff.mp h1).1
        have l2 := (List.getElem?_eq_some_iff.mp e1).1
        have q : η.o[n] = η.o[n'] := by
          rw [(List.getElem?_eq_some_iff.mp h1).2, (List.getElem?_eq_some_iff.mp e1).2]
        have pw := List.pairwise_iff_getElem.mp ok.nd
        rcases Nat.lt_or_gt_of_ne hn with z | z
        · exact pw n n' l1 l2 z q
        · exact pw n' n l2 l1 z q.symm
      obtain ⟨o', h, r'⟩ := ok.at_ n' a' m' e1 e2
      exact ⟨o', by rw [upd_ne ha]; exact h, r'.mono nx⟩
  · by_cases z : b = a
    · exact ⟨u, by rw [z, upd_same], mu.tbl⟩
    · obtain ⟨o', h, t⟩ := ok.hid b hb
      exact ⟨o', by rw [upd_ne z]; exact h, t⟩
/-- the store is written, then the value stands -/
theorem Post.put {α : Type} {W : WX} {σ} {P : α → Nm → Hp → Sto → Prop} {x : α} {n : Nat} {a : Addr} {m m0 : DO} {u : HO} (ok : Ok C η H μ) (h : Post C W η H σ P (.ok x (μ.set n m))) (h1 : η.o[n]? = some a) (h2 : μ[n]? = some m0) (r : RepO C η H a u m) : P x η (upd H a u) (μ.set n m) := by
  obtain ⟨o', nx⟩ := ok.put h1 h2 r
  exact h η _ nx o'
end

section
variable {X : Cx} {C : Cc} {W : WX} {e a b i o : Expr} {es : List Expr} {pos apos cpos : Pos} {f fa fb fo fi fv fx : FE D} {fs : FE (List D)}
/-! ### isinstance -/
def tyD (μ : Sto) : D → Option String
  | .non => some "NoneType"
  | .bl _ => some "bool"
  | .int _ => some "int"
  | .str _ => some "str"
  | .tup _ => some "tuple"
  | .lst _ => some "list"
  | .frz _ => some "list"
  | .obj n => match μ[n]? with | some (.lst _) => some "list" | some (.dk _) => some "dict" | some (.dt _) => some "dict" | _ => none
theorem tyD_obj (μ : Sto) (n : Nat) : tyD μ (.obj n) = match μ[n]? with | some (.lst _) => some "list" | some (.dk _) => some "dict" | some (.dt _) => some "dict" | _ => none := by rw [tyD]
theorem tyx_of {η : Nm} {H : Hp} {μ : Sto} (ok : Ok C η H μ) {x : V} {d : D} {t : String} (r : Rep C η H x d) (h : tyD μ d = some t) : TyX C.K H x (.type t) := by
  cases r with
  | non => cases h; exact .base .non
  | bl b => cases h; exact .base (.bl b)
  | int i => cases h; exact .base (.int i)
  | str y => cases h; exact .base (.str y)
  | tup h1 h2 =>
    cases h
    rcases h1 with (h1 | ⟨ob, h1⟩) | ⟨ob, its, n, h1, h3, _⟩
    · exact .base (.tup h1)
    · exact .fTuple h1
    · exact .kTuple h1 h3
  | lst h1 _ _ h2 => cases h; exact .base (.lst h1)
  | frz h1 h2 =>
    cases h
    rcases h1 with ⟨ob, h1⟩ | ⟨ob, its, n, h1, h3, _⟩
    · exact .base (.frz h1)
    · exact .kList h1 h3
  | @obj p n h1 =>
    rw [tyD_obj] at h
    split at h
    · rename_i z
      cases h
      obtain ⟨vs, h2, _⟩ := ok.lst h1 z
      exact .base (.lst h2)
    · rename_i z
      cases h
      obtain ⟨ob, h2, h3⟩ := ok.get h1 z
      cases h3 with
      | dk h3 => exact .base (.dK h2)
    · rename_i z
      cases h
      obtain ⟨ob, h2, h3⟩ := ok.get h1 z
      cases h3 with
      | dt h3 => exact .base (.dT h2)
    · cases h
def isiB (a b : String) : Bool := a == b || (a == "bool" && b == "int")
def eIsi (T : String) (fa : FE D) : FE D := fun ρ μ => (fa ρ μ).bind fun d μ1 => match tyD μ1 d with | some t => .ok (.bl (isiB t T)) μ1 | none => .bad
theorem tyD_in {μ : Sto} {d : D} {t : String} (h : tyD μ d = some t) : t ∈ ["NoneType", "bool", "int", "str", "tuple", "list", "dict"] := by
  cases d with
  | obj n =>
    rw [tyD_obj] at h
    split at h <;> cases h <;> simp
  | _ => cases h <;> simp
def isiOk (T : String) : Prop := ∀ t ∈ ["NoneType", "bool", "int", "str", "tuple", "list", "dict"], kitB t T = some (isiB t T)
theorem isi_int : isiOk "int" := by unfold isiOk; decide +kernel
theorem isi_bool : isiOk "bool" := by unfold isiOk; decide +kernel
theorem isi_str : isiOk "str" := by unfold isiOk; decide +kernel
theorem isi_tuple : isiOk "tuple" := by unfold isiOk; decide +kernel
theorem isi_list : isiOk "list" := by unfold isiOk; decide +kernel
theorem isi_dict : isiOk "dict" := by unfold isiOk; decide +kernel
theorem de_isi {x : Str} {T : String} {p pT : Pos} (hk : isiOk T) (hm : X.mg "isinstance" = none) (hmT : X.mg x = none) (hvT : bootBuiltins x = some (.type T)) (ha : DE X C W e fa) (hK : X.K = C.K := by rfl) (hg : Gl X "isinstance" := by rfl) (hgT : Gl X x := by rfl) (hnT : x ≠ "__name__" := by decide) (hdT : (x == ("__debug__" : Str)) = false := by decide)
    (he : starEach [e, .Name x pT] X.env = (false, eval e X.env) :: starEach [.Name x pT] X.env := by rfl) (he2 : starEach [.Name x pT] X.env = (false, eval (.Name x pT) X.env) :: starEach [] X.env := by rfl) (hpl : (backTo pos (starEach [.Name x pT] X.env)).any (·.1) = false := by rfl) :
    DE X C W (.Call (.Name "isinstance" p) [e, .Name x pT] [] pos) (eIsi T fa) := by
  have hp : PA X [e, .Name x pT] (tCons (tD C W fa) (tCons (tC (.ty T)) tNil)) := L2.pa_cons ha.pe (L2.pa_cons (pe_bltn hgT hmT hvT rfl hnT hdT) L2.pa_nil he2) he
  refine ⟨pe_imp (pe_callB call_isi hg hm (by decide +kernel) hp (by decide) (by decide) he hpl) fun σ H Q => ?_⟩
  rintro ⟨η, ρ, μ, s, o, p⟩
  refine ⟨η, ρ, μ, s, o, Post.bind p fun d η1 H1 μ1 n1 o1 p1 v rv => ?_⟩
  cases ht : tyD μ1 d with
  | none => simp only [ht] at p1; exact p1.elim
  | some t =>
    simp only [ht] at p1
    exact ⟨v, .ty T, .type t, .type T, isiB t T, rfl, .ty T, by rw [hK]; exact tyx_of o1 rv ht, kit_ty (hk t (tyD_in ht)), p1.now o1 _ (.bl _)⟩

/-! ### methods of built-ins -/
structure MC (X : Cx) (C : Cc) (id : String) (g : D → List D → Sto → R D) : Prop where
  ex : ∃ r, MtR X id r ∧ ∀ (W : WX) η H μ σ Q x xs d ds, Ok C η H μ → Rep C η H x d → Reps C η H xs ds → Post C W η H σ (PV C Q) (g d ds μ) → r x xs H Q
def tyvD (T : String) (μ : Sto) : D → Bool
  | .str _ => T == "str"
  | .int _ => T == "int"
  | .lst _ => T == "list"
  | .frz _ => T == "list"
  | .obj n => match μ[n]? with | some (.lst _) => T == "list" | some (.dk _) => T == "dict" | some (.dt _) => T == "dict" | _ => false
  | _ => false
theorem tyvD_obj (T : String) (μ : Sto) (n : Nat) : tyvD T μ (.obj n) = match μ[n]? with | some (.lst _) => T == "list" | some (.dk _) => T == "dict" | some (.dt _) => T == "dict" | _ => false := by rw [tyvD]
theorem tyv_of {η : Nm} {H : Hp} {μ : Sto} {T : String} (ok : Ok C η H μ) {x : V} {d : D} (r : Rep C η H x d) (h : tyvD T μ d = true) : tyV C.K T x H := by
  cases r with
  | str y => exact eq_of_beq h
  | int y => exact eq_of_beq h
  | lst h1 _ _ h2 => exact .inl ⟨eq_of_beq h, _, .of h1⟩
  | frz h1 h2 => exact .inl ⟨eq_of_beq h, _, h1.sq⟩
  | @obj p n h1 =>
    rw [tyvD_obj] at h
    split at h
    · rename_i z
      obtain ⟨vs, h2, _⟩ := ok.lst h1 z
      exact .inl ⟨eq_of_beq h, vs, .of h2⟩
    · rename_i z
      obtain ⟨ob, h2, h3⟩ := ok.get h1 z
      cases h3 with
      | dk h3 => exact .inr (.inr (.inl ⟨eq_of_beq h, .inl ⟨_, h2⟩⟩))
    · rename_i z
      obtain ⟨ob, h2, h3⟩ := ok.get h1 z
      cases h3 with
      | dt h3 => exact .inr (.inr (.inl ⟨eq_of_beq h, .inr ⟨_, h2⟩⟩))
    · cases h
  | _ => cases h
def eMeth (T : String) (g : D → List D → Sto → R D) (fo : FE D) (fs : FE (List D)) : FE D := fun ρ μ => (fo ρ μ).bind fun d μ1 => if tyvD T μ1 d = true then (fs ρ μ1).bind fun ds μ2 => g d ds μ2 else .bad
variable {T id : String} {name : Str} {g : D → List D → Sto → R D}
theorem de_meth (mc : MC X C id g) (pa : PlainAttrs T) (slot : Slot T name id) (hty : typeOf (.builtin id) = pure (.type "method_descriptor")) (ho : DE X C W o fo) (ha : DA X C W (e :: es) fs) (hK : X.K = C.K := by rfl)
    (hbase : attributeBase o name X.env (eval o X.env) = eval o X.env := by rfl)
    (hfew : ((backTo cpos (starEach (e :: es) X.env)).all (fun x => !x.1) && (backToKw cpos (keywordEach [] X.env)).all (fun x => x.1.isSome)
      && decide ((e :: es).length + ([] : List Keyword).length + (if ([] : List Keyword).isEmpty then 0 else 1) < 30)) = true := by rfl)
    (hline : (apos.endLine == cpos.line) = true := by rfl) (hs : starEach (e :: es) X.env = (false, eval e X.env) :: starEach es X.env := by rfl) (hplain : (backTo cpos (starEach es X.env)).any (·.1) = false := by rfl) :
    DE X C W (.Call (.Attribute o name apos) (e :: es) [] cpos) (eMeth T g fo fs) := by
  obtain ⟨r, hr, hq⟩ := mc.ex
  refine ⟨pe_imp (pe_bm pa slot hty hr ho.pe ha.pa hbase hfew hline hs hplain) fun σ H Q => ?_⟩
  rintro ⟨η, ρ, μ, s, o, p⟩
  refine ⟨η, ρ, μ, s, o, Post.bind p fun d η1 H1 μ1 n1 o1 p1 v rv => ?_⟩
  split at p1
  · rename_i ht
    exact ⟨by rw [hK]; exact tyv_of o1 rv ht, η1, ρ, μ1, s.mono n1, o1, Post.bind p1 fun ds η2 H2 μ2 n2 o2 p2 xs rx => hq W η2 H2 μ2 σ Q v xs d ds o2 (rv.mono n2) rx p2⟩
  · exact p1.elim
def eMeth0 (T : String) (g : D → List D → Sto → R D) (fo : FE D) : FE D := fun ρ μ => (fo ρ μ).bind fun d μ1 => if tyvD T μ1 d = true then g d [] μ1 else .bad
theorem de_meth0 (mc : MC X C id g) (pa : PlainAttrs T) (slot : Slot T name id) (hty : typeOf (.builtin id) = pure (.type "method_descriptor")) (ho : DE X C W o fo) (hK : X.K = C.K := by rfl)
    (hbase : attributeBase o name X.env (eval o X.env) = eval o X.env := by rfl) (hline : (apos.endLine == cpos.line) = true := by rfl) : DE X C W (.Call (.Attribute o name apos) [] [] cpos) (eMeth0 T g fo) := by
  obtain ⟨r, hr, hq⟩ := mc.ex
  refine ⟨pe_imp (pe_bm0 pa slot hty hr ho.pe hbase hline) fun σ H Q => ?_⟩
  rintro ⟨η, ρ, μ, s, o, p⟩
  refine ⟨η, ρ, μ, s, o, Post.bind p fun d η1 H1 μ1 n1 o1 p1 v rv => ?_⟩
  split at p1
  · rename_i ht
    exact ⟨by rw [hK]; exact tyv_of o1 rv ht, hq W η1 H1 μ1 σ Q v [] d [] o1 rv .nil p1⟩
  · exact p1.elim
theorem Rep.obj_inv {η : Nm} {H : Hp} {v : V} {n : Nat} (r : Rep C η H v (.obj n)) : ∃ p, v = .ref p ∧ η.o[n]? = some p := by
  cases r with
  | obj h => exact ⟨_, rfl, h⟩
def gAppend : D → List D → Sto → R D
  | .obj n, [y], μ => match lstAt μ n with | some ds => if ds.length < SZ then .ok .non (μ.set n (.lst (ds ++ [y]))) else .bad | none => .bad
  | _, _, _ => .bad
theorem mc_append : MC X C "list.append" gAppend := by
  refine ⟨rAppend, mt_append, fun W η H μ σ Q x xs d ds o r rs p => ?_⟩
  unfold gAppend at p
  split at p
  · split at p
    · rename_i n y ds' e1
      split at p
      · rename_i hz
        obtain ⟨q, rfl, hn⟩ := r.obj_inv
        obtain ⟨v, rfl, rv⟩ := rs.one
        have e2 := lstAt_iff.mp e1
        obtain ⟨vs, h1, h2⟩ := o.lst hn e2
        exact ⟨q, vs, v, rfl, rfl, h1, by rw [h2.length, ← sz_eq]; exact hz, Post.put o p hn e2 (u := .lst (vs ++ [v])) (.lst (h2.append (.cons rv .nil))) _ .non⟩
      · exact p.elim
    · exact p.elim
  · exact p.elim

/-! ### x[i] = e -/
def keyD : D → Option Key
  | .int i => some (.inl i)
  | .str x => some (.inr x)
  | _ => none
theorem keyD_ok {η : Nm} {H : Hp} {v : V} {d : D} {k : Key} (r : Rep C η H v d) (h : keyD d = some k) : v = kV k := by
  cases r with
  | int i => cases h; rfl
  | str x => cases h; rfl
  | _ => cases h
def valD {κ α : Type} [DecidableEq κ] (kvs : List (κ × α)) (k : κ) : Option α := (kvs.find? fun kv => decide (kv.1 = k)).map (·.2)
def putD {κ α : Type} [DecidableEq κ] (kvs : List (κ × α)) (k : κ) (v : α) : List (κ × α) :=
  if (kvs.any fun kv => decide (kv.1 = k)) = true then kvs.map (fun kv => if kv.1 = k then (kv.1, v) else kv) else kvs ++ [(k, v)]
section
variable {κ : Type} [DecidableEq κ] {η : Nm} {H : Hp} {vs : List (κ × V)} {ds : List (κ × D)}
theorem RepK.length {vs : List (κ × V)} {ds : List (κ × D)} (r : RepK C η H vs ds) : vs.length = ds.length := by
  induction r with
  | nil => rfl
  | cons _ _ ih => rw [List.length_cons, List.length_cons, ih]
theorem RepK.val (r : RepK C η H vs ds) (k : κ) : (∃ v d, valV vs k = some v ∧ valD ds k = some d ∧ Rep C η H v d) ∨ (valV vs k = none ∧ valD ds k = none) := by
  induction r with
  | nil => exact .inr ⟨rfl, rfl⟩
  | @cons k' v d vs ds h r ih =>
    by_cases e : k' = k
    · exact .inl ⟨v, d, by simp [valV, List.find?_cons, e], by simp [valD, List.find?_cons, e], h⟩
    · rcases ih with ⟨v', d', h1, h2, h3⟩ | ⟨h1, h2⟩
      · exact .inl ⟨v', d', by simpa [valV, List.find?_cons, e] using h1, by simpa [valD, List.find?_cons, e] using h2, h3⟩
      · exact .inr ⟨by simpa [valV, List.find?_cons, e] using h1, by simpa [valD, List.find?_cons, e] using h2⟩
theorem RepK.any (r : RepK C η H vs ds) (k : κ) : (vs.any fun kv => decide (kv.1 = k)) = (ds.any fun kv => decide (kv.1 = k)) := by
  induction r with
  | nil => rfl
  | cons h r ih => rw [List.any_cons, List.any_cons, ih]
theorem RepK.append {vs ws : List (κ × V)} {ds es : List (κ × D)} (r : RepK C η H vs ds) (q : RepK C η H ws es) : RepK C η H (vs ++ ws) (ds ++ es) := by
  induction r with
  | nil => exact q
  | cons h r ih => exact .cons h ih
theorem RepK.mapPut {vs : List (κ × V)} {ds : List (κ × D)} (r : RepK C η H vs ds) (k : κ) {v : V} {d : D} (h : Rep C η H v d) : RepK C η H (vs.map fun kv => if kv.1 = k then (kv.1, v) else kv) (ds.map fun kv => if kv.1 = k then (kv.1, d) else kv) := by
  induction r with
  | nil => exact .nil
  | @cons k' v' d' vs ds h' r ih =>
    rw [List.map_cons, List.map_cons]
    by_cases e : k' = k
    · simp only [e, if_true]
      exact .cons h (by simpa using ih)
    · simp only [e, if_false]
      exact .cons h' (by simpa using ih)
theorem RepK.put (r : RepK C η H vs ds) (k : κ) {v : V} {d : D} (h : Rep C η H v d) : RepK C η H (putK vs k v) (putD ds k d) := by
  unfold putK putD
  rw [r.any k]
  split
  · exact r.mapPut k h
  · exact r.append (.cons h .nil)
end
def gSet : D → D → D → Sto → Option Sto
  | .obj n, i, v, μ => match μ[n]? with
    | some (.lst ds) => (match i with | .int k => (ixN ds.length k).map fun j => μ.set n (.lst (ds.set j v)) | _ => none)
    | some (.dk kvs) => (keyD i).bind fun k => if kvs.length < SZ then some (μ.set n (.dk (putD kvs k v))) else none
    | _ => none
  | _, _, _, _ => none
theorem pset_or {t t' : TSet} (h : PSet X t) (h' : PSet X t') : PSet X (fun o i v H Q => t o i v H Q ∨ t' o i v H Q) := fun pins s σ H o i v ov iv u Q I ro ri rv q => by
  rcases q with q | q
  · exact h pins s σ H o i v ov iv u Q I ro ri rv q
  · exact h' pins s σ H o i v ov iv u Q I ro ri rv q
theorem gSet_ok {η : Nm} {H : Hp} {μ μ' : Sto} {o i v : V} {d k w : D} {Q : Hp → Prop} (ok : Ok C η H μ) (ro : Rep C η H o d) (ri : Rep C η H i k) (rv : Rep C η H v w) (h : gSet d k w μ = some μ') (q : ∀ H', Nxt C η H η H' → Ok C η H' μ' → Q H') :
    rSetL o i v H Q ∨ rSetD o i v H Q := by
  unfold gSet at h
  split at h
  · rename_i n
    obtain ⟨p, rfl, hn⟩ := ro.obj_inv
    split at h
    · rename_i ds e2
      split at h
      · rename_i z
        cases hj : ixN ds.length z with
        | none => rw [hj] at h; cases h
        | some j =>
          rw [hj] at h
          cases h
          obtain ⟨vs, h1, h2⟩ := ok.lst hn e2
          obtain ⟨o', nx⟩ := ok.put hn e2 (u := .lst (vs.set j v)) (.lst (h2.set j rv))
          exact .inl ⟨p, vs, z, j, rfl, ri.int_inv, h1, by rw [h2.length]; exact hj, q _ nx o'⟩
      · cases h
    · rename_i kvs e2
      cases hk : keyD k with
      | none => rw [hk] at h; cases h
      | some y =>
        rw [hk] at h
        have h' : (if kvs.length < SZ then some (μ.set n (.dk (putD kvs y w))) else none) = some μ' := h
        split at h'
        · rename_i hz
          cases h'
          obtain ⟨ob, h1, h2⟩ := ok.get hn e2
          cases h2 with
          | dk h2 =>
            rename_i vs
            obtain ⟨o', nx⟩ := ok.put hn e2 (u := .dK (putK vs y v)) (.dk (h2.put y rv))
            exact .inr ⟨p, _, rfl, .inl ⟨vs, y, h1, keyD_ok ri hk, by rw [h2.length, ← sz_eq]; exact hz, rfl⟩, q _ nx o'⟩
        · cases h'
    · cases h
  · cases h
def sPut (fv fo fi : FE D) : FS := fun ρ μ => (fv ρ μ).st ρ fun w μ1 => (fo ρ μ1).st ρ fun d μ2 => (fi ρ μ2).st ρ fun k μ3 => match gSet d k w μ3 with | some μ4 => .nx ρ μ4 | none => .bad
theorem ds_put {tpos : Pos} (hu : X.A.units + 64 < cLine) (hv : DE X C W e fv) (ho : DE X C W o fo) (hi : DE X C W i fi)
    (ha : ∀ v, assign (.Subscript o i tpos) X.env v = (do
      let ov ← holding [v] (eval o X.env)
      let iv ← holding [v, ov] (eval i X.env)
      standAt tpos
      holding [v, ov, iv] (setItem ov iv v)
      release [v, ov, iv] []) := by intro _; rfl) (hs : swapsWithSole [.Subscript o i tpos] e pos.line X.env = pure false := by rfl) (hw : swappedStores [.Subscript o i tpos] e X.env = pure none := by rfl)
    (h1 : (assignEach [.Subscript o i tpos] X.env).map (·.2) = [assign (.Subscript o i tpos) X.env] := by rfl) : DS X C W (.Assign [.Subscript o i tpos] e pos) (sPut fv fo fi) := by
  refine ⟨ps_imp (ps_asg hv.pe (pg_sub ho.pe hi.pe (pset_or set_list (set_dict (by omega))) ha) hs hw h1) fun E σ H => ?_⟩
  rintro ⟨η, ρ, μ, s, o, p⟩
  refine ⟨η, ρ, μ, s, o, PostS.bindE s p fun w η1 H1 μ1 n1 o1 s1 p1 v rv => ?_⟩
  refine ⟨η1, ρ, μ1, s1, o1, PostS.bindE s1 p1 fun d η2 H2 μ2 n2 o2 s2 p2 x rx => ?_⟩
  refine ⟨η2, ρ, μ2, s2, o2, PostS.bindE s2 p2 fun k η3 H3 μ3 n3 o3 s3 p3 y ry => ?_⟩
  cases hg : gSet d k w μ3 with
  | none => rw [hg] at p3; exact p3.elim
  | some μ4 =>
    rw [hg] at p3
    exact gSet_ok o3 (rx.mono n3) ry ((rv.mono n2).mono n3) hg fun H' nx o' => p3 η3 H' σ nx o' (s3.mono nx)

/-! ### dicts -/
def eDNew : FE D := fun _ μ => .ok (.obj μ.length) (μ ++ [.dk []])
theorem Ok.new {η : Nm} {H : Hp} {μ : Sto} (ok : Ok C η H μ) {p : Addr} {u : HO} {m : DO} (hp : H p = none) (r : RepO C η H p u m) : Ok C (η.add p) (upd H p u) (μ ++ [m]) ∧ Nxt C η H (η.add p) (upd H p u) ∧ (η.add p).o[μ.length]? = some p := by
  have sm := Same.new (o := u) hp
  have n1 : Nxt C η H η (upd H p u) := Same.nxt sm
  have o1 : Ok C (η.hide p) (upd H p u) μ := ok.hide hp r.mut.tbl
  refine ⟨o1.add (ok.not_mem hp) upd_same ((r.map (fun _ _ => Rep.hide hp) fun _ _ => Reps.hide hp).mono (Same.nxt sm)), n1.add (.of hp) |> fun z => z, ?_⟩
  show (η.o ++ [p])[μ.length]? = some p
  rw [← ok.len]
  simp
end
end DL
namespace DL
open PySem PySem.Spec PyProof.Rows L2
section
variable {X : Cx} {C : Cc} {W : WX} {e a b i o : Expr} {es : List Expr} {pos apos cpos tpos : Pos} {f fa fb fo fi fv fx : FE D} {fs : FE (List D)}
theorem de_dnew : DE X C W (.Dict [] [] pos) eDNew := by
  refine ⟨pe_imp pe_dnewK fun σ H Q => ?_⟩
  rintro ⟨η, ρ, μ, s, ok, p⟩
  intro q hq
  obtain ⟨o', nx, hn⟩ := ok.new hq (u := .dK []) (m := .dk []) (.dk .nil)
  exact p _ _ nx o' _ (.obj hn)
def dkAt (μ : Sto) : D → Option (List (Key × D))
  | .obj n => match μ[n]? with | some (.dk kvs) => some kvs | _ => none
  | _ => none
theorem dkAt_ok {η : Nm} {H : Hp} {μ : Sto} {x : V} {d : D} {kvs : List (Key × D)} (ok : Ok C η H μ) (r : Rep C η H x d) (h : dkAt μ d = some kvs) : ∃ p vs, x = .ref p ∧ H p = some (.dK vs) ∧ RepK C η H vs kvs := by
  unfold dkAt at h
  split at h
  · rename_i n
    obtain ⟨p, rfl, hn⟩ := r.obj_inv
    split at h
    · rename_i kvs' e2
      cases h
      obtain ⟨ob, h1, h2⟩ := ok.get hn e2
      cases h2 with
      | dk h2 => exact ⟨p, _, rfl, h1, h2⟩
    · cases h
  · cases h
/-- d.get(k, x) -/
def eDGet2 (fo fi fx : FE D) : FE D := fun ρ μ => (fo ρ μ).bind fun d μ1 => if (dkAt μ1 d).isSome = true then (fi ρ μ1).bind fun k μ2 => (fx ρ μ2).bind fun z μ3 => match dkAt μ3 d, keyD k with
  | some kvs, some y => .ok ((valD kvs y).getD z) μ3
  | _, _ => .bad else .bad
theorem de_dget2 (hu : X.A.units + 64 < cLine) (ho : DE X C W o fo) (hi : DE X C W a fi) (hx : DE X C W b fx) (m : M2 X o "get" apos a b cpos := by exact ⟨rfl, rfl, rfl, rfl⟩) : DE X C W (.Call (.Attribute o "get" apos) [a, b] [] cpos) (eDGet2 fo fi fx) := by
  refine ⟨pe_imp (pe_dget2 (by omega) ho.pe hi.pe hx.pe m) fun σ H Q => ?_⟩
  rintro ⟨η, ρ, μ, s, ok, p⟩
  refine ⟨η, ρ, μ, s, ok, Post.bind p fun d η1 H1 μ1 n1 o1 p1 x rx => ?_⟩
  split at p1
  · rename_i hd
    obtain ⟨kvs0, hd0⟩ := Option.isSome_iff_exists.mp hd
    obtain ⟨q, vs0, rfl, h0, _⟩ := dkAt_ok o1 rx hd0
    refine ⟨q, rfl, .inl ⟨vs0, .inl h0⟩, η1, ρ, μ1, s.mono n1, o1, Post.bind p1 fun k η2 H2 μ2 n2 o2 p2 y ry => ?_⟩
    refine ⟨η2, ρ, μ2, (s.mono n1).mono n2, o2, Post.bind p2 fun z η3 H3 μ3 n3 o3 p3 w rw' => ?_⟩
    split at p3
    · rename_i kvs y' e1 e2
      obtain ⟨q', vs, e3, h3, r3⟩ := dkAt_ok o3 ((rx.mono n2).mono n3) e1
      cases e3
      have ey := keyD_ok ry e2
      subst ey
      rcases r3.val y' with ⟨v', d', g1, g2, g3⟩ | ⟨g1, g2⟩
      · rw [g2] at p3
        exact ⟨some v', by rw [← g1]; exact .k h3, p3.now o3 _ g3⟩
      · rw [g2] at p3
        exact ⟨none, by rw [← g1]; exact .k h3, p3.now o3 _ rw'⟩
    · exact p3.elim
  · exact p1.elim
/-- d[k] of a dict -/
def eDIx (fo fi : FE D) : FE D := fun ρ μ => (fo ρ μ).bind fun d μ1 => (fi ρ μ1).bind fun k μ2 => match (dkAt μ2 d).bind fun kvs => (keyD k).bind fun y => valD kvs y with
  | some z => .ok z μ2
  | none => .bad
theorem de_dix (hu : X.A.units + 64 < cLine) (ho : DE X C W o fo) (hi : DE X C W i fi) (hs : NoSl i := by exact fun _ _ => rfl) : DE X C W (.Subscript o i pos) (eDIx fo fi) := by
  refine ⟨pe_imp (pe_dget (by omega) ho.pe hi.pe hs) fun σ H Q => ?_⟩
  rintro ⟨η, ρ, μ, s, ok, p⟩
  refine ⟨η, ρ, μ, s, ok, Post.bind p fun d η1 H1 μ1 n1 o1 p1 x rx => ?_⟩
  refine ⟨η1, ρ, μ1, s.mono n1, o1, Post.bind p1 fun k η2 H2 μ2 n2 o2 p2 y ry => ?_⟩
  split at p2
  · rename_i z e1
    cases e2 : dkAt μ2 d with
    | none => rw [e2] at e1; cases e1
    | some kvs =>
      rw [e2] at e1
      cases e3 : keyD k with
      | none => rw [Option.bind_some, e3] at e1; cases e1
      | some y' =>
        rw [Option.bind_some, e3, Option.bind_some] at e1
        obtain ⟨q', vs, e4, h3, r3⟩ := dkAt_ok o2 (rx.mono n2) e2
        cases e4
        have ey := keyD_ok ry e3
        subst ey
        rcases r3.val y' with ⟨v', d', g1, g2, g3⟩ | ⟨g1, g2⟩
        · rw [e1] at g2
          cases g2
          exact ⟨q', v', rfl, by rw [← g1]; exact .k h3, p2.now o2 _ g3⟩
        · rw [e1] at g2; cases g2
  · exact p2.elim

/-! ### sum of a tuple -/
def gSumT : List D → Sto → R D
  | [.tup ds], μ => match asInts ds with | some ns => .ok (.int ns.sum) μ | none => .bad
  | [d], μ => gSum [d] μ
  | _, _ => .bad
def rSumT (K : PySem.W.Frag) : List V → Hp → VK → Prop := fun vs H Q => ∃ (a : Addr) (ns : List Int), vs = [V.ref a] ∧ (SqL K H a (ns.map V.int) ∨ SqT K H a (ns.map V.int)) ∧ Q (.int ns.sum) H
theorem cr_sumT (hc : X.calm = true) : CallR X (.builtin "sum") (rSumT X.K) := by
  intro pins s σ H vs us Q I r h
  obtain ⟨a, ns, rfl, hs, q⟩ := h
  rcases hs with hs | hs
  · exact cr_sum hc pins s σ H _ us Q I r ⟨a, ns, rfl, hs, q⟩
  · obtain ⟨its, rv, hl, _⟩ := I.tuple hs
    rw [Vals.ref1 r]
    have hi : IntsAre its ns := rv.ints
    obtain ⟨xs, e⟩ := hi.allInts.items
    have hn : numsOf (intItems xs).toList = ns := by rw [← e]; exact hi.numsOf
    rw [nums_intItems] at hn
    rw [e] at hl
    refine PySem.W.ktm_sumG (I.ok.hd hc) hl fun h' tk t' hk => ?_
    rw [preSum_eq, List.take_of_length_le (by simp), hn]
    exact ⟨.int _, H, I.kept hk, ⟨_, rfl⟩, q⟩
theorem cc_sumT (hc : X.calm = true := by rfl) (hK : X.K = C.K := by rfl) : CC X C (.builtin "sum") gSumT := by
  refine ⟨_, cr_sumT hc, fun W η H μ σ Q xs ds o rx p => ?_⟩
  unfold gSumT at p
  split at p
  · split at p
    · rename_i ns e2
      obtain ⟨x, rfl, r⟩ := rx.one
      cases r with
      | tup h1 h2 =>
        cases asInts_inv e2
        rw [h2.ints] at h1
        exact ⟨_, ns, rfl, .inr (by rw [hK]; exact h1), p.now o _ (.int _)⟩
    · exact p.elim
  · obtain ⟨a, ns, z, rfl, hq, hz, q⟩ := gInts_inv o rx p
    cases hz
    exact ⟨a, ns, rfl, .inl (by rw [hK]; exact hq), q _ (.int _)⟩
  · exact p.elim

/-! ### tuple * int -/
def gRepT : D → D → Option D
  | .tup ds, .int k => if ds ≠ [] ∧ 2 ≤ k ∧ k ≤ 1000 ∧ ds.length ≤ 1000 then some (.tup (List.replicate k.toNat ds).flatten) else none
  | _, _ => none
instance (ds : List D) : Decidable (ds = []) := match ds with | [] => .isTrue rfl | _ :: _ => .isFalse (by simp)
theorem Reps.rep {η : Nm} {H : Hp} {vs : List V} {ds : List D} (r : Reps C η H vs ds) : ∀ n : Nat, Reps C η H (List.replicate n vs).flatten (List.replicate n ds).flatten
  | 0 => .nil
  | n + 1 => by
    rw [List.replicate_succ, List.replicate_succ, List.flatten_cons, List.flatten_cons]
    exact r.append (Reps.rep r n)
end
end DL
namespace DL
open PySem PySem.Spec PyProof.Rows L2
/-! ### enumerate of a tuple -/
set_option maxHeartbeats 1000000 in
theorem meets_enum1 {v : Value} {o : Obj} {Hh : Heap → Prop} (B : Begins v o Hh) :
    Meets (Builtin.«enumerate.__new__» ⟨[.type "enumerate", v], []⟩) (fun _ R s => Hh s.heap ∧
      R (.ok (.ret (.ref (s.heap.push o).objs.size))) { s with heap := (s.heap.push o).push { cls := .type "enumerate", data := .fields #[.none, .bool false, .ref s.heap.objs.size, rawInt 0, .none, .none] } }) :=
  .of_wp fun prog w A R s hs => by
    obtain ⟨hp, gs, dr, tok, os⟩ := s
    obtain ⟨hh1, hR⟩ := hs
    have h_sub := sub_enumerate
    have step : ∀ {A' : Around} {E : Value → Shared → Prop} {Q : Value → Shared → Prop}, Q (.ref hp.objs.size) ⟨hp.push o, gs, dr, tok, os⟩ → wpAny (model prog w) A' (pyIter v) Q E ⟨hp, gs, dr, tok, os⟩ :=
      fun q => B.iter prog w _ _ ⟨hp, gs, dr, tok, os⟩ _ hh1 q
    wp_walk using step
    refine wpAny_stack_any fun stk => wpAny_pure ?_
    split
    · rename_i c _ _ _ _ _
      cases (c == Value.type "enumerate") <;> (wp_walk using step; exact ⟨_, rfl, hR⟩)
    · wp_walk using step
      exact ⟨_, rfl, hR⟩
section
variable {prog : Program} {w : World} {A : Around} {E : Value → Shared → Prop} {s : Shared}
theorem call_enum1 {v : Value} {o : Obj} {Hh : Heap → Prop} {Q : Value → Shared → Prop} (B : Begins v o Hh) (hh1 : Hh s.heap)
    (k : ∀ h', IsEnum h' (s.heap.objs.size + 1) s.heap.objs.size 0 .none → h'.get? s.heap.objs.size = some o → (∀ b ob, s.heap.get? b = some ob → h'.get? b = some ob) → Q (.ref (s.heap.objs.size + 1)) { s with heap := h' }) :
    wpAny (model prog w) A (call (.type "enumerate") [v]) Q E s := by
  refine callType_new F.called_enumerate (by decide) (F.typeCall_enumerate_1 _) (F.newCall_enumerate_1 _) (fun obj => F.args_object_init_2 obj _) F.entry_enumerate_new (meets_enum1 B) ⟨hh1, ?_⟩
  have z : (s.heap.push o).objs.size = s.heap.objs.size + 1 := Heap.size_push ..
  show _ ∧ _
  rw [z]
  have he : IsEnum ((s.heap.push o).push { cls := .type "enumerate", data := .fields #[.none, .bool false, .ref s.heap.objs.size, rawInt 0, .none, .none] }) (s.heap.objs.size + 1) s.heap.objs.size 0 .none := by
    have q := Heap.get?_push_size (s.heap.push o) (o := { cls := .type "enumerate", data := .fields #[.none, .bool false, .ref s.heap.objs.size, rawInt 0, .none, .none] }) rfl
    rw [z] at q
    exact q
  exact ⟨⟨_, he, rfl⟩, k _ he (Heap.get?_push_of_some _ (Heap.get?_push_size _ B.free)) fun b ob q => Heap.get?_push_of_some _ (Heap.get?_push_of_some _ q)⟩
end
/-- the tuple at a, each item in a new pair -/
def IteT (K : PySem.W.Frag) (a : Addr) : It :=
  ⟨fun i H => ∃ (xs : List V) (x : V), SqT K H a xs ∧ xs[i]? = some x, fun i H v H' => ∃ T x, v = .ref T ∧ H T = none ∧ H' = upd H T (.tup [.int (i : Nat), x]) ∧ ∀ xs, SqT K H a xs → xs[i]? = some x, fun i H => ∃ xs : List V, SqT K H a xs ∧ xs.length ≤ i⟩
theorem turn_enumT {P : Program} {w : World} {K : PySem.W.Frag} {elts : List Expr} {kk : Nat} {tpos : Pos} (a e it : Addr) :
    Turn P w K (.Tuple elts kk tpos) (IteT K a) [e, it] e (fun i h => (∃ old, IsEnum h e it ((i : Nat) : Int) old) ∧ h.IsTupleIter it a i ∧ e ≠ it ∧ a ≠ it ∧ e ≠ a) where
  mem := by simp
  obj := fun i h stt b hb => by
    obtain ⟨⟨old, hen⟩, ⟨oi, hoi, _, hdi⟩, _⟩ := stt
    rcases (show b = e ∨ b = it by simpa using hb) with z | z
    · rw [z]
      exact ⟨_, hen, fun v q => nomatch q⟩
    · exact ⟨oi, by rw [z]; exact hoi, fun v q => by rw [hdi] at q; cases q⟩
  keep := fun i h h' stt kp => let ⟨⟨old, hen⟩, hi, r⟩ := stt; ⟨⟨old, kp e (by simp) _ hen⟩, hi.at fun o q => kp it (by simp) o q, r⟩
  item := by
    intro X hP hw hK hc i pins s σ H E I hfp stt hgo
    subst hP hw hK
    obtain ⟨⟨old, hen⟩, hit, nei, nai, nea⟩ := stt
    obtain ⟨xs, x, hq, hx⟩ := hgo
    obtain ⟨its, rv, pt, hz⟩ := I.tuple hq
    obtain ⟨u, hu, ru⟩ := rv.get hx
    have hel : e < s.heap.objs.size := Heap.lt_size hen
    have hil : it < s.heap.objs.size := by
      obtain ⟨_, q, _⟩ := hit
      exact Heap.lt_size q
    have dw := Draws.tuple (prog := X.prog) (w := X.w) (A := X.A.in1) (I.ok.hd hc) it a nai its.toArray
    refine wpAny_pyNext_enum_itemD dw hen ⟨hit, pt⟩ (by simpa using (List.getElem?_eq_some_iff.mp hu).1) nei (by simp [nei, nea]) fun x' h1 tk hPx hout hst1 hT _ hk => ?_
    have ex : x' = u := by
      have hu' : its.toArray[i]? = some u := by simpa using hu
      rw [hPx] at hu'
      exact Option.some.inj hu'
    subst ex
    refine ⟨_, rfl, wpAny_letOwnedTupleGo_enum (s := { s with heap := h1, toks := tk + 1 }) hout fun h2 hen2 sb => ?_⟩
    have hT2 : h2.get? s.heap.objs.size = some { cls := .type "tuple", data := .seq #[.int i tk, x'] } := (sb.2 _ (Nat.ne_of_gt hel)).trans hT
    have nob : ObjOk X.prog X.w (upd H s.heap.objs.size (.tup [.int (i : Nat), x])) h2 s.heap.objs.size (.tup [.int (i : Nat), x]) :=
      ⟨by show 2 ≤ sizeLine; decide, [.int i tk, x'], .cons ⟨_, rfl⟩ (.cons ru .nil), ⟨_, hT2, rfl, _, rfl⟩⟩
    have I1 : Inv X pins σ (upd H s.heap.objs.size (.tup [.int (i : Nat), x])) { s with heap := h2, toks := tk + 1 } :=
      I.turnedNew (ch := [e, it]) (fun b ob hb q => (sb.2 b (fun z => hb (by simp [z]))).trans (hk b ob (fun z => hb (by simp [z])) (fun z => hb (by simp [z])) q)) hfp (Nat.le_refl _) nob
    refine ⟨.ref s.heap.objs.size, _, I1, rfl, ⟨_, x, rfl, I.hok.fresh (Nat.le_refl _), rfl, fun ys hy => by rw [I.tuple_inj hy hq]; exact hx⟩, ⟨⟨x', ?_⟩, hst1.1.at fun o q => (sb.2 it (Ne.symm nei)).trans q, nei, nai, nea⟩, fun b hb => ?_⟩
    · rw [show ((i + 1 : Nat) : Int) = (i : Int) + 1 by omega]
      exact hen2
    · have hb' : b < s.heap.objs.size := by
        rcases (show b = e ∨ b = it by simpa using hb) with z | z
        · rw [z]; exact hel
        · rw [z]; exact hil
      rw [upd_ne (Nat.ne_of_lt hb')]
      exact (hfp b hb).1
  done := by
    intro X hP hw hK hc i pins s σ H E I hfp stt hgo
    subst hP hw hK
    obtain ⟨⟨old, hen⟩, hit, nei, nai, nea⟩ := stt
    obtain ⟨xs, hq, hx⟩ := hgo
    obtain ⟨its, rv, pt, hz⟩ := I.tuple hq
    obtain ⟨f0, f1, f2, f3, f4, f5⟩ := hfp it (by simp)
    have hl := rv.length
    have hT : s.TypeIs (.ref e) "enumerate" := ⟨_, hen, rfl⟩
    unfold pyNext
    refine wpAny_bind (wpAny_attempt (wpAny_callSpecial?_slot (name := Str.ofString "__next__") hT F.slot_enumerate_next (wpAny_call_entry F.slot_enumerate_next hT F.entry_enumerate_next ?_ (F.args_enumerate_next_1 _))))
    show wpAny _ _ (field (.ref e) 2 >>= _) _ _ _
    refine wpAny_bind (wpAny_field hen rfl (x := .ref it) rfl ?_)
    refine wpAny_bind (wpAny_nextOf_tuple_end (I.ok.hd hc) hit pt (by simp; omega) fun h1 x1 ext hx1 => ?_)
    obtain ⟨ob, hob, hcl⟩ := hx1
    refine wpAny_bind (wpAny_isInstance (T := "StopIteration") (b := true) ⟨ob, hob, hcl⟩ isSubtype_stop ?_)
    exact wpAny_pure ⟨rfl, I.turned (t' := s.toks) (fun b o hb q => ext b o hb q) f0 f1 f3 f4 f5⟩
  self := fun A i s Q E stt hq => let ⟨⟨_, hen⟩, _⟩ := stt; wpAny_pyIter_enum hen hq
def iEnumT (K : PySem.W.Frag) (ta : TA) : TI := fun σ H R => ta σ H fun vs H1 => ∃ a xs, vs = [.ref a] ∧ ((SqL K H1 a xs ∧ R (Ite K a) H1) ∨ (SqT K H1 a xs ∧ R (IteT K a) H1))
theorem pi_enumT {X : Cx} {e : Expr} {ta : TA} {p pos tpos : Pos} {elts : List Expr} {kk : Nat} (hg : Gl X "enumerate") (hm : X.mg "enumerate" = none) (ha : PA X [e] ta) (hs : starEach [e] X.env = [(false, eval e X.env)] := by rfl) :
    PI X (.Tuple elts kk tpos) (.Call (.Name "enumerate" p) [e] [] pos) (iEnumT X.K ta) := by
  refine ⟨fun pins s σ H R I h => ?_⟩
  refine Call_ (ld_blt I hg hm boot_enumerate (PyProof.Rows.callWith_type1 (thn (ha.run pos pins s σ H _ I h) fun us s1 ⟨vs, H1, I1, r1, q1⟩ => ?_) hs rfl))
  obtain ⟨a, xs, ex, q⟩ := q1
  subst ex
  cases r1 with
  | cons r rr =>
    cases rr
    cases r
    have fresh2 : ∀ b, b ∈ [s1.heap.objs.size + 1, s1.heap.objs.size] → FpOk X pins H1 b := fun b hb => by
      have hle : s1.heap.objs.size ≤ b := by
        rcases (show b = s1.heap.objs.size + 1 ∨ b = s1.heap.objs.size by simpa using hb) with z | z
        · rw [z]; exact Nat.le_add_right _ _
        · rw [z]; exact Nat.le_refl _
      exact I1.fpOk hle (I1.hok.fresh hle)
    rcases q with ⟨hq, q⟩ | ⟨hq, q⟩
    · obtain ⟨its, rv, pt, hz⟩ := I1.list hq
      refine call_enumerate_list pt.isList fun h' hen hit _ hk => wpAny_pyIter_enum hen ?_
      exact ⟨s1.heap.objs.size + 1, [s1.heap.objs.size + 1, s1.heap.objs.size], _, _, H1, rfl, I1.kept (t' := s1.toks) hk, turn_enum a (s1.heap.objs.size + 1) s1.heap.objs.size, ⟨⟨.none, hen⟩, hit, Nat.succ_ne_self _⟩, fresh2, q⟩
    · obtain ⟨its, rv, pt, hz⟩ := I1.tuple hq
      refine call_enum1 (begins_tuple a its.toArray) pt fun h' hen hit hk => wpAny_pyIter_enum hen ?_
      obtain ⟨oa, hoa, _⟩ := id pt
      have hal := Heap.lt_size hoa
      exact ⟨s1.heap.objs.size + 1, [s1.heap.objs.size + 1, s1.heap.objs.size], _, _, H1, rfl, I1.kept (t' := s1.toks) hk, turn_enumT a (s1.heap.objs.size + 1) s1.heap.objs.size,
        ⟨⟨.none, hen⟩, ⟨_, hit, rfl, rfl⟩, Nat.succ_ne_self _, Nat.ne_of_lt hal, Nat.ne_of_gt (Nat.lt_succ_of_lt hal)⟩, fresh2, q⟩
section
variable {X : Cx} {C : Cc} {W : WX} {e a b : Expr} {es : List Expr} {pos tpos : Pos} {f fa fb : FE D} {fs : FE (List D)}
def enumD (ds : List D) : List D := ds.mapIdx fun i d => .tup [.int i, d]
def iEn (fa : FE D) : FE ItD := fun ρ μ => (fa ρ μ).bind fun x μ1 => match seqIt μ1 x with | some it => .ok (enumD it.1, it.2) μ1 | none => .bad
theorem rep_pair {η : Nm} {H H' : Hp} {T : Addr} {v w : V} {d e : D} (hT : H T = none) (hH : H' = upd H T (.tup [v, w])) (r1 : Rep C η H v d) (r2 : Rep C η H w e) : L2.Same H H' ∧ Rep C η H' (.ref T) (.tup [d, e]) := by
  subst hH
  exact ⟨Same.new hT, rep_new_tup hT (.cons r1 (.cons r2 .nil))⟩
theorem walkD_enum {η1 : Nm} {H1 : Hp} {p : Addr} {ds : List D} {gd : List (Nat × DO)} (h : WalkD C (Itl C.K p) ds gd η1 H1) : WalkD C (Ite C.K p) (enumD ds) gd η1 H1 := by
  intro η1' hr ho η H μ n o hc
  obtain ⟨w1, w2⟩ := h η1' hr ho η H μ n o hc
  have hl : (enumD ds).length = ds.length := by simp [enumD]
  rw [hl]
  refine ⟨fun i hi => ?_, w2⟩
  obtain ⟨go, yl⟩ := w1 i hi
  obtain ⟨xs, x, hq, hx⟩ := id go
  refine ⟨go, ?_⟩
  rintro v H' ⟨T, y, rfl, hT, hH, hy⟩
  have ey : y = x := Option.some.inj ((hy xs hq).symm.trans hx)
  subst ey
  obtain ⟨d, e1, _, r⟩ := yl y H ⟨rfl, hy⟩
  obtain ⟨sm, rp⟩ := rep_pair hT hH (.int (i : Nat)) r
  exact ⟨_, by simp [enumD, List.getElem?_mapIdx, e1], sm, rp⟩
theorem walkD_enumT {η1 : Nm} {H1 : Hp} {p : Addr} {ds : List D} {gd : List (Nat × DO)} (h : WalkD C (Itt C.K p) ds gd η1 H1) : WalkD C (IteT C.K p) (enumD ds) gd η1 H1 := by
  intro η1' hr ho η H μ n o hc
  obtain ⟨w1, w2⟩ := h η1' hr ho η H μ n o hc
  have hl : (enumD ds).length = ds.length := by simp [enumD]
  rw [hl]
  refine ⟨fun i hi => ?_, w2⟩
  obtain ⟨go, yl⟩ := w1 i hi
  obtain ⟨xs, x, hq, hx⟩ := id go
  refine ⟨go, ?_⟩
  rintro v H' ⟨T, y, rfl, hT, hH, hy⟩
  have ey : y = x := Option.some.inj ((hy xs hq).symm.trans hx)
  subst ey
  obtain ⟨d, e1, _, r⟩ := yl y H ⟨rfl, hy⟩
  obtain ⟨sm, rp⟩ := rep_pair hT hH (.int (i : Nat)) r
  exact ⟨_, by simp [enumD, List.getElem?_mapIdx, e1], sm, rp⟩
/-- how data are walked: by a list's or by a tuple's turns -/
theorem seq_walk {η : Nm} {H : Hp} {μ : Sto} (o : Ok C η H μ) {v : V} {d : D} {it : ItD} (r : Rep C η H v d) (h : seqIt μ d = some it) :
    ∃ p vs, v = .ref p ∧ ((SqL C.K H p vs ∧ WalkD C (Itl C.K p) it.1 it.2 η H) ∨ (SqT C.K H p vs ∧ WalkD C (Itt C.K p) it.1 it.2 η H)) := by
  by_cases ht : ∃ ds, d = .tup ds
  · obtain ⟨ds, rfl⟩ := ht
    cases r with
    | tup g1 g2 => cases h; exact ⟨_, _, rfl, .inr ⟨g1, walkD_tup g1 g2⟩⟩
  · obtain ⟨q, vs, rfl, h1, h2⟩ := list_walk o r h fun ds z => ht ⟨ds, z⟩
    exact ⟨q, vs, rfl, .inl ⟨h1, h2⟩⟩
theorem di_enum {p : Pos} {elts : List Expr} {kk : Nat} (hm : X.mg "enumerate" = none) (ha : DE X C W a fa) (hK : X.K = C.K := by rfl) (hg : Gl X "enumerate" := by rfl) (hs : starEach [a] X.env = [(false, eval a X.env)] := by rfl)
    (hs2 : starEach [a] X.env = (false, eval a X.env) :: starEach [] X.env := by rfl) : DI X C W (.Tuple elts kk tpos) (.Call (.Name "enumerate" p) [a] [] pos) (iEn fa) := by
  have hp : PA X [a] (tCons (tD C W fa) tNil) := L2.pa_cons ha.pe L2.pa_nil hs2
  refine ⟨pi_imp (pi_enumT hg hm hp hs) fun σ H Q => ?_⟩
  rintro ⟨η, ρ, μ, s, o, p⟩
  refine ⟨η, ρ, μ, s, o, Post.bind p fun d η1 H1 μ1 n1 o1 p1 v rv => ?_⟩
  cases hs : seqIt μ1 d with
  | none => rw [hs] at p1; exact p1.elim
  | some it =>
    rw [hs] at p1
    obtain ⟨q, vs, rfl, hw⟩ := seq_walk o1 rv hs
    refine ⟨q, vs, rfl, ?_⟩
    rw [hK]
    rcases hw with ⟨h1, h2⟩ | ⟨h1, h2⟩
    · exact .inl ⟨h1, p1.now o1 _ (walkD_enum h2)⟩
    · exact .inr ⟨h1, p1.now o1 _ (walkD_enumT h2)⟩
/-- tuple * int -/
def eOpN (g : D → D → Option D) (fa fb : FE D) : FE D := eOp g fa fb
theorem de_repT (ha : DE X C W a fa) (hb : DE X C W b fb) (hK : X.K = C.K := by rfl) : DE X C W (.BinOp a .Mult b pos) (eOp gRepT fa fb) := by
  refine ⟨pe_imp (pe_op op_repT ha.pe hb.pe) fun σ H Q h => tD_two (g := fun x y μ2 => match gRepT x y with | some z => .ok z μ2 | none => .bad) (fun η H μ σ Q x y d e o rx ry p => ?_) h⟩
  cases hg : gRepT d e with
  | none => simp only [hg] at p; exact p.elim
  | some z =>
    simp only [hg] at p
    unfold gRepT at hg
    split at hg
    · rename_i ds k
      split at hg
      · rename_i hc
        cases hg
        cases ry
        cases rx with
        | tup h1 h2 =>
          refine ⟨_, k, _, rfl, rfl, by rw [hK]; exact h1, fun z => hc.1 (by subst z; cases h2; rfl), hc.2.1, hc.2.2.1, by rw [h2.length]; exact hc.2.2.2, fun q hq => ?_⟩
          exact Post.new p o hq _ (rep_new_tup hq (h2.rep k.toNat))
      · cases hg
    · cases hg
end
end DL
/-! a lambda handed to a def that calls it and tells of an error's field. -/
namespace DL
open PySem PySem.Spec PyProof.Rows L2
/-- told: the error's field, or "" -/
def TRef (CS : Addr) (prm ret : Str) : (XK → Hp → VK → Prop) → Hp → VK → Prop := fun tl H Q =>
  tl (fun cls dd H' => cls = .ref CS ∧ ∃ a v, dd = some a ∧ H' a = some (.xd [(prm, v)]) ∧ Q v H') H fun _ H' => Q (.str ret) H'
theorem takes_len {X : Cx} {W : WX} (tk : Takes X W) : Takes X (fun cls d σ H => σ.length = X.N.length → W cls d σ H) := fun u s' x => by
  obtain ⟨ax, B, sI, pins, σ, H, cls, d, hu, I, r1, r2, r3, r4, r5, r6, hw⟩ := x
  exact tk u s' ⟨ax, B, sI, pins, σ, H, cls, d, hu, I, r1, r2, r3, r4, r5, r6, hw I.len⟩
theorem ref_gives {X : Cx} {x a e be q prm ret : Str} {sg : Scope} {g CS : Addr} {cdg : Value} {j : Nat} {p1 p2 p3 p4 p5 p6 p7 p8 p9 p10 p11 : Pos} (hbe : sg.names.lookup be = some .globalImplicit) (hme : X.mg be = some (.ref CS)) (hde : (be == ("__debug__" : Str)) = false)
    (T : XfC X.K CS) (hno : PySem.W.findIn X.K (.ref CS) prm = some none) (te : PySem.W.exmOne X.K (.ref CS) (.ref CS) = some true) (hN : [a, e].Nodup) (hln : sg.names.lookup e = some .local) (hd : (e == ("__debug__" : Str)) = false) (hcd : (e == ("__classdict__" : Str)) = false)
    (hsw : ∀ (X' : Cx), swapsWith (.Call (.Name a p1) [] [] p2) none p3.line X'.env = pure false) :
    LamX.GivesTo X [a, e] x sg g cdg [.Try [.Expr (.Call (.Name a p1) [] [] p2) p3] [.ExceptHandler (some (.Name be p4)) (some e) [.Return (some (.Attribute (.Name e p5) prm p6)) p7] p8] [] [] p9, .Return (some (.Constant (.str ret) j p10)) p11] a q (TRef CS prm ret) := by
  intro f c' s H Q tl act hc h
  have hgl : Gl (cxOf C8.CX0 X.prog X.w X.K X.mg X.base [a, e] x sg g cdg X.A X.stack s H C8.E0).nox be := hbe
  refine ⟨_, pss_cons (ps_try_as (X := (cxOf C8.CX0 X.prog X.w X.K X.mg X.base [a, e] x sg g cdg X.A X.stack s H C8.E0).nox) (i := 1) (n := e) (c := .ref CS)
      (tb := fun W D σ H => ∃ Ech : XK, (∀ cls d σ' H', σ'.length = 2 → Ech cls d H' → W cls d σ' H') ∧ σ = L2.start [a, e] [.ref f] ∧ H c' = some (LamX.CodeO c' q) ∧ tl Ech H fun _ H' => D.nx σ H')
      (ts := fun ax cls d => tRet (tXf ax cls d CS prm (tVar 1))) (Wout := fun _ _ _ _ => False)
      rfl rfl hN rfl hln ⟨hgl, hde, .inl hme⟩ LamX.takes0 (fun W pn xe tk _ => ?_) (fun ax oe cls d pn hz hf => pss_one (ps_ret (pe_xf T hno hz hf (pe_var (i := 1) rfl (Or.inl hln) hd hcd))))) (pss_one (ps_ret pe_str)), ?_⟩
  · refine ⟨fun pins s' σ H' D I h' => ?_⟩
    obtain ⟨Ech, hW, h1, h2, h3⟩ := h'
    have hp := act (fun cls d σ' H'' => σ'.length = 2 → W cls d σ' H'') pn xe Ech p1 p2 (takes_len tk) (fun cls d σ' H'' hE hl => hW cls d σ' H'' hl hE)
    exact (pss_one (ps_expr (pos := p3) hp (hsw _))).run pins s' σ H' D I ⟨by rw [h1]; rfl, h2, h3⟩
  · refine ⟨fun cls dd H' => cls = .ref CS ∧ ∃ a v, dd = some a ∧ H' a = some (.xd [(prm, v)]) ∧ Q v H', fun cls d σ' H' hl hE => ⟨true, ?_, fun _ a0 _ => ?_, fun z => by cases z⟩, rfl, hc, h⟩
    · rw [hE.1]; exact te
    · obtain ⟨e1, dx, v, e2, e3, hq⟩ := hE
      exact ⟨.ref a0, by rw [List.getElem?_set_self (by omega)], rfl, e1, dx, [(prm, v)], v, e2, e3, by simp [List.lookup], hq⟩
/-- x(lambda: e), x telling the field of an error of the class c0 -/
def eRef (c0 : Nat) (ret : Str) (fb : FE D) : FE D := fun ρ μ => match fb ρ μ with
  | .ok _ μ1 => .ok (.str ret) μ1
  | .ex c d μ1 => if c = c0 then .ok d μ1 else .bad
  | .bad => .bad
section
variable {X : Cx} {C : Cc} {W : WX}
theorem extN_nxt {η : Nm} {H H1 : Hp} (x : LamX.ExtN H H1) : Nxt C η H η H1 :=
  ⟨List.prefix_refl _, rfl, fun b o h _ t => x b o h t, fun b xs h => x b _ h (fun ps z => by cases z), fun b o u h => x b _ h (fun ps z => by cases z), fun b h n => absurd h n, fun b o h t => ⟨o, x b o h t, t⟩⟩
theorem extN_ok {η : Nm} {H H1 : Hp} {μ : Sto} (ok : Ok C η H μ) (x : LamX.ExtN H H1) (t : LamX.Tabs C.T H1) : Ok C η H1 μ :=
  ⟨ok.nd, ok.len, fun n a m h1 h2 => let ⟨o, h, r⟩ := ok.at_ n a m h1 h2; ⟨o, x a o h r.mut.tbl, r.mono (extN_nxt x)⟩, fun b m => let ⟨o, h, nt⟩ := ok.hid b m; ⟨o, x b o h nt, nt⟩, t⟩
theorem ref_read {c0 : Nat} {ret : Str} {fb : FE D} {σ H Q} (h : tD C W (eRef c0 ret fb) σ H Q) : LamX.tLam C.T (TRef (C.xc c0) (C.xf c0) ret) (fun E => tD C (fun cls d _ H => E cls d H) fb) σ H Q := by
  obtain ⟨η, ρ, μ, s, ok, p⟩ := h
  refine ⟨ok.tab, fun H1 x t => ?_⟩
  have nx : Nxt C η H η H1 := extN_nxt x
  refine ⟨η, ρ, μ, s.mono nx, extN_ok ok x t, ?_⟩
  unfold eRef at p
  cases hf : fb ρ μ with
  | ok d μ1 =>
    simp only [hf] at p
    exact fun η' H' n' o' v rv => p η' H' (nx.trans n') o' _ (.str ret)
  | ex c d μ1 =>
    simp only [hf] at p
    by_cases hc : c = c0
    · subst hc
      rw [if_pos rfl] at p
      intro η' H' cls dd n' o' xr
      obtain ⟨e1, a, v, e2, e3, rv⟩ := xr
      exact ⟨e1, a, v, e2, e3, p η' H' (nx.trans n') o' v rv⟩
    · rw [if_neg hc] at p
      exact p.elim
  | bad => simp only [hf] at p; exact p.elim
/-- what the top has written of the def that tells -/
structure Tells (K : PySem.W.Frag) (mg : Str → Option Value) (C : Cc) (c0 : Nat) (ret x a e be : Str) (g : Addr) (sg : Scope) (bg : List Stmt) : Prop where
  gm : mg x = some (.ref g)
  kp : PySem.W.keepIn K (.ref g) = true
  fn : ∃ (oc : Value) (od : Option Addr) (pg : Arguments) (dV kV doc pm cdv ct : Value) (an : Option Addr) (osl : Array (Option Value)), K.lookup g = some ⟨oc, od, .func (PySem.W.fnOf x x pg bg sg dV kV doc pm an cdv ct), osl⟩ ∧ PySem.W.codeIn K cdv x = true ∧ L2.Binds K (PySem.W.fnOf x x pg bg sg dV kV doc pm an cdv ct) [a] []
  sc : FnScope [a, e] [a] sg
  va : Vis sg a
  tx : ∃ (p1 p2 p3 p4 p5 p6 p7 p8 p9 p10 p11 : Pos) (j : Nat), bg = [.Try [.Expr (.Call (.Name a p1) [] [] p2) p3] [.ExceptHandler (some (.Name be p4)) (some e) [.Return (some (.Attribute (.Name e p5) (C.xf c0) p6)) p7] p8] [] [] p9, .Return (some (.Constant (.str ret) j p10)) p11] ∧
    ∀ (X' : Cx), swapsWith (.Call (.Name a p1) [] [] p2) none p3.line X'.env = pure false
  hbe : sg.names.lookup be = some .globalImplicit
  hme : mg be = some (.ref (C.xc c0))
  hde : (be == ("__debug__" : Str)) = false
  xf : XfC K (C.xc c0)
  hno : PySem.W.findIn K (.ref (C.xc c0)) (C.xf c0) = some none
  te : PySem.W.exmOne K (.ref (C.xc c0)) (.ref (C.xc c0)) = some true
  hln : sg.names.lookup e = some .local
  hd : (e == ("__debug__" : Str)) = false
  hcd : (e == ("__classdict__" : Str)) = false
  had : (a == ("__debug__" : Str)) = false
  hacd : (a == ("__classdict__" : Str)) = false
theorem de_refd {c0 : Nat} {ret x a e be : Str} {g cA PA : Addr} {sg : Scope} {bg : List Stmt} {k : Nat} {params : Arguments} {body : Expr} {scope : Scope} {fb : FE D} {p lpos pos : Pos} (T : Tells X.K X.mg C c0 ret x a e be g sg bg) (TB : LamX.TabB X.base X.mg cA PA) (hmT : (PA, X.env.qual ++ "<lambda>") ∈ C.T) (hu : ∀ p ∈ C.T, p.1 = PA → p.2 = X.env.qual ++ "<lambda>")
    (hr : Room (k + 2) X.A) (hbody : ∀ (A : Around) (outer : List Env) (s : Shared) (H : Hp) (E : XK) (f c' : Addr), Room k (A.deeper (LamX.lamEnv X scope s.heap.objs.size f c')) → DE (LamX.lamCx X A outer s H E scope f c') C (fun cls d _ H => E cls d H) body fb)
    (hcode : X.env.code = .ref cA := by rfl) (hg : Gl X x := by rfl) (L : LamX.LamS X.env.scope scope := by exact LamX.lamS_by rfl) (hdef : defaultsOf params X.env = ([], []) := by rfl)
    (hbind : ∀ (q : Str) (cl : List (Str × Addr)) (pm cv ctv : Value), bindArgs (PySem.W.kla_fn "<lambda>" q params body scope cl pm cv ctv) ⟨[], []⟩ = pure [] := by intros; rfl)
    (hdb : (x == ("__debug__" : Str)) = false := by decide) : DE X C W (.Call (.Name x p) [.Lambda params body scope lpos] [] pos) (eRef c0 ret fb) := by
  obtain ⟨oc, od, pg, dV, kV, doc, pm, cdv, ct, an, osl, lk, hcg, hb⟩ := T.fn
  obtain ⟨p1, p2, p3, p4, p5, p6, p7, p8, p9, p10, p11, j, etx, hsw⟩ := T.tx
  have hG := ref_gives (X := X) (x := x) (g := g) (cdg := cdv) (q := X.env.qual ++ "<lambda>") (j := j) (p4 := p4) (p5 := p5) (p6 := p6) (p7 := p7) (p8 := p8) (p9 := p9) (p10 := p10) (p11 := p11) (ret := ret) T.hbe T.hme T.hde T.xf T.hno T.te T.sc.nd T.hln T.hd T.hcd hsw
  rw [← etx] at hG
  exact ⟨pe_imp (LamX.pe_lamcall (T := C.T) hg T.gm T.kp lk hcg hb T.sc rfl T.va hG TB hcode hmT hu hr L hdef hbind (fun A outer s H E f c' hr2 => (hbody A outer s H E f c' hr2).pe) hdb T.had T.hacd) fun σ H Q h => ref_read h⟩
end
section
variable {P : Program} {w : World} {K : PySem.W.Frag} {mg : Str → Option Value} {base : Heap} {C : Cc}
/-- the rule for a def whose code object is known -/
theorem df_ofC {x qual : Str} {st : Stmt} {f cA : Addr} {N ps : List Str} {k : Nat} {F : FS} {oc kV doc pm ct : Value} {od an : Option Addr} {osl : Array (Option Value)} (lk : K.lookup f = some ⟨oc, od, .func (PySem.W.fnOf x qual (defArgs st) (defBody st) (defScope st) .none kV doc pm an (.ref cA) ct), osl⟩) (hcd : PySem.W.codeIn K (.ref cA) qual = true) (S : FnScope N ps (defScope st))
    (hb : ∀ (A : Around) (outer : List Env) (s : Shared) (H : Hp) (E : XK), Room k (A.deeper (envOfC qual (defScope st) s.heap.objs.size f (.ref cA))) →
      DSs (cxOf (L2.CX P w) P w K mg base N qual (defScope st) f (.ref cA) A outer s H E) C (fun cls d _ H => E cls d H) (defBody st) F) : FnOk P w K mg base (L2.CX P w) (k + 1) f (PySem.W.fnOf x qual (defArgs st) (defBody st) (defScope st) .none kV doc pm an (.ref cA) ct) ps (spD C ps.length (runF N.length F)) := by
  refine fn_of lk hcd S (fun vs H Q E h => by obtain ⟨η, ds, μ, hl, _⟩ := h; exact hl) fun A outer s H vs Q E hr h => ⟨_, (hb A outer s H E hr).ps, ?_⟩
  obtain ⟨η, ds, μ, hl, r, o, p⟩ := h
  refine ⟨η, _, μ, slots_start N r, o, ?_⟩
  unfold runF at p
  cases hF : F (ds.map some ++ List.replicate (N.length - ds.length) none) μ with
  | nx ρ μ' =>
    simp only [hF] at p
    exact fun η' H' σ' n o' _ => p η' H' _ n o' .non
  | rt d μ' =>
    simp only [hF] at p
    exact p
  | ex c d ρ μ' =>
    simp only [hF] at p
    exact fun η' H' σ' cls dd n o' _ x => p η' H' cls dd n o' x
  | bk ρ μ' => simp only [hF] at p; exact p.elim
  | ct ρ μ' => simp only [hF] at p; exact p.elim
  | bad => simp only [hF] at p; exact p.elim
end
end DL
namespace DL
open PySem PySem.Spec PyProof.Rows L2
/-! ### what nobody knows any more is dropped -/
mutual
def under (n : Nat) : D → Bool
  | .obj k => decide (k < n)
  | .tup ds => unders n ds
  | .lst ds => unders n ds
  | .frz ds => unders n ds
  | .non => true
  | .bl _ => true
  | .int _ => true
  | .str _ => true
def unders (n : Nat) : List D → Bool
  | [] => true
  | d :: ds => under n d && unders n ds
end
def underO (n : Nat) : DO → Bool
  | .lst ds => unders n ds
  | .dk kvs => unders n (kvs.map (·.2))
  | .dt kvs => unders n (kvs.map (·.2))
  | .ins _ fs => unders n (fs.map (·.2))
  | .dn kvs => unders n (kvs.map (·.2))
  | .st _ => true
/-- r tells as much as r', from the store μ0 on -/
def LeG (μ0 : Sto) (r r' : R D) : Prop := r' = .bad ∨ r = r' ∨
  (∃ d μ γ, r = .ok d (μ ++ γ) ∧ r' = .ok d μ ∧ μ0.length ≤ μ.length ∧ under μ.length d = true ∧ μ.all (underO μ.length) = true) ∨
  (∃ c d μ γ, r = .ex c d (μ ++ γ) ∧ r' = .ex c d μ ∧ μ0.length ≤ μ.length ∧ under μ.length d = true ∧ μ.all (underO μ.length) = true)
section
variable {C : Cc}
def Nm.cut (η : Nm) (n : Nat) : Nm := ⟨η.o.take n, η.x⟩
mutual
theorem Rep.cutN {η : Nm} {H : Hp} {n : Nat} : ∀ {v : V} {d : D}, Rep C η H v d → under n d = true → Rep C (η.cut n) H v d
  | _, _, .non, _ => .non
  | _, _, .bl b, _ => .bl b
  | _, _, .int i, _ => .int i
  | _, _, .str x, _ => .str x
  | _, _, .tup h r, u => .tup h (Reps.cutN r (by rw [under] at u; exact u))
  | _, _, .lst h m mx r, u => .lst h (fun z => m (List.mem_of_mem_take z)) mx (Reps.cutN r (by rw [under] at u; exact u))
  | _, _, .frz h r, u => .frz h (Reps.cutN r (by rw [under] at u; exact u))
  | _, _, .obj (n := k) h, u => .obj (by
      rw [under] at u
      show (η.o.take n)[k]? = _
      rw [List.getElem?_take_of_lt (of_decide_eq_true u)]
      exact h)
theorem Reps.cutN {η : Nm} {H : Hp} {n : Nat} : ∀ {vs : List V} {ds : List D}, Reps C η H vs ds → unders n ds = true → Reps C (η.cut n) H vs ds
  | _, _, .nil, _ => .nil
  | _, _, .cons h r, u => by
    rw [unders, Bool.and_eq_true] at u
    exact .cons (Rep.cutN h u.1) (Reps.cutN r u.2)
end
theorem RepK.cutN {κ : Type} {η : Nm} {H : Hp} {n : Nat} : ∀ {vs : List (κ × V)} {ds : List (κ × D)}, RepK C η H vs ds → unders n (ds.map (·.2)) = true → RepK C (η.cut n) H vs ds
  | _, _, .nil, _ => .nil
  | _, _, .cons h r, u => by
    rw [List.map_cons, unders, Bool.and_eq_true] at u
    exact .cons (h.cutN u.1) (RepK.cutN r u.2)
mutual
theorem under_nk (n : Nat) : ∀ k : NestedKey, under n (nkD k) = true
  | .none => by rw [nkD, under]
  | .num _ => by rw [nkD, under]
  | .text _ => by rw [nkD, under]
  | .tup ks => by rw [nkD, under]; exact unders_nk n ks
theorem unders_nk (n : Nat) : ∀ ks : List NestedKey, unders n (nkDs ks) = true
  | [] => by rw [nkDs, unders]
  | k :: ks => by rw [nkDs, unders, under_nk n k, unders_nk n ks]; rfl
end
theorem RepN.cutN {η : Nm} {H : Hp} {n : Nat} : ∀ {vs : List (NestedKey × Addr × V)} {ds : List (NestedKey × D)}, RepN C η H vs ds → unders n (ds.map (·.2)) = true → RepN C (η.cut n) H vs ds
  | _, _, .nil, _ => .nil
  | _, _, .cons h k g r, u => by
    rw [List.map_cons, unders, Bool.and_eq_true] at u
    exact .cons (h.cutN (under_nk n _)) k (g.cutN u.1) (RepN.cutN r u.2)
theorem RepO.cutN {η : Nm} {H : Hp} {n : Nat} {a : Addr} {o : HO} {m : DO} (r : RepO C η H a o m) (u : underO n m = true) : RepO C (η.cut n) H a o m := by
  cases r with
  | lst r => exact .lst (r.cutN u)
  | dk r => exact .dk (r.cutN u)
  | dt r => exact .dt (r.cutN u)
  | ins r => exact .ins (r.cutN u)
  | dn r => exact .dn (r.cutN u)
  | st r => exact .st r
theorem Ok.cutN {η : Nm} {H : Hp} {μ γ : Sto} (ok : Ok C η H (μ ++ γ)) (u : μ.all (underO μ.length) = true) : Ok C (η.cut μ.length) H μ := by
  refine ⟨ok.nd.sublist (List.take_sublist _ _), ?_, fun n a m h1 h2 => ?_, ok.hid, ok.tab⟩
  · show (η.o.take μ.length).length = _
    rw [List.length_take, ok.len, List.length_append]
    omega
  · have hn := (List.getElem?_eq_some_iff.mp h2).1
    have h1' : (η.o.take μ.length)[n]? = some a := h1
    rw [List.getElem?_take_of_lt hn] at h1'
    obtain ⟨o, h, r⟩ := ok.at_ n a m h1' (by rw [List.getElem?_append_left hn]; exact h2)
    exact ⟨o, h, r.cutN (List.all_eq_true.mp u m (List.mem_of_getElem? h2))⟩
theorem Nxt.cutN {η η' : Nm} {H H' : Hp} {n : Nat} (nx : Nxt C η H η' H') (hl : η.o.length ≤ n) : Nxt C η H (η'.cut n) H' := by
  refine ⟨?_, nx.hx, nx.keep, nx.tups, nx.frzs, fun b m nm => nx.new b (List.mem_of_mem_take m) nm, nx.there⟩
  obtain ⟨t, e⟩ := nx.pre
  show η.o <+: η'.o.take n
  rw [← e, List.take_append, List.take_of_length_le hl]
  exact List.prefix_append _ _
mutual
theorem Rep.under {η : Nm} {H : Hp} : ∀ {v : V} {d : D}, Rep C η H v d → under η.o.length d = true
  | _, _, .non => by rw [DL.under]
  | _, _, .bl b => by rw [DL.under]
  | _, _, .int i => by rw [DL.under]
  | _, _, .str x => by rw [DL.under]
  | _, _, .tup h r => by rw [DL.under]; exact Reps.under r
  | _, _, .lst h m mx r => by rw [DL.under]; exact Reps.under r
  | _, _, .frz h r => by rw [DL.under]; exact Reps.under r
  | _, _, .obj h => by rw [DL.under]; exact decide_eq_true (List.getElem?_eq_some_iff.mp h).1
theorem Reps.under {η : Nm} {H : Hp} : ∀ {vs : List V} {ds : List D}, Reps C η H vs ds → unders η.o.length ds = true
  | _, _, .nil => by rw [unders]
  | _, _, .cons h r => by rw [unders, Rep.under h, Reps.under r]; rfl
end
theorem RepK.under {κ : Type} {η : Nm} {H : Hp} : ∀ {vs : List (κ × V)} {ds : List (κ × D)}, RepK C η H vs ds → unders η.o.length (ds.map (·.2)) = true
  | _, _, .nil => by rw [List.map_nil, unders]
  | _, _, .cons h r => by rw [List.map_cons, unders, Rep.under h, RepK.under r]; rfl
theorem RepN.under {η : Nm} {H : Hp} : ∀ {vs : List (NestedKey × Addr × V)} {ds : List (NestedKey × D)}, RepN C η H vs ds → unders η.o.length (ds.map (·.2)) = true
  | _, _, .nil => by rw [List.map_nil, unders]
  | _, _, .cons _ _ g r => by rw [List.map_cons, unders, Rep.under g, RepN.under r]; rfl
theorem RepO.under {η : Nm} {H : Hp} {a : Addr} {o : HO} {m : DO} (r : RepO C η H a o m) : underO η.o.length m = true := by
  cases r with
  | lst r => exact r.under
  | dk r => exact r.under
  | dt r => exact r.under
  | ins r => exact r.under
  | dn r => exact r.under
  | st r => rfl
def Scoped (μ : Sto) : Prop := μ.all (underO μ.length) = true
theorem Ok.scoped {η : Nm} {H : Hp} {μ : Sto} (ok : Ok C η H μ) : Scoped μ := by
  refine List.all_eq_true.mpr fun m hm => ?_
  obtain ⟨n, hn⟩ := List.mem_iff_getElem?.mp hm
  have hl := (List.getElem?_eq_some_iff.mp hn).1
  obtain ⟨o, _, r⟩ := ok.at_ n (η.o[n]'(by rw [ok.len]; exact hl)) m (List.getElem?_eq_getElem _) hn
  rw [← ok.len]
  exact r.under
theorem PostF.leG {η H} {Q : VK} {E : XK} {μ0 : Sto} {r r' : R D} (ok : Ok C η H μ0) (l : LeG μ0 r r') (h : PostF C η H Q E r') : PostF C η H Q E r := by
  rcases l with l | l | ⟨d, μ, γ, rfl, rfl, hl, hu, hs⟩ | ⟨c, d, μ, γ, rfl, rfl, hl, hu, hs⟩
  · rw [l] at h; exact h.elim
  · rw [l]; exact h
  · intro η' H' v n o rv
    exact h (η'.cut μ.length) H' v (n.cutN (by rw [ok.len]; exact hl)) (o.cutN hs) (rv.cutN hu)
  · intro η' H' cls dd n o x
    refine h (η'.cut μ.length) H' cls dd (n.cutN (by rw [ok.len]; exact hl)) (o.cutN hs) ?_
    obtain ⟨e1, a, v, e2, e3, rv⟩ := x
    exact ⟨e1, a, v, e2, e3, rv.cutN hu⟩
theorem df_leG {P : Program} {w : World} {K : PySem.W.Frag} {mg : Str → Option Value} {base : Heap} {f : Addr} {fd : FuncData} {ps : List Str} {k : Nat} {G G' : FD} (F : FnOk P w K mg base (L2.CX P w) k f fd ps (spD C ps.length G)) (h : ∀ ds μ, Scoped μ → unders μ.length ds = true → LeG μ (G ds μ) (G' ds μ)) : FnOk P w K mg base (L2.CX P w) k f fd ps (spD C ps.length G') :=
  F.imp fun vs H Q E ⟨η, ds, μ, hl, r, o, p⟩ => ⟨η, ds, μ, hl, r, o, PostF.leG o (h ds μ o.scoped (by rw [← o.len]; exact r.under)) p⟩
end
end DL
namespace DL
open PySem PySem.Spec PyProof.Rows L2
section
variable {X : Cx} {C : Cc} {W : WX} {e a b i o : Expr} {es : List Expr} {pos apos cpos tpos : Pos} {f fa fb fo fi fv fx : FE D} {fs : FE (List D)}
theorem de_gintE {x : Str} {i : Int} {pos : Pos} (hm : ∃ t, X.mg x = some (.int i t)) (hg : Gl X x := by rfl) (hd : (x == ("__debug__" : Str)) = false := by decide) : DE X C W (.Name x pos) (eC (.int i)) := by
  obtain ⟨t, h⟩ := hm
  exact de_gint h hg hd
theorem de_gstrE {x z : Str} {pos : Pos} (hm : ∃ t, X.mg x = some (.str z t)) (hg : Gl X x := by rfl) (hd : (x == ("__debug__" : Str)) = false := by decide) : DE X C W (.Name x pos) (eC (.str z)) := by
  obtain ⟨t, h⟩ := hm
  exact de_gstr h hg hd
theorem bb_len : bootBuiltins "len" = some (.builtin "len") := by decide +kernel
theorem bb_abs : bootBuiltins "abs" = some (.builtin "abs") := by decide +kernel
theorem bb_max : bootBuiltins "max" = some (.builtin "max") := by decide +kernel
theorem bb_min : bootBuiltins "min" = some (.builtin "min") := by decide +kernel
theorem bb_sum : bootBuiltins "sum" = some (.builtin "sum") := by decide +kernel
theorem bb_any : bootBuiltins "any" = some (.builtin "any") := by decide +kernel
theorem bb_all : bootBuiltins "all" = some (.builtin "all") := by decide +kernel
theorem bb_sorted : bootBuiltins "sorted" = some (.builtin "sorted") := by decide +kernel
theorem bb_int : bootBuiltins "int" = some (.type "int") := by decide +kernel
theorem bb_bool : bootBuiltins "bool" = some (.type "bool") := by decide +kernel
theorem bb_str : bootBuiltins "str" = some (.type "str") := by decide +kernel
theorem bb_tuple : bootBuiltins "tuple" = some (.type "tuple") := by decide +kernel
theorem bb_list : bootBuiltins "list" = some (.type "list") := by decide +kernel
theorem bb_dict : bootBuiltins "dict" = some (.type "dict") := by decide +kernel
theorem bb_set : bootBuiltins "set" = some (.type "set") := by decide +kernel

/-! ### zip of two lists, of two tuples -/
def zipD : List D → List D → List D
  | x :: xs, y :: ys => .tup [x, y] :: zipD xs ys
  | _, _ => []
theorem zipD_length : ∀ xs ys : List D, (zipD xs ys).length = min xs.length ys.length
  | [], _ => by simp [zipD]
  | _ :: _, [] => by simp [zipD]
  | x :: xs, y :: ys => by
    rw [zipD, List.length_cons, zipD_length xs ys, List.length_cons, List.length_cons]
    omega
theorem zipD_get : ∀ (xs ys : List D) (i : Nat) (x y : D), xs[i]? = some x → ys[i]? = some y → (zipD xs ys)[i]? = some (.tup [x, y])
  | [], _, _, _, _, h, _ => by simp at h
  | _ :: _, [], _, _, _, _, h => by simp at h
  | x :: xs, y :: ys, 0, _, _, h1, h2 => by
    cases h1; cases h2; rfl
  | x :: xs, y :: ys, i + 1, _, _, h1, h2 => by
    rw [zipD]
    exact zipD_get xs ys i _ _ h1 h2
def isTupD : D → Bool
  | .tup _ => true
  | _ => false
def gZip : List D → Sto → R ItD
  | [x, y], μ => if isTupD x = isTupD y then (match seqIt μ x, seqIt μ y with | some i, some j => .ok (zipD i.1 j.1, i.2 ++ j.2) μ | _, _ => .bad) else .bad
  | _, _ => .bad
theorem chk_append (g h : List (Nat × DO)) (μ : Sto) : chk (g ++ h) μ ↔ chk g μ ∧ chk h μ := by
  unfold chk
  constructor
  · intro k
    exact ⟨fun p hp => k p (List.mem_append_left _ hp), fun p hp => k p (List.mem_append_right _ hp)⟩
  · rintro ⟨k1, k2⟩ p hp
    rcases List.mem_append.mp hp with q | q
    · exact k1 p q
    · exact k2 p q
theorem walkD_zip {η1 : Nm} {H1 : Hp} {p q : Addr} {ds es : List D} {gd ge : List (Nat × DO)} (h : WalkD C (Itl C.K p) ds gd η1 H1) (k : WalkD C (Itl C.K q) es ge η1 H1) : WalkD C (Itz C.K p q) (zipD ds es) (gd ++ ge) η1 H1 := by
  intro η1' hr ho η H μ n o hc
  obtain ⟨c1, c2⟩ := (chk_append ..).mp hc
  obtain ⟨w1, w2⟩ := h η1' hr ho η H μ n o c1
  obtain ⟨v1, v2⟩ := k η1' hr ho η H μ n o c2
  rw [zipD_length]
  refine ⟨fun i hi => ?_, ?_⟩
  · obtain ⟨go, yl⟩ := w1 i (by omega)
    obtain ⟨go', yl'⟩ := v1 i (by omega)
    obtain ⟨xs, x, hq, hx⟩ := id go
    obtain ⟨ys, y, hq', hy⟩ := id go'
    refine ⟨⟨xs, ys, x, y, hq, hq', hx, hy⟩, ?_⟩
    rintro v H' ⟨T, x', y', rfl, hT, hH, hx', hy'⟩
    have e1 : x' = x := Option.some.inj ((hx' xs hq).symm.trans hx)
    have e2 : y' = y := Option.some.inj ((hy' ys hq').symm.trans hy)
    subst e1 e2
    obtain ⟨d, d1, _, r1⟩ := yl x' H ⟨rfl, hx'⟩
    obtain ⟨e, d2, _, r2⟩ := yl' y' H ⟨rfl, hy'⟩
    obtain ⟨sm, rp⟩ := rep_pair hT hH r1 r2
    exact ⟨_, zipD_get _ _ _ _ _ d1 d2, sm, rp⟩
  · obtain ⟨xs, hq, hx⟩ := w2
    obtain ⟨ys, hq', hy⟩ := v2
    exact ⟨xs, ys, hq, hq', by omega⟩
theorem walkD_zipT {η1 : Nm} {H1 : Hp} {p q : Addr} {ds es : List D} {gd ge : List (Nat × DO)} (h : WalkD C (Itt C.K p) ds gd η1 H1) (k : WalkD C (Itt C.K q) es ge η1 H1) : WalkD C (RZ.ItzT C.K p q) (zipD ds es) (gd ++ ge) η1 H1 := by
  intro η1' hr ho η H μ n o hc
  obtain ⟨c1, c2⟩ := (chk_append ..).mp hc
  obtain ⟨w1, w2⟩ := h η1' hr ho η H μ n o c1
  obtain ⟨v1, v2⟩ := k η1' hr ho η H μ n o c2
  rw [zipD_length]
  refine ⟨fun i hi => ?_, ?_⟩
  · obtain ⟨go, yl⟩ := w1 i (by omega)
    obtain ⟨go', yl'⟩ := v1 i (by omega)
    obtain ⟨xs, x, hq, hx⟩ := id go
    obtain ⟨ys, y, hq', hy⟩ := id go'
    refine ⟨⟨xs, ys, x, y, hq, hq', hx, hy⟩, ?_⟩
    rintro v H' ⟨T, x', y', rfl, hT, hH, hx', hy'⟩
    have e1 : x' = x := Option.some.inj ((hx' xs hq).symm.trans hx)
    have e2 : y' = y := Option.some.inj ((hy' ys hq').symm.trans hy)
    subst e1 e2
    obtain ⟨d, d1, _, r1⟩ := yl x' H ⟨rfl, hx'⟩
    obtain ⟨e, d2, _, r2⟩ := yl' y' H ⟨rfl, hy'⟩
    obtain ⟨sm, rp⟩ := rep_pair hT hH r1 r2
    exact ⟨_, zipD_get _ _ _ _ _ d1 d2, sm, rp⟩
  · obtain ⟨xs, hq, hx⟩ := w2
    obtain ⟨ys, hq', hy⟩ := v2
    exact ⟨xs, ys, hq, hq', by omega⟩
theorem di_zip {p : Pos} {elts : List Expr} {kk : Nat} (hm : X.mg "zip" = none) (ha : DA X C W [a, b] fs) (hK : X.K = C.K := by rfl) (hg : Gl X "zip" := by rfl) (hs : starEach [a, b] X.env = (false, eval a X.env) :: starEach [b] X.env := by rfl)
    (hpl : (backTo pos (starEach [b] X.env)).any (·.1) = false := by rfl) : DI X C W (.Tuple elts kk tpos) (.Call (.Name "zip" p) [a, b] [] pos) (eCall gZip fs) := by
  refine ⟨pi_imp (RZ.pi_zipA hg hm ha.pa hs hpl) fun σ H Q => ?_⟩
  rintro ⟨η, ρ, μ, s, o, p⟩
  refine ⟨η, ρ, μ, s, o, Post.bind p fun ds η1 H1 μ1 n1 o1 p1 vs rv => ?_⟩
  unfold gZip at p1
  split at p1
  · rename_i x y
    split at p1
    · rename_i ht
      split at p1
      · rename_i i j e1 e2
        obtain ⟨v, w, rfl, r1, r2⟩ := rv.two
        by_cases hx : isTupD x = true
        · have hy : isTupD y = true := by rw [← ht]; exact hx
          unfold isTupD at hx hy
          split at hx
          · split at hy
            · cases r1 with
              | tup g1 g2 =>
                cases r2 with
                | tup k1 k2 =>
                  cases e1
                  cases e2
                  refine ⟨_, _, _, _, rfl, .inr ⟨by rw [hK]; exact g1, by rw [hK]; exact k1, ?_⟩⟩
                  rw [hK]
                  exact p1.now o1 _ (walkD_zipT (walkD_tup g1 g2) (walkD_tup k1 k2))
            · cases hy
          · cases hx
        · have hy : ¬ isTupD y = true := by rw [← ht]; exact hx
          obtain ⟨q1, v1, rfl, g1, g2⟩ := list_walk o1 r1 e1 (fun ds z => hx (by subst z; rfl))
          obtain ⟨q2, v2, rfl, k1, k2⟩ := list_walk o1 r2 e2 (fun ds z => hy (by subst z; rfl))
          refine ⟨q1, q2, v1, v2, rfl, .inl ⟨by rw [hK]; exact g1, by rw [hK]; exact k1, ?_⟩⟩
          rw [hK]
          exact p1.now o1 _ (walkD_zip g2 k2)
      · exact p1.elim
    · exact p1.elim
  · exact p1.elim
end
end DL
namespace DL
open PySem PySem.Spec PyProof.Rows L2
/-! ### evaluating -/
section
variable {α β : Type} {ρ : En} {μ : Sto} {fa fb fc fo fi fx fv : FE D} {fs gs : FE (List D)} {F G : FS} {t u : FE Bool} {i j : Nat}
@[simp] theorem x_eVar : eVar i ρ μ = (match ρ[i]? with | some (some d) => .ok d μ | _ => .bad) := (rfl)
@[simp] theorem x_eC {d : D} : eC d ρ μ = .ok d μ := (rfl)
@[simp] theorem x_eOp {g : D → D → Option D} : eOp g fa fb ρ μ = (fa ρ μ).bind fun x μ1 => (fb ρ μ1).bind fun y μ2 => match g x y with | some z => .ok z μ2 | none => .bad := (rfl)
@[simp] theorem x_gI0 {g : Int → Int → Int} {a b : Int} : gI0 g (.int a) (.int b) = some (.int (g a b)) := (rfl)
@[simp] theorem x_gI {c : Int → Int → Bool} {g : Int → Int → Int} {a b : Int} (h : c a b = true) : gI c g (.int a) (.int b) = some (.int (g a b)) := if_pos h
@[simp] theorem x_eNeg : eNeg fa ρ μ = (fa ρ μ).bind fun x μ1 => match x with | .int i => .ok (.int (-i)) μ1 | _ => .bad := (rfl)
@[simp] theorem x_eCmp {g : D → D → Sto → Option Bool} : eCmp g fa fb ρ μ = (fa ρ μ).bind fun x μ1 => (fb ρ μ1).bind fun y μ2 => match g x y μ2 with | some z => .ok (.bl z) μ2 | none => .bad := (rfl)
@[simp] theorem x_tCmp {g : D → D → Sto → Option Bool} : tCmp g fa fb ρ μ = (fa ρ μ).bind fun x μ1 => (fb ρ μ1).bind fun y μ2 => match g x y μ2 with | some z => .ok z μ2 | none => .bad := (rfl)
@[simp] theorem x_gB {g : Int → Int → Bool} {a b : Int} : gB g (.int a) (.int b) μ = some (g a b) := (rfl)
@[simp] theorem x_eChain {g g' : D → D → Sto → Option Bool} : eChain g g' fa fb fc ρ μ = (fa ρ μ).bind fun x μ1 => (fb ρ μ1).bind fun y μ2 => match g x y μ2 with
  | some true => (fc ρ μ2).bind fun z μ3 => match g' y z μ3 with | some k => .ok k μ3 | none => .bad
  | some false => .ok false μ2
  | none => .bad := (rfl)
@[simp] theorem x_eOfT : eOfT t ρ μ = (t ρ μ).bind fun b μ1 => .ok (.bl b) μ1 := (rfl)
@[simp] theorem x_tTru : tTru fa ρ μ = (fa ρ μ).bind fun x μ1 => match truD μ1 x with | some k => .ok k μ1 | none => .bad := (rfl)
@[simp] theorem x_tAnd : tAnd t u ρ μ = (t ρ μ).bind fun k μ1 => if k = true then u ρ μ1 else .ok false μ1 := (rfl)
@[simp] theorem x_tOr : tOr t u ρ μ = (t ρ μ).bind fun k μ1 => if k = true then .ok true μ1 else u ρ μ1 := (rfl)
@[simp] theorem x_tNot : tNot t ρ μ = (t ρ μ).bind fun k μ1 => .ok (!k) μ1 := (rfl)
@[simp] theorem x_eAnd : eAnd fa fb ρ μ = (fa ρ μ).bind fun x μ1 => match truD μ1 x with | some true => fb ρ μ1 | some false => .ok x μ1 | none => .bad := (rfl)
@[simp] theorem x_eOr : eOr fa fb ρ μ = (fa ρ μ).bind fun x μ1 => match truD μ1 x with | some true => .ok x μ1 | some false => fb ρ μ1 | none => .bad := (rfl)
@[simp] theorem x_eNot : eNot fa ρ μ = (fa ρ μ).bind fun x μ1 => match truD μ1 x with | some k => .ok (.bl (!k)) μ1 | none => .bad := (rfl)
@[simp] theorem x_eIf : eIf t fa fb ρ μ = (t ρ μ).bind fun k μ1 => if k = true then fa ρ μ1 else fb ρ μ1 := (rfl)
@[simp] theorem x_truNon : truD μ .non = some false := by rw [truD]
@[simp] theorem x_truBl {b : Bool} : truD μ (.bl b) = some b := by rw [truD]
@[simp] theorem x_truInt {n : Int} : truD μ (.int n) = some (n != 0) := by rw [truD]
@[simp] theorem x_truTup {ds : List D} : truD μ (.tup ds) = some (!ds.isEmpty) := by rw [truD]
@[simp] theorem x_truLst {ds : List D} : truD μ (.lst ds) = some (!ds.isEmpty) := by rw [truD]
@[simp] theorem x_eNil : eNil ρ μ = .ok [] μ := (rfl)
@[simp] theorem x_eCons : eCons fa fs ρ μ = (fa ρ μ).bind fun d μ1 => (fs ρ μ1).bind fun ds μ2 => .ok (d :: ds) μ2 := (rfl)
@[simp] theorem x_eTup : eTup fs ρ μ = (fs ρ μ).bind fun ds μ1 => if ds.length ≤ SZ then .ok (.tup ds) μ1 else .bad := (rfl)
@[simp] theorem x_eLst : eLst fs ρ μ = (fs ρ μ).bind fun ds μ1 => if ds.length ≤ SZ then .ok ds μ1 else .bad := (rfl)
@[simp] theorem x_eFz : eFz fs ρ μ = (fs ρ μ).bind fun ds μ1 => .ok (.lst ds) μ1 := (rfl)
@[simp] theorem x_eMu : eMu fs ρ μ = (fs ρ μ).bind fun ds μ1 => .ok (.obj μ1.length) (μ1 ++ [.lst ds]) := (rfl)
@[simp] theorem x_eIx : eIx fa fb ρ μ = (fa ρ μ).bind fun x μ1 => (fb ρ μ1).bind fun y μ2 => match gIx μ2 x y with | some z => .ok z μ2 | none => .bad := (rfl)
@[simp] theorem x_gIxT {ds : List D} {n : Int} : gIx μ (.tup ds) (.int n) = L2.atI ds n := (rfl)
@[simp] theorem x_gIxL {ds : List D} {n : Int} : gIx μ (.lst ds) (.int n) = L2.atI ds n := (rfl)
@[simp] theorem x_gIxF {ds : List D} {n : Int} : gIx μ (.frz ds) (.int n) = L2.atI ds n := (rfl)
@[simp] theorem x_gIxO {k : Nat} {n : Int} : gIx μ (.obj k) (.int n) = (lstAt μ k).bind fun ds => L2.atI ds n := (rfl)
@[simp] theorem x_oNone : oNone ρ μ = .ok none μ := (rfl)
@[simp] theorem x_oSome : oSome fa ρ μ = (fa ρ μ).bind fun x μ1 => match x with | .int i => .ok (some i) μ1 | _ => .bad := (rfl)
@[simp] theorem x_eCutT {lo hi : FE (Option Int)} : eCutT fa lo hi ρ μ = (fa ρ μ).bind fun x μ1 => (lo ρ μ1).bind fun i μ2 => (hi ρ μ2).bind fun j μ3 => match x with | .tup ds => .ok (.tup (cutD ds i j)) μ3 | _ => .bad := (rfl)
@[simp] theorem x_eCutL {lo hi : FE (Option Int)} : eCutL fa lo hi ρ μ = (fa ρ μ).bind fun x μ1 => (lo ρ μ1).bind fun i μ2 => (hi ρ μ2).bind fun j μ3 => match listOf μ3 x with | some ds => .ok (cutD ds i j) μ3 | none => .bad := (rfl)
@[simp] theorem x_eCatT : eCatT fa fb ρ μ = (fa ρ μ).bind fun x μ1 => (fb ρ μ1).bind fun y μ2 => match x, y with | .tup ds, .tup es => if ds.length + es.length ≤ SZ then .ok (.tup (ds ++ es)) μ2 else .bad | _, _ => .bad := (rfl)
@[simp] theorem x_eCatL : eCatL fa fb ρ μ = (fa ρ μ).bind fun x μ1 => (fb ρ μ1).bind fun y μ2 => match ownL μ2 x, ownL μ2 y with | some ds, some es => if ds.length + es.length ≤ SZ then .ok (ds ++ es) μ2 else .bad | _, _ => .bad := (rfl)
@[simp] theorem x_ownL {ds : List D} : ownL μ (.lst ds) = some ds := (rfl)
@[simp] theorem x_listOfL {ds : List D} : listOf μ (.lst ds) = some ds := (rfl)
@[simp] theorem x_listOfF {ds : List D} : listOf μ (.frz ds) = some ds := (rfl)
@[simp] theorem x_listOfO {n : Nat} : listOf μ (.obj n) = lstAt μ n := (rfl)
@[simp] theorem x_seqOfT {ds : List D} : seqOf μ (.tup ds) = some ds := (rfl)
@[simp] theorem x_seqOfL {ds : List D} : seqOf μ (.lst ds) = some ds := (rfl)
@[simp] theorem x_seqOfF {ds : List D} : seqOf μ (.frz ds) = some ds := (rfl)
@[simp] theorem x_seqOfO {n : Nat} : seqOf μ (.obj n) = lstAt μ n := (rfl)
@[simp] theorem x_eCall {g : List D → Sto → R α} : eCall g fs ρ μ = (fs ρ μ).bind g := (rfl)
@[simp] theorem x_eCall0 {g : FD} : eCall0 g ρ μ = g [] μ := (rfl)
@[simp] theorem x_eCallK {g : FD} {π : List Nat} : eCallK g π fs ρ μ = (fs ρ μ).bind fun ds μ1 => g (perm π ds) μ1 := (rfl)
@[simp] theorem x_gLenT {ds : List D} : gLen [.tup ds] μ = .ok (.int ds.length) μ := (rfl)
@[simp] theorem x_gLenL {ds : List D} : gLen [.lst ds] μ = .ok (.int ds.length) μ := (rfl)
@[simp] theorem x_gLenF {ds : List D} : gLen [.frz ds] μ = .ok (.int ds.length) μ := (rfl)
@[simp] theorem x_gLenO {n : Nat} : gLen [.obj n] μ = match lstAt μ n with | some ds => .ok (.int ds.length) μ | none => .bad := (rfl)
@[simp] theorem x_gInt1 {h : Int → Int} {a : Int} : gInt1 h [.int a] μ = .ok (.int (h a)) μ := (rfl)
@[simp] theorem x_gInt2 {h : Int → Int → Int} {a b : Int} : gInt2 h [.int a, .int b] μ = .ok (.int (h a b)) μ := (rfl)
@[simp] theorem x_gTupT {ds : List D} : gTupOf [.tup ds] μ = .ok (.tup ds) μ := (rfl)
@[simp] theorem x_gTupL {ds : List D} : gTupOf [.lst ds] μ = .ok (.tup ds) μ := (rfl)
@[simp] theorem x_gTupO {n : Nat} : gTupOf [.obj n] μ = match lstAt μ n with | some ds => .ok (.tup ds) μ | none => .bad := (rfl)
@[simp] theorem x_gListT {ds : List D} : gListOf [.tup ds] μ = .ok ds μ := (rfl)
@[simp] theorem x_gListL {ds : List D} : gListOf [.lst ds] μ = .ok ds μ := (rfl)
@[simp] theorem x_gListO {n : Nat} : gListOf [.obj n] μ = match lstAt μ n with | some ds => .ok ds μ | none => .bad := (rfl)
@[simp] theorem x_gSumT {ns : List Int} : gSumT [.tup (ns.map .int)] μ = .ok (.int ns.sum) μ := by simp [gSumT]
@[simp] theorem x_gSumL {ns : List Int} : gSumT [.lst (ns.map .int)] μ = .ok (.int ns.sum) μ := by simp [gSumT, gSum, gInts]
@[simp] theorem x_gAny {bs : List Bool} : gAny [.lst (bs.map .bl)] μ = .ok (.bl (bs.any id)) μ := by simp [gAny, gBls]
@[simp] theorem x_gAll {bs : List Bool} : gAll [.lst (bs.map .bl)] μ = .ok (.bl (bs.all id)) μ := by simp [gAll, gBls]
@[simp] theorem x_eIsi {T : String} : eIsi T fa ρ μ = (fa ρ μ).bind fun d μ1 => match tyD μ1 d with | some t => .ok (.bl (isiB t T)) μ1 | none => .bad := (rfl)
@[simp] theorem x_eMeth {T : String} {g : D → List D → Sto → R D} : eMeth T g fo fs ρ μ = (fo ρ μ).bind fun d μ1 => if tyvD T μ1 d = true then (fs ρ μ1).bind fun ds μ2 => g d ds μ2 else .bad := (rfl)
@[simp] theorem x_gAppend {n : Nat} {y : D} : gAppend (.obj n) [y] μ = match lstAt μ n with | some ds => if ds.length < SZ then .ok .non (μ.set n (.lst (ds ++ [y]))) else .bad | none => .bad := (rfl)
@[simp] theorem x_eDNew : eDNew ρ μ = .ok (.obj μ.length) (μ ++ [.dk []]) := (rfl)
@[simp] theorem x_eDGet2 : eDGet2 fo fi fx ρ μ = (fo ρ μ).bind fun d μ1 => if (dkAt μ1 d).isSome = true then (fi ρ μ1).bind fun k μ2 => (fx ρ μ2).bind fun z μ3 => match dkAt μ3 d, keyD k with
  | some kvs, some y => .ok ((valD kvs y).getD z) μ3
  | _, _ => .bad else .bad := (rfl)
@[simp] theorem x_eRef {c0 : Nat} {ret : Str} {fb : FE D} : eRef c0 ret fb ρ μ = match fb ρ μ with
  | .ok _ μ1 => .ok (.str ret) μ1
  | .ex c d μ1 => if c = c0 then .ok d μ1 else .bad
  | .bad => .bad := (rfl)
@[simp] theorem x_sNext : sNext ρ μ = .nx ρ μ := (rfl)
@[simp] theorem x_sBreak : sBreak ρ μ = .bk ρ μ := (rfl)
@[simp] theorem x_sCont : sCont ρ μ = .ct ρ μ := (rfl)
@[simp] theorem x_sSeq : sSeq F G ρ μ = match F ρ μ with | .nx ρ1 μ1 => G ρ1 μ1 | r => r := (rfl)
@[simp] theorem x_sExpr : sExpr fa ρ μ = (fa ρ μ).st ρ fun _ μ1 => .nx ρ μ1 := (rfl)
@[simp] theorem x_sRet : sRet fa ρ μ = (fa ρ μ).st ρ fun d μ1 => .rt d μ1 := (rfl)
@[simp] theorem x_sRetN : sRetN ρ μ = .rt .non μ := (rfl)
@[simp] theorem x_sIf : sIf t F G ρ μ = (t ρ μ).st ρ fun k μ1 => if k = true then F ρ μ1 else G ρ μ1 := (rfl)
@[simp] theorem x_sSet : sSet i fa ρ μ = (fa ρ μ).st ρ fun d μ1 => .nx (ρ.set i (some d)) μ1 := (rfl)
@[simp] theorem x_sAsg {g : FG} : sAsg fa g ρ μ = (fa ρ μ).st ρ fun d μ1 => match g d ρ with | some ρ' => .nx ρ' μ1 | none => .bad := (rfl)
@[simp] theorem x_sPar : sPar i j fs ρ μ = (fs ρ μ).st ρ fun ds μ1 => match ds with | [d, e] => .nx ((ρ.set i (some d)).set j (some e)) μ1 | _ => .bad := (rfl)
@[simp] theorem x_sPar3 {l : Nat} : sPar3 i j l fs ρ μ = (fs ρ μ).st ρ fun ds μ1 => match ds with | [d, e, f] => .nx (((ρ.set i (some d)).set j (some e)).set l (some f)) μ1 | _ => .bad := (rfl)
@[simp] theorem x_sAug {g : Int → Int → Option Int} : sAug i g fa ρ μ = match ρ[i]? with
  | some (some (.int x)) => (fa ρ μ).st ρ fun d μ1 => match d with | .int y => (match g x y with | some z => .nx (ρ.set i (some (.int z))) μ1 | none => .bad) | _ => .bad
  | _ => .bad := (rfl)
@[simp] theorem x_gAugAdd {a b : Int} : gAugAdd a b = some (a + b) := (rfl)
@[simp] theorem x_gAugSub {a b : Int} : gAugSub a b = some (a - b) := (rfl)
@[simp] theorem x_sRaise {c : Nat} : sRaise c fa ρ μ = (fa ρ μ).st ρ fun d μ1 => .ex c d ρ μ1 := (rfl)
@[simp] theorem x_sPut : sPut fv fo fi ρ μ = (fv ρ μ).st ρ fun w μ1 => (fo ρ μ1).st ρ fun d μ2 => (fi ρ μ2).st ρ fun k μ3 => match gSet d k w μ3 with | some μ4 => .nx ρ μ4 | none => .bad := (rfl)
@[simp] theorem x_sFor {fi : FE ItD} {g : FG} : sFor fi g F ρ μ = (fi ρ μ).st ρ fun it μ1 => forD it.2 g F it.1 ρ μ1 := (rfl)
@[simp] theorem x_iSeq : iSeq fa ρ μ = (fa ρ μ).bind fun x μ1 => match seqIt μ1 x with | some it => .ok it μ1 | none => .bad := (rfl)
@[simp] theorem x_iEn : iEn fa ρ μ = (fa ρ μ).bind fun x μ1 => match seqIt μ1 x with | some it => .ok (enumD it.1, it.2) μ1 | none => .bad := (rfl)
@[simp] theorem x_seqItT {ds : List D} : seqIt μ (.tup ds) = some (ds, []) := (rfl)
@[simp] theorem x_seqItL {ds : List D} : seqIt μ (.lst ds) = some (ds, []) := (rfl)
@[simp] theorem x_seqItF {ds : List D} : seqIt μ (.frz ds) = some (ds, []) := (rfl)
@[simp] theorem x_seqItO {n : Nat} : seqIt μ (.obj n) = (lstAt μ n).map fun ds => (ds, [(n, .lst ds)]) := (rfl)
@[simp] theorem x_gRange1 {b : Int} (h : small b = true) : gRange1 [.int b] μ = .ok (rangeD 0 b.toNat, []) μ := if_pos h
@[simp] theorem x_gRange2 {a b : Int} (h1 : small a = true) (h2 : small b = true) : gRange2 [.int a, .int b] μ = .ok (rangeD a (b - a).toNat, []) μ := if_pos ⟨h1, h2⟩
@[simp] theorem x_eLc {fi : FE ItD} {vs : List Nat} {g : FG} {te : FE D} : eLc fi vs g t te ρ μ = (fi ρ μ).bind fun it μ1 => if it.1.length ≤ SZ then lcD it.2 g t te (wipeE ρ vs) it.1 μ1 else .bad := (rfl)
@[simp] theorem x_wipe0 : wipeE ρ [] = ρ := (rfl)
@[simp] theorem x_wipe1 {v : Nat} {vs : List Nat} : wipeE ρ (v :: vs) = (wipeE ρ vs).set v none := (rfl)
@[simp] theorem x_tgN {d : D} : tgN i d ρ = some (ρ.set i (some d)) := (rfl)
@[simp] theorem x_tgT {gs : List D → En → Option En} {ds : List D} : tgT gs (.tup ds) ρ = gs ds ρ := (rfl)
@[simp] theorem x_tgsNil : tgsNil [] ρ = some ρ := (rfl)
@[simp] theorem x_tgsCons {g : FG} {gs : List D → En → Option En} {d : D} {ds : List D} : tgsCons g gs (d :: ds) ρ = (g d ρ).bind fun ρ1 => gs ds ρ1 := (rfl)
@[simp] theorem x_tYes : tYesD ρ μ = .ok true μ := (rfl)
@[simp] theorem x_gIsN1 : gIs .non .non μ = some true := (rfl)
theorem SZ_eq : SZ = 16777216 := rfl
theorem x_runF {n : Nat} {ds : List D} : runF n F ds μ = match F (ds.map some ++ List.replicate (n - ds.length) none) μ with
  | .nx _ μ' => .ok .non μ'
  | .rt d μ' => .ok d μ'
  | .ex c d _ μ' => .ex c d μ'
  | _ => .bad := rfl
end

/-! ### loops -/
section
variable {gd : List (Nat × DO)} {g : FG} {F : FS} {tt : FE Bool} {te : FE D}
/-- an invariant I, ends told by Pr -/
theorem forD_inv (I : Nat → En → Sto → Prop) (Pr : SR → Prop) : ∀ (items : List D) (k : Nat) (ρ : En) (μ : Sto), I k ρ μ →
    (∀ i d ρ μ, items[i]? = some d → I (k + i) ρ μ → chk gd μ ∧ ∃ ρ1, g d ρ = some ρ1 ∧ match F ρ1 μ with
      | .nx ρ2 μ2 => I (k + i + 1) ρ2 μ2
      | .ct ρ2 μ2 => I (k + i + 1) ρ2 μ2
      | .bk ρ2 μ2 => Pr (.nx ρ2 μ2)
      | r => Pr r) → (∀ ρ μ, I (k + items.length) ρ μ → chk gd μ ∧ Pr (.nx ρ μ)) → Pr (forD gd g F items ρ μ)
  | [], k, ρ, μ, h0, _, he => by
    obtain ⟨c, p⟩ := he ρ μ h0
    rw [forD, if_pos c]
    exact p
  | d :: ds, k, ρ, μ, h0, hs, he => by
    obtain ⟨c, ρ1, e1, h⟩ := hs 0 d ρ μ rfl h0
    rw [forD, if_pos c, e1]
    have next : ∀ ρ2 μ2, I (k + 1) ρ2 μ2 → Pr (forD gd g F ds ρ2 μ2) := fun ρ2 μ2 h2 => by
      refine forD_inv I Pr ds (k + 1) ρ2 μ2 h2 (fun i e ρ μ hi hI => ?_) (fun ρ μ hI => he ρ μ ?_)
      · have := hs (i + 1) e ρ μ (by simpa using hi) (by rw [show k + (i + 1) = k + 1 + i by omega]; exact hI)
        rw [show k + (i + 1) + 1 = k + 1 + i + 1 by omega] at this
        exact this
      · rw [List.length_cons, show k + (ds.length + 1) = k + 1 + ds.length by omega]
        exact hI
    cases hF : F ρ1 μ with
    | nx ρ2 μ2 => rw [hF] at h; simp only [hF]; exact next ρ2 μ2 h
    | ct ρ2 μ2 => rw [hF] at h; simp only [hF]; exact next ρ2 μ2 h
    | bk ρ2 μ2 => rw [hF] at h; simp only [hF]; exact h
    | rt d μ2 => rw [hF] at h; simp only [hF]; exact h
    | ex c d ρ2 μ2 => rw [hF] at h; simp only [hF]; exact h
    | bad => rw [hF] at h; simp only [hF]; exact h
/-- a comprehension whose parts leave the store -/
theorem lcD_pure (f : D → D) (p : D → Bool) (ρ : En) (μ : Sto) (hc : chk gd μ) : ∀ items : List D, (∀ d ∈ items, ∃ ρ1, g d ρ = some ρ1 ∧ tt ρ1 μ = .ok (p d) μ ∧ (p d = true → te ρ1 μ = .ok (f d) μ)) → lcD gd g tt te ρ items μ = .ok ((items.filter p).map f) μ
  | [], _ => by rw [lcD, if_pos hc]; rfl
  | d :: ds, h => by
    obtain ⟨ρ1, e1, e2, e3⟩ := h d (by simp)
    have ih := lcD_pure f p ρ μ hc ds fun x hx => h x (by simp [hx])
    rw [lcD, if_pos hc, e1]
    dsimp only
    rw [e2, R.nox_ok, R.bind_ok]
    cases hp : p d with
    | true => rw [if_pos rfl, e3 hp, R.nox_ok, R.bind_ok, ih, R.bind_ok, List.filter_cons, hp]; rfl
    | false => rw [if_neg (by simp), ih, List.filter_cons, hp]; rfl
theorem lcD_map (f : D → D) (ρ : En) (μ : Sto) (hc : chk gd μ) (items : List D) (h : ∀ d ∈ items, ∃ ρ1, g d ρ = some ρ1 ∧ te ρ1 μ = .ok (f d) μ) : lcD gd g tYesD te ρ items μ = .ok (items.map f) μ := by
  rw [lcD_pure f (fun _ => true) ρ μ hc items fun d hd => ?_]
  · rw [List.filter_eq_self.mpr (fun _ _ => rfl)]
  · obtain ⟨ρ1, e1, e2⟩ := h d hd
    exact ⟨ρ1, e1, rfl, fun _ => e2⟩
/-- a comprehension whose element changes the store: Q of the items, I of the store -/
theorem lcD_inv (I : Nat → Sto → Prop) (Q : D → Prop) (ρ : En) : ∀ (items : List D) (k : Nat) (μ : Sto), I k μ → (∀ i d μ, items[i]? = some d → I (k + i) μ → chk gd μ ∧ ∃ ρ1, g d ρ = some ρ1 ∧ ∃ y μ1, te ρ1 μ = .ok y μ1 ∧ Q y ∧ I (k + i + 1) μ1) → (∀ μ, I (k + items.length) μ → chk gd μ) →
    ∃ ys μ', lcD gd g tYesD te ρ items μ = .ok ys μ' ∧ ys.length = items.length ∧ (∀ y ∈ ys, Q y) ∧ I (k + items.length) μ'
  | [], k, μ, h0, _, he => by
    rw [lcD, if_pos (he μ h0)]
    exact ⟨[], μ, rfl, rfl, by simp, h0⟩
  | d :: ds, k, μ, h0, hs, he => by
    obtain ⟨c, ρ1, e1, y, μ1, e2, hq, h1⟩ := hs 0 d μ rfl h0
    obtain ⟨ys, μ', e3, hl, hqs, hI⟩ := lcD_inv I Q ρ ds (k + 1) μ1 h1 (fun i e μ hi hI => by
      have := hs (i + 1) e μ (by simpa using hi) (by rw [show k + (i + 1) = k + 1 + i by omega]; exact hI)
      rw [show k + (i + 1) + 1 = k + 1 + i + 1 by omega] at this
      exact this) (fun μ hI => he μ (by rw [List.length_cons, show k + (ds.length + 1) = k + 1 + ds.length by omega]; exact hI))
    rw [lcD, if_pos c, e1]
    dsimp only
    rw [x_tYes, R.nox_ok, R.bind_ok, if_pos rfl, e2, R.nox_ok, R.bind_ok, e3, R.bind_ok]
    refine ⟨_, _, rfl, by simp [hl], fun z hz => ?_, ?_⟩
    · rcases List.mem_cons.mp hz with q | q
      · rw [q]; exact hq
      · exact hqs z q
    · rw [List.length_cons, show k + (ds.length + 1) = k + 1 + ds.length by omega]
      exact hI
end
end DL
namespace DL
open PySem PySem.Spec L2
/-! ### equality of typed data -/
class PyT (α : Type) where
  en : α → D
  py : α → PyData
  dep : Nat
  to : ∀ a, toPy (en a) = some (py a)
  lay : ∀ a, (py a).canLay0 = true
  depth : ∀ a, (py a).depth ≤ dep
  eqv : ∀ a b, PyData.eqv (py a) (py b) = true ↔ a = b
theorem toPyS_of {μ : Sto} {d : D} {p : PyData} (h : toPy d = some p) : toPyS μ d = some p := by
  cases d with
  | obj n => rw [toPy] at h; cases h
  | _ => rw [toPyS]; exact h; intro n z; cases z
theorem gEq_py {α : Type} [PyT α] [DecidableEq α] (a b : α) {μ : Sto} (h : PyT.dep α ≤ 64) : gEq (PyT.en a) (PyT.en b) μ = some (decide (a = b)) := by
  unfold gEq
  rw [toPyS_of (PyT.to a), toPyS_of (PyT.to b)]
  have sh : ∀ x : α, SeqAt.shaped (PyT.py x) = true := fun x => by
    unfold SeqAt.shaped
    rw [Bool.and_eq_true]
    exact ⟨PyT.lay x, decide_eq_true (Nat.le_trans (PyT.depth x) h)⟩
  simp only [sh, and_self, if_true]
  congr 1
  have := PyT.eqv a b
  by_cases e : a = b
  · rw [decide_eq_true e]; exact this.mpr e
  · rw [decide_eq_false e]
    cases q : (PyT.py a).eqv (PyT.py b) with
    | false => rfl
    | true => exact absurd (this.mp q) e
theorem gNe_py {α : Type} [PyT α] [DecidableEq α] (a b : α) {μ : Sto} (h : PyT.dep α ≤ 64) : gNe (PyT.en a) (PyT.en b) μ = some (!decide (a = b)) := by
  unfold gNe
  rw [gEq_py a b h]
  rfl
instance : PyT Int where
  en := .int
  py := .int
  dep := 0
  to := fun a => by rw [toPy]
  lay := fun a => by simp [PyData.canLay0]
  depth := fun a => by simp [PyData.depth]
  eqv := fun a b => by simp [PyData.eqv]
instance : PyT Bool where
  en := .bl
  py := .bool
  dep := 0
  to := fun a => by rw [toPy]
  lay := fun a => by simp [PyData.canLay0]
  depth := fun a => by simp [PyData.depth]
  eqv := fun a b => by simp [PyData.eqv]
instance : PyT (Option Int) where
  en := fun o => match o with | some i => .int i | none => .non
  py := fun o => match o with | some i => .int i | none => .none
  dep := 0
  to := fun a => by cases a <;> rw [toPy]
  lay := fun a => by cases a <;> simp [PyData.canLay0]
  depth := fun a => by cases a <;> simp [PyData.depth]
  eqv := fun a b => by cases a <;> cases b <;> simp [PyData.eqv]
section
variable {α β : Type} [PyT α] [PyT β]
theorem pys_to : ∀ l : List α, toPys (l.map PyT.en) = some (l.map PyT.py)
  | [] => by rw [List.map_nil, toPys]; rfl
  | a :: l => by rw [List.map_cons, toPys, PyT.to, pys_to l]; rfl
theorem pys_lay : ∀ l : List α, PyData.canLayAll0 (l.map PyT.py) = true
  | [] => by simp [PyData.canLayAll0]
  | a :: l => by simp [PyData.canLayAll0, PyT.lay a, pys_lay l]
theorem pys_dep : ∀ l : List α, PyData.depthAll (l.map PyT.py) ≤ PyT.dep α
  | [] => by simp [PyData.depthAll]
  | a :: l => by
    have h1 := pys_dep l
    have h2 := PyT.depth a
    simp only [List.map_cons, PyData.depthAll]
    omega
theorem pys_eqv : ∀ l m : List α, PyData.eqvAll (l.map PyT.py) (m.map PyT.py) = true ↔ l = m
  | [], [] => by simp [PyData.eqvAll]
  | [], b :: m => by simp [PyData.eqvAll]
  | a :: l, [] => by simp [PyData.eqvAll]
  | a :: l, b :: m => by simp [PyData.eqvAll, PyT.eqv a b, pys_eqv l m]
instance : PyT (List α) where
  en := fun l => .tup (l.map PyT.en)
  py := fun l => .tuple (l.map PyT.py)
  dep := PyT.dep α + 1
  to := fun l => by rw [toPy, pys_to]; rfl
  lay := fun l => by simp only [PyData.canLay0]; exact pys_lay l
  depth := fun l => by
    have := pys_dep l
    simp only [PyData.depth]
    omega
  eqv := fun l m => by simp only [PyData.eqv]; exact pys_eqv l m
instance : PyT (α × β) where
  en := fun p => .tup [PyT.en p.1, PyT.en p.2]
  py := fun p => .tuple [PyT.py p.1, PyT.py p.2]
  dep := max (PyT.dep α) (PyT.dep β) + 1
  to := fun p => by rw [toPy, toPys, toPys, toPys, PyT.to, PyT.to]; rfl
  lay := fun p => by simp [PyData.canLay0, PyData.canLayAll0, PyT.lay]
  depth := fun p => by
    have h1 := PyT.depth p.1
    have h2 := PyT.depth p.2
    simp only [PyData.depth, PyData.depthAll]
    omega
  eqv := fun p q => by
    obtain ⟨a, b⟩ := p
    obtain ⟨c, d⟩ := q
    simp [PyData.eqv, PyData.eqvAll, PyT.eqv]
end
/-- a Python list of typed data -/
structure PyL (α : Type) where
  l : List α
instance {α : Type} [DecidableEq α] : DecidableEq (PyL α) := fun a b => if h : a.l = b.l then .isTrue (by cases a; cases b; simpa using h) else .isFalse fun e => h (by rw [e])
instance {α : Type} [PyT α] : PyT (PyL α) where
  en := fun l => .lst (l.l.map PyT.en)
  py := fun l => .list (l.l.map PyT.py)
  dep := PyT.dep α + 1
  to := fun l => by rw [toPy, pys_to]; rfl
  lay := fun l => by simp only [PyData.canLay0]; exact pys_lay l.l
  depth := fun l => by
    have := pys_dep l.l
    simp only [PyData.depth]
    omega
  eqv := fun l m => by
    simp only [PyData.eqv]
    rw [pys_eqv]
    cases l; cases m; simp
theorem gEq_int {μ : Sto} (a b : Int) : gEq (.int a) (.int b) μ = some (decide (a = b)) := gEq_py a b (Nat.zero_le _)
theorem gNe_int {μ : Sto} (a b : Int) : gNe (.int a) (.int b) μ = some (!decide (a = b)) := gNe_py a b (Nat.zero_le _)
theorem gEq_ints {μ : Sto} (a b : List Int) : gEq (.tup (a.map .int)) (.tup (b.map .int)) μ = some (decide (a = b)) := gEq_py (α := List Int) a b (by decide)
theorem gNe_ints {μ : Sto} (a b : List Int) : gNe (.tup (a.map .int)) (.tup (b.map .int)) μ = some (!decide (a = b)) := gNe_py (α := List Int) a b (by decide)
def optD : Option Int → D
  | some i => .int i
  | none => .non
theorem gNe_opt {μ : Sto} (a b : Option Int) : gNe (optD a) (optD b) μ = some (!decide (a = b)) := by
  have := gNe_py (α := Option Int) (μ := μ) a b (by decide)
  cases a <;> cases b <;> exact this

theorem unders_ints (n : Nat) : ∀ l : List Int, unders n (l.map D.int) = true
  | [] => by rw [List.map_nil, unders]
  | a :: l => by rw [List.map_cons, unders, under, unders_ints n l]; rfl
/-! ### slices -/
theorem cutD_nat (ds : List D) (i j : Nat) : DL.cutD ds (some (i : Int)) (some (j : Int)) = (ds.take j).drop i := by
  unfold DL.cutD
  rw [HT.sIx_nat, HT.sIx_nat, List.drop_take]
  by_cases h : i ≤ ds.length
  · rw [Nat.min_eq_left h]
    by_cases h2 : j ≤ ds.length
    · rw [Nat.min_eq_left h2]
    · rw [Nat.min_eq_right (by omega), List.take_of_length_le (by simp), List.take_of_length_le (by simp; omega)]
  · rw [Nat.min_eq_right (Nat.le_of_lt (Nat.lt_of_not_le h)), List.drop_of_length_le (Nat.le_refl _), List.drop_of_length_le (Nat.le_of_lt (Nat.lt_of_not_le h))]
    simp
theorem cutD_to (ds : List D) (j : Nat) : DL.cutD ds none (some (j : Int)) = ds.take j := by
  unfold DL.cutD
  rw [HT.sIx_nat, HT.sIx_none, List.drop_zero, Nat.sub_zero]
  by_cases h2 : j ≤ ds.length
  · rw [Nat.min_eq_left h2]
  · rw [Nat.min_eq_right (by omega), List.take_of_length_le (by omega), List.take_of_length_le (by omega)]
theorem cutD_from (ds : List D) (i : Nat) : DL.cutD ds (some (i : Int)) none = ds.drop i := by
  unfold DL.cutD
  rw [HT.sIx_nat, HT.sIx_none]
  by_cases h : i ≤ ds.length
  · rw [Nat.min_eq_left h, List.take_of_length_le (by simp)]
  · rw [Nat.min_eq_right (by omega), List.drop_of_length_le (by omega), List.drop_of_length_le (by omega)]
    simp
theorem atI_int {ns : List Int} {j : Nat} (h : j < ns.length) : L2.atI (ns.map D.int) (j : Int) = some (.int ns[j]) := atI_nat (by simp [h])
theorem atD {ds : List D} {j : Nat} (h : j < ds.length) : L2.atI ds (j : Int) = some ds[j] := atI_nat (by simp [h])

/-! ### arithmetic's conditions -/
theorem cMul_r (i : Int) {j : Int} (h : -18446744073709551616 < j ∧ j < 18446744073709551616) : cMul i j = true := bP_iff.mpr (.inr h)
theorem cMul_l {i : Int} (j : Int) (h : -18446744073709551616 < i ∧ i < 18446744073709551616) : cMul i j = true := bP_iff.mpr (.inl h)
theorem cDiv_ok (i : Int) {j : Int} (h : 0 < j ∧ j < 1073741824) : cDiv i j = true := bP_iff.mpr h
theorem cMod_ok (i : Int) {j : Int} (h : 0 < j) : cMod i j = true := bP_iff.mpr h
theorem cPow_ok {i j : Int} (h : 0 ≤ j ∧ j ≤ 1000000 ∧ i.natAbs < 18446744073709551616) : cPow i j = true := bP_iff.mpr h
theorem small_ok {i : Int} (h : -4611686018427387904 ≤ i ∧ i < 4611686018427387904) : small i = true := bP_iff.mpr h
/-! ### what the laws have in common -/
/-- the script as it is handed in -/
def ScrD (d : D) (ns : List Int) : Prop := d = .lst (ns.map .int) ∨ d = .frz (ns.map .int)
/-- dice: three numbers, the last at most k -/
structure Dice (k : Nat) (μ : Sto) (n : Nat) : Prop where
  ex : ∃ a m c : Int, μ[n]? = some (.lst [.int a, .int m, .int c]) ∧ 0 ≤ a ∧ 0 ≤ m ∧ 0 ≤ c ∧ c ≤ k
theorem Dice.mono {j k : Nat} {μ : Sto} {n : Nat} (h : Dice j μ n) (hk : j ≤ k) : Dice k μ n := by
  obtain ⟨a, m, c, h1, h2, h3, h4, h5⟩ := h.ex
  exact ⟨a, m, c, h1, h2, h3, h4, by omega⟩
theorem Dice.lt {k : Nat} {μ : Sto} {n : Nat} (h : Dice k μ n) : n < μ.length := by
  obtain ⟨a, m, c, h1, _⟩ := h.ex
  exact (List.getElem?_eq_some_iff.mp h1).1
theorem Dice.app {k : Nat} {μ : Sto} {n : Nat} (h : Dice k μ n) (γ : Sto) : Dice k (μ ++ γ) n := by
  obtain ⟨a, m, c, h1, r⟩ := h.ex
  exact ⟨a, m, c, by rw [List.getElem?_append_left (List.getElem?_eq_some_iff.mp h1).1]; exact h1, r⟩
def isInD : D → Int → Int → Bool
  | .int i, lo, hi => decide (lo ≤ i) && decide (i ≤ hi)
  | _, _, _ => false
def isTupleD : D → Int → Int → Bool
  | .tup ds, a, b => decide (a ≤ ds.length) && decide ((ds.length : Int) ≤ b)
  | _, _, _ => false
def areInD : D → Int → Int → Int → Int → Bool
  | .tup ds, a, b, lo, hi => isTupleD (.tup ds) a b && ds.all fun d => isInD d lo hi
  | _, _, _, _, _ => false
/-- of what sort: each item, too -/
def okD (μ : Sto) : D → Bool
  | .tup ds => decide (ds.length ≤ SZ) && ds.all fun d => (tyD μ d).isSome
  | d => (tyD μ d).isSome
theorem rangeD_eq (n : Nat) : rangeD 0 n = (List.range n).map fun i : Nat => D.int (i : Int) := by
  unfold rangeD
  simp
theorem gInts_map {μ : Sto} {h : List Int → Option D} {ns : List Int} {z : D} (e : h ns = some z) : gInts h [.lst (ns.map .int)] μ = .ok z μ := by simp [gInts, e]
theorem gMaxL_int {μ : Sto} {n : Int} {ns : List Int} : gMaxL [.lst (.int n :: ns.map .int)] μ = .ok (.int (ns.foldl max n)) μ := by
  have e : asInts (D.int n :: ns.map D.int) = some (n :: ns) := asInts_map (n :: ns)
  simp [gMaxL, gInts, maxL, e]
theorem gMinL_int {μ : Sto} {n : Int} {ns : List Int} : gMinL [.lst (.int n :: ns.map .int)] μ = .ok (.int (ns.foldl min n)) μ := by
  have e : asInts (D.int n :: ns.map D.int) = some (n :: ns) := asInts_map (n :: ns)
  simp [gMinL, gInts, minL, e]
end DL
namespace DL
open PySem PySem.Spec PyProof.Rows L2
section
variable {X : Cx} {C : Cc} {W : WX} {e a b i o : Expr} {es : List Expr} {pos apos cpos tpos : Pos} {f fa fb fo fi fv fx : FE D} {fs : FE (List D)}
/-! ### name *= e -/
theorem ip_mul : PIp X .Mult (fun x y H Q => ∃ i j, x = .int i ∧ y = .int j ∧ CMul i j ∧ Q (.int (i * j)) H) := by
  intro pins s σ H x y v u Q I r1 r2 h
  obtain ⟨i, j, e1, e2, hc, q⟩ := h
  subst e1; subst e2
  obtain ⟨t, rfl⟩ := r1
  obtain ⟨t', rfl⟩ := r2
  exact imul_int ⟨.int _, H, I.tok _, ⟨_, rfl⟩, q⟩ hc.ok
noncomputable def gAugMul : Int → Int → Option Int := fun a b => if cMul a b = true then some (a * b) else none
theorem ds_augMul (i : Nat) {x : Str} {pos' : Pos} (hN : X.N.Nodup) (he : DE X C W e f) (hi : X.N[i]? = some x := by rfl) (hx : Loc X.env.scope x := by first | exact Or.inl rfl | exact Or.inr rfl)
    (hf : X.fn x = true ∨ X.env.scope.names.lookup x = some .local := by first | exact .inl rfl | exact .inr rfl) : DS X C W (.AugAssign (.Name x pos') .Mult e pos) (sAug i gAugMul f) :=
  ds_aug i ip_mul (fun a b c H Q h q => by
    unfold gAugMul at h
    split at h
    · rename_i hc
      cases h
      exact ⟨a, b, rfl, rfl, bP_iff.mp hc, q⟩
    · cases h) hN he hi hx hf
@[simp] theorem x_gAugMul {a b : Int} (h : cMul a b = true) : gAugMul a b = some (a * b) := if_pos h

/-! ### in, not in: a list, a tuple -/
def rInA (K : PySem.W.Frag) (neg : Bool) : R2 := fun x y H Q => ∃ d ds, Dp K H x d ∧ (Dp K H y (.list ds) ∨ Dp K H y (.tuple ds)) ∧ SeqAt.shaped d = true ∧ SeqAt.shaped (.list ds) = true ∧ Q (.bl (if neg = true then !ds.any fun z => PyData.eqv z d else ds.any fun z => PyData.eqv z d)) H
theorem op_inA (hu : X.A.units + 65 < cLine) : OpR X (compareOp .In) (rInA X.K false) := by
  intro pins s σ H x y v u Q I rx ry h
  obtain ⟨d, ds, hd, he, sd, se, q⟩ := h
  obtain ⟨ra, r1⟩ := Dp.reads I d x v hd rx
  have lay : PyData.canLayAll0 ds = true := SeqAt.canLay_of_shaped se
  rcases he with he | he
  · obtain ⟨rb, r2⟩ := Dp.reads I (.list ds) y u he ry
    exact SeqAt.in_list_reads r2 r1 lay (SeqAt.canLay_of_shaped sd) (room_in_shaped sd hu) ⟨.bl _, H, I, rfl, q⟩
  · obtain ⟨rb, r2⟩ := Dp.reads I (.tuple ds) y u he ry
    exact SeqAt.in_tuple_reads r2 r1 lay (SeqAt.canLay_of_shaped sd) (room_in_shaped sd hu) ⟨.bl _, H, I, rfl, q⟩
theorem op_notInA (hu : X.A.units + 65 < cLine) : OpR X (compareOp .NotIn) (rInA X.K true) := by
  intro pins s σ H x y v u Q I rx ry h
  obtain ⟨d, ds, hd, he, sd, se, q⟩ := h
  obtain ⟨ra, r1⟩ := Dp.reads I d x v hd rx
  have lay : PyData.canLayAll0 ds = true := SeqAt.canLay_of_shaped se
  rcases he with he | he
  · obtain ⟨rb, r2⟩ := Dp.reads I (.list ds) y u he ry
    exact SeqAt.notIn_list_reads r2 r1 lay (SeqAt.canLay_of_shaped sd) (room_in_shaped sd hu) ⟨.bl _, H, I, rfl, q⟩
  · obtain ⟨rb, r2⟩ := Dp.reads I (.tuple ds) y u he ry
    exact SeqAt.notIn_tuple_reads r2 r1 lay (SeqAt.canLay_of_shaped sd) (room_in_shaped sd hu) ⟨.bl _, H, I, rfl, q⟩
def gIn (x y : D) (μ : Sto) : Option Bool := match toPyS μ x, toPyS μ y with
  | some d, some (.list ds) => if SeqAt.shaped d = true ∧ SeqAt.shaped (.list ds) = true then some (ds.any fun z => PyData.eqv z d) else none
  | some d, some (.tuple ds) => if SeqAt.shaped d = true ∧ SeqAt.shaped (.list ds) = true then some (ds.any fun z => PyData.eqv z d) else none
  | _, _ => none
def gNotIn (x y : D) (μ : Sto) : Option Bool := (gIn x y μ).map not
theorem gIn_ok {η : Nm} {H : Hp} {μ : Sto} {x y : V} {d e : D} {z : Bool} (ok : Ok C η H μ) (rx : Rep C η H x d) (ry : Rep C η H y e) (h : gIn d e μ = some z) : ∃ p ds, Dp C.K H x p ∧ (Dp C.K H y (.list ds) ∨ Dp C.K H y (.tuple ds)) ∧ SeqAt.shaped p = true ∧ SeqAt.shaped (.list ds) = true ∧ (ds.any fun z => PyData.eqv z p) = z := by
  unfold gIn at h
  split at h
  · rename_i p ds h1 h2
    split at h
    · rename_i hs
      cases h
      exact ⟨p, ds, rx.dpS ok h1, .inl (ry.dpS ok h2), hs.1, hs.2, rfl⟩
    · cases h
  · rename_i p ds h1 h2
    split at h
    · rename_i hs
      cases h
      exact ⟨p, ds, rx.dpS ok h1, .inr (ry.dpS ok h2), hs.1, hs.2, rfl⟩
    · cases h
  · cases h
theorem oc_in (hu : X.A.units + 65 < cLine) (hK : X.K = C.K := by rfl) : OC X C .In gIn := by
  refine ⟨_, op_inA hu, fun η H μ x y d e z Q ok rx ry h q => ?_⟩
  obtain ⟨p, ds, h1, h2, h3, h4, h5⟩ := gIn_ok ok rx ry h
  rw [← h5] at q
  exact ⟨p, ds, hK ▸ h1, hK ▸ h2, h3, h4, q⟩
theorem oc_notIn (hu : X.A.units + 65 < cLine) (hK : X.K = C.K := by rfl) : OC X C .NotIn gNotIn := by
  refine ⟨_, op_notInA hu, fun η H μ x y d e z Q ok rx ry h q => ?_⟩
  unfold gNotIn at h
  cases e1 : gIn d e μ with
  | none => rw [e1] at h; cases h
  | some k =>
    rw [e1] at h
    cases h
    obtain ⟨p, ds, h1, h2, h3, h4, h5⟩ := gIn_ok ok rx ry e1
    rw [← h5] at q
    exact ⟨p, ds, hK ▸ h1, hK ▸ h2, h3, h4, q⟩

/-! ### methods of lists -/
noncomputable def gPop : D → List D → Sto → R D
  | .obj n, [], μ => match lstAt μ n with | some ds => (match ds[ds.length - 1]? with | some d => .ok d (μ.set n (.lst ds.dropLast)) | none => .bad) | none => .bad
  | .obj n, [.int i], μ => match lstAt μ n with | some ds => if small i = true then (match ixN ds.length i with | some k => (match ds[k]? with | some d => .ok d (μ.set n (.lst (ds.eraseIdx k))) | none => .bad) | none => .bad) else .bad | none => .bad
  | _, _, _ => .bad
theorem Reps.dropLast {η : Nm} {H : Hp} {vs : List V} {ds : List D} (r : Reps C η H vs ds) : Reps C η H vs.dropLast ds.dropLast := by
  rw [List.dropLast_eq_take, List.dropLast_eq_take, r.length]
  exact r.take _
theorem mc_pop : MC X C "list.pop" gPop := by
  refine ⟨fun x vs H Q => rPop x vs H Q ∨ rPopAt x vs H Q, fun pins s σ H x xs v us Q I rx rv h => ?_, fun W η H μ σ Q x xs d ds o r rs p => ?_⟩
  · rcases h with h | h
    · exact mt_pop pins s σ H x xs v us Q I rx rv h
    · exact mt_popAt pins s σ H x xs v us Q I rx rv h
  · unfold gPop at p
    split at p
    · rename_i n _
      split at p
      · rename_i ds' e1
        split at p
        · rename_i d' e2
          obtain ⟨q, rfl, hn⟩ := r.obj_inv
          have e3 := lstAt_iff.mp e1
          obtain ⟨vs, h1, h2⟩ := o.lst hn e3
          cases rs
          obtain ⟨v, h3, h4⟩ := h2.get e2
          obtain ⟨o', nx⟩ := o.put hn e3 (u := .lst vs.dropLast) (.lst h2.dropLast)
          exact .inl ⟨q, vs, v, rfl, rfl, h1, by rw [h2.length]; exact h3, p η _ nx o' v (h4.mono nx)⟩
        · exact p.elim
      · exact p.elim
    · rename_i n z
      split at p
      · rename_i ds' e1
        split at p
        · rename_i hz
          split at p
          · rename_i k hk
            split at p
            · rename_i d' e2
              obtain ⟨q, rfl, hn⟩ := r.obj_inv
              have e3 := lstAt_iff.mp e1
              obtain ⟨vs, h1, h2⟩ := o.lst hn e3
              obtain ⟨w, rfl, rw'⟩ := rs.one
              cases rw'
              obtain ⟨v, h3, h4⟩ := h2.get e2
              obtain ⟨o', nx⟩ := o.put hn e3 (u := .lst (vs.eraseIdx k)) (.lst (h2.erase k))
              obtain ⟨b1, b2⟩ := small_iff.mp hz
              exact .inr ⟨q, vs, z, k, v, rfl, rfl, h1, by omega, by omega, by rw [h2.length]; exact (ixN_seq hk).1, h3, p η _ nx o' v (h4.mono nx)⟩
            · exact p.elim
          · exact p.elim
        · exact p.elim
      · exact p.elim
    · exact p.elim
/-- xs.extend(ys), ys a list of its own -/
def gExtend : D → List D → Sto → R D
  | .obj n, [y], μ => match lstAt μ n, ownL μ y with | some ds, some es => if ds.length + es.length ≤ SZ then .ok .non (μ.set n (.lst (ds ++ es))) else .bad | _, _ => .bad
  | _, _, _ => .bad
theorem mc_extend : MC X C "list.extend" gExtend := by
  refine ⟨rExtend, mt_extend, fun W η H μ σ Q x xs d ds o r rs p => ?_⟩
  unfold gExtend at p
  split at p
  · split at p
    · rename_i n y ds' es' e1 e2
      split at p
      · rename_i hz
        obtain ⟨q, rfl, hn⟩ := r.obj_inv
        obtain ⟨v, rfl, rv⟩ := rs.one
        have e3 := lstAt_iff.mp e1
        obtain ⟨vs, h1, h2⟩ := o.lst hn e3
        obtain ⟨q2, ws, rfl, k1, k2⟩ := own_ok o rv e2
        exact ⟨q, q2, vs, ws, rfl, rfl, h1, k1, by rw [h2.length, k2.length, ← sz_eq]; exact hz, Post.put o p hn e3 (u := .lst (vs ++ ws)) (.lst (h2.append k2)) _ .non⟩
      · exact p.elim
    · exact p.elim
  · exact p.elim
/-- xs.insert(i, y) -/
noncomputable def gInsert : D → List D → Sto → R D
  | .obj n, [.int i, y], μ => match lstAt μ n with | some ds => if ds.length < SZ ∧ 0 ≤ i ∧ small i = true then .ok .non (μ.set n (.lst (ds.take i.toNat ++ [y] ++ ds.drop i.toNat))) else .bad | none => .bad
  | _, _, _ => .bad
theorem mc_insert : MC X C "list.insert" gInsert := by
  refine ⟨_, mt_insert, fun W η H μ σ Q x xs d ds o r rs p => ?_⟩
  unfold gInsert at p
  split at p
  · split at p
    · rename_i i y _ ds' e1
      split at p
      · rename_i hz
        obtain ⟨q, rfl, hn⟩ := r.obj_inv
        obtain ⟨u, v, rfl, ru, rv⟩ := rs.two
        cases ru
        have e3 := lstAt_iff.mp e1
        obtain ⟨vs, h1, h2⟩ := o.lst hn e3
        obtain ⟨b1, b2⟩ := small_iff.mp hz.2.2
        exact ⟨q, vs, i, v, rfl, rfl, h1, by rw [h2.length, ← sz_eq]; exact hz.1, hz.2.1, by omega, Post.put o p hn e3 (u := .lst (vs.take i.toNat ++ [v] ++ vs.drop i.toNat)) (.lst (((h2.take _).append (.cons rv .nil)).append (h2.drop _))) _ .non⟩
      · exact p.elim
    · exact p.elim
  · exact p.elim
/-! ### list * int -/
noncomputable def eRepL (fa fb : FE D) : FE (List D) := fun ρ μ => (fa ρ μ).bind fun x μ1 => (fb ρ μ1).bind fun y μ2 => match ownL μ2 x, y with | some ds, .int k => if small k = true ∧ ds.length * k.toNat ≤ SZ then .ok (List.replicate k.toNat ds).flatten μ2 else .bad | _, _ => .bad
theorem de_repL (ha : DE X C W a fa) (hb : DE X C W b fb) : DEL X C W (.BinOp a .Mult b pos) (eRepL fa fb) := by
  refine ⟨pe_imp (pe_op op_rep ha.pe hb.pe) fun σ H Q => ?_⟩
  rintro ⟨η, ρ, μ, s, o, p⟩
  refine ⟨η, ρ, μ, s, o, Post.bind p fun d η1 H1 μ1 n1 o1 p1 x rx => ?_⟩
  refine ⟨η1, ρ, μ1, s.mono n1, o1, Post.bind p1 fun e η2 H2 μ2 n2 o2 p2 y ry => ?_⟩
  split at p2
  · rename_i ds k h1
    split at p2
    · rename_i hz
      obtain ⟨q, vs, rfl, k1, k2⟩ := own_ok o2 (rx.mono n2) h1
      cases ry
      obtain ⟨b1, b2⟩ := small_iff.mp hz.1
      exact ⟨q, k, vs, rfl, rfl, k1, by omega, by omega, by rw [k2.length, ← sz_eq]; exact hz.2, fun l hl => Post.newL p2 (n1.trans n2) o2 hl (k2.rep k.toNat)⟩
    · exact p2.elim
  · exact p2.elim
theorem x_eRepL {ρ : En} {μ : Sto} : eRepL fa fb ρ μ = (fa ρ μ).bind fun x μ1 => (fb ρ μ1).bind fun y μ2 => match ownL μ2 x, y with | some ds, .int k => if small k = true ∧ ds.length * k.toNat ≤ SZ then .ok (List.replicate k.toNat ds).flatten μ2 else .bad | _, _ => .bad := (rfl)
end
end DL
namespace DL
open PySem PySem.Spec PyProof.Rows L2
section
variable {X : Cx} {C : Cc} {W : WX} {tg elt e a b tg1 e1 : Expr} {ifs ifs1 : List Expr} {st : Stmt} {pos : Pos} {te : FE D} {tt tt1 : FE Bool} {g g1 : FG} {fi fi1 : FE ItD}
/-! ### list comprehensions of two clauses -/
noncomputable def lc2D (gd : List (Nat × DO)) (g : FG) (tt : FE Bool) (fi1 : FE ItD) (vs1 : List Nat) (g1 : FG) (tt1 : FE Bool) (te : FE D) (ρ : En) : List D → Sto → R (List D)
  | [], μ => if chk gd μ then .ok [] μ else .bad
  | d :: ds, μ => if chk gd μ then (match g d ρ with
    | none => .bad
    | some ρ1 => (tt ρ1 μ).nox.bind fun k μ1 => if k = true then (fi1 ρ1 μ1).nox.bind fun it μ2 => if it.1.length ≤ 4000 then (lcD it.2 g1 tt1 te (wipeE ρ1 vs1) it.1 μ2).bind fun ys μ3 => (lc2D gd g tt fi1 vs1 g1 tt1 te ρ ds μ3).bind fun zs μ4 => .ok (ys ++ zs) μ4 else .bad
      else lc2D gd g tt fi1 vs1 g1 tt1 te ρ ds μ1) else .bad
noncomputable def eLc2 (fi : FE ItD) (vs : List Nat) (g : FG) (tt : FE Bool) (fi1 : FE ItD) (vs1 : List Nat) (g1 : FG) (tt1 : FE Bool) (te : FE D) : FE (List D) := fun ρ μ => (fi ρ μ).bind fun it μ1 => if it.1.length ≤ 4000 then lc2D it.2 g tt fi1 vs1 g1 tt1 te (wipeE ρ vs) it.1 μ1 else .bad
theorem wipe_idem : ∀ (l : List Nat) (σ : L2.St), wipe (wipe σ l) l = wipe σ l
  | [], σ => rfl
  | v :: vs, σ => by
    show (wipe ((wipe σ vs).set v none) vs).set v none = (wipe σ vs).set v none
    rw [wipe_set, wipe_idem vs, List.set_set]
/-- weakly, then strongly: A is hidden all the time -/
theorem NxtW.step {η0 η η' : Nm} {H0 H H' : Hp} {A : Addr} {acc : List V} (w : NxtW C (η0.hide A) H0 (η.hide A) H) (n : Nxt C η H η' H') (hacc : H A = some (.lst acc)) (na : A ∉ η.o) (hid : ∀ b ∈ (η.hide A).x, ∃ o, H b = some o ∧ ∀ ps, o ≠ .tbl ps) : NxtW C (η0.hide A) H0 (η'.hide A) H' := by
  refine ⟨w.pre.trans n.pre, by show A :: η'.x = A :: η0.x; rw [n.hx]; exact w.hx, fun b o h m mx t => ?_, fun b xs h => n.tups _ _ (w.tups _ _ h), fun b o u h => n.frzs _ _ _ (w.frzs _ _ _ h), fun b m nm => ?_⟩
  · refine n.keep _ _ (w.keep b o h m mx t) (fun z => ?_) t
    obtain ⟨ps, e⟩ := w.new b z m o h
    exact t ps e
  · by_cases z : b ∈ η.o
    · exact w.new b z nm
    · have q := n.new b m z
      intro o h
      by_cases t : ∃ ps, o = .tbl ps
      · exact t
      · by_cases mx : b ∈ (η0.hide A).x
        · obtain ⟨o1, h1, t1⟩ := hid b (by rw [w.hx]; exact mx)
          obtain ⟨ps, e⟩ := q o1 h1
          exact absurd e (t1 ps)
        · exact q o (w.keep b o h nm mx fun ps e => t ⟨ps, e⟩)
theorem NxtW.wr {η0 η : Nm} {H0 H : Hp} {A : Addr} {vs ws : List V} (w : NxtW C (η0.hide A) H0 (η.hide A) H) (hacc : H A = some (.lst vs)) : NxtW C (η0.hide A) H0 (η.hide A) (upd H A (.lst ws)) := by
  refine ⟨w.pre, w.hx, fun b o h m mx t => ?_, fun b xs h => ?_, fun b o u h => ?_, w.new⟩
  · rw [upd_ne (fun z => mx (by rw [z]; exact List.mem_cons_self))]
    exact w.keep b o h m mx t
  · have q := w.tups b xs h
    rw [upd_ne (ne_of q hacc (by intro z; cases z))]
    exact q
  · have q := w.frzs b o u h
    rw [upd_ne (ne_of q hacc (by intro z; cases z))]
    exact q
/-- a clause's items, told to K of what they give and the store -/
theorem lc_walk (gd : List (Nat × DO)) (items : List D) (vs : List Nat) {σ : L2.St} {ρ : En} {η1 ηa : Nm} {H1 Ha : Hp} {μa : Sto} {σ0 : L2.St} {P0 : List D → Nm → Hp → Sto → Prop} {J : It} {A : Addr} {acc0 : List V} {ds0 : List D} {K : List D → Sto → R (List D)} {Nx : Hp → Prop} {B : Nat}
    (hA : H1 A = none) (na1 : Nxt C η1 H1 ηa Ha) (oa : Ok C (ηa.hide A) Ha μa) (naa : A ∉ ηa.o) (ha : Ha A = some (.lst acc0)) (ra : Reps C (ηa.hide A) Ha acc0 ds0) (sa : Slots C (ηa.hide A) Ha σ ρ) (hB : ds0.length + items.length ≤ B) (hBz : B ≤ SZ)
    (hJ : ∀ η H μ, NxtW C (ηa.hide A) Ha η H → Ok C η H μ → chk gd μ → (∀ i, i < items.length → J.go i H ∧ ∀ x H', J.yld i H x H' → ∃ d, items[i]? = some d ∧ L2.Same H H' ∧ Rep C η H' x d) ∧ J.stop items.length H)
    (p : Post C W η1 H1 σ0 P0 ((lcD gd g tt te (wipeE ρ vs) items μa).bind fun ys μ' => K (ds0 ++ ys) μ'))
    (hN : ∀ η H μ acc ds, Nxt C η1 H1 η H → Ok C (η.hide A) H μ → A ∉ η.o → H A = some (.lst acc) → Reps C (η.hide A) H acc ds → ds.length ≤ B → NxtW C (ηa.hide A) Ha (η.hide A) H → Post C W η1 H1 σ0 P0 (K ds μ) → Nx H) :
    ∃ Wi : Nat → Nat → Hp → Prop, (∃ m, Wi 0 m Ha) ∧ ∀ i m H, Wi i m H →
      (J.stop i H ∧ Nx H) ∨ (J.go i H ∧ ∃ Nx1 : Hp → Prop, (∀ H', Nx1 H' → ∃ m', m' < m ∧ Wi (i + 1) m' H') ∧ ∀ x H', J.yld i H x H' → tDG C vs g x (wipe σ vs) H' fun σ2 H2 => wipe σ2 vs = wipe σ vs ∧ tDT C W0 tt σ2 H2 fun b H3 =>
        if b = true then tD C W0 te σ2 H3 fun y H4 => ∃ acc, H4 A = some (.lst acc) ∧ acc.length < sizeLine ∧ Nx1 (upd H4 A (.lst (acc ++ [y]))) else Nx1 H3) := by
  refine ⟨fun i m H => m = items.length - i ∧ i ≤ items.length ∧ ∃ η μ acc ds, Nxt C η1 H1 η H ∧ NxtW C (ηa.hide A) Ha (η.hide A) H ∧ Ok C (η.hide A) H μ ∧ A ∉ η.o ∧ H A = some (.lst acc) ∧ Reps C (η.hide A) H acc ds ∧ ds.length ≤ ds0.length + i ∧
    Post C W η1 H1 σ0 P0 ((lcD gd g tt te (wipeE ρ vs) (items.drop i) μ).bind fun ys μ' => K (ds ++ ys) μ'), ⟨items.length, by simp, Nat.zero_le _, ηa, μa, acc0, ds0, na1, NxtW.refl .., oa, naa, ha, ra, by omega, by simpa using p⟩, ?_⟩
  rintro i m H ⟨rfl, hi, η, μ, acc, ds, n, nH, o, na, hacc, racc, hl, p⟩
  have sH : Slots C (η.hide A) H σ ρ := sa.monoW nH
  by_cases hlt : i < items.length
  · right
    have ed : items.drop i = items[i] :: items.drop (i + 1) := by rw [List.drop_eq_getElem_cons hlt]
    rw [ed] at p
    unfold lcD at p
    by_cases hck : chk gd μ
    · rw [if_pos hck] at p
      obtain ⟨w1, w2⟩ := hJ (η.hide A) H μ nH o hck
      obtain ⟨go, yl⟩ := w1 i hlt
      refine ⟨go, fun H' => items.length - (i + 1) = items.length - (i + 1) ∧ i + 1 ≤ items.length ∧ ∃ η μ acc ds, Nxt C η1 H1 η H' ∧ NxtW C (ηa.hide A) Ha (η.hide A) H' ∧ Ok C (η.hide A) H' μ ∧ A ∉ η.o ∧ H' A = some (.lst acc) ∧ Reps C (η.hide A) H' acc ds ∧ ds.length ≤ ds0.length + (i + 1) ∧
        Post C W η1 H1 σ0 P0 ((lcD gd g tt te (wipeE ρ vs) (items.drop (i + 1)) μ).bind fun ys μ' => K (ds ++ ys) μ'), fun H' q => ⟨items.length - (i + 1), by omega, q⟩, fun x H' y => ?_⟩
      obtain ⟨d, hd, sm, rx⟩ := yl x H' y
      have hd' : d = items[i] := by rw [List.getElem?_eq_getElem hlt] at hd; exact (Option.some.inj hd).symm
      subst hd'
      have n2 : Nxt C (η.hide A) H (η.hide A) H' := Same.nxt sm
      cases hgd : g items[i] (wipeE ρ vs) with
      | none => rw [hgd] at p; exact (show False from p).elim
      | some ρ1 =>
        rw [hgd] at p
        refine ⟨η.hide A, items[i], wipeE ρ vs, ρ1, (sH.mono n2).wipe vs, rx, hgd, fun σ2 s2 w2 => ⟨?_, η.hide A, ρ1, μ, s2, o.same sm, ?_⟩⟩
        · rw [w2]
          exact wipe_idem vs σ
        · dsimp only at p
          rw [R.bind_bind] at p
          refine Post.bindH p fun b η3 H3 μ3 n3 n3' o3 p3 => ?_
          have nn := (n.trans (Same.nxt sm)).trans n3
          have nnH := NxtW.step nH ((Same.nxt sm).trans n3 : Nxt C η H η3 H3) hacc na o.hid
          have na3 : A ∉ η3.o := fun z => by
            obtain ⟨ps, ee⟩ := n3.new A z na _ (sm _ _ hacc)
            cases ee
          have hacc3 : H3 A = some (.lst acc) := n3.keep _ _ (sm _ _ hacc) na (fun ps z => by cases z)
          have racc3 : Reps C (η3.hide A) H3 acc ds := (racc.mono n2).mono n3'
          cases b with
          | false =>
            refine iteF ⟨rfl, hlt, η3, μ3, acc, ds, nn, nnH, o3, na3, hacc3, racc3, by omega, ?_⟩
            rw [bind_ite, if_neg (by simp)] at p3
            exact p3
          | true =>
            refine iteT ⟨η3.hide A, ρ1, μ3, s2.mono n3', o3, ?_⟩
            rw [bind_ite, if_pos rfl, R.bind_bind] at p3
            refine Post.bindH p3 fun y η4 H4 μ4 n4 n4' o4 p4 => fun v rv => ?_
            have na4 : A ∉ η4.o := fun z => by
              obtain ⟨ps, ee⟩ := n4.new A z na3 _ hacc3
              cases ee
            have hacc4 : H4 A = some (.lst acc) := n4.keep _ _ hacc3 na3 (fun ps z => by cases z)
            have racc4 : Reps C (η4.hide A) H4 acc ds := racc3.mono n4'
            have hlen := racc4.length
            have hw := NxtW.wr (vs := acc) (ws := acc ++ [v]) (NxtW.step nH (((Same.nxt sm).trans n3).trans n4 : Nxt C η H η4 H4) hacc na o.hid) hacc4
            refine ⟨acc, hacc4, ?_, rfl, hlt, η4, μ4, acc ++ [v], ds ++ [y], Nxt.wrH (vs := acc) (nn.trans n4) hA, hw, o4.wrH hacc4 na4, na4, upd_same, (racc4.append (.cons rv .nil)).wr hacc4, ?_, ?_⟩
            · rw [hlen, ← sz_eq]; omega
            · rw [List.length_append, List.length_singleton]; omega
            · rw [R.bind_bind] at p4
              have ee : ∀ r : R (List D), (r.bind fun a μ => (R.ok (y :: a) μ).bind fun ys μ' => K (ds ++ ys) μ') = r.bind fun ys μ' => K (ds ++ [y] ++ ys) μ' := by
                intro r
                cases r with
                | ok a μ => simp
                | _ => rfl
              rw [ee] at p4
              exact p4
    · rw [if_neg hck] at p
      exact (show False from p).elim
  · have ei : i = items.length := by omega
    subst ei
    left
    rw [List.drop_length] at p
    unfold lcD at p
    by_cases hck : chk gd μ
    · rw [if_pos hck] at p
      obtain ⟨w1, w2⟩ := hJ (η.hide A) H μ nH o hck
      have p2 : Post C W η1 H1 σ0 P0 (K (ds ++ []) μ) := p
      rw [List.append_nil] at p2
      exact ⟨w2, hN η H μ acc ds n o na hacc racc (by omega) nH p2⟩
    · rw [if_neg hck] at p
      exact (show False from p).elim
theorem wipe_none {v : Nat} : ∀ (vs : List Nat) (σ : L2.St), v ∈ vs → (wipe σ vs).set v none = wipe σ vs
  | w :: vs, σ, h => by
    show ((wipe σ vs).set w none).set v none = (wipe σ vs).set w none
    by_cases e : v = w
    · rw [e, List.set_set]
    · have hm : v ∈ vs := by
        rcases List.mem_cons.mp h with z | z
        · exact absurd z e
        · exact z
      rw [set_swap, wipe_none vs σ hm]
theorem wipe_absorb {vs : List Nat} (σ : L2.St) : ∀ l : List Nat, (∀ x ∈ l, x ∈ vs) → wipe (wipe σ l) vs = wipe σ vs
  | [], _ => rfl
  | v :: l, h => by
    show wipe ((wipe σ l).set v none) vs = _
    rw [wipe_set, wipe_absorb σ l fun x hx => h x (List.mem_cons_of_mem _ hx), wipe_none vs σ (h v List.mem_cons_self)]
theorem DG.more {X : Cx} {tg : Expr} {l vs : List Nat} {g : FG} (h : DG X C tg l g) (hs : ∀ x ∈ l, x ∈ vs) : DG X C tg vs g := by
  refine ⟨pg_imp h.pg fun v σ H Q => ?_⟩
  rintro ⟨η, d, ρ, ρ', s, r, e, q⟩
  refine ⟨η, d, ρ, ρ', s, r, e, fun σ' s' w => q σ' s' ?_⟩
  rw [← wipe_absorb σ' l hs, w, wipe_absorb σ l hs]
theorem lc2_read (vs vs1 : List Nat) {σ : L2.St} {H0 : Hp} {Q : VK} (h : tDL C W (eLc2 fi vs g tt fi1 vs1 g1 tt1 te) σ H0 Q) : tLc2 (tDI C W fi) (tDG C vs g) (tDT C W0 tt) (tDI C W0 fi1) (tDG C vs1 g1) (tDT C W0 tt1) (tD C W0 te) vs vs1 σ H0 Q := by
  obtain ⟨η, ρ, μ, s, o, p⟩ := h
  refine ⟨η, ρ, μ, s, o, Post.bind p fun it η1 H1 μ1 n0 o1 p J hJ => ?_⟩
  have s1 : Slots C η1 H1 σ ρ := s.mono n0
  split at p
  case isFalse => exact p.elim
  rename_i hz
  obtain ⟨items, gd⟩ := it
  intro A hA
  have hide1 := Same.new (o := HO.lst []) hA
  refine ⟨fun i m H => m = items.length - i ∧ i ≤ items.length ∧ ∃ η μ acc ds, Nxt C η1 H1 η H ∧ Ok C (η.hide A) H μ ∧ A ∉ η.o ∧ H A = some (.lst acc) ∧ Reps C (η.hide A) H acc ds ∧ ds.length ≤ 4000 * i ∧
    Post C W η1 H1 σ (PL C H0 Q) ((lc2D gd g tt fi1 vs1 g1 tt1 te (wipeE ρ vs) (items.drop i) μ).bind fun ys μ' => .ok (ds ++ ys) μ'), ⟨items.length, by simp, Nat.zero_le _, η1, μ1, [], [], Same.nxt hide1, o1.hide hA (fun ps z => by cases z), o1.not_mem hA, upd_same, .nil, Nat.le_refl _, ?_⟩, ?_⟩
  · have e : ((lc2D gd g tt fi1 vs1 g1 tt1 te (wipeE ρ vs) (items.drop 0) μ1).bind fun ys μ' => R.ok ([] ++ ys) μ') = lc2D gd g tt fi1 vs1 g1 tt1 te (wipeE ρ vs) items μ1 := by
      rw [List.drop_zero]
      cases lc2D gd g tt fi1 vs1 g1 tt1 te (wipeE ρ vs) items μ1 <;> rfl
    rw [e]
    exact p
  · rintro i m H ⟨rfl, hi, η, μ, acc, ds, n, o, na, hacc, racc, hl, p⟩
    have oS : Ok C η H μ := o.show_
    have nH : Nxt C (η1.hide A) H1 (η.hide A) H := n.hide A
    have sH : Slots C (η.hide A) H σ ρ := (s1.hide hA).mono nH
    by_cases hlt : i < items.length
    · right
      have ed : items.drop i = items[i] :: items.drop (i + 1) := by rw [List.drop_eq_getElem_cons hlt]
      rw [ed] at p
      unfold lc2D at p
      by_cases hck : chk gd μ
      · rw [if_pos hck] at p
        obtain ⟨w1, w2⟩ := hJ (η1.hide A) (fun _ _ r => r.hide hA) rfl (η.hide A) H μ nH.w o hck
        obtain ⟨go, yl⟩ := w1 i hlt
        refine ⟨go, fun H' => items.length - (i + 1) = items.length - (i + 1) ∧ i + 1 ≤ items.length ∧ ∃ η μ acc ds, Nxt C η1 H1 η H' ∧ Ok C (η.hide A) H' μ ∧ A ∉ η.o ∧ H' A = some (.lst acc) ∧ Reps C (η.hide A) H' acc ds ∧ ds.length ≤ 4000 * (i + 1) ∧
          Post C W η1 H1 σ (PL C H0 Q) ((lc2D gd g tt fi1 vs1 g1 tt1 te (wipeE ρ vs) (items.drop (i + 1)) μ).bind fun ys μ' => .ok (ds ++ ys) μ'), fun H' q => ⟨items.length - (i + 1), by omega, q⟩, fun x H' y => ?_⟩
        obtain ⟨d, hd, sm, rx⟩ := yl x H' y
        have hd' : d = items[i] := by rw [List.getElem?_eq_getElem hlt] at hd; exact (Option.some.inj hd).symm
        subst hd'
        have n2 : Nxt C (η.hide A) H (η.hide A) H' := Same.nxt sm
        cases hgd : g items[i] (wipeE ρ vs) with
        | none => rw [hgd] at p; exact (show False from p).elim
        | some ρ1 =>
          rw [hgd] at p
          refine ⟨η.hide A, items[i], wipeE ρ vs, ρ1, (sH.mono n2).wipe vs, rx, hgd, fun σ2 s2 w2 => ⟨by rw [w2]; exact wipe_idem vs σ, η.hide A, ρ1, μ, s2, o.same sm, ?_⟩⟩
          dsimp only at p
          rw [R.bind_bind] at p
          refine Post.bindH p fun b η3 H3 μ3 n3 n3' o3 p3 => ?_
          have nn := (n.trans (Same.nxt sm)).trans n3
          have na3 : A ∉ η3.o := fun z => by
            obtain ⟨ps, ee⟩ := n3.new A z na _ (sm _ _ hacc)
            cases ee
          have hacc3 : H3 A = some (.lst acc) := n3.keep _ _ (sm _ _ hacc) na (fun ps z => by cases z)
          have racc3 : Reps C (η3.hide A) H3 acc ds := (racc.mono n2).mono n3'
          cases b with
          | false =>
            refine iteF ⟨rfl, hlt, η3, μ3, acc, ds, nn, o3, na3, hacc3, racc3, by omega, ?_⟩
            rw [bind_ite, if_neg (by simp)] at p3
            exact p3
          | true =>
            refine iteT ⟨η3.hide A, ρ1, μ3, s2.mono n3', o3, ?_⟩
            rw [bind_ite, if_pos rfl, R.bind_bind] at p3
            refine Post.bindH p3 fun it1 η4 H4 μ4 n4 n4' o4 p4 => fun J1 hJ1 => ?_
            have na4 : A ∉ η4.o := fun z => by
              obtain ⟨ps, ee⟩ := n4.new A z na3 _ hacc3
              cases ee
            have hacc4 : H4 A = some (.lst acc) := n4.keep _ _ hacc3 na3 (fun ps z => by cases z)
            have racc4 : Reps C (η4.hide A) H4 acc ds := racc3.mono n4'
            rw [bind_ite] at p4
            by_cases hz1 : it1.1.length ≤ 4000
            · rw [if_pos hz1, R.bind_bind] at p4
              have hB : 4000 * (i + 1) ≤ SZ := by rw [SZ_eq]; have hz' : items.length ≤ 4000 := hz; have : i + 1 ≤ 4000 := by omega
                                                  omega
              exact lc_walk (B := 4000 * (i + 1)) (K := fun ws μ' => (lc2D gd g tt fi1 vs1 g1 tt1 te (wipeE ρ vs) (items.drop (i + 1)) μ').bind fun ys μ' => .ok (ws ++ ys) μ') it1.2 it1.1 vs1 hA (nn.trans n4) o4 na4 hacc4 racc4 ((s2.mono n3').mono n4') (by omega) hB
                (fun η H μ nw ok ck => hJ1 (η4.hide A) (fun _ _ z => z) rfl η H μ nw ok ck) (by
                  have ee : ∀ r : R (List D), (r.bind fun a μ => ((lc2D gd g tt fi1 vs1 g1 tt1 te (wipeE ρ vs) (items.drop (i + 1)) μ).bind fun zs μ4 => R.ok (a ++ zs) μ4).bind fun ys μ' => R.ok (ds ++ ys) μ') = r.bind fun ys μ' => (lc2D gd g tt fi1 vs1 g1 tt1 te (wipeE ρ vs) (items.drop (i + 1)) μ').bind fun zs μ' => R.ok ((ds ++ ys) ++ zs) μ' := by
                    intro r
                    cases r with
                    | ok a μ =>
                      simp only [R.bind_ok, R.bind_bind, List.append_assoc]
                    | _ => rfl
                  rw [ee] at p4
                  exact p4)
                (fun η H μ acc ds n5 o5 na5 hacc5 racc5 hl5 _ p5 => ⟨rfl, hlt, η, μ, acc, ds, n5, o5, na5, hacc5, racc5, hl5, p5⟩)
            · rw [if_neg hz1] at p4
              exact (show False from p4).elim
      · rw [if_neg hck] at p
        exact (show False from p).elim
    · have e : i = items.length := by omega
      subst e
      left
      rw [List.drop_length] at p
      unfold lc2D at p
      by_cases hck : chk gd μ
      · rw [if_pos hck] at p
        obtain ⟨w1, w2⟩ := hJ (η1.hide A) (fun _ _ r => r.hide hA) rfl (η.hide A) H μ nH.w o hck
        refine ⟨w2, ?_⟩
        have p2 : Post C W η1 H1 σ (PL C H0 Q) (.ok (ds ++ []) μ) := p
        rw [List.append_nil] at p2
        exact p2 η H n oS A acc na (n0.nw (.of hA)) hacc o racc
      · rw [if_neg hck] at p
        exact (show False from p).elim
end
/-- the block of a comprehension of two clauses -/
structure Blk2 (X : Cx) (C : Cc) (scope : Scope) (tg elt tg1 it1 : Expr) (ifs ifs1 : List Expr) (vs vs1 : List Nat) (g : FG) (tt : FE Bool) (fi1 : FE ItD) (g1 : FG) (tt1 : FE Bool) (te : FE D) : Prop where
  hg : ∀ (s : Shared) (H : Hp) (A : Addr) (cl : List (Str × Addr)) (fp : List Addr), DG (X.blk s H scope (compEnvC scope cl A X.env) fp) C tg vs g
  ht : ∀ (s : Shared) (H : Hp) (A : Addr) (cl : List (Str × Addr)) (fp : List Addr), DTs (X.blk s H scope (compEnvC scope cl A X.env) fp) C W0 ifs tt
  hi1 : ∀ (s : Shared) (H : Hp) (A : Addr) (cl : List (Str × Addr)) (fp : List Addr), DI (X.blk s H scope (compEnvC scope cl A X.env) fp) C W0 tg1 it1 fi1
  hg1 : ∀ (s : Shared) (H : Hp) (A : Addr) (cl : List (Str × Addr)) (fp : List Addr), DG (X.blk s H scope (compEnvC scope cl A X.env) fp) C tg1 vs1 g1
  ht1 : ∀ (s : Shared) (H : Hp) (A : Addr) (cl : List (Str × Addr)) (fp : List Addr), DTs (X.blk s H scope (compEnvC scope cl A X.env) fp) C W0 ifs1 tt1
  he : ∀ (s : Shared) (H : Hp) (A : Addr) (cl : List (Str × Addr)) (fp : List Addr), DE (X.blk s H scope (compEnvC scope cl A X.env) fp) C W0 elt te
section
variable {X : Cx} {C : Cc} {W : WX} {tg elt e a b tg1 e1 : Expr} {ifs ifs1 : List Expr} {st : Stmt} {pos : Pos} {te : FE D} {tt tt1 : FE Bool} {g g1 : FG} {fi fi1 : FE ItD} {scope : Scope}
theorem de_lc2 (own : List (Str × Nat)) (vs1 : List Nat) (hN : X.N.Nodup) (hi : DI X C W tg e fi) (ok : BlkOk X.N X.env.scope scope own) (B : Blk2 X C scope tg elt tg1 e1 ifs ifs1 (own.map (·.2)) vs1 g tt fi1 g1 tt1 te) (hv : ∀ i ∈ vs1, i ∈ own.map (·.2) := by decide) (hc : X.calm = true := by rfl) (hs : ∀ x, foldedSetIterable e X.env x = pure x := by intro _; rfl) (hs1 : ∀ env x, foldedSetIterable e1 env x = pure x := by intro _ _; rfl) :
    DEL X C W (.ListComp elt [⟨tg, e, ifs, 0⟩, ⟨tg1, e1, ifs1, 0⟩] scope pos) (eLc2 fi (own.map (·.2)) g tt fi1 vs1 g1 tt1 te) :=
  ⟨pe_imp (pe_lc2 hc hN hi.pi ok hv (fun s H A cl fp => (B.hg s H A cl fp).pg) (fun s H A cl fp => (B.ht s H A cl fp).pt) (fun s H A cl fp => (B.hi1 s H A cl fp).pi) (fun s H A cl fp => (B.hg1 s H A cl fp).pg) (fun s H A cl fp => (B.ht1 s H A cl fp).pt) (fun s H A cl fp => (B.he s H A cl fp).pe) hs hs1) fun σ H Q h => lc2_read _ _ h⟩
theorem ds_setLc2 (i : Nat) {T : FE D} {y : Str} {py spos : Pos} (own : List (Str × Nat)) (vs1 : List Nat) (hT : ∀ σ H Q, tD C W T σ H Q → tDL C W (eLc2 fi (own.map (·.2)) g tt fi1 vs1 g1 tt1 te) σ H Q) (hN : X.N.Nodup) (hi : DI X C W tg e fi) (ok : BlkOk X.N X.env.scope scope own) (B : Blk2 X C scope tg elt tg1 e1 ifs ifs1 (own.map (·.2)) vs1 g tt fi1 g1 tt1 te)
    (hy : X.N[i]? = some y := by rfl) (hyl : X.env.scope.names.lookup y = some .local := by rfl) (hv : ∀ i ∈ vs1, i ∈ own.map (·.2) := by decide)
    (hsw : swapsWith (.ListComp elt [⟨tg, e, ifs, 0⟩, ⟨tg1, e1, ifs1, 0⟩] scope pos) (some (.Name y py)) spos.line X.env = pure true := by exact sw_true rfl rfl rfl (by decide +kernel)) (hc : X.calm = true := by rfl) (hs : ∀ x, foldedSetIterable e X.env x = pure x := by intro _; rfl) (hs1 : ∀ env x, foldedSetIterable e1 env x = pure x := by intro _ _; rfl) :
    DS X C W (.Assign [.Name y py] (.ListComp elt [⟨tg, e, ifs, 0⟩, ⟨tg1, e1, ifs1, 0⟩] scope pos) spos) (sSet i T) :=
  ⟨ps_imp (ps_setLc2 (i := i) hc hN hy hyl hsw hi.pi ok hv (fun s H A cl fp => (B.hg s H A cl fp).pg) (fun s H A cl fp => (B.ht s H A cl fp).pt) (fun s H A cl fp => (B.hi1 s H A cl fp).pi) (fun s H A cl fp => (B.hg1 s H A cl fp).pg) (fun s H A cl fp => (B.ht1 s H A cl fp).pt) (fun s H A cl fp => (B.he s H A cl fp).pe) hs hs1) fun E σ H h => lc2_read _ _ (set_read i hT h)⟩
@[simp] theorem x_eLc2 {ρ : En} {μ : Sto} {vs vs1 : List Nat} : eLc2 fi vs g tt fi1 vs1 g1 tt1 te ρ μ = (fi ρ μ).bind fun it μ1 => if it.1.length ≤ 4000 then lc2D it.2 g tt fi1 vs1 g1 tt1 te (wipeE ρ vs) it.1 μ1 else .bad := (rfl)
/-- a comprehension of two clauses that leaves the store -/
theorem lc2D_pure {gd : List (Nat × DO)} {vs1 : List Nat} (f : D → List D) (ρ : En) (μ : Sto) (hc : chk gd μ) : ∀ items : List D, (∀ d ∈ items, ∃ ρ1 its gd1, g d ρ = some ρ1 ∧ tt ρ1 μ = .ok true μ ∧ fi1 ρ1 μ = .ok (its, gd1) μ ∧ its.length ≤ 4000 ∧ lcD gd1 g1 tt1 te (wipeE ρ1 vs1) its μ = .ok (f d) μ) → lc2D gd g tt fi1 vs1 g1 tt1 te ρ items μ = .ok (items.flatMap f) μ
  | [], _ => by rw [lc2D, if_pos hc]; rfl
  | d :: ds, h => by
    obtain ⟨ρ1, its, gd1, e1, e2, e3, e4, e5⟩ := h d (by simp)
    have ih := lc2D_pure f ρ μ hc ds fun x hx => h x (by simp [hx])
    rw [lc2D, if_pos hc, e1]
    dsimp only
    rw [e2, R.nox_ok, R.bind_ok, if_pos rfl, e3, R.nox_ok, R.bind_ok, if_pos e4, e5, R.bind_ok, ih, R.bind_ok, List.flatMap_cons]
end
end DL
namespace DL
open PySem PySem.Spec PyProof.Rows L2
/-! ### the end -/
theorem cx_no {P : Program} {w : World} {outer : List Env} {H : Hp} {s : Shared} {e : Value} {s' : Shared} (h : L2.CX P w outer H s (fun _ _ _ => False) e s') : False := by
  obtain ⟨_, _, _, _, _, _, _, _, _, _, _, _, z⟩ := h
  exact z
theorem Reps.mk_ints {C : Cc} {η : Nm} {H : Hp} (ns : List Int) : Reps C η H (ns.map V.int) (ns.map D.int) := Reps.of_ints ns
/-- what the law promises of every script -/
theorem law_sp {C : Cc} {G : FD} (hG : ∀ (d : D) (ss : List Int), ScrD d ss → ss.length ≤ 63 → ∃ μ', G [d] [] = .ok (.bl true) μ') {H : Hp} {a : Addr} {ns : List Int} (hl : ns.length ≤ 63) (tabs : LamX.Tabs C.T H) (hS : SqL C.K H a (ns.map V.int)) :
    spD C 1 G [.ref a] H (fun v _ => v = .bl true) fun _ _ _ => False := by
  have ok : Ok C ⟨[], []⟩ H [] := ⟨List.nodup_nil, rfl, fun n a m h _ => by simp at h, fun b hb => by simp at hb, tabs⟩
  obtain ⟨d, hd, rd⟩ : ∃ d, ScrD d ns ∧ Rep C ⟨[], []⟩ H (.ref a) d := by
    rcases hS with (h | ⟨ob, h⟩) | h
    · exact ⟨_, .inl rfl, .lst h (by simp) (by simp) (Reps.of_ints ns)⟩
    · exact ⟨_, .inr rfl, .frz (.inl ⟨ob, h⟩) (Reps.of_ints ns)⟩
    · exact ⟨_, .inr rfl, .frz (.inr h) (Reps.of_ints ns)⟩
  obtain ⟨μ', e⟩ := hG d ns hd hl
  refine ⟨⟨[], []⟩, [d], [], rfl, .cons rd .nil, ok, ?_⟩
  rw [e]
  exact fun η' H' v _ _ r => r.bl_inv
theorem tabs_one {H : Hp} {P : Addr} {q : Str} (h : H P = some (.tbl #[])) : LamX.Tabs [(P, q)] H := fun p hp => by
  cases List.mem_singleton.mp hp
  exact LamX.TabS.nil h
end DL
namespace DL
open PySem PySem.Spec L2
/-! ### data without objects -/
mutual
def clean : D → Bool
  | .obj _ => false
  | .tup ds => cleans ds
  | .lst ds => cleans ds
  | .frz ds => cleans ds
  | .non => true
  | .bl _ => true
  | .int _ => true
  | .str _ => true
def cleans : List D → Bool
  | [] => true
  | d :: ds => clean d && cleans ds
end
@[simp] theorem clean_int (i : Int) : clean (.int i) = true := by rw [clean]
@[simp] theorem clean_bl (i : Bool) : clean (.bl i) = true := by rw [clean]
@[simp] theorem clean_str (i : Str) : clean (.str i) = true := by rw [clean]
@[simp] theorem clean_non : clean .non = true := by rw [clean]
@[simp] theorem clean_tup (ds : List D) : clean (.tup ds) = cleans ds := by rw [clean]
@[simp] theorem clean_lst (ds : List D) : clean (.lst ds) = cleans ds := by rw [clean]
@[simp] theorem clean_frz (ds : List D) : clean (.frz ds) = cleans ds := by rw [clean]
@[simp] theorem cleans_nil : cleans [] = true := by rw [cleans]
@[simp] theorem cleans_cons (d : D) (ds : List D) : cleans (d :: ds) = (clean d && cleans ds) := by rw [cleans]
theorem cleans_iff : ∀ {ds : List D}, cleans ds = true ↔ ∀ d ∈ ds, clean d = true
  | [] => by simp
  | d :: ds => by rw [cleans_cons, Bool.and_eq_true, cleans_iff (ds := ds)]; simp
theorem cleans_app (ds es : List D) : cleans (ds ++ es) = (cleans ds && cleans es) := by
  induction ds with
  | nil => simp
  | cons d ds ih => rw [List.cons_append, cleans_cons, cleans_cons, ih, Bool.and_assoc]
theorem cleans_map {α : Type} (f : α → D) (l : List α) (h : ∀ a ∈ l, clean (f a) = true) : cleans (l.map f) = true :=
  cleans_iff.mpr fun d hd => by
    obtain ⟨a, ha, rfl⟩ := List.mem_map.mp hd
    exact h a ha
theorem ty_clean (μ : Sto) {d : D} (h : clean d = true) : (tyD μ d).isSome = true := by
  cases d with
  | obj n => rw [clean] at h; cases h
  | _ => rfl
theorem okD_clean (μ : Sto) {d : D} (h : clean d = true) (hl : ∀ ds, d = .tup ds → ds.length ≤ SZ) : okD μ d = true := by
  cases d with
  | tup ds =>
    unfold okD
    rw [clean_tup, cleans_iff] at h
    rw [Bool.and_eq_true, decide_eq_true_eq, List.all_eq_true]
    exact ⟨hl ds rfl, fun d hd => ty_clean μ (h d hd)⟩
  | obj n => rw [clean] at h; cases h
  | _ => rfl
mutual
theorem toPy_clean : ∀ (d : D), clean d = true → ∃ p, toPy d = some p
  | .obj _, h => by rw [clean] at h; cases h
  | .tup ds, h => by
    rw [clean] at h
    obtain ⟨ps, e⟩ := toPys_clean ds h
    exact ⟨.tuple ps, by rw [toPy, e]; rfl⟩
  | .lst ds, h => by
    rw [clean] at h
    obtain ⟨ps, e⟩ := toPys_clean ds h
    exact ⟨.list ps, by rw [toPy, e]; rfl⟩
  | .frz ds, h => by
    rw [clean] at h
    obtain ⟨ps, e⟩ := toPys_clean ds h
    exact ⟨.list ps, by rw [toPy, e]; rfl⟩
  | .non, _ => ⟨_, by rw [toPy]⟩
  | .bl _, _ => ⟨_, by rw [toPy]⟩
  | .int _, _ => ⟨_, by rw [toPy]⟩
  | .str _, _ => ⟨_, by rw [toPy]⟩
theorem toPys_clean : ∀ (ds : List D), cleans ds = true → ∃ ps, toPys ds = some ps
  | [], _ => ⟨_, by rw [toPys]⟩
  | d :: ds, h => by
    rw [cleans, Bool.and_eq_true] at h
    obtain ⟨p, e1⟩ := toPy_clean d h.1
    obtain ⟨ps, e2⟩ := toPys_clean ds h.2
    exact ⟨p :: ps, by rw [toPys, e1, e2]⟩
end
end DL
namespace DL
open PySem PySem.Spec PyProof.Rows L2
/-! ### W: it ends well, and P holds of what it gives -/
def R.W {α : Type} (r : R α) (P : α → Sto → Prop) : Prop := match r with | .ok a μ => P a μ | _ => False
/-- behind a statement: N if it goes on, T if it returns -/
def SR.W (r : SR) (N : En → Sto → Prop) (T : D → Sto → Prop) : Prop := match r with | .nx ρ μ => N ρ μ | .rt d μ => T d μ | _ => False
/-- behind a loop's body -/
def SR.L (r : SR) (N : En → Sto → Prop) (B : En → Sto → Prop) (T : D → Sto → Prop) : Prop := match r with | .nx ρ μ => N ρ μ | .ct ρ μ => N ρ μ | .bk ρ μ => B ρ μ | .rt d μ => T d μ | _ => False
section
variable {α β : Type} {ρ : En} {μ : Sto} {P : α → Sto → Prop} {r : R α} {s : SR} {N B N' B' : En → Sto → Prop} {T T' : D → Sto → Prop} {F G : FS} {fa : FE D}
theorem R.W_iff : r.W P ↔ ∃ a μ, r = .ok a μ ∧ P a μ := by
  cases r with
  | ok a μ => exact ⟨fun h => ⟨a, μ, rfl, h⟩, fun ⟨b, ν, e, h⟩ => by cases e; exact h⟩
  | ex c d μ => exact ⟨fun h => h.elim, fun ⟨b, ν, e, h⟩ => by cases e⟩
  | bad => exact ⟨fun h => h.elim, fun ⟨b, ν, e, h⟩ => by cases e⟩
theorem R.W.ex (h : r.W P) : ∃ a μ, r = .ok a μ ∧ P a μ := R.W_iff.mp h
theorem R.W.of {a : α} (e : r = .ok a μ) (h : P a μ) : r.W P := by rw [e]; exact h
theorem R.W.imp {P' : α → Sto → Prop} (h : r.W P) (i : ∀ a μ, P a μ → P' a μ) : r.W P' := by
  cases r with
  | ok a μ => exact i a μ h
  | ex c d μ => exact h
  | bad => exact h
@[simp] theorem R.W_ok {a : α} : (R.ok a μ).W P ↔ P a μ := Iff.rfl
@[simp] theorem R.W_bad : (R.bad : R α).W P ↔ False := Iff.rfl
@[simp] theorem R.W_ex {c : Nat} {d : D} : (R.ex c d μ : R α).W P ↔ False := Iff.rfl
@[simp ↓] theorem R.W_bind {f : α → Sto → R β} {P : β → Sto → Prop} : (r.bind f).W P ↔ r.W fun a μ => (f a μ).W P := by cases r <;> exact Iff.rfl
@[simp] theorem R.W_ite {c : Prop} [Decidable c] {r' : R α} : (if c then r else r').W P ↔ if c then r.W P else r'.W P := by split <;> exact Iff.rfl
@[simp] theorem SR.W_ite {c : Prop} [Decidable c] {s' : SR} : (if c then s else s').W N T ↔ if c then s.W N T else s'.W N T := by split <;> exact Iff.rfl
@[simp] theorem SR.L_ite {c : Prop} [Decidable c] {s' : SR} : (if c then s else s').L N B T ↔ if c then s.L N B T else s'.L N B T := by split <;> exact Iff.rfl
@[simp] theorem SR.W_nx : (SR.nx ρ μ).W N T ↔ N ρ μ := Iff.rfl
@[simp] theorem SR.W_rt {d : D} : (SR.rt d μ).W N T ↔ T d μ := Iff.rfl
@[simp] theorem SR.W_bk : (SR.bk ρ μ).W N T ↔ False := Iff.rfl
@[simp] theorem SR.W_ct : (SR.ct ρ μ).W N T ↔ False := Iff.rfl
@[simp] theorem SR.W_ex {c : Nat} {d : D} : (SR.ex c d ρ μ).W N T ↔ False := Iff.rfl
@[simp] theorem SR.W_bad : SR.bad.W N T ↔ False := Iff.rfl
@[simp] theorem SR.L_nx : (SR.nx ρ μ).L N B T ↔ N ρ μ := Iff.rfl
@[simp] theorem SR.L_ct : (SR.ct ρ μ).L N B T ↔ N ρ μ := Iff.rfl
@[simp] theorem SR.L_bk : (SR.bk ρ μ).L N B T ↔ B ρ μ := Iff.rfl
@[simp] theorem SR.L_rt {d : D} : (SR.rt d μ).L N B T ↔ T d μ := Iff.rfl
@[simp] theorem SR.L_ex {c : Nat} {d : D} : (SR.ex c d ρ μ).L N B T ↔ False := Iff.rfl
@[simp] theorem SR.L_bad : SR.bad.L N B T ↔ False := Iff.rfl
@[simp ↓] theorem R.W_st {k : α → Sto → SR} : (r.st ρ k).W N T ↔ r.W fun a μ => (k a μ).W N T := by cases r <;> exact Iff.rfl
@[simp ↓] theorem R.L_st {k : α → Sto → SR} : (r.st ρ k).L N B T ↔ r.W fun a μ => (k a μ).L N B T := by cases r <;> exact Iff.rfl
theorem SR.W.imp (h : s.W N T) (i : ∀ ρ μ, N ρ μ → N' ρ μ) (j : ∀ d μ, T d μ → T' d μ) : s.W N' T' := by
  cases s with
  | nx ρ μ => exact i _ _ h
  | rt d μ => exact j _ _ h
  | _ => exact h.elim
theorem SR.L.imp (h : s.L N B T) (i : ∀ ρ μ, N ρ μ → N' ρ μ) (b : ∀ ρ μ, B ρ μ → B' ρ μ) (j : ∀ d μ, T d μ → T' d μ) : s.L N' B' T' := by
  cases s with
  | nx ρ μ => exact i _ _ h
  | ct ρ μ => exact i _ _ h
  | bk ρ μ => exact b _ _ h
  | rt d μ => exact j _ _ h
  | _ => exact h.elim
/-- a statement that does not break goes into a loop's body -/
theorem SR.W.loop (h : s.W N T) : s.L N B T := by
  cases s with
  | nx ρ μ => exact h
  | rt d μ => exact h
  | _ => exact h.elim
@[simp ↓] theorem SR.W_seq : (sSeq F G ρ μ).W N T ↔ (F ρ μ).W (fun ρ μ => (G ρ μ).W N T) T := by
  rw [x_sSeq]
  cases F ρ μ <;> exact Iff.rfl
/-- a body's beginning; only its end may break or continue -/
theorem SR.L_seq (h : (F ρ μ).W (fun ρ μ => (G ρ μ).L N B T) T) : (sSeq F G ρ μ).L N B T := by
  rw [x_sSeq]
  cases hF : F ρ μ <;> rw [hF] at h <;> first | exact h | exact h.elim
/-- a body's beginning that may break or continue -/
theorem SR.L_seqL {N1 : En → Sto → Prop} (h : match F ρ μ with | .nx ρ μ => (G ρ μ).L N B T | r => r.L N B T) : (sSeq F G ρ μ).L N B T := by
  rw [x_sSeq]
  cases hF : F ρ μ <;> rw [hF] at h <;> exact h
theorem SR.W_eq {d : D} : s.W (fun _ _ => False) (fun e ν => e = d ∧ ν = μ) ↔ s = .rt d μ := by
  cases s with
  | rt e ν => exact ⟨fun h => by rw [h.1, h.2], fun h => by cases h; exact ⟨rfl, rfl⟩⟩
  | nx ρ μ => exact ⟨fun h => h.elim, fun h => by cases h⟩
  | bk ρ μ => exact ⟨fun h => h.elim, fun h => by cases h⟩
  | ct ρ μ => exact ⟨fun h => h.elim, fun h => by cases h⟩
  | ex c d ρ μ => exact ⟨fun h => h.elim, fun h => by cases h⟩
  | bad => exact ⟨fun h => h.elim, fun h => by cases h⟩
/-- a def's run -/
theorem runF_W {n : Nat} {ds : List D} {P : D → Sto → Prop} (h : (F (ds.map some ++ List.replicate (n - ds.length) none) μ).W (fun _ μ => P .non μ) P) : (runF n F ds μ).W P := by
  rw [x_runF]
  cases hF : F (ds.map some ++ List.replicate (n - ds.length) none) μ <;> rw [hF] at h <;> first | exact h | exact h.elim
/-- a for loop -/
theorem forD_W {gd : List (Nat × DO)} {g : FG} (I : Nat → En → Sto → Prop) (items : List D) (h0 : I 0 ρ μ)
    (hs : ∀ i d ρ μ, items[i]? = some d → I i ρ μ → chk gd μ ∧ ∃ ρ1, g d ρ = some ρ1 ∧ ∀ X : En → Sto → Prop, (∀ ρ' μ', I (i + 1) ρ' μ' → X ρ' μ') → (F ρ1 μ).L X N T)
    (he : ∀ ρ μ, I items.length ρ μ → chk gd μ ∧ N ρ μ) : (forD gd g F items ρ μ).W N T := by
  refine forD_inv I (fun r => r.W N T) items 0 ρ μ h0 (fun i d ρ μ hi hI => ?_) (fun ρ μ hI => he ρ μ (by rw [Nat.zero_add] at hI; exact hI))
  rw [Nat.zero_add] at hI ⊢
  obtain ⟨c, ρ1, e1, h⟩ := hs i d ρ μ hi hI
  refine ⟨c, ρ1, e1, ?_⟩
  have h := h _ fun _ _ q => q
  cases hF : F ρ1 μ <;> rw [hF] at h <;> first | exact h | exact h.elim
/-- a comprehension whose parts change the store: I of the items made so far -/
theorem lcD_W {gd : List (Nat × DO)} {g : FG} {tt : FE Bool} {te : FE D} (I : Nat → List D → Sto → Prop) : ∀ (items : List D) (k : Nat) (acc : List D) (μ : Sto), I k acc μ →
    (∀ i d acc μ, items[i]? = some d → I (k + i) acc μ → chk gd μ ∧ ∃ ρ1, g d ρ = some ρ1 ∧ (tt ρ1 μ).W fun b μ1 => if b = true then (te ρ1 μ1).W fun y μ2 => I (k + i + 1) (acc ++ [y]) μ2 else I (k + i + 1) acc μ1) →
    (∀ acc μ, I (k + items.length) acc μ → chk gd μ) → (lcD gd g tt te ρ items μ).W fun ys μ' => I (k + items.length) (acc ++ ys) μ'
  | [], k, acc, μ, h0, _, he => by
    rw [lcD, if_pos (he acc μ h0)]
    show I k (acc ++ []) μ
    rw [List.append_nil]
    exact h0
  | d :: ds, k, acc, μ, h0, hs, he => by
    obtain ⟨c, ρ1, e1, h⟩ := hs 0 d acc μ rfl h0
    have rest : ∀ acc' μ', I (k + 1) acc' μ' → (lcD gd g tt te ρ ds μ').W fun ys μ'' => I (k + (d :: ds).length) (acc' ++ ys) μ'' := fun acc' μ' h' => by
      have := lcD_W I ds (k + 1) acc' μ' h' (fun i e acc μ hi hI => by
        have := hs (i + 1) e acc μ (by simpa using hi) (by rw [show k + (i + 1) = k + 1 + i by omega]; exact hI)
        rw [show k + (i + 1) + 1 = k + 1 + i + 1 by omega] at this
        exact this) (fun acc μ hI => he acc μ (by rw [List.length_cons, show k + (ds.length + 1) = k + 1 + ds.length by omega]; exact hI))
      rw [show k + 1 + ds.length = k + (d :: ds).length by rw [List.length_cons]; omega] at this
      exact this
    rw [lcD, if_pos c, e1]
    dsimp only
    obtain ⟨b, μ1, e2, h2⟩ := h.ex
    rw [e2, R.nox_ok, R.bind_ok]
    cases b with
    | true =>
      rw [if_pos rfl] at h2 ⊢
      obtain ⟨y, μ2, e3, h3⟩ := h2.ex
      rw [e3, R.nox_ok, R.bind_ok]
      obtain ⟨ys, μ3, e4, h4⟩ := (rest _ _ h3).ex
      rw [e4]
      show I _ (acc ++ y :: ys) μ3
      rw [List.append_assoc] at h4
      exact h4
    | false =>
      rw [if_neg (by simp)] at h2 ⊢
      exact rest _ _ h2
theorem lcD_W0 {gd : List (Nat × DO)} {g : FG} {tt : FE Bool} {te : FE D} (I : Nat → List D → Sto → Prop) (items : List D) (h0 : I 0 [] μ)
    (hs : ∀ i d acc μ, items[i]? = some d → I i acc μ → chk gd μ ∧ ∃ ρ1, g d ρ = some ρ1 ∧ (tt ρ1 μ).W fun b μ1 => if b = true then (te ρ1 μ1).W fun y μ2 => I (i + 1) (acc ++ [y]) μ2 else I (i + 1) acc μ1)
    (he : ∀ acc μ, I items.length acc μ → chk gd μ) : (lcD gd g tt te ρ items μ).W fun ys μ' => I items.length ys μ' := by
  have := lcD_W (gd := gd) (g := g) (tt := tt) (te := te) (ρ := ρ) I items 0 [] μ h0 (fun i d acc μ hi hI => by
    rw [Nat.zero_add] at hI ⊢
    exact hs i d acc μ hi hI) (fun acc μ hI => he acc μ (by rw [Nat.zero_add] at hI; exact hI))
  rw [Nat.zero_add] at this
  exact this
end

/-! ### contracts by cases -/
inductive Out where
  | ok (d : D)
  | ex (c : Nat) (d : D)
def Out.r : Out → Sto → R D
  | .ok d, μ => .ok d μ
  | .ex c d, μ => .ex c d μ
@[simp] theorem Out.r_ok (d : D) (μ : Sto) : (Out.ok d).r μ = .ok d μ := rfl
@[simp] theorem Out.r_ex (c : Nat) (d : D) (μ : Sto) : (Out.ex c d).r μ = .ex c d μ := rfl
def Out.d : Out → D
  | .ok d => d
  | .ex _ d => d
open Classical in
/-- on the arguments args i with ok i: out i; else untold -/
noncomputable def mkG {ι : Type} (args : ι → List D) (out : ι → Out) (ok : ι → Prop) : FD := fun ds μ => if h : ∃ i, args i = ds ∧ ok i then (out h.choose).r μ else .bad
theorem mkG_eq {ι : Type} {args : ι → List D} {out : ι → Out} {ok : ι → Prop} {μ : Sto} (inj : ∀ i j, args i = args j → i = j) {i : ι} (h : ok i) : mkG args out ok (args i) μ = (out i).r μ := by
  unfold mkG
  have hx : ∃ j, args j = args i ∧ ok j := ⟨i, rfl, h⟩
  rw [dif_pos hx, inj _ _ hx.choose_spec.1]
theorem under_clean (n : Nat) : ∀ d, clean d = true → under n d = true := by
  have : ∀ k, (∀ d, sizeOf d < k → clean d = true → under n d = true) ∧ (∀ ds : List D, sizeOf ds < k → cleans ds = true → unders n ds = true) := by
    intro k
    induction k with
    | zero => exact ⟨fun d h => absurd h (Nat.not_lt_zero _), fun d h => absurd h (Nat.not_lt_zero _)⟩
    | succ k ih =>
      refine ⟨fun d hd hc => ?_, fun ds hd hc => ?_⟩
      · cases d with
        | obj i => rw [clean] at hc; cases hc
        | tup ds => rw [under]; rw [clean] at hc; exact ih.2 ds (by simp at hd; omega) hc
        | lst ds => rw [under]; rw [clean] at hc; exact ih.2 ds (by simp at hd; omega) hc
        | frz ds => rw [under]; rw [clean] at hc; exact ih.2 ds (by simp at hd; omega) hc
        | _ => rw [under]
      · cases ds with
        | nil => rw [unders]
        | cons d ds =>
          rw [cleans, Bool.and_eq_true] at hc
          rw [unders, ih.1 d (by simp at hd; omega) hc.1, ih.2 ds (by simp at hd; omega) hc.2]
          rfl
  exact fun d h => (this (sizeOf d + 1)).1 d (Nat.lt_succ_self _) h
theorem le_mkG {ι : Type} {R : FD} {args : ι → List D} {out : ι → Out} {ok : ι → Prop} (cl : ∀ i, ok i → clean (out i).d = true) (h : ∀ i μ, ok i → ∃ γ, R (args i) μ = (out i).r (μ ++ γ)) (ds : List D) (μ : Sto) (hμ : Scoped μ) (_ : unders μ.length ds = true) : LeG μ (R ds μ) (mkG args out ok ds μ) := by
  unfold mkG
  split
  · rename_i hx
    obtain ⟨h1, h2⟩ := hx.choose_spec
    obtain ⟨γ, e⟩ := h _ μ h2
    rw [h1] at e
    have hc := under_clean μ.length _ (cl _ h2)
    cases ho : out hx.choose with
    | ok d =>
      rw [ho] at e hc
      exact .inr (.inr (.inl ⟨d, μ, γ, e, rfl, Nat.le_refl _, hc, hμ⟩))
    | ex c d =>
      rw [ho] at e hc
      exact .inr (.inr (.inr ⟨c, d, μ, γ, e, rfl, Nat.le_refl _, hc, hμ⟩))
  · exact .inl rfl
/-! ### what may be looked at: no objects, no tuple too long -/
mutual
def fitD : D → Bool
  | .obj _ => false
  | .tup ds => decide (ds.length ≤ SZ) && fitDs ds
  | .lst ds => decide (ds.length ≤ SZ) && fitDs ds
  | .frz ds => decide (ds.length ≤ SZ) && fitDs ds
  | .non => true
  | .bl _ => true
  | .int _ => true
  | .str _ => true
def fitDs : List D → Bool
  | [] => true
  | d :: ds => fitD d && fitDs ds
end
@[simp] theorem fit_int (i : Int) : fitD (.int i) = true := by rw [fitD]
@[simp] theorem fit_bl (i : Bool) : fitD (.bl i) = true := by rw [fitD]
@[simp] theorem fit_str (i : Str) : fitD (.str i) = true := by rw [fitD]
@[simp] theorem fit_non : fitD .non = true := by rw [fitD]
@[simp] theorem fit_obj (n : Nat) : fitD (.obj n) = false := by rw [fitD]
@[simp] theorem fits_nil : fitDs [] = true := by rw [fitDs]
@[simp] theorem fits_cons (d : D) (ds : List D) : fitDs (d :: ds) = (fitD d && fitDs ds) := by rw [fitDs]
theorem fits_iff : ∀ {ds : List D}, fitDs ds = true ↔ ∀ d ∈ ds, fitD d = true
  | [] => by simp
  | d :: ds => by rw [fits_cons, Bool.and_eq_true, fits_iff (ds := ds)]; simp
@[simp] theorem fit_tup (ds : List D) : fitD (.tup ds) = true ↔ ds.length ≤ SZ ∧ ∀ d ∈ ds, fitD d = true := by rw [fitD, Bool.and_eq_true, decide_eq_true_eq, fits_iff]
@[simp] theorem fit_lst (ds : List D) : fitD (.lst ds) = true ↔ ds.length ≤ SZ ∧ ∀ d ∈ ds, fitD d = true := by rw [fitD, Bool.and_eq_true, decide_eq_true_eq, fits_iff]
@[simp] theorem fit_frz (ds : List D) : fitD (.frz ds) = true ↔ ds.length ≤ SZ ∧ ∀ d ∈ ds, fitD d = true := by rw [fitD, Bool.and_eq_true, decide_eq_true_eq, fits_iff]
mutual
theorem fit_clean : ∀ d, fitD d = true → clean d = true
  | .obj n, h => by rw [fitD] at h; cases h
  | .tup ds, h => by rw [fitD, Bool.and_eq_true] at h; rw [clean]; exact fits_cleans ds h.2
  | .lst ds, h => by rw [fitD, Bool.and_eq_true] at h; rw [clean]; exact fits_cleans ds h.2
  | .frz ds, h => by rw [fitD, Bool.and_eq_true] at h; rw [clean]; exact fits_cleans ds h.2
  | .non, _ => by rw [clean]
  | .bl _, _ => by rw [clean]
  | .int _, _ => by rw [clean]
  | .str _, _ => by rw [clean]
theorem fits_cleans : ∀ ds, fitDs ds = true → cleans ds = true
  | [], _ => by rw [cleans]
  | d :: ds, h => by
    rw [fitDs, Bool.and_eq_true] at h
    rw [cleans, fit_clean d h.1, fits_cleans ds h.2]
    rfl
end
theorem fit_ty (μ : Sto) {d : D} (h : fitD d = true) : (tyD μ d).isSome = true := ty_clean μ (fit_clean d h)
theorem fit_ok (μ : Sto) {d : D} (h : fitD d = true) : okD μ d = true := okD_clean μ (fit_clean d h) fun ds e => by
  subst e
  exact ((fit_tup ds).mp h).1
theorem fit_map {α : Type} {f : α → D} {l : List α} (hl : l.length ≤ SZ) (h : ∀ a ∈ l, fitD (f a) = true) : fitD (.tup (l.map f)) = true := by
  rw [fit_tup]
  refine ⟨by simpa using hl, fun d hd => ?_⟩
  obtain ⟨a, ha, rfl⟩ := List.mem_map.mp hd
  exact h a ha
theorem gAll_of {α : Type} (f : α → Bool) (l : List α) (μ : Sto) : gAll [.lst (l.map fun a => D.bl (f a))] μ = .ok (.bl (l.all f)) μ := by
  have := x_gAll (bs := l.map f) (μ := μ)
  rw [List.map_map] at this
  rw [show (fun a => D.bl (f a)) = D.bl ∘ f from rfl, this, List.all_map]
  rfl
theorem gAny_of {α : Type} (f : α → Bool) (l : List α) (μ : Sto) : gAny [.lst (l.map fun a => D.bl (f a))] μ = .ok (.bl (l.any f)) μ := by
  have := x_gAny (bs := l.map f) (μ := μ)
  rw [List.map_map] at this
  rw [show (fun a => D.bl (f a)) = D.bl ∘ f from rfl, this, List.any_map]
  rfl
theorem gSum_of {α : Type} (f : α → Int) (l : List α) (μ : Sto) : gSumT [.lst (l.map fun a => D.int (f a))] μ = .ok (.int (l.map f).sum) μ := by
  have := x_gSumL (ns := l.map f) (μ := μ)
  rw [List.map_map] at this
  exact this

/-! ### frames: what is there stands, but at n -/
structure Frm (n : Nat) (μ μ' : Sto) : Prop where
  len : μ.length ≤ μ'.length
  at_ : ∀ m, m ≠ n → m < μ.length → μ'[m]? = μ[m]?
theorem Frm.refl (n : Nat) (μ : Sto) : Frm n μ μ := ⟨Nat.le_refl _, fun _ _ _ => rfl⟩
theorem Frm.trans {n : Nat} {μ μ1 μ2 : Sto} (a : Frm n μ μ1) (b : Frm n μ1 μ2) : Frm n μ μ2 := ⟨Nat.le_trans a.len b.len, fun m h1 h2 => by rw [b.at_ m h1 (Nat.lt_of_lt_of_le h2 a.len), a.at_ m h1 h2]⟩
theorem Frm.set (n : Nat) (μ : Sto) (o : DO) : Frm n μ (μ.set n o) := ⟨by simp, fun m h _ => by rw [List.getElem?_set_ne (fun e => h e.symm)]⟩
theorem Frm.app (n : Nat) (μ γ : Sto) : Frm n μ (μ ++ γ) := ⟨by simp, fun m _ h => by rw [List.getElem?_append_left h]⟩
theorem Frm.get {n : Nat} {μ μ' : Sto} (f : Frm n μ μ') {m : Nat} {o : DO} (hm : m ≠ n) (h : μ[m]? = some o) : μ'[m]? = some o := by
  rw [f.at_ m hm (List.getElem?_eq_some_iff.mp h).1, h]
theorem map_of {α : Type} {f : α → D} {Q : α → Prop} : ∀ {ys : List D}, (∀ y ∈ ys, ∃ s, y = f s ∧ Q s) → ∃ ss : List α, ys = ss.map f ∧ ∀ s ∈ ss, Q s
  | [], _ => ⟨[], rfl, by simp⟩
  | y :: ys, h => by
    obtain ⟨s, rfl, q⟩ := h _ List.mem_cons_self
    obtain ⟨ss, rfl, qs⟩ := map_of (ys := ys) fun z hz => h z (List.mem_cons_of_mem _ hz)
    exact ⟨s :: ss, rfl, fun t ht => by
      rcases List.mem_cons.mp ht with e | m
      · rw [e]; exact q
      · exact qs t m⟩
theorem Dice.other {k m n : Nat} {μ : Sto} {o : DO} (h : Dice k μ n) (hm : m ≠ n) : Dice k (μ.set m o) n := by
  obtain ⟨a, b, c, h1, r⟩ := h.ex
  exact ⟨a, b, c, by rw [List.getElem?_set_ne hm]; exact h1, r⟩
theorem range_get {n i : Nat} {d : D} (h : (rangeD 0 n)[i]? = some d) : i < n ∧ d = .int i := by
  rw [rangeD_eq, List.getElem?_map] at h
  cases hr : (List.range n)[i]? with
  | none => rw [hr] at h; cases h
  | some j =>
    rw [hr] at h
    obtain ⟨h1, h2⟩ := List.getElem?_eq_some_iff.mp hr
    simp at h1 h2
    subst h2
    exact ⟨h1, (Option.some.inj h).symm⟩
/-- drawn items: each by E, Q of each -/
theorem drawn_W {g : FG} {te : FE D} {ρ : En} {n k : Nat} {μ : Sto} (c : Nat) (Q : D → Prop) (items : List D) (hD : Dice k μ n) (hk : k + items.length * c ≤ 900000)
    (h : ∀ d ∈ items, ∀ k μ', k + c ≤ 900000 → Dice k μ' n → Frm n μ μ' → ∃ ρ1, g d ρ = some ρ1 ∧ ∀ X : D → Sto → Prop, (∀ y μ'', Q y → Dice (k + c) μ'' n → Frm n μ' μ'' → X y μ'') → (te ρ1 μ').W X)
    {P : List D → Sto → Prop} (hP : ∀ ys μ', ys.length = items.length → (∀ y ∈ ys, Q y) → Dice (k + items.length * c) μ' n → Frm n μ μ' → P ys μ') :
    (lcD [] g tYesD te ρ items μ).W P := by
  refine R.W.imp ?_ fun ys μ' (h : ys.length = items.length ∧ (∀ y ∈ ys, Q y) ∧ Dice (k + items.length * c) μ' n ∧ Frm n μ μ') => hP ys μ' h.1 h.2.1 h.2.2.1 h.2.2.2
  refine lcD_W0 (fun i ys μ' => ys.length = i ∧ (∀ y ∈ ys, Q y) ∧ Dice (k + i * c) μ' n ∧ Frm n μ μ') items ⟨rfl, by simp, by simpa using hD, Frm.refl _ _⟩ (fun i d acc μ' hi hI => ?_) (fun _ _ _ => by simp)
  obtain ⟨h1, h2, h3, h4⟩ := hI
  have hil : i < items.length := (List.getElem?_eq_some_iff.mp hi).1
  have hb : k + i * c + c ≤ 900000 := by
    have : (i + 1) * c ≤ items.length * c := Nat.mul_le_mul_right c hil
    rw [Nat.add_mul, Nat.one_mul] at this
    omega
  obtain ⟨ρ1, e1, hw⟩ := h d (List.mem_of_getElem? hi) _ μ' hb h3 h4
  refine ⟨by simp, ρ1, e1, ?_⟩
  show (te ρ1 μ').W _
  refine hw _ fun y μ'' q1 q2 q3 => ⟨by simp [h1], fun z hz => ?_, ?_, h4.trans q3⟩
  · rcases List.mem_append.mp hz with z' | z'
    · exact h2 z z'
    · rw [List.mem_singleton.mp z']; exact q1
  · rw [Nat.add_mul, Nat.one_mul, ← Nat.add_assoc]; exact q2
/-! ### comprehensions over typed items -/
section
variable {α : Type} {gd : List (Nat × DO)} {g : FG} {tt : FE Bool} {te : FE D} {ρ : En} {μ : Sto}
theorem lcD_filtF (enc : α → D) (f : α → D) (p : α → Bool) (l : List α) (hc : chk gd μ) (h : ∀ a ∈ l, ∃ ρ1, g (enc a) ρ = some ρ1 ∧ tt ρ1 μ = .ok (p a) μ ∧ (p a = true → te ρ1 μ = .ok (f a) μ)) : lcD gd g tt te ρ (l.map enc) μ = .ok ((l.filter p).map f) μ := by
  induction l with
  | nil => rw [List.map_nil, lcD, if_pos hc]; rfl
  | cons a l ih =>
    obtain ⟨ρ1, e1, e2, e3⟩ := h a (by simp)
    have ih := ih fun x hx => h x (by simp [hx])
    rw [List.map_cons, lcD, if_pos hc, e1]
    dsimp only
    rw [e2, R.nox_ok, R.bind_ok]
    cases hp : p a with
    | true => rw [if_pos rfl, e3 hp, R.nox_ok, R.bind_ok, ih, R.bind_ok, List.filter_cons, hp]; rfl
    | false => rw [if_neg (by simp), ih, List.filter_cons, hp]; rfl
theorem lcD_mapF (enc : α → D) (f : α → D) (l : List α) (hc : chk gd μ) (h : ∀ a ∈ l, ∃ ρ1, g (enc a) ρ = some ρ1 ∧ te ρ1 μ = .ok (f a) μ) : lcD gd g tYesD te ρ (l.map enc) μ = .ok (l.map f) μ := by
  rw [lcD_filtF enc f (fun _ => true) l hc fun a ha => by
    obtain ⟨ρ1, e1, e2⟩ := h a ha
    exact ⟨ρ1, e1, rfl, fun _ => e2⟩]
  rw [List.filter_eq_self.mpr (fun _ _ => rfl)]
/-- a loop over typed items whose state is told by E, M -/
theorem forD_fold {σ : Type} {F : FS} (enc : α → D) (E : σ → Option D → En) (M : σ → Sto) (f : σ → α → σ) : ∀ (l : List α) (s : σ) (x : Option D),
    (∀ a ∈ l, ∀ s x, chk gd (M s) ∧ ∃ ρ1 y, g (enc a) (E s x) = some ρ1 ∧ (F ρ1 (M s) = .nx (E (f s a) y) (M (f s a)) ∨ F ρ1 (M s) = .ct (E (f s a) y) (M (f s a)))) → (∀ s, chk gd (M s)) →
    ∃ y, forD gd g F (l.map enc) (E s x) (M s) = .nx (E (l.foldl f s) y) (M (l.foldl f s))
  | [], s, x, _, hc => ⟨x, by rw [List.map_nil, forD, if_pos (hc s)]; rfl⟩
  | a :: l, s, x, h, hc => by
    obtain ⟨c, ρ1, y, e1, e2⟩ := h a List.mem_cons_self s x
    obtain ⟨z, e3⟩ := forD_fold enc E M f l (f s a) y (fun b hb => h b (List.mem_cons_of_mem _ hb)) hc
    refine ⟨z, ?_⟩
    rw [List.map_cons, forD, if_pos c, e1]
    dsimp only
    rcases e2 with e2 | e2 <;> rw [e2] <;> exact e3
end
end DL
namespace DL
open PySem PySem.Spec PyProof.Rows L2
/-! ### plain data: equal only if the same -/
mutual
def pl : Nat → D → Bool
  | _, .non => true
  | _, .int _ => true
  | _, .str x => PyData.strOk x
  | _, .bl _ => false
  | _, .obj _ => false
  | _, .frz _ => false
  | 0, .tup _ => false
  | 0, .lst _ => false
  | k + 1, .tup ds => pls k ds
  | k + 1, .lst ds => pls k ds
def pls : Nat → List D → Bool
  | _, [] => true
  | k, d :: ds => pl k d && pls k ds
end
@[simp] theorem pl_non (k : Nat) : pl k .non = true := by rw [pl]
@[simp] theorem pl_int (k : Nat) (i : Int) : pl k (.int i) = true := by rw [pl]
@[simp] theorem pl_str (k : Nat) (i : Str) : pl k (.str i) = PyData.strOk i := by rw [pl]
@[simp] theorem pl_bl (k : Nat) (b : Bool) : pl k (.bl b) = false := by rw [pl]
@[simp] theorem pl_tup (k : Nat) (ds : List D) : pl (k + 1) (.tup ds) = pls k ds := by rw [pl]
@[simp] theorem pl_lst (k : Nat) (ds : List D) : pl (k + 1) (.lst ds) = pls k ds := by rw [pl]
@[simp] theorem pls_nil (k : Nat) : pls k [] = true := by rw [pls]
@[simp] theorem pls_cons (k : Nat) (d : D) (ds : List D) : pls k (d :: ds) = (pl k d && pls k ds) := by rw [pls]
theorem pls_iff {k : Nat} : ∀ {ds : List D}, pls k ds = true ↔ ∀ d ∈ ds, pl k d = true
  | [] => by simp
  | d :: ds => by rw [pls_cons, Bool.and_eq_true, pls_iff (ds := ds)]; simp
theorem pls_map {α : Type} {k : Nat} {f : α → D} {l : List α} (h : ∀ a ∈ l, pl k (f a) = true) : pls k (l.map f) = true := by
  rw [pls_iff]
  intro d hd
  obtain ⟨a, ha, rfl⟩ := List.mem_map.mp hd
  exact h a ha
theorem pls_ints (k : Nat) (l : List Int) : pls k (l.map .int) = true := pls_map fun _ _ => pl_int _ _
theorem pls_app (k : Nat) (a b : List D) : pls k (a ++ b) = (pls k a && pls k b) := by
  induction a with
  | nil => simp
  | cons d a ih => rw [List.cons_append, pls_cons, pls_cons, ih, Bool.and_assoc]
mutual
theorem pl_mono : ∀ {k j : Nat} {d : D}, k ≤ j → pl k d = true → pl j d = true
  | _, _, .non, _, _ => pl_non _
  | _, _, .int _, _, _ => pl_int _ _
  | _, _, .str _, _, h => by rw [pl_str] at *; exact h
  | _, _, .bl _, _, h => by rw [pl] at h; cases h
  | _, _, .obj _, _, h => by rw [pl] at h; cases h
  | _, _, .frz _, _, h => by rw [pl] at h; cases h
  | 0, _, .tup _, _, h => by rw [pl] at h; cases h
  | 0, _, .lst _, _, h => by rw [pl] at h; cases h
  | k + 1, 0, .tup _, hk, _ => by omega
  | k + 1, 0, .lst _, hk, _ => by omega
  | k + 1, j + 1, .tup ds, hk, h => by rw [pl_tup] at *; exact pls_mono (by omega) h
  | k + 1, j + 1, .lst ds, hk, h => by rw [pl_lst] at *; exact pls_mono (by omega) h
theorem pls_mono : ∀ {k j : Nat} {ds : List D}, k ≤ j → pls k ds = true → pls j ds = true
  | _, _, [], _, _ => pls_nil _
  | _, _, d :: ds, hk, h => by
    rw [pls_cons, Bool.and_eq_true] at *
    exact ⟨pl_mono hk h.1, pls_mono hk h.2⟩
end
mutual
theorem pl_py : ∀ {k : Nat} {d : D}, pl k d = true → ∃ p, toPy d = some p ∧ p.canLay0 = true ∧ p.depth ≤ k
  | _, .non, _ => ⟨.none, by rw [toPy], by simp [PyData.canLay0], by simp [PyData.depth]⟩
  | _, .int i, _ => ⟨.int i, by rw [toPy], by simp [PyData.canLay0], by simp [PyData.depth]⟩
  | _, .str i, h => ⟨.str i, by rw [toPy], by rw [pl_str] at h; simpa [PyData.canLay0] using h, by simp [PyData.depth]⟩
  | _, .bl _, h => by rw [pl] at h; cases h
  | _, .obj _, h => by rw [pl] at h; cases h
  | _, .frz _, h => by rw [pl] at h; cases h
  | 0, .tup _, h => by rw [pl] at h; cases h
  | 0, .lst _, h => by rw [pl] at h; cases h
  | k + 1, .tup ds, h => by
    rw [pl_tup] at h
    obtain ⟨ps, e1, e2, e3⟩ := pls_py h
    exact ⟨.tuple ps, by rw [toPy, e1]; rfl, by simpa [PyData.canLay0] using e2, by simp only [PyData.depth]; omega⟩
  | k + 1, .lst ds, h => by
    rw [pl_lst] at h
    obtain ⟨ps, e1, e2, e3⟩ := pls_py h
    exact ⟨.list ps, by rw [toPy, e1]; rfl, by simpa [PyData.canLay0] using e2, by simp only [PyData.depth]; omega⟩
theorem pls_py : ∀ {k : Nat} {ds : List D}, pls k ds = true → ∃ ps, toPys ds = some ps ∧ PyData.canLayAll0 ps = true ∧ PyData.depthAll ps ≤ k
  | _, [], _ => ⟨[], by rw [toPys], by simp [PyData.canLayAll0], by simp [PyData.depthAll]⟩
  | k, d :: ds, h => by
    rw [pls_cons, Bool.and_eq_true] at h
    obtain ⟨p, a1, a2, a3⟩ := pl_py h.1
    obtain ⟨ps, b1, b2, b3⟩ := pls_py h.2
    exact ⟨p :: ps, by rw [toPys, a1, b1], by simp [PyData.canLayAll0, a2, b2], by simp only [PyData.depthAll]; omega⟩
end
mutual
theorem pl_eqv : ∀ {k j : Nat} {d e : D} {p q : PyData}, pl k d = true → pl j e = true → toPy d = some p → toPy e = some q → (p.eqv q = true ↔ d = e)
  | k, j, d, e, p, q, h1, h2, e1, e2 => by
    cases d with
    | bl _ => rw [pl] at h1; cases h1
    | obj _ => rw [pl] at h1; cases h1
    | frz _ => rw [pl] at h1; cases h1
    | non =>
      rw [toPy] at e1; cases e1
      cases e with
      | bl _ => rw [pl] at h2; cases h2
      | obj _ => rw [pl] at h2; cases h2
      | frz _ => rw [pl] at h2; cases h2
      | non => rw [toPy] at e2; cases e2; simp [PyData.eqv]
      | int _ => rw [toPy] at e2; cases e2; simp [PyData.eqv]
      | str _ => rw [toPy] at e2; cases e2; simp [PyData.eqv]
      | tup es => rw [toPy] at e2; cases h : toPys es <;> rw [h] at e2 <;> cases e2; simp [PyData.eqv]
      | lst es => rw [toPy] at e2; cases h : toPys es <;> rw [h] at e2 <;> cases e2; simp [PyData.eqv]
    | int i =>
      rw [toPy] at e1; cases e1
      cases e with
      | bl _ => rw [pl] at h2; cases h2
      | obj _ => rw [pl] at h2; cases h2
      | frz _ => rw [pl] at h2; cases h2
      | non => rw [toPy] at e2; cases e2; simp [PyData.eqv]
      | int _ => rw [toPy] at e2; cases e2; simp [PyData.eqv]
      | str _ => rw [toPy] at e2; cases e2; simp [PyData.eqv]
      | tup es => rw [toPy] at e2; cases h : toPys es <;> rw [h] at e2 <;> cases e2; simp [PyData.eqv]
      | lst es => rw [toPy] at e2; cases h : toPys es <;> rw [h] at e2 <;> cases e2; simp [PyData.eqv]
    | str i =>
      rw [toPy] at e1; cases e1
      cases e with
      | bl _ => rw [pl] at h2; cases h2
      | obj _ => rw [pl] at h2; cases h2
      | frz _ => rw [pl] at h2; cases h2
      | non => rw [toPy] at e2; cases e2; simp [PyData.eqv]
      | int _ => rw [toPy] at e2; cases e2; simp [PyData.eqv]
      | str _ => rw [toPy] at e2; cases e2; simp [PyData.eqv]
      | tup es => rw [toPy] at e2; cases h : toPys es <;> rw [h] at e2 <;> cases e2; simp [PyData.eqv]
      | lst es => rw [toPy] at e2; cases h : toPys es <;> rw [h] at e2 <;> cases e2; simp [PyData.eqv]
    | tup ds =>
      cases k with
      | zero => rw [pl] at h1; cases h1
      | succ k =>
        rw [pl_tup] at h1
        rw [toPy] at e1
        cases hd : toPys ds with
        | none => rw [hd] at e1; cases e1
        | some ps =>
          rw [hd] at e1; cases e1
          cases e with
          | bl _ => rw [pl] at h2; cases h2
          | obj _ => rw [pl] at h2; cases h2
          | frz _ => rw [pl] at h2; cases h2
          | non => rw [toPy] at e2; cases e2; simp [PyData.eqv]
          | int _ => rw [toPy] at e2; cases e2; simp [PyData.eqv]
          | str _ => rw [toPy] at e2; cases e2; simp [PyData.eqv]
          | lst es => rw [toPy] at e2; cases h : toPys es <;> rw [h] at e2 <;> cases e2; simp [PyData.eqv]
          | tup es =>
            cases j with
            | zero => rw [pl] at h2; cases h2
            | succ j =>
              rw [pl_tup] at h2
              rw [toPy] at e2
              cases he : toPys es with
              | none => rw [he] at e2; cases e2
              | some qs =>
                rw [he] at e2; cases e2
                simp only [PyData.eqv, D.tup.injEq]
                exact pls_eqv h1 h2 hd he
    | lst ds =>
      cases k with
      | zero => rw [pl] at h1; cases h1
      | succ k =>
        rw [pl_lst] at h1
        rw [toPy] at e1
        cases hd : toPys ds with
        | none => rw [hd] at e1; cases e1
        | some ps =>
          rw [hd] at e1; cases e1
          cases e with
          | bl _ => rw [pl] at h2; cases h2
          | obj _ => rw [pl] at h2; cases h2
          | frz _ => rw [pl] at h2; cases h2
          | non => rw [toPy] at e2; cases e2; simp [PyData.eqv]
          | int _ => rw [toPy] at e2; cases e2; simp [PyData.eqv]
          | str _ => rw [toPy] at e2; cases e2; simp [PyData.eqv]
          | tup es => rw [toPy] at e2; cases h : toPys es <;> rw [h] at e2 <;> cases e2; simp [PyData.eqv]
          | lst es =>
            cases j with
            | zero => rw [pl] at h2; cases h2
            | succ j =>
              rw [pl_lst] at h2
              rw [toPy] at e2
              cases he : toPys es with
              | none => rw [he] at e2; cases e2
              | some qs =>
                rw [he] at e2; cases e2
                simp only [PyData.eqv, D.lst.injEq]
                exact pls_eqv h1 h2 hd he
theorem pls_eqv : ∀ {k j : Nat} {ds es : List D} {ps qs : List PyData}, pls k ds = true → pls j es = true → toPys ds = some ps → toPys es = some qs → (PyData.eqvAll ps qs = true ↔ ds = es)
  | k, j, ds, es, ps, qs, h1, h2, e1, e2 => by
    cases ds with
    | nil =>
      rw [toPys] at e1; cases e1
      cases es with
      | nil => rw [toPys] at e2; cases e2; simp [PyData.eqvAll]
      | cons e es =>
        rw [pls_cons, Bool.and_eq_true] at h2
        obtain ⟨q, a1, _⟩ := pl_py h2.1
        obtain ⟨qs', b1, _⟩ := pls_py h2.2
        rw [toPys, a1, b1] at e2; cases e2; simp [PyData.eqvAll]
    | cons d ds =>
      rw [pls_cons, Bool.and_eq_true] at h1
      obtain ⟨p, a1, _⟩ := pl_py h1.1
      obtain ⟨ps', b1, _⟩ := pls_py h1.2
      rw [toPys, a1, b1] at e1; cases e1
      cases es with
      | nil => rw [toPys] at e2; cases e2; simp [PyData.eqvAll]
      | cons e es =>
        rw [pls_cons, Bool.and_eq_true] at h2
        obtain ⟨q, c1, _⟩ := pl_py h2.1
        obtain ⟨qs', d1, _⟩ := pls_py h2.2
        rw [toPys, c1, d1] at e2; cases e2
        simp only [PyData.eqvAll, Bool.and_eq_true, List.cons.injEq]
        rw [pl_eqv h1.1 h2.1 a1 c1, pls_eqv h1.2 h2.2 b1 d1]
end
theorem gEq_pl {d e : D} {μ : Sto} (h1 : pl 32 d = true) (h2 : pl 32 e = true) : gEq d e μ = some (bP (d = e)) := by
  obtain ⟨p, a1, a2, a3⟩ := pl_py h1
  obtain ⟨q, b1, b2, b3⟩ := pl_py h2
  have s1 : SeqAt.shaped p = true := by unfold SeqAt.shaped; rw [Bool.and_eq_true]; exact ⟨a2, decide_eq_true (by omega)⟩
  have s2 : SeqAt.shaped q = true := by unfold SeqAt.shaped; rw [Bool.and_eq_true]; exact ⟨b2, decide_eq_true (by omega)⟩
  unfold gEq
  rw [toPyS_of a1, toPyS_of b1]
  simp only [s1, s2, and_self, if_true]
  congr 1
  have := pl_eqv h1 h2 a1 b1
  by_cases c : d = e
  · rw [this.mpr c]; exact (bP_iff.mpr c).symm
  · rw [Bool.eq_false_iff.mpr (fun z => c (this.mp z)), Bool.eq_false_iff.mpr (fun z => c (bP_iff.mp z))]
theorem gNe_pl {d e : D} {μ : Sto} (h1 : pl 32 d = true) (h2 : pl 32 e = true) : gNe d e μ = some (!bP (d = e)) := by
  unfold gNe; rw [gEq_pl h1 h2]; rfl
theorem bP_true {p : Prop} (h : p) : bP p = true := bP_iff.mpr h
theorem bP_false {p : Prop} (h : ¬ p) : bP p = false := Bool.eq_false_iff.mpr fun z => h (bP_iff.mp z)
theorem bP_dec (p : Prop) [Decidable p] : bP p = decide p := by
  by_cases h : p
  · rw [bP_true h, decide_eq_true h]
  · rw [bP_false h, decide_eq_false h]
theorem gEq_self {d : D} {μ : Sto} (h : pl 32 d = true) : gEq d d μ = some true := by rw [gEq_pl h h, bP_true rfl]
theorem gNe_self {d : D} {μ : Sto} (h : pl 32 d = true) : gNe d d μ = some false := by rw [gNe_pl h h, bP_true rfl]; rfl
theorem gNe_of {d e : D} {μ : Sto} (h : pl 32 d = true) (q : d = e) : gNe d e μ = some false := by subst q; exact gNe_self h
theorem gEq_bl {a b : Bool} {μ : Sto} : gEq (.bl a) (.bl b) μ = some (decide (a = b)) := gEq_py a b (Nat.zero_le _)
theorem gNe_bl {a b : Bool} {μ : Sto} : gNe (.bl a) (.bl b) μ = some (!decide (a = b)) := gNe_py a b (Nat.zero_le _)
theorem gEq_str {a b : Str} {μ : Sto} (ha : PyData.strOk a = true) (hb : PyData.strOk b = true) : gEq (.str a) (.str b) μ = some (bP (a = b)) := by
  rw [gEq_pl (by rw [pl_str]; exact ha) (by rw [pl_str]; exact hb), D.str.injEq]
theorem gNe_str {a b : Str} {μ : Sto} (ha : PyData.strOk a = true) (hb : PyData.strOk b = true) : gNe (.str a) (.str b) μ = some (!bP (a = b)) := by
  unfold gNe; rw [gEq_str ha hb]; rfl
/-- in: a list or a tuple of plain data -/
theorem gIn_pl {d : D} {es : List D} {μ : Sto} (h1 : pl 31 d = true) (h2 : pls 31 es = true) : gIn d (.lst es) μ = some (bP (d ∈ es)) ∧ gIn d (.tup es) μ = some (bP (d ∈ es)) := by
  obtain ⟨p, a1, a2, a3⟩ := pl_py h1
  obtain ⟨qs, b1, b2, b3⟩ := pls_py h2
  have s1 : SeqAt.shaped p = true := by unfold SeqAt.shaped; rw [Bool.and_eq_true]; exact ⟨a2, decide_eq_true (by omega)⟩
  have s2 : SeqAt.shaped (.list qs) = true := by unfold SeqAt.shaped; rw [Bool.and_eq_true]; exact ⟨by simpa [PyData.canLay0] using b2, decide_eq_true (by simp only [PyData.depth]; omega)⟩
  have key : ∀ (es : List D) (qs : List PyData), pls 31 es = true → toPys es = some qs → (qs.any fun z => PyData.eqv z p) = bP (d ∈ es) := by
    intro es
    induction es with
    | nil =>
      intro qs _ h
      rw [toPys] at h; cases h
      rw [bP_false (by simp)]
      rfl
    | cons e es ih =>
      intro qs hp h
      rw [pls_cons, Bool.and_eq_true] at hp
      obtain ⟨q, c1, _⟩ := pl_py hp.1
      obtain ⟨qs', d1, _⟩ := pls_py hp.2
      rw [toPys, c1, d1] at h; cases h
      rw [List.any_cons, ih qs' hp.2 d1]
      have := pl_eqv hp.1 h1 c1 a1
      by_cases c : e = d
      · rw [this.mpr c, bP_true (p := d ∈ e :: es) (by simp [c])]; rfl
      · rw [Bool.eq_false_iff.mpr (fun z => c (this.mp z))]
        by_cases m : d ∈ es
        · rw [bP_true m, bP_true (p := d ∈ e :: es) (by simp [m])]; rfl
        · rw [bP_false m, bP_false (p := d ∈ e :: es) (by rw [List.mem_cons, not_or]; exact ⟨fun z => c z.symm, m⟩)]; rfl
  constructor
  · unfold gIn
    rw [toPyS_of a1, toPyS_of (p := .list qs) (by rw [toPy, b1]; rfl)]
    simp only [s1, s2, and_self, if_true]
    rw [key es qs h2 b1]
  · unfold gIn
    rw [toPyS_of a1, toPyS_of (p := .tuple qs) (by rw [toPy, b1]; rfl)]
    simp only [s1, s2, and_self, if_true]
    rw [key es qs h2 b1]
theorem gNotIn_pl {d : D} {es : List D} {μ : Sto} (h1 : pl 31 d = true) (h2 : pls 31 es = true) : gNotIn d (.lst es) μ = some (!bP (d ∈ es)) ∧ gNotIn d (.tup es) μ = some (!bP (d ∈ es)) := by
  unfold gNotIn
  rw [(gIn_pl h1 h2).1, (gIn_pl h1 h2).2]
  exact ⟨rfl, rfl⟩
/-- a for loop over typed items that folds -/
theorem forD_S {α σ : Type} {gd : List (Nat × DO)} {g : FG} {F : FS} {N : En → Sto → Prop} {T : D → Sto → Prop} (enc : α → D) (f : σ → α → σ) (I : σ → En → Sto → Prop) : ∀ (l : List α) (s : σ) (ρ : En) (μ : Sto), I s ρ μ →
    (∀ a ∈ l, ∀ s ρ μ, I s ρ μ → chk gd μ ∧ ∃ ρ1, g (enc a) ρ = some ρ1 ∧ ∀ X : En → Sto → Prop, (∀ ρ' μ', I (f s a) ρ' μ' → X ρ' μ') → (F ρ1 μ).L X N T) →
    (∀ ρ μ, I (l.foldl f s) ρ μ → chk gd μ ∧ N ρ μ) → (forD gd g F (l.map enc) ρ μ).W N T
  | [], s, ρ, μ, h0, _, he => by
    obtain ⟨c, p⟩ := he ρ μ h0
    rw [List.map_nil, forD, if_pos c]
    exact p
  | a :: l, s, ρ, μ, h0, hs, he => by
    obtain ⟨c, ρ1, e1, h⟩ := hs a List.mem_cons_self s ρ μ h0
    rw [List.map_cons, forD, if_pos c, e1]
    have nx : ∀ ρ2 μ2, I (f s a) ρ2 μ2 → (forD gd g F (l.map enc) ρ2 μ2).W N T := fun ρ2 μ2 h2 =>
      forD_S enc f I l (f s a) ρ2 μ2 h2 (fun b hb => hs b (List.mem_cons_of_mem _ hb)) he
    have h := h _ nx
    dsimp only
    cases hF : F ρ1 μ <;> rw [hF] at h <;> first | exact h | exact h.elim
/-- by each of up to so many cells -/
theorem spots_ok {d : D} {ss : List Int} (hd : ScrD d ss) (c : Int) (hc : 1 ≤ c ∧ c ≤ 100) : ∃ m : Nat, m ≤ 100 ∧ ∀ ρ μ, (eCall gRange1 (eCons (eCall gMax2 (eCons (eC (.int 1)) (eCons (eCall gMin2 (eCons (eC (.int c)) (eCons (eCall gLen (eCons (eVar 0) eNil)) eNil))) eNil))) eNil)) (some d :: ρ) μ = .ok (rangeD 0 m, []) μ := by
  obtain ⟨m, hm⟩ : ∃ m : Nat, (if 1 < (if (ss.length : Int) < c then (ss.length : Int) else c) then (if (ss.length : Int) < c then (ss.length : Int) else c) else 1) = m ∧ m ≤ 100 := by
    by_cases h : (ss.length : Int) < c
    · rw [if_pos h]
      by_cases h2 : 1 < (ss.length : Int)
      · rw [if_pos h2]; exact ⟨ss.length, rfl, by omega⟩
      · rw [if_neg h2]; exact ⟨1, rfl, by omega⟩
    · rw [if_neg h]
      by_cases h2 : 1 < c
      · rw [if_pos h2]; exact ⟨c.toNat, by omega, by omega⟩
      · rw [if_neg h2]; exact ⟨1, rfl, by omega⟩
  have hs : small (m : Int) = true := small_ok (by omega)
  refine ⟨m, hm.2, fun ρ μ => ?_⟩
  have h1 : gLen [d] μ = .ok (.int ss.length) μ := by rcases hd with rfl | rfl <;> simp
  simp [h1]
  rw [hm.1, x_gRange1 hs]
  rfl
theorem runF_ok {n : Nat} {F : FS} {ds : List D} {μ : Sto} {d : D} (h : (F (ds.map some ++ List.replicate (n - ds.length) none) μ).W (fun _ _ => False) (fun e _ => e = d)) : ∃ μ', runF n F ds μ = .ok d μ' := by
  rw [x_runF]
  cases hF : F (ds.map some ++ List.replicate (n - ds.length) none) μ with
  | rt e μ' => rw [hF] at h; cases (show e = d from h); exact ⟨μ', rfl⟩
  | nx _ _ => rw [hF] at h; exact (show False from h).elim
  | _ => rw [hF] at h; exact (show False from h).elim
end DL
namespace DL
open PySem PySem.Spec PyProof.Rows L2
theorem _root_.L2.Room.un65 {k : Nat} {A : Around} (r : L2.Room k A) : A.units + 65 < cLine := by have := r.un; omega
/-! ### the order of plain data -/
def pyD (d : D) : PyData := (toPy d).getD .none
def dlt (x y : D) : Bool := PySem.W.dataLt (pyD x) (pyD y)
def alk (x y : D) : Bool := PySem.W.alike (pyD x) (pyD y)
def isNon : D → Bool
  | .non => true
  | _ => false
/-- the two can be compared -/
def cmpb (x y : D) : Bool := pl 32 x && pl 32 y && alk x y && !isNon x
theorem pyD_of {d : D} {k : Nat} (h : pl k d = true) : toPy d = some (pyD d) := by
  obtain ⟨p, e, _⟩ := pl_py h
  unfold pyD
  rw [e]; rfl
theorem pyD_dep {d : D} {k : Nat} (h : pl k d = true) : (pyD d).canLay0 = true ∧ (pyD d).depth ≤ k := by
  obtain ⟨p, e, h1, h2⟩ := pl_py h
  unfold pyD
  rw [e]; exact ⟨h1, h2⟩
theorem pyD_non {d : D} {k : Nat} (h : pl k d = true) (hn : isNon d = false) : pyD d ≠ .none := by
  have e := pyD_of h
  intro z
  rw [z] at e
  cases d with
  | non => cases hn
  | bl b => rw [pl] at h; cases h
  | obj n => rw [pl] at h; cases h
  | frz n => rw [pl] at h; cases h
  | int i => rw [toPy] at e; cases e
  | str i => rw [toPy] at e; cases e
  | tup ds => rw [toPy] at e; cases q : toPys ds <;> rw [q] at e <;> cases e
  | lst ds => rw [toPy] at e; cases q : toPys ds <;> rw [q] at e <;> cases e
def gCmpD (g : D → D → Bool) (x y : D) (_ : Sto) : Option Bool := if cmpb x y = true then some (g x y) else none
abbrev gLtP := gCmpD dlt
abbrev gGtP := gCmpD fun x y => dlt y x
abbrev gLeP := gCmpD fun x y => !dlt y x
abbrev gGeP := gCmpD fun x y => !dlt x y
def rCmpA (K : PySem.W.Frag) (g : PyData → PyData → Bool) : R2 := fun x y H Q => ∃ d e, Dp K H x d ∧ Dp K H y e ∧ PySem.W.alike d e = true ∧ d ≠ .none ∧ d.depth ≤ 32 ∧ Q (.bl (g d e)) H
section
variable {X : Cx} {C : Cc} {W : WX} {e a b i o : Expr} {es : List Expr} {pos apos cpos tpos : Pos} {f fa fb fo fi fv fx : FE D} {fs : FE (List D)}
theorem op_ltA (hu : X.A.units + 64 < cLine) : OpR X (compareOp .Lt) (rCmpA X.K PySem.W.dataLt) := by
  intro pins s σ H x y v u Q I rx ry h
  obtain ⟨d, e, hd, he, hal, hn, hdp, q⟩ := h
  obtain ⟨ra, r1⟩ := Dp.reads I d x v hd rx
  obtain ⟨rb, r2⟩ := Dp.reads I e y u he ry
  exact PySem.W.lt_data r1 r2 hal hn (by omega) ⟨.bl _, H, I, rfl, q⟩
theorem op_gtA (hu : X.A.units + 64 < cLine) : OpR X (compareOp .Gt) (rCmpA X.K fun d e => PySem.W.dataLt e d) := by
  intro pins s σ H x y v u Q I rx ry h
  obtain ⟨d, e, hd, he, hal, hn, hdp, q⟩ := h
  obtain ⟨ra, r1⟩ := Dp.reads I d x v hd rx
  obtain ⟨rb, r2⟩ := Dp.reads I e y u he ry
  exact PySem.W.gt_data r1 r2 hal hn (by omega) ⟨.bl _, H, I, rfl, q⟩
theorem op_leA (hu : X.A.units + 64 < cLine) : OpR X (compareOp .LtE) (rCmpA X.K fun d e => !PySem.W.dataLt e d) := by
  intro pins s σ H x y v u Q I rx ry h
  obtain ⟨d, e, hd, he, hal, hn, hdp, q⟩ := h
  obtain ⟨ra, r1⟩ := Dp.reads I d x v hd rx
  obtain ⟨rb, r2⟩ := Dp.reads I e y u he ry
  exact PySem.W.le_data r1 r2 hal hn (by omega) ⟨.bl _, H, I, rfl, q⟩
theorem op_geA (hu : X.A.units + 64 < cLine) : OpR X (compareOp .GtE) (rCmpA X.K fun d e => !PySem.W.dataLt d e) := by
  intro pins s σ H x y v u Q I rx ry h
  obtain ⟨d, e, hd, he, hal, hn, hdp, q⟩ := h
  obtain ⟨ra, r1⟩ := Dp.reads I d x v hd rx
  obtain ⟨rb, r2⟩ := Dp.reads I e y u he ry
  exact PySem.W.ge_data r1 r2 hal hn (by omega) ⟨.bl _, H, I, rfl, q⟩
theorem cmpb_inv {x y : D} (h : cmpb x y = true) : pl 32 x = true ∧ pl 32 y = true ∧ alk x y = true ∧ isNon x = false := by
  unfold cmpb at h
  simp only [Bool.and_eq_true, Bool.not_eq_true'] at h
  exact ⟨h.1.1.1, h.1.1.2, h.1.2, h.2⟩
theorem cmpD_ok {g : PyData → PyData → Bool} {gd : D → D → Bool} (hg : ∀ x y, gd x y = g (pyD x) (pyD y)) {η : Nm} {H : Hp} {μ : Sto} {x y : V} {d e : D} {z : Bool} {Q : VK} {K : PySem.W.Frag} (hK : K = C.K) (ok : Ok C η H μ) (rx : Rep C η H x d) (ry : Rep C η H y e) (h : gCmpD gd d e μ = some z) (q : Q (.bl z) H) : rCmpA K g x y H Q := by
  unfold gCmpD at h
  split at h
  · rename_i hc
    cases h
    obtain ⟨h1, h2, h3, h4⟩ := cmpb_inv hc
    subst hK
    rw [hg] at q
    exact ⟨_, _, rx.dp (pyD_of h1), ry.dp (pyD_of h2), h3, pyD_non h1 h4, (pyD_dep h1).2, q⟩
  · cases h
theorem oc_ltP (hu : X.A.units + 64 < cLine) (hK : X.K = C.K := by rfl) : OC X C .Lt gLtP := ⟨_, op_ltA hu, fun η H μ x y d e z Q ok rx ry h q => cmpD_ok (g := PySem.W.dataLt) (fun _ _ => rfl) hK ok rx ry h q⟩
theorem oc_gtP (hu : X.A.units + 64 < cLine) (hK : X.K = C.K := by rfl) : OC X C .Gt gGtP := ⟨_, op_gtA hu, fun η H μ x y d e z Q ok rx ry h q => cmpD_ok (g := fun d e => PySem.W.dataLt e d) (fun _ _ => rfl) hK ok rx ry h q⟩
theorem oc_leP (hu : X.A.units + 64 < cLine) (hK : X.K = C.K := by rfl) : OC X C .LtE gLeP := ⟨_, op_leA hu, fun η H μ x y d e z Q ok rx ry h q => cmpD_ok (g := fun d e => !PySem.W.dataLt e d) (fun _ _ => rfl) hK ok rx ry h q⟩
theorem oc_geP (hu : X.A.units + 64 < cLine) (hK : X.K = C.K := by rfl) : OC X C .GtE gGeP := ⟨_, op_geA hu, fun η H μ x y d e z Q ok rx ry h q => cmpD_ok (g := fun d e => !PySem.W.dataLt d e) (fun _ _ => rfl) hK ok rx ry h q⟩

/-! ### list(range(..)) -/
noncomputable def lrOk (i j : Int) : Bool := bP (-4611686018427387904 ≤ i ∧ i < 4611686018427387904 ∧ -4611686018427387904 ≤ j ∧ j < 4611686018427387904 ∧ (j - i).toNat ≤ 16777216)
noncomputable def gListRg : List D → Sto → R (List D)
  | [.int j], μ => if lrOk 0 j = true then .ok (rangeD 0 j.toNat) μ else .bad
  | [.int i, .int j], μ => if lrOk i j = true then .ok (rangeD i (j - i).toNat) μ else .bad
  | _, _ => .bad
theorem lrOk_rg {i j : Int} (h : lrOk i j = true) : RgOk i j := by
  have := bP_iff.mp h
  unfold RgOk
  omega
theorem reps_rg {η : Nm} {H : Hp} (i j : Int) : Reps C η H (rgV i j) (rangeD i (j - i).toNat) := by
  unfold rgV rangeD
  have : ∀ l : List Nat, Reps C η H (l.map fun k => V.int (i + (k : Nat))) (l.map fun k : Nat => D.int (i + (k : Int))) := fun l => by
    induction l with
    | nil => exact .nil
    | cons a l ih => exact .cons (.int _) ih
  exact this _
theorem de_listRg1 {p p2 pos2 : Pos} (hm2 : X.mg "range" = none) (hm : X.mg "list" = none) (ha : DE X C W a fa) (hc : X.calm = true := by rfl) (hg : Gl X "list" := by rfl) (hg2 : Gl X "range" := by rfl) (na : starEach [a] X.env = (false, eval a X.env) :: starEach [] X.env := by rfl)
    (na2 : starEach [Expr.Call (.Name "range" p2) [a] [] pos2] X.env = (false, eval (.Call (.Name "range" p2) [a] [] pos2) X.env) :: starEach [] X.env := by rfl) : DEL X C W (.Call (.Name "list" p) [.Call (.Name "range" p2) [a] [] pos2] [] pos) (eCall gListRg (eCons fa eNil)) := by
  refine ⟨pe_imp (pe_listRg hc hg hm (prg_1 hg2 hm2 ha.pe na) na2) fun σ H Q => ?_⟩
  rintro ⟨η, ρ, μ, s, o, p⟩
  have p : Post C W η H σ (PL C H Q) ((fa ρ μ).bind fun d μ1 => gListRg [d] μ1) := by
    have : eCall gListRg (eCons fa eNil) ρ μ = (fa ρ μ).bind fun d μ1 => gListRg [d] μ1 := by
      simp only [eCall, eCons, eNil]
      cases fa ρ μ <;> rfl
    rw [← this]; exact p
  refine ⟨η, ρ, μ, s, o, p.bind fun d η1 H1 μ1 n1 o1 p1 x rx => ?_⟩
  cases d with
  | int j =>
    have e1 : gListRg [.int j] μ1 = if lrOk 0 j = true then .ok (rangeD 0 j.toNat) μ1 else .bad := rfl
    rw [e1] at p1
    split at p1
    · rename_i hok
      refine ⟨j, rx.int_inv, lrOk_rg hok, fun q hq => Post.newL p1 n1 o1 hq ?_⟩
      have := reps_rg (C := C) (η := η1) (H := H1) 0 j
      rw [Int.sub_zero] at this
      exact this
    · exact p1.elim
  | _ => exact p1.elim
theorem de_listRg2 {p p2 pos2 : Pos} (hm2 : X.mg "range" = none) (hm : X.mg "list" = none) (ha : DE X C W a fa) (hb : DE X C W b fb) (hc : X.calm = true := by rfl) (hg : Gl X "list" := by rfl) (hg2 : Gl X "range" := by rfl) (na : starEach [a, b] X.env = (false, eval a X.env) :: starEach [b] X.env := by rfl)
    (nb : starEach [b] X.env = (false, eval b X.env) :: starEach [] X.env := by rfl) (hp : (backTo pos2 (starEach [b] X.env)).any (·.1) = false := by rfl)
    (na2 : starEach [Expr.Call (.Name "range" p2) [a, b] [] pos2] X.env = (false, eval (.Call (.Name "range" p2) [a, b] [] pos2) X.env) :: starEach [] X.env := by rfl) : DEL X C W (.Call (.Name "list" p) [.Call (.Name "range" p2) [a, b] [] pos2] [] pos) (eCall gListRg (eCons fa (eCons fb eNil))) := by
  refine ⟨pe_imp (pe_listRg hc hg hm (prg_2 hg2 hm2 ha.pe hb.pe na nb hp) na2) fun σ H Q => ?_⟩
  rintro ⟨η, ρ, μ, s, o, p⟩
  have p : Post C W η H σ (PL C H Q) ((fa ρ μ).bind fun d μ1 => (fb ρ μ1).bind fun e μ2 => gListRg [d, e] μ2) := by
    have : eCall gListRg (eCons fa (eCons fb eNil)) ρ μ = (fa ρ μ).bind fun d μ1 => (fb ρ μ1).bind fun e μ2 => gListRg [d, e] μ2 := by
      simp only [eCall, eCons, eNil]
      cases fa ρ μ with
      | ok d μ1 => simp only [R.bind_ok]; cases fb ρ μ1 <;> rfl
      | ex c d μ1 => rfl
      | bad => rfl
    rw [← this]; exact p
  refine ⟨η, ρ, μ, s, o, p.bind fun d η1 H1 μ1 n1 o1 p1 x rx => ?_⟩
  refine ⟨η1, ρ, μ1, s.mono n1, o1, p1.bind fun e η2 H2 μ2 n2 o2 p2 y ry => ?_⟩
  cases d with
  | int i =>
    cases e with
    | int j =>
      have e1 : gListRg [.int i, .int j] μ2 = if lrOk i j = true then .ok (rangeD i (j - i).toNat) μ2 else .bad := rfl
      rw [e1] at p2
      split at p2
      · rename_i hok
        exact ⟨i, j, (rx.mono n2).int_inv, ry.int_inv, lrOk_rg hok, fun q hq => Post.newL p2 (n1.trans n2) o2 hq (reps_rg i j)⟩
      · exact p2.elim
    | _ => exact p2.elim
  | _ => cases e <;> exact p2.elim

/-! ### min, max, sorted of plain data -/
def minP (x : D) (xs : List D) : D := xs.foldl (fun a y => if dlt y a = true then y else a) x
def maxP (x : D) (xs : List D) : D := xs.foldl (fun a y => if dlt a y = true then y else a) x
/-- all can be compared -/
def cmpAll (ds : List D) : Bool := ds.all fun d => pl 31 d && !isNon d && ds.all fun e => alk d e
theorem cmpAll_inv {ds : List D} (h : cmpAll ds = true) : (∀ d ∈ ds, pl 31 d = true ∧ isNon d = false) ∧ ∀ d ∈ ds, ∀ e ∈ ds, alk d e = true := by
  unfold cmpAll at h
  rw [List.all_eq_true] at h
  refine ⟨fun d hd => ?_, fun d hd e he => ?_⟩
  · have := h d hd
    simp only [Bool.and_eq_true, Bool.not_eq_true'] at this
    exact this.1
  · have := h d hd
    simp only [Bool.and_eq_true, List.all_eq_true] at this
    exact this.2 e he
def gMinP : List D → Sto → R D
  | [d], μ => match seqOf μ d with | some (x :: xs) => if cmpAll (x :: xs) = true then .ok (minP x xs) μ else .bad | _ => .bad
  | _, _ => .bad
def gMaxP : List D → Sto → R D
  | [d], μ => match seqOf μ d with | some (x :: xs) => if cmpAll (x :: xs) = true then .ok (maxP x xs) μ else .bad | _ => .bad
  | _, _ => .bad
theorem pyDs : ∀ {ds : List D} {k : Nat}, (∀ d ∈ ds, pl k d = true) → toPys ds = some (ds.map pyD)
  | [], _, _ => by rw [toPys]; rfl
  | d :: ds, k, h => by
    rw [toPys, pyD_of (h d List.mem_cons_self), pyDs fun e he => h e (List.mem_cons_of_mem _ he)]
    rfl
theorem depAll_le {k : Nat} : ∀ {ds : List PyData}, (∀ d ∈ ds, d.depth ≤ k) → PyData.depthAll ds ≤ k
  | [], _ => by simp [PyData.depthAll]
  | d :: ds, h => by
    have h1 := h d List.mem_cons_self
    have h2 := depAll_le (k := k) (ds := ds) fun e he => h e (List.mem_cons_of_mem _ he)
    simp only [PyData.depthAll]
    omega
theorem pyD_inj {x y : D} {k : Nat} (hx : pl k x = true) (hy : pl k y = true) (h : pyD x = pyD y) : x = y := by
  refine (pl_eqv hx hy (pyD_of hx) (pyD_of hy)).mp ?_
  rw [h]
  exact (pl_eqv hy hy (pyD_of hy) (pyD_of hy)).mpr rfl
theorem minP_py (xs : List D) : ∀ x, pyD (minP x xs) = PySem.W.minD (pyD x) (xs.map pyD) ∧ minP x xs ∈ x :: xs := by
  induction xs with
  | nil => intro x; exact ⟨rfl, by simp [minP]⟩
  | cons y xs ih =>
    intro x
    obtain ⟨h1, h2⟩ := ih (if dlt y x = true then y else x)
    refine ⟨?_, ?_⟩
    · show pyD (minP (if dlt y x = true then y else x) xs) = _
      rw [h1]
      show _ = PySem.W.minD (if PySem.W.dataLt (pyD y) (pyD x) = true then pyD y else pyD x) (xs.map pyD)
      congr 1
      unfold dlt
      split <;> rfl
    · show minP (if dlt y x = true then y else x) xs ∈ _
      rcases List.mem_cons.mp h2 with e | m
      · rw [e]; split <;> simp
      · simp [m]
theorem maxP_py (xs : List D) : ∀ x, pyD (maxP x xs) = PySem.W.maxD (pyD x) (xs.map pyD) ∧ maxP x xs ∈ x :: xs := by
  induction xs with
  | nil => intro x; exact ⟨rfl, by simp [maxP]⟩
  | cons y xs ih =>
    intro x
    obtain ⟨h1, h2⟩ := ih (if dlt x y = true then y else x)
    refine ⟨?_, ?_⟩
    · show pyD (maxP (if dlt x y = true then y else x) xs) = _
      rw [h1]
      show _ = PySem.W.maxD (if PySem.W.dataLt (pyD x) (pyD y) = true then pyD y else pyD x) (xs.map pyD)
      congr 1
      unfold dlt
      split <;> rfl
    · show maxP (if dlt x y = true then y else x) xs ∈ _
      rcases List.mem_cons.mp h2 with e | m
      · rw [e]; split <;> simp
      · simp [m]
theorem Vals.at' : ∀ {xs : List V} {us : List Value} {i : Nat} {u : Value}, Vals xs us → us[i]? = some u → ∃ x, xs[i]? = some x ∧ RelV x u
  | _, _, _, _, .nil, h => by simp at h
  | _, _, 0, _, .cons r _, h => by cases Option.some.inj h; exact ⟨_, rfl, r⟩
  | _, _, i + 1, u, .cons _ rs, h => by
    obtain ⟨x, e, r⟩ := Vals.at' (i := i) rs (by simpa using h)
    exact ⟨x, by simpa using e, r⟩
/-- of which item a value is told -/
theorem item_of {η : Nm} {H : Hp} {pins : List (Addr × Obj)} {σ : L2.St} {s : Shared} (I : Inv X pins σ H s) (hK : X.K = C.K) {ds : List D} {vs : List V} {its : List Value} (r : Reps C η H vs ds) (rv : Vals vs its) (hp : ∀ d ∈ ds, pl 31 d = true) {m : D} (hm : m ∈ ds) {i : Nat} {u : Value} {h' : Heap} {bs : List Addr} (hu : its[i]? = some u) (hr : Reads h' u (pyD m) bs) (hk : ∀ b o, s.heap.get? b = some o → h'.get? b = some o) : ∃ x, RelV x u ∧ Rep C η H x m := by
  obtain ⟨x, h1, h2⟩ := Vals.at' rv hu
  obtain ⟨d, h3, h4⟩ := r.get' h1
  have hd := hp d (List.mem_of_getElem? h3)
  obtain ⟨as, q⟩ := Dp.reads I (pyD d) x u (by rw [hK]; exact h4.dp (pyD_of hd)) h2
  have e := (Reads.unique (PyProof.Rows.Reads.keeps hk q) _ _ hr).1
  rw [← pyD_inj hd (hp m hm) e]
  exact ⟨x, h2, h4⟩
theorem cc_minP (hu : X.A.units + 64 < cLine) (hc : X.calm = true := by rfl) (hK : X.K = C.K := by rfl) : CC X C (.builtin "min") gMinP := by
  refine ⟨fun xs H Q => ∃ η μ ds, Ok C η H μ ∧ Reps C η H xs ds ∧ ∃ (W : WX) (σ : L2.St), Post C W η H σ (PV C Q) (gMinP ds μ), fun pins s σ H vs us Q I r h => ?_, fun W η H μ σ Q xs ds o rx p => ⟨η, μ, ds, o, rx, W, σ, p⟩⟩
  obtain ⟨η, μ, ds, o, rx, W, σ', p⟩ := h
  unfold gMinP at p
  split at p
  · rename_i d
    split at p
    · rename_i x xs e1
      split at p
      · rename_i hall
        obtain ⟨hp, hal⟩ := cmpAll_inv hall
        obtain ⟨v, rfl, rd⟩ := rx.one
        obtain ⟨a, ws, rfl, hq, rw'⟩ := seq_ok o rd e1
        rw [Vals.ref1 r]
        have hpy : toPys (x :: xs) = some ((x :: xs).map pyD) := pyDs fun d hd => (hp d hd).1
        have hdp : DpAll X.K H ws ((x :: xs).map pyD) := by rw [hK]; exact rw'.dp hpy
        have hA : PySem.W.AlikeAll ((x :: xs).map pyD) := ⟨fun p hp' q hq' => by
            obtain ⟨d, hd, rfl⟩ := List.mem_map.mp hp'
            obtain ⟨e, he, rfl⟩ := List.mem_map.mp hq'
            exact hal d hd e he, fun p hp' => by
            obtain ⟨d, hd, rfl⟩ := List.mem_map.mp hp'
            exact pyD_non (hp d hd).1 (hp d hd).2⟩
        have hdep : PyData.depthAll (pyD x :: xs.map pyD) ≤ 31 := depAll_le (ds := (x :: xs).map pyD) fun p hp' => by
          obtain ⟨d, hd, rfl⟩ := List.mem_map.mp hp'
          exact (pyD_dep (hp d hd).1).2
        obtain ⟨hm1, hm2⟩ := minP_py xs x
        have fin : ∀ {its : List Value}, Vals ws its → ∀ (i : Nat) (v : Value) (h' : Heap) (tk : Nat) (bs : List Addr), its[i]? = some v → Reads h' v (PySem.W.minD (pyD x) (xs.map pyD)) bs → (∀ b o, s.heap.get? b = some o → h'.get? b = some o) → EP X pins σ Q v { s with heap := h', toks := tk } := fun {its} rv i v h' tk bs hv hr hk => by
          rw [← hm1] at hr
          obtain ⟨z, hz1, hz2⟩ := item_of I hK rw' rv (fun d hd => (hp d hd).1) hm2 hv hr hk
          exact ⟨z, H, I.kept hk, hz1, p.now o z hz2⟩
        rw [← hK] at hq
        rcases hq with hq | hq
        · obtain ⟨its, rv, hl, _⟩ := I.list hq
          obtain ⟨as, hra⟩ := Dp.readsAll I _ ws its hdp rv
          exact PySem.W.min_list_data (I.ok.hd hc) hl.isList hra hA (by omega) fun i v h' tk bs hv hr hk => fin rv i v h' tk bs (by simpa using hv) hr hk
        · obtain ⟨its, rv, hl, _⟩ := I.tuple hq
          obtain ⟨as, hra⟩ := Dp.readsAll I _ ws its hdp rv
          exact PySem.W.min_tuple_data (I.ok.hd hc) hl hra hA (by omega) fun i v h' tk bs hv hr hk => fin rv i v h' tk bs (by simpa using hv) hr hk
      · exact p.elim
    · exact p.elim
  · exact p.elim
theorem cc_maxP (hu : X.A.units + 64 < cLine) (hc : X.calm = true := by rfl) (hK : X.K = C.K := by rfl) : CC X C (.builtin "max") gMaxP := by
  refine ⟨fun xs H Q => ∃ η μ ds, Ok C η H μ ∧ Reps C η H xs ds ∧ ∃ (W : WX) (σ : L2.St), Post C W η H σ (PV C Q) (gMaxP ds μ), fun pins s σ H vs us Q I r h => ?_, fun W η H μ σ Q xs ds o rx p => ⟨η, μ, ds, o, rx, W, σ, p⟩⟩
  obtain ⟨η, μ, ds, o, rx, W, σ', p⟩ := h
  unfold gMaxP at p
  split at p
  · rename_i d
    split at p
    · rename_i x xs e1
      split at p
      · rename_i hall
        obtain ⟨hp, hal⟩ := cmpAll_inv hall
        obtain ⟨v, rfl, rd⟩ := rx.one
        obtain ⟨a, ws, rfl, hq, rw'⟩ := seq_ok o rd e1
        rw [Vals.ref1 r]
        have hpy : toPys (x :: xs) = some ((x :: xs).map pyD) := pyDs fun d hd => (hp d hd).1
        have hdp : DpAll X.K H ws ((x :: xs).map pyD) := by rw [hK]; exact rw'.dp hpy
        have hA : PySem.W.AlikeAll ((x :: xs).map pyD) := ⟨fun p hp' q hq' => by
            obtain ⟨d, hd, rfl⟩ := List.mem_map.mp hp'
            obtain ⟨e, he, rfl⟩ := List.mem_map.mp hq'
            exact hal d hd e he, fun p hp' => by
            obtain ⟨d, hd, rfl⟩ := List.mem_map.mp hp'
            exact pyD_non (hp d hd).1 (hp d hd).2⟩
        have hdep : PyData.depthAll (pyD x :: xs.map pyD) ≤ 31 := depAll_le (ds := (x :: xs).map pyD) fun p hp' => by
          obtain ⟨d, hd, rfl⟩ := List.mem_map.mp hp'
          exact (pyD_dep (hp d hd).1).2
        obtain ⟨hm1, hm2⟩ := maxP_py xs x
        have fin : ∀ {its : List Value}, Vals ws its → ∀ (i : Nat) (v : Value) (h' : Heap) (tk : Nat) (bs : List Addr), its[i]? = some v → Reads h' v (PySem.W.maxD (pyD x) (xs.map pyD)) bs → (∀ b o, s.heap.get? b = some o → h'.get? b = some o) → EP X pins σ Q v { s with heap := h', toks := tk } := fun {its} rv i v h' tk bs hv hr hk => by
          rw [← hm1] at hr
          obtain ⟨z, hz1, hz2⟩ := item_of I hK rw' rv (fun d hd => (hp d hd).1) hm2 hv hr hk
          exact ⟨z, H, I.kept hk, hz1, p.now o z hz2⟩
        rw [← hK] at hq
        rcases hq with hq | hq
        · obtain ⟨its, rv, hl, _⟩ := I.list hq
          obtain ⟨as, hra⟩ := Dp.readsAll I _ ws its hdp rv
          exact PySem.W.max_list_data (I.ok.hd hc) hl.isList hra hA (by omega) fun i v h' tk bs hv hr hk => fin rv i v h' tk bs (by simpa using hv) hr hk
        · obtain ⟨its, rv, hl, _⟩ := I.tuple hq
          obtain ⟨as, hra⟩ := Dp.readsAll I _ ws its hdp rv
          exact PySem.W.max_tuple_data (I.ok.hd hc) hl hra hA (by omega) fun i v h' tk bs hv hr hk => fin rv i v h' tk bs (by simpa using hv) hr hk
      · exact p.elim
    · exact p.elim
  · exact p.elim
def sortP (ds : List D) : List D := ds.mergeSort (PySem.W.dataLe false pyD)
/-- no tuple, or all tuples that are not empty -/
def srtb (ds : List D) : Bool := (ds.all fun d => match d with | .tup (_ :: _) => true | _ => false) || ds.all fun d => match d with | .tup _ => false | _ => true
def gSortP : List D → Sto → R (List D)
  | [d], μ => match seqOf μ d with | some ds => if cmpAll ds = true ∧ srtb ds = true then .ok (sortP ds) μ else .bad | _ => .bad
  | _, _ => .bad
theorem srtb_sortable {ds : List D} (hp : ∀ d ∈ ds, pl 31 d = true ∧ isNon d = false) (h : srtb ds = true) : PySem.W.Sortable (ds.map pyD) := by
  unfold srtb at h
  rw [Bool.or_eq_true, List.all_eq_true, List.all_eq_true] at h
  rcases h with h | h
  · refine .inl fun p hp' => ?_
    obtain ⟨d, hd, rfl⟩ := List.mem_map.mp hp'
    have h1 := h d hd
    have h2 := pyD_of (hp d hd).1
    cases d with
    | tup es =>
      cases es with
      | nil => cases h1
      | cons e es =>
        rw [toPy, toPys] at h2
        split at h2
        · rename_i a b _ _; exact ⟨a, b, (Option.some.inj h2).symm⟩
        · cases h2
    | _ => cases h1
  · refine .inr fun p hp' => ?_
    obtain ⟨d, hd, rfl⟩ := List.mem_map.mp hp'
    refine ⟨pyD_non (hp d hd).1 (hp d hd).2, fun xs e => ?_⟩
    have h1 := h d hd
    have h2 := pyD_of (hp d hd).1
    rw [e] at h2
    cases d with
    | tup es => cases h1
    | non => rw [toPy] at h2; cases h2
    | bl b => rw [toPy] at h2; cases h2
    | int b => rw [toPy] at h2; cases h2
    | str b => rw [toPy] at h2; cases h2
    | obj b => rw [toPy] at h2; cases h2
    | lst b => rw [toPy] at h2; cases q : toPys b <;> rw [q] at h2 <;> cases h2
    | frz b => rw [toPy] at h2; cases q : toPys b <;> rw [q] at h2 <;> cases h2
theorem each_of {R : Value → D → Prop} {η : Nm} {H : Hp} : ∀ {vs : List V} {its : List Value} {ds : List D}, Reps C η H vs ds → Vals vs its → (∀ x u d, RelV x u → Rep C η H x d → d ∈ ds → R u d) → PySem.W.EachIs R its ds
  | _, _, _, .nil, .nil, _ => PySem.W.EachIs.nil
  | _, _, _, .cons h r, .cons q qs, f => PySem.W.EachIs.cons (f _ _ _ q h List.mem_cons_self) (each_of r qs fun x u d h1 h2 h3 => f x u d h1 h2 (List.mem_cons_of_mem _ h3))
theorem each_back {R : Value → D → Prop} {η : Nm} {H : Hp} : ∀ {its : List Value} {ds : List D}, PySem.W.EachIs R its ds → (∀ u d, R u d → d ∈ ds → ∃ x, RelV x u ∧ Rep C η H x d) → ∃ vs, Vals vs its ∧ Reps C η H vs ds
  | _, _, .nil, _ => ⟨[], .nil, .nil⟩
  | _, _, .cons h r, f => by
    obtain ⟨x, h1, h2⟩ := f _ _ h List.mem_cons_self
    obtain ⟨vs, h3, h4⟩ := each_back r fun u d q hd => f u d q (List.mem_cons_of_mem _ hd)
    exact ⟨x :: vs, .cons h1 h3, .cons h2 h4⟩
theorem sub_eq_keeps {h h' : Heap} (k : ∀ b o, h.get? b = some o → h'.get? b = some o) {b : Addr} {o : Obj} (e : h.get? b = some o) : h'.get? b = some o := k b o e
/-- what an iterable's items are, told of collect -/
def ColAt (prog : Program) (w : World) (A : Around) (s : Shared) (l : Value) (vs : List Value) : Prop := ∀ (E' : Value → Shared → Prop) (Q' : List Value → Shared → Prop), (∀ h' tk, (∀ b o, s.heap.get? b = some o → h'.get? b = some o) → Q' vs { s with heap := h', toks := tk }) → wpAny (model prog w) A.in1 (collect l) Q' E' s
open PySem.Calls PySem.W in
theorem sorted_of_col {prog : Program} {w : World} {A : Around} {E : Value → Shared → Prop} {s : Shared} {l : Value} {vs : List Value} {kw : List (Str × Value)} {Q : Value → Shared → Prop} (hc : ColAt prog w A s l vs) (hL : vs.length ≤ sizeLine) (ha1 : argsOk "sorted" ⟨[l], kw⟩) (ha2 : ∀ x, argsOk "list.sort" ⟨[.ref x], kw⟩)
    (body : ∀ (E' : Value → Shared → Prop) (h' : Heap) (tk : Nat), (∀ b o, s.heap.get? b = some o → h'.get? b = some o) → wpAny (model prog w) A.in1.in1 (Builtin.«list.sort» ⟨[.ref h'.objs.size], kw⟩) (fun f s' => f = .done (.ret .none) ∧ Q (.ref h'.objs.size) s') E' { s with heap := h'.push (seqObj "list" vs.toArray 0), toks := tk }) :
    wpAny (model prog w) A (call (.builtin "sorted") [l] kw) Q E s := by
  refine call_function_entry_kw kind_sorted plain_sorted entry_sorted ha1 ?_
  unfold Builtin.«sorted»
  refine wpAny_bind (m := checkCount "sorted" 1 1 _) (wpAny_pure ?_)
  refine wpAny_bind (hc _ _ fun h' tk kp => ?_)
  refine wpAny_bind (wpAny_newList ?_ hL)
  refine wpAny_bind (wpAny_holding (wpAny_call_entry_kw slot_list_sort ⟨_, Heap.get?_push_size _ rfl, rfl⟩ entry_list_sort ?body (ha2 _)))
  case body =>
    refine wpAny_mono (body _ h' tk kp) (fun f s' hf => ?_) fun _ _ e => e
    obtain ⟨rfl, hq⟩ := hf
    exact ⟨_, rfl, wpAny_pure ⟨_, rfl, hq⟩⟩

theorem col_seq {prog : Program} {w : World} {A : Around} {s : Shared} {a : Addr} {its : List Value} (h : s.heap.IsList a its.toArray ∨ s.heap.IsTuple a its.toArray) (hz : its.length ≤ sizeLine) : ColAt prog w A s (.ref a) its := fun E' Q' hQ => by
  rcases h with h | h
  · obtain ⟨o, h1, h2, n, h3⟩ := id h
    have := wpAny_collect_seq (prog := prog) (w := w) (A := A.in1) (E := E') (s := s) (Q := Q') a (.inl rfl) h1 h2 h3 (fun h' k => by simpa using hQ h' s.toks k) (by simpa using hz)
    exact this
  · obtain ⟨o, h1, h2, n, h3⟩ := id h
    have := wpAny_collect_seq (prog := prog) (w := w) (A := A.in1) (E := E') (s := s) (Q := Q') a (.inr rfl) h1 h2 h3 (fun h' k => by simpa using hQ h' s.toks k) (by simpa using hz)
    exact this
theorem cc_sortP (hu : X.A.units + 64 < cLine) (hK : X.K = C.K := by rfl) : CCL X C (.builtin "sorted") gSortP := by
  refine ⟨fun xs H Q => ∃ η μ ds η0 H0, Nxt C η0 H0 η H ∧ Ok C η H μ ∧ Reps C η H xs ds ∧ ∃ (W : WX) (σ : L2.St), Post C W η H σ (PL C H0 Q) (gSortP ds μ), fun pins s σ H vs us Q I r h => ?_, fun W η H μ σ Q η0 H0 xs ds n0 o rx p => ⟨η, μ, ds, η0, H0, n0, o, rx, W, σ, p⟩⟩
  obtain ⟨η, μ, ds, η0, H0, n0, o, rx, W, σ', p⟩ := h
  unfold gSortP at p
  split at p
  · rename_i d
    split at p
    · rename_i ds e1
      split at p
      · rename_i hall
        obtain ⟨hp, hal⟩ := cmpAll_inv hall.1
        obtain ⟨v, rfl, rd⟩ := rx.one
        obtain ⟨a, ws, rfl, hq, rw'⟩ := seq_ok o rd e1
        rw [Vals.ref1 r]
        have hpy : toPys ds = some (ds.map pyD) := pyDs fun d hd => (hp d hd).1
        have hA : PySem.W.AllAlike (ds.map pyD) := fun p hp' q hq' => by
          obtain ⟨d, hd, rfl⟩ := List.mem_map.mp hp'
          obtain ⟨e, he, rfl⟩ := List.mem_map.mp hq'
          exact hal d hd e he
        rw [← hK] at hq
        obtain ⟨its, rv, hcol, hz⟩ : ∃ its : List Value, Vals ws its ∧ (s.heap.IsList a its.toArray ∨ s.heap.IsTuple a its.toArray) ∧ ws.length ≤ sizeLine := by
          rcases hq with hq | hq
          · obtain ⟨its, rv, hl, hz⟩ := I.list hq
            exact ⟨its, rv, .inl hl.isList, hz⟩
          · obtain ⟨its, rv, hl, hz⟩ := I.tuple hq
            exact ⟨its, rv, .inr hl, hz⟩
        have hzi : its.length ≤ sizeLine := by rw [← rv.length]; exact hz
        have hzd : ds.length ≤ sizeLine := by rw [← rw'.length]; exact hz
        refine sorted_of_col (col_seq hcol hzi) hzi (args_sorted1 _) (fun _ => args_list_sort _) fun E' h' tk kp => ?_
        have eR : PySem.W.EachIs (fun u d => ∃ x, RelV x u ∧ Rep C η H x d) its ds := each_of rw' rv fun x u d h1 h2 _ => ⟨x, h1, h2⟩
        have kp2 : ∀ b o, s.heap.get? b = some o → (PySem.W.sortingHeap (h'.push (seqObj "list" its.toArray 0)) h'.objs.size its).get? b = some o := fun b o e => by
          have e' := kp b o e
          exact PySem.W.sortingHeap_old (Nat.ne_of_lt (Heap.lt_size e')) (Heap.get?_push_of_some _ e')
        have er : PySem.W.EachIs (fun u d => ∃ as, Reads (PySem.W.sortingHeap (h'.push (seqObj "list" its.toArray 0)) h'.objs.size its) u (pyD d) as) its ds := each_of rw' rv fun x u d h1 h2 hd => by
          obtain ⟨as, q⟩ := Dp.reads I (pyD d) x u (by rw [hK]; exact h2.dp (pyD_of (hp d hd).1)) h1
          exact ⟨as, PyProof.Rows.Reads.keeps kp2 q⟩
        have hroom : ∀ d, d ∈ ds.map pyD → X.A.units + 2 + d.depth < cLine := fun q hq' => by
          obtain ⟨d, hd, rfl⟩ := List.mem_map.mp hq'
          have := (pyD_dep (hp d hd).1).2
          omega
        have hS := PySem.W.SortsAt.data (prog := X.prog) (w := X.w) (A := X.A.in1.in1) (s := { s with heap := PySem.W.sortingHeap (h'.push (seqObj "list" its.toArray 0)) h'.objs.size its, toks := tk }) (vs := its) (ds := ds.map pyD) (PySem.W.each_map (R := fun v d => ∃ as, Reads (PySem.W.sortingHeap (h'.push (seqObj "list" its.toArray 0)) h'.objs.size its) v d as) pyD er) hA (srtb_sortable hp hall.2) hroom
        refine PySem.W.list_sort_vals (s := { s with heap := h'.push (seqObj "list" its.toArray 0), toks := tk }) (Heap.get?_push_size _ rfl) hS hzi ⟨rfl, ?_⟩
        have eo := PySem.W.sortVals_data false eR er hA
        obtain ⟨out', ho1, ho2⟩ := each_back (η := η) (H := H) eo fun u d h _ => h
        generalize PySem.W.sortVals _ false its its = out at ho1 ⊢
        obtain ⟨ep, hat⟩ := sortedHeap_at (h := h'.push (seqObj "list" its.toArray 0)) (a := h'.objs.size) (vs := its) (out := out.toArray) (n := 0) (Heap.get?_push_size _ rfl)
        have I2 : Inv X pins σ H { s with heap := h', toks := tk } := I.kept kp
        have hlen : out'.length ≤ sizeLine := by
          rw [ho2.length]
          show (ds.mergeSort _).length ≤ _
          rw [List.length_mergeSort]
          exact hzd
        refine ⟨.ref _, upd H h'.objs.size (.lst out'), I2.laid (t' := tk) (fun b ob e => ?_) (Nat.le_refl _) ⟨hlen, out, ep, ho1, hat⟩, rfl, Post.newL p n0 o (I2.hok.fresh (Nat.le_refl _)) ho2⟩
        have hb := Heap.lt_size e
        exact (sortedHeap_old (Nat.ne_of_lt hb) (by rw [size_push']; exact Nat.lt_succ_of_lt hb)).trans (Heap.get?_push_of_some _ e)
      · exact p.elim
    · exact p.elim
  · exact p.elim
end
end DL
/-! sorted(xs, key=lambda a: e) -/
namespace LamY
open PySem PySem.Spec PyProof.Rows L2 LamX
/-! ### a lambda with one parameter -/
structure LamS1 (sc scope : Scope) (a : Str) : Prop where
  kind : scope.kind = .function
  co : scope.isCoroutine = false
  gen : scope.isGenerator = false
  par : scope.names.lookup a = some .local
  own : ∀ y ∈ scope.names, y.2 ≠ .cell ∧ (y.2 = .local → y.1 = a)
  free : ∀ y ∈ scope.names, y.2 = .free → sc.names.lookup y.1 = some .cell ∨ sc.names.lookup y.1 = some .free
def lamSB1 (sc scope : Scope) (a : Str) : Bool :=
  decide (scope.kind = .function) && !scope.isCoroutine && !scope.isGenerator && decide (scope.names.lookup a = some .local) && scope.names.all fun y => !decide (y.2 = .cell) && (!decide (y.2 = .local) || decide (y.1 = a)) && (!decide (y.2 = .free) || decide (sc.names.lookup y.1 = some .cell) || decide (sc.names.lookup y.1 = some .free))
theorem lamS1_by {sc scope : Scope} {a : Str} (h : lamSB1 sc scope a = true) : LamS1 sc scope a := by
  unfold lamSB1 at h
  simp only [Bool.and_eq_true, Bool.or_eq_true, Bool.not_eq_true', decide_eq_true_eq, decide_eq_false_iff_not, List.all_eq_true] at h
  obtain ⟨⟨⟨⟨h1, h2⟩, h3⟩, hp⟩, h4⟩ := h
  refine ⟨h1, h2, h3, hp, fun y hy => ⟨(h4 y hy).1.1, fun e => ?_⟩, fun y hy e => ?_⟩
  · rcases (h4 y hy).1.2 with z | z
    · exact absurd e z
    · exact z
  · rcases (h4 y hy).2 with (z | z) | z
    · exact absurd e z
    · exact .inl z
    · exact .inr z
theorem LamS1.has {X : Cx} {scope : Scope} {a : Str} (L : LamS1 X.env.scope scope a) (ok : X.Ok) : ∀ y ∈ scope.names, y.2 = .free → ∃ c, X.env.cells.lookup y.1 = some c := fun y hy e => by
  rcases L.free y hy e with k | k
  · exact ok.has _ (.inl k)
  · exact ok.has _ (.inr k)
/-- the context of the body -/
def lamCx1 (X : Cx) (A : Around) (outer : List Env) (s : Shared) (H : Hp) (E : XK) (scope : Scope) (f c' : Addr) (a : Str) : Cx where
  prog := X.prog
  w := X.w
  K := X.K
  mg := X.mg
  base := X.base
  A := A.deeper (lamEnv X scope s.heap.objs.size f c')
  N := X.N ++ [a]
  s_0 := s
  H_0 := H
  env := lamEnv X scope s.heap.objs.size f c'
  outer := outer
  stack := lamEnv X scope s.heap.objs.size f c' :: outer
  ex := []
  fn := fun _ => false
  calm := true
  pn := []
  xe := fun e s' => wpAny (model X.prog X.w) (A.deeper (lamEnv X scope s.heap.objs.size f c')) (leaving (lamEnv X scope s.heap.objs.size f c') e) (fun _ s'' => L2.CX X.prog X.w outer H s E e s'') (fun e' s'' => L2.CX X.prog X.w outer H s E e' s'') s'
theorem wipe_len : ∀ (l : List Nat) (σ : L2.St), (wipe σ l).length = σ.length
  | [], σ => rfl
  | v :: vs, σ => by
    show ((wipe σ vs).set v none).length = _
    rw [List.length_set, wipe_len vs σ]
theorem wipe_at : ∀ (l : List Nat) (σ : L2.St) (i : Nat) (v : V), (wipe σ l)[i]? = some (some v) → i ∉ l ∧ σ[i]? = some (some v)
  | [], σ, i, v, h => ⟨by simp, h⟩
  | w :: vs, σ, i, v, h => by
    have h : ((wipe σ vs).set w none)[i]? = some (some v) := h
    by_cases e : w = i
    · subst e
      by_cases hl : w < (wipe σ vs).length
      · rw [List.getElem?_set_self hl] at h; cases h
      · rw [List.getElem?_eq_none (by simpa using hl)] at h; cases h
    · rw [List.getElem?_set_ne e] at h
      obtain ⟨h1, h2⟩ := wipe_at vs σ i v h
      exact ⟨by rw [List.mem_cons, not_or]; exact ⟨fun z => e z.symm, h1⟩, h2⟩
section
variable {X : Cx} {pins : List (Addr × Obj)} {σ : L2.St} {H HZ : Hp} {s s1 : Shared}
theorem lam_start1 {A : Around} {outer : List Env} {E : XK} {scope : Scope} {f c' : Addr} {h₁ : Heap} {tk : Nat} {a : Str} {u : Value} {x : V} {vs : List Nat} (I : Inv X pins σ H s) (L : LamS1 X.env.scope scope a) (hw : ∀ j, X.N[j]? = some a → j ∈ vs) (e0 : Env0 X.prog X.w X.K X.mg X.base A outer s1 HZ) (hd : A.handled = none)
    (un : Un (frs X.stack) [] H HZ s.heap s1.heap) (hns : h₁.Ns s1.heap.objs.size fun y => ([(a, u)] : List (Str × Value)).reverse.lookup y) (kp : ∀ b o, s1.heap.get? b = some o → h₁.get? b = some o) (ru : RelV x u) :
    Inv (lamCx1 X A outer s1 HZ E scope f c' a) [] (wipe σ vs ++ [some x]) HZ { s1 with heap := h₁, toks := tk } := by
  have hfree := L.has I.ok
  have cm : ∀ {y c}, (cloFrom X.env.cells scope.names []).lookup y = some c → X.env.cells.lookup y = some c := fun {y c} e => by
    rcases cloFrom_mem (PySem.mem_of_lookup e) with hm | ⟨h1, h2⟩
    · cases hm
    · obtain ⟨c1, hc⟩ := hfree _ h1 rfl
      have hc : X.env.cells.lookup y = some c1 := hc
      have e2 : c = c1 := by
        rw [h2, hc] <;> rfl
      rw [e2]
      exact hc
  have look : ∀ {y}, scope.names.lookup y = some .free → ∃ c, (cloFrom X.env.cells scope.names []).lookup y = some c := fun {y} hl => by
    have hy : (y, NameKind.free) ∈ scope.names := PySem.mem_of_lookup hl
    exact mem_lookup (cloFrom_has (cells := X.env.cells) (acc := []) hy)
  have cellK : ∀ {c : Addr} {v : Option Value}, H c = none → s.heap.IsCell c v → h₁.IsCell c v := fun {c v} n ⟨o, ho, hd⟩ => by
    obtain ⟨sl, q⟩ := un.any ho n (by simp)
    exact ⟨_, kp _ _ q, hd⟩
  have noA : ∀ b : Addr, b ∉ (lamCx1 X A outer s1 HZ E scope f c' a).ex := fun b z => absurd (show b ∈ ([] : List Addr) from z) (by simp)
  refine ⟨⟨e0.mod, L.kind, rfl, rfl, Nat.le_refl _, fun y z c e1 e2 => I.ok.inj y z c (cm e1) (cm e2), fun y hy => ?_, fun y c z _ => ?_, fun _ => hd, Around.frames_deeper e0.frames, .inr ⟨rfl, rfl⟩, fun b z => absurd z (noA b), e0.bs, e0.bsz, fun b _ _ => noA b,
      fun b z => absurd z (noA b), e0.funs, e0.frf⟩,
    rfl, e0.bare, Un.kept kp, ⟨_, hns, fun i y v e1 e2 e3 => ?_⟩, fun y c e => ?_, e0.hok.fresh (Nat.le_refl _), fun y c e => ?_, fun q hq => absurd (show q ∈ ([] : List (Addr × Obj)) ++ [] from hq) (by simp), e0.hok.kept kp, ?_⟩
  · have hy : scope.names.lookup y = some .cell ∨ scope.names.lookup y = some .free := hy
    rcases hy with hy | hy
    · exact absurd rfl (L.own _ (PySem.mem_of_lookup hy)).1
    · exact look hy
  · have z : false = true := z
    cases z
  · have e3 : Vis scope y := e3
    have e1 : (X.N ++ [a])[i]? = some y := e1
    have hlen : (wipe σ vs).length = X.N.length := by rw [wipe_len, I.len]
    by_cases hi : i < X.N.length
    · rw [List.getElem?_append_left hi] at e1
      rw [List.getElem?_append_left (by rw [hlen]; exact hi)] at e2
      obtain ⟨hnv, e2⟩ := wipe_at _ _ _ _ e2
      have hya : y ≠ a := fun z => hnv (hw i (by rw [e1, z]))
      rcases e3 with k | k | k
      · exact absurd ((L.own _ (PySem.mem_of_lookup k)).2 rfl) hya
      · exact absurd rfl (L.own _ (PySem.mem_of_lookup k)).1
      · obtain ⟨m, hn, hl⟩ := I.loc
        have hvis : Vis X.env.scope y := (L.free _ (PySem.mem_of_lookup k) rfl).elim (fun k => .inr (.inl k)) (fun k => .inr (.inr k))
        obtain ⟨w', r, q⟩ := hl i y v e1 e2 hvis
        obtain ⟨c2, h2⟩ := look k
        refine ⟨w', r, .inr ⟨.inr k, c2, h2, ?_⟩⟩
        have c1 := cm h2
        rcases q with ⟨k', _⟩ | ⟨_, c3, e', z⟩
        · have k' : X.env.scope.names.lookup y = some .local := k'
          rcases L.free _ (PySem.mem_of_lookup k) rfl with k2 | k2 <;> rw [show X.env.scope.names.lookup y = _ from k2] at k' <;> cases k'
        · rw [c1] at e'
          cases e'
          exact cellK (I.freeC y _ c1) z
    · rw [List.getElem?_append_right (by omega)] at e1
      rw [List.getElem?_append_right (by omega), hlen] at e2
      have hz : i - X.N.length = 0 := by
        by_cases z : i - X.N.length = 0
        · exact z
        · rw [List.getElem?_eq_none (by simp; omega)] at e1; cases e1
      rw [hz] at e1 e2
      simp at e1 e2
      subst e1 e2
      refine ⟨u, ru, .inl ⟨L.par, ?_⟩⟩
      simp [List.lookup]
  · obtain ⟨w', z⟩ := I.cell y c (cm e)
    exact ⟨w', cellK (I.freeC y c (cm e)) z⟩
  · obtain ⟨v, o, ho, hd⟩ := I.cell y c (cm e)
    exact un.free c o ho (I.freeC y c (cm e)) (by simp)
  · show (wipe σ vs ++ [some x]).length = (X.N ++ [a]).length
    rw [List.length_append, List.length_append, wipe_len, I.len]
    rfl
/-- the lambda is called with one value, which it only looks at -/
theorem key_call {A : Around} {scope : Scope} {f c' : Addr} {a : Str} {u : Value} {x : V} {vs : List Nat} {params : Arguments} {body : Expr} {pm ctv : Value} {k : Nat} {tb : TE} {Q : VK} (I : Inv X pins σ H s) (L : LamS1 X.env.scope scope a) (hw : ∀ j, X.N[j]? = some a → j ∈ vs)
    (hf : s.heap.get? f = some (PySem.W.kla_obj "<lambda>" (X.env.qual ++ "<lambda>") params body scope (cloFrom X.env.cells scope.names []) pm c' ctv)) (hco : H c' = some (CodeO c' (X.env.qual ++ "<lambda>")))
    (hbind : bindArgs (PySem.W.kla_fn "<lambda>" (X.env.qual ++ "<lambda>") params body scope (cloFrom X.env.cells scope.names []) pm (.ref c') ctv) ⟨[u], []⟩ = pure [(a, u)])
    (hA : A.frames = X.A.frames) (hr : Room (k + 1) A) (ru : RelV x u)
    (hbody : ∀ (A : Around) (outer : List Env) (s : Shared) (H : Hp), Room k (A.deeper (lamEnv X scope s.heap.objs.size f c')) → PE (lamCx1 X A outer s H (fun _ _ _ => False) scope f c' a) body tb)
    (h : tb (wipe σ vs ++ [some x]) H Q) :
    wpAny (model X.prog X.w) A (call (.ref f) [u]) (CE X.stack X.prog X.w H s Q) (fun _ _ => False) s := by
  have e0 : Env0 X.prog X.w X.K X.mg X.base A X.stack s H := by
    have e := I.env0
    exact ⟨by rw [hA]; exact e.frames, e.mod, e.bs, e.bsz, e.funs, e.frf, e.hok, e.bare⟩
  obtain ⟨⟨oc, ws, t, hoc, hdc, hvc⟩, _, _⟩ := I.hok c' _ hco
  have rc : codeAny (model X.prog X.w) A (.call (.ref f) ⟨[u], []⟩) (CR (L2.CX X.prog X.w) X.stack X.prog X.w H s Q (fun _ _ _ => False)) s := by
    refine PySem.W.kla_callFunE hr.depth hf rfl L.co L.gen rfl ⟨c', oc, ws, t, rfl, hoc, hdc, hvc⟩ ?_
    rw [hbind]
    refine wpAny_pure (wpAny_newFunctionEnv (fun y hy => (L.own y hy).1) (fun y hy => ?_) (fun h₁ hns hsb => ⟨I.nolimit.fresh _ hsb, ?_⟩) L.kind)
    · rw [List.mem_singleton.mp hy]; exact L.par
    · show codeAny _ _ (.expr body (lamEnv X scope s.heap.objs.size f c')) _ _
      have kp : ∀ b o, s.heap.get? b = some o → h₁.get? b = some o := fun b o e => hsb.extBut b o (Nat.ne_of_lt (Heap.lt_size e)) (Heap.get?_push_of_some _ e)
      have J := lam_start1 (tk := s.toks + ([(a, u)] : List (Str × Value)).length) (E := fun _ _ _ => False) (f := f) (c' := c') I L hw e0 hr.hd Un.refl hns kp ru
      refine PySem.W.kla_codeExpr (wpAny_mono ((hbody _ _ s H (hr.deeper _)).run [] _ _ H Q J h) (fun v s' hq => ?_) fun e s' hq => hq)
      obtain ⟨w', H', J', rv, q⟩ := hq
      exact ⟨w', H', J'.os, J'.bare, J'.base, J'.hok, rv, q⟩
  refine wpAny_call (codeAny_mono rc fun r s' hq => ?_)
  cases r with
  | error e => exact (DL.cx_no hq).elim
  | ok fl =>
    cases fl with
    | ret u => exact hq
    | next => exact False.elim hq
    | brk => exact False.elim hq
    | cont => exact False.elim hq
end
end LamY
namespace LamY
open PySem PySem.Spec PyProof.Rows L2 LamX
section
variable {P : Program} {w : World} {H : Hp} {h0 h h' : Heap} {it a : Addr} {fs : List Addr} {o : HO}
theorem un_turn (u : Un fs [] H H h0 h) (k : ∀ b o, b ≠ it → h.get? b = some o → h'.get? b = some o) (hit : ∀ b o, h0.get? b = some o → b ≠ it) : Un fs [] H H h0 h' :=
  ⟨fun b o e n hf hx => k b o (hit b o e) (u.keep b o e n hf hx), fun b o e n hf hx => by
    obtain ⟨sl, q⟩ := u.slot b o e n hf hx
    exact ⟨sl, k b _ (hit b o e) q⟩, fun b o e n hx => n, fun b o e hx => by
    obtain ⟨o', q⟩ := u.there b o e hx
    exact ⟨o', k b _ (hit b o e) q⟩, u.tups, u.frzs, u.tbls⟩
theorem hok_turn (ok : HOk P w H h) (hn : H it = none) (k : ∀ b o, b ≠ it → h.get? b = some o → h'.get? b = some o) : HOk P w H h' := fun b u e => by
  have nit : ∀ b u, H b = some u → b ≠ it := fun b u e z => by rw [z, hn] at e; cases e
  refine (ok b u e).stay (fun c v hc q => k c v ?_ q) (fun _ q => q) fun _ _ q => q
  rcases hc with z | z
  · rw [z]; exact nit b u e
  · exact nit c _ z
theorem un_add (u : Un fs [] H H h0 h) (hit : ∀ b o, h0.get? b = some o → b ≠ a) (hn : H a = none) : Un fs [] H (upd H a o) h0 h :=
  ⟨u.keep, u.slot, fun b ob e n _ => by rw [upd_ne (hit b ob e)]; exact n, u.there, fun b xs q => by rw [upd_ne (ne_of_none q hn)]; exact q, fun b v xs q => by rw [upd_ne (ne_of_none q hn)]; exact q, fun b ps q => ⟨#[], by rw [upd_ne (ne_of_none q hn), q]; simp⟩⟩
theorem hok_add (ok : HOk P w H h) (hn : H a = none) (new : ObjOk P w (upd H a o) h a o) : HOk P w (upd H a o) h := fun b u e => by
  by_cases hb : b = a
  · subst hb; rw [upd_same] at e; cases e; exact new
  · rw [upd_ne hb] at e
    exact (ok b u e).stay (fun c v _ q => q) (fun c q => by rw [upd_ne (ne_of_none q hn)]; exact q) fun c xs q => by rw [upd_ne (ne_of_none q hn)]; exact q
end
end LamY
namespace LamY
open PySem PySem.Spec PyProof.Rows L2 LamX PySem.W
section
variable {X : Cx} {pins : List (Addr × Obj)} {σ : L2.St} {H : Hp} {s0 : Shared}
/-- the state within sorted's run: what was there stands, but what the keys' calls make -/
structure Jst (X : Cx) (H H' : Hp) (s0 s' : Shared) : Prop where
  os : s'.os = s0.os
  bare : AllBare s'.gens
  un : Un (frs X.stack) [] H H' s0.heap s'.heap
  hok : HOk X.prog X.w H' s'.heap
theorem Jst.inv {H' : Hp} {s' : Shared} (I0 : Inv X pins σ H s0) (j : Jst X H H' s0 s') : Inv X pins σ H' s' := I0.call' j.os j.un j.hok j.bare (fun b z => absurd z (by simp))
theorem Jst.kept {H' : Hp} {s' : Shared} {h' : Heap} {tk : Nat} (j : Jst X H H' s0 s') (k : ∀ b o, s'.heap.get? b = some o → h'.get? b = some o) : Jst X H H' s0 { s' with heap := h', toks := tk } :=
  ⟨j.os, j.bare, j.un.trans (Un.kept k), j.hok.kept k⟩
theorem un_turn2 {H' : Hp} {h0 h h' : Heap} {it : Addr} {fs : List Addr} (u : Un fs [] H H' h0 h) (k : ∀ b o, b ≠ it → h.get? b = some o → h'.get? b = some o) (hit : ∀ b o, h0.get? b = some o → b ≠ it) : Un fs [] H H' h0 h' :=
  ⟨fun b o e n hf hx => k b o (hit b o e) (u.keep b o e n hf hx), fun b o e n hf hx => by
    obtain ⟨sl, q⟩ := u.slot b o e n hf hx
    exact ⟨sl, k b _ (hit b o e) q⟩, u.free, fun b o e hx => by
    obtain ⟨o', q⟩ := u.there b o e hx
    exact ⟨o', k b _ (hit b o e) q⟩, u.tups, u.frzs, u.tbls⟩
theorem un_add2 {H' : Hp} {h0 h : Heap} {a : Addr} {o : HO} {fs : List Addr} (u : Un fs [] H H' h0 h) (hit : ∀ b o, h0.get? b = some o → b ≠ a) (hn : H' a = none) : Un fs [] H (upd H' a o) h0 h :=
  ⟨u.keep, u.slot, fun b ob e n hx => by rw [upd_ne (hit b ob e)]; exact u.free b ob e n hx, u.there, fun b xs q => by rw [upd_ne (ne_of_none (u.tups b xs q) hn)]; exact u.tups b xs q, fun b v xs q => by rw [upd_ne (ne_of_none (u.frzs b v xs q) hn)]; exact u.frzs b v xs q, fun b ps q => by
    obtain ⟨m, e⟩ := u.tbls b ps q
    exact ⟨m, by rw [upd_ne (ne_of_none e hn)]; exact e⟩⟩
theorem Jst.turn {H' : Hp} {s' : Shared} {h' : Heap} {tk : Nat} {it : Addr} (j : Jst X H H' s0 s') (k : ∀ b o, b ≠ it → s'.heap.get? b = some o → h'.get? b = some o) (hit : s0.heap.objs.size ≤ it) (hn : H' it = none) : Jst X H H' s0 { s' with heap := h', toks := tk } :=
  ⟨j.os, j.bare, un_turn2 j.un k fun b o e => Nat.ne_of_lt (Nat.lt_of_lt_of_le (Heap.lt_size e) hit), hok_turn j.hok hn k⟩
theorem Jst.call {H' H'' : Hp} {s' s'' : Shared} (j : Jst X H H' s0 s') (ho : s''.os = s'.os) (hg : AllBare s''.gens) (u : Un (frs X.stack) [] H' H'' s'.heap s''.heap) (hok : HOk X.prog X.w H'' s''.heap) : Jst X H H'' s0 s'' :=
  ⟨ho.trans j.os, hg, j.un.trans u, hok⟩
theorem keyL_rest {G : Hp → Prop} {A : Around} {a kS : Addr} {f : Value} {vs : List Value} {kz : List Int} {e1 : Nat} {P : PySem.Fin → Shared → Prop} {E : Value → Shared → Prop} {s : Shared} (g0 : G H) (j0 : Jst X H H s0 s) (hkz : s0.heap.objs.size ≤ kS) (haz : s0.heap.objs.size ≤ a) (hnk : H kS = none) (hna : H a = none) (hfk : kS ∉ frs X.stack) (hfa : a ∉ frs X.stack)
    (nk : s.heap.get? kS = some (seqObj "list" #[] 0)) (na : s.heap.get? a = some (seqObj "list" #[] e1)) (hka : kS ≠ a) (hlen : kz.length = vs.length) (hZ : vs.length ≤ sizeLine) (hu : A.units < cLine)
    (turn : ∀ (i : Nat) (v : Value) (k : Int), vs[i]? = some v → kz[i]? = some k → ∀ (H' : Hp) (s' : Shared), G H' → Jst X H H' s0 s' →
      wpAny (model X.prog X.w) A (call f [v]) (CE X.stack X.prog X.w H' s' fun x H'' => x = .int k ∧ G H'') (fun _ _ => False) s')
    (h : ∀ H' s' out c, G H' → H' a = none → Jst X H H' s0 s' → s'.heap.get? a = some (seqObj "list" (List.toArray out) c) → KeyedOut false (kz.map PyData.int) vs out → P (.done (.ret .none)) s') :
    wpAny (model X.prog X.w) A (ksk_rest a f false vs.toArray e1 (.ref kS)) P E s := by
  unfold ksk_rest
  refine wpAny_bind (wpAny_rule ?_)
  first
    | rw [List.forIn_toArray]
    | (rw [← Array.forIn_toList]; simp only [List.toList_toArray])
    | rw [← Array.forIn_toList]
  refine wpAny_bind (ksk_fold (fun i s' => ∃ H' kA e, G H' ∧ H' kS = none ∧ H' a = none ∧ Jst X H H' s0 s' ∧ s'.heap.get? kS = some (seqObj "list" kA e) ∧ s'.heap.get? a = some (seqObj "list" #[] e1) ∧ EachIs (fun v k => ∃ t, v = Value.int k t) kA.toList (kz.take i)) vs 0 s
    ⟨H, #[], 0, g0, hnk, hna, j0, nk, na, by rw [List.take_zero]; exact EachIs.nil⟩ ?step ?done)
  case step =>
    rintro j x s' hx ⟨H', kA, e, g, hnk', hna', jj, nk', na', hk⟩
    simp only [Nat.zero_add] at hk ⊢
    have hj : j < vs.length := (List.getElem?_eq_some_iff.mp hx).1
    obtain ⟨k, hkj⟩ : ∃ k, kz[j]? = some k := ⟨_, List.getElem?_eq_getElem (by omega)⟩
    have hz : kA.size ≤ vs.length := by
      have h1 := hk.length
      rw [Array.length_toList, List.length_take] at h1
      omega
    refine wpAny_bind (wpAny_attempt (wpAny_mono (turn j x k hx hkj H' s' g jj) (fun v s'' he => ?_) fun _ _ hF => hF.elim))
    obtain ⟨xv, H'', ho, hg, un, hok, rv, rfl, g2⟩ := he
    obtain ⟨t, rfl⟩ := rv
    have jj2 := jj.call ho hg un hok
    try dsimp only
    have nk2 : s''.heap.get? kS = some (seqObj "list" kA e) := un.keep _ _ nk' hnk' hfk (by simp)
    have na2 : s''.heap.get? a = some (seqObj "list" #[] e1) := un.keep _ _ na' hna' hfa (by simp)
    have hnk2 : H'' kS = none := un.free _ _ nk' hnk' (by simp)
    have hna2 : H'' a = none := un.free _ _ na' hna' (by simp)
    have s1 := Heap.SameBut.update s''.heap kS (Obj.mapSeq (·.push (Value.int k t)))
    obtain ⟨c2, hc2⟩ : ∃ c2, (s''.heap.update kS (Obj.mapSeq (·.push (Value.int k t)))).get? kS = some (seqObj "list" (kA.push (Value.int k t)) c2) := ⟨_, get?_update_seq nk2 (·.push (Value.int k t))⟩
    have ek : kz.take (j + 1) = kz.take j ++ [k] := by rw [List.take_add_one, hkj]; simp
    have ea : (kA.push (Value.int k t)).toList = kA.toList ++ [Value.int k t] := by simp
    refine wpAny_bind (listUpdate_at nk2 rfl ?_ (Nat.le_trans hz hZ) (Nat.le_trans (Nat.le_of_eq (Array.size_push ..)) (Nat.succ_le_succ (Nat.le_trans hz hZ))))
    refine wpAny_pure ⟨rfl, H'', kA.push (Value.int k t), c2, g2, hnk2, hna2, jj2.turn (tk := s''.toks) (fun b o hb q => (s1.2 b hb).trans q) hkz hnk2, hc2, (s1.2 a hka.symm).trans na2, ?_⟩
    rw [ea, ek]
    exact each_snoc (R := fun (v : Value) (k : Int) => ∃ t, v = Value.int k t) ⟨t, rfl⟩ hk
  case done =>
    rintro s' ⟨H', kA, e, g, hnk', hna', jj, nk', na', hk⟩
    rw [List.take_of_length_le (by omega)] at hk
    have hsz : kA.size = vs.length := by
      have h1 := hk.length
      rw [Array.length_toList] at h1
      omega
    have hk' : EachIs (fun v d => ∃ as, Reads s'.heap v d as) kA.toList (kz.map PyData.int) := each_map (R := fun v d => ∃ as, Reads s'.heap v d as) PyData.int (hk.mono fun v k ⟨t, q⟩ => ⟨[], by rw [q]; exact Reads.int k t⟩)
    have hal : AllAlike (kz.map PyData.int) := fun p hp q hq => by
      obtain ⟨i, _, rfl⟩ := List.mem_map.mp hp
      obtain ⟨j, _, rfl⟩ := List.mem_map.mp hq
      simp [alike]
    have hsk : Sortable (kz.map PyData.int) := .inr fun p hp => by
      obtain ⟨i, _, rfl⟩ := List.mem_map.mp hp
      exact ⟨(by simp), fun _ => by simp⟩
    have hud : ∀ d, d ∈ kz.map PyData.int → A.units + d.depth < cLine := fun p hp => by
      obtain ⟨i, _, rfl⟩ := List.mem_map.mp hp
      simpa [PyData.depth] using hu
    try dsimp only
    refine wpAny_bind (listItems_at nk' rfl ?_)
    refine keyH_end (κ := dataKind s'.heap (kz.map PyData.int)) (h₁ := hideAll s'.heap [kS]) (fun b o _ q => of_hideAll _ q) (hideAll_none _ (by simp)) nk' na' hka (SortsAt.data (s := s') hk' hal hsk hud) hsz hZ fun h3 tk3 c k3 n3 => ?_
    refine h H' _ _ c g hna' (Jst.mk jj.os jj.bare ?_ ?_) n3 ⟨s'.heap, kA.toList, hal, rfl, hk'⟩
    · have kk : ∀ b o, s0.heap.objs.size > b → s'.heap.get? b = some o → h3.get? b = some o := fun b o hb q => k3 b o (Nat.ne_of_lt (Nat.lt_of_lt_of_le hb haz)) (hideAll_get _ q (by rw [List.mem_singleton]; exact Nat.ne_of_lt (Nat.lt_of_lt_of_le hb hkz)))
      refine ⟨fun b o q n hf hx => kk b o (Heap.lt_size q) (jj.un.keep b o q n hf hx), fun b o q n hf hx => ?_, jj.un.free, fun b o q hx => ?_, jj.un.tups, jj.un.frzs, jj.un.tbls⟩
      · obtain ⟨sl, e⟩ := jj.un.slot b o q n hf hx
        exact ⟨sl, kk b _ (Heap.lt_size q) e⟩
      · obtain ⟨o', e⟩ := jj.un.there b o q hx
        exact ⟨o', kk b _ (Heap.lt_size q) e⟩
    · intro b u e
      have nit : ∀ b u, H' b = some u → b ≠ a ∧ b ≠ kS := fun b u e => ⟨(fun z => by rw [z, hna'] at e; cases e), (fun z => by rw [z, hnk'] at e; cases e)⟩
      refine (jj.hok b u e).stay (fun c v hc q => ?_) (fun _ q => q) fun _ _ q => q
      have hc' : c ≠ a ∧ c ≠ kS := by
        rcases hc with z | z
        · rw [z]; exact nit b u e
        · exact nit c _ z
      exact k3 c v hc'.1 (hideAll_get _ q (by simp [hc'.2]))
theorem keyL_tree {G : Hp → Prop} {A : Around} {a : Addr} {f : Value} {vs : List Value} {kz : List Int} {n : Nat} {P : PySem.Fin → Shared → Prop} {E : Value → Shared → Prop} {s : Shared} (g0 : G H) (I0 : Inv X pins σ H s0) (j0 : Jst X H H s0 s) (haz : s0.heap.objs.size ≤ a) (ho : s.heap.get? a = some (seqObj "list" vs.toArray n)) (hlen : kz.length = vs.length) (hZ : vs.length ≤ sizeLine) (hu : A.units < cLine)
    (turn : ∀ (i : Nat) (v : Value) (k : Int), vs[i]? = some v → kz[i]? = some k → ∀ (H' : Hp) (s' : Shared), G H' → Jst X H H' s0 s' →
      wpAny (model X.prog X.w) A (call f [v]) (CE X.stack X.prog X.w H' s' fun x H'' => x = .int k ∧ G H'') (fun _ _ => False) s')
    (h : ∀ H' s' out c, G H' → H' a = none → Jst X H H' s0 s' → s'.heap.get? a = some (seqObj "list" (List.toArray out) c) → KeyedOut false (kz.map PyData.int) vs out → P (.done (.ret .none)) s') :
    wpAny (model X.prog X.w) A (ksk_tree a f false) P E s := by
  have ha : a < s.heap.objs.size := Heap.lt_size ho
  have hna : H a = none := I0.hok.fresh haz
  obtain ⟨e1, ho1⟩ : ∃ e1, (s.heap.update a (Obj.mapSeq fun _ => (#[] : Array Value))).get? a = some (seqObj "list" #[] e1) := ⟨_, get?_update_seq ho fun _ => #[]⟩
  have hkS : ((s.heap.update a (Obj.mapSeq fun _ => (#[] : Array Value))).push (seqObj "tuple" vs.toArray 0)).objs.size = s.heap.objs.size + 1 := by rw [size_push', Heap.size_update]
  have nofr : ∀ f, s0.heap.objs.size ≤ f → f ∉ frs X.stack := fun f hf z => by
    rcases List.mem_cons.mp (I0.stkSub _ z) with e | e
    · have h1 := I0.lt
      rw [← e] at h1
      exact Nat.lt_irrefl _ (Nat.lt_of_lt_of_le h1 hf)
    · exact I0.nofs hf e
  unfold ksk_tree
  refine wpAny_bind (listItems_at ho rfl ?_)
  refine wpAny_bind (listUpdate_at ho rfl ?_ (by rw [List.size_toArray]; exact hZ) (Nat.zero_le _))
  refine wpAny_bind (seqEpoch_at ho1 rfl ?_)
  refine wpAny_bind (wpAny_newTuple ?_ (by show vs.length ≤ _; exact hZ))
  refine wpAny_bind (wpAny_newList ?_ (Nat.zero_le _))
  refine wpAny_holding ?_
  have js : Jst X H H s0 { s with heap := ((s.heap.update a (Obj.mapSeq fun _ => (#[] : Array Value))).push (seqObj "tuple" vs.toArray 0)).push (seqObj "list" #[] 0), toks := s.toks } :=
    j0.turn (it := a) (fun b o hb q => Heap.get?_push_of_some _ (Heap.get?_push_of_some _ ((Heap.get?_update_ne _ _ _ _ hb).trans q))) haz hna
  have hks : s0.heap.objs.size ≤ s.heap.objs.size + 1 := Nat.le_trans haz (Nat.le_succ_of_le (Nat.le_of_lt ha))
  refine keyL_rest (kS := ((s.heap.update a (Obj.mapSeq fun _ => (#[] : Array Value))).push (seqObj "tuple" vs.toArray 0)).objs.size) g0 js (by rw [hkS]; exact hks) haz (by rw [hkS]; exact I0.hok.fresh hks) hna (by rw [hkS]; exact nofr _ hks) (nofr _ haz)
    (Heap.get?_push_size _ rfl) (Heap.get?_push_of_some _ (Heap.get?_push_of_some _ ho1)) (by rw [hkS]; exact Nat.ne_of_gt (Nat.lt_succ_of_lt ha)) hlen hZ hu turn h
end
end LamY
namespace LamY
open PySem PySem.Spec PyProof.Rows L2 LamX PySem.W
/-- the items of a sequence or a range -/
def Src (K : PySem.W.Frag) (H : Hp) (a : Addr) (ws : List V) : Prop := SqL K H a ws ∨ SqT K H a ws ∨ ∃ i j, H a = some (.rng i j) ∧ ws = rgV i j ∧ RgOk i j
def ColV (prog : Program) (w : World) (A : Around) (s : Shared) (l : Value) (ws : List V) : Prop := ∀ (E' : Value → Shared → Prop) (Q' : List Value → Shared → Prop), (∀ its h' tk, Vals ws its → (∀ b o, s.heap.get? b = some o → h'.get? b = some o) → Q' its { s with heap := h', toks := tk }) → wpAny (model prog w) A.in1 (collect l) Q' E' s
open PySem.Calls in
theorem sorted_of_colV {prog : Program} {w : World} {A : Around} {E : Value → Shared → Prop} {s : Shared} {l : Value} {ws : List V} {kw : List (Str × Value)} {Q : Value → Shared → Prop} (hc : ColV prog w A s l ws) (hL : ws.length ≤ sizeLine) (ha1 : argsOk "sorted" ⟨[l], kw⟩) (ha2 : ∀ x, argsOk "list.sort" ⟨[.ref x], kw⟩)
    (body : ∀ (E' : Value → Shared → Prop) (its : List Value) (h' : Heap) (tk : Nat), Vals ws its → (∀ b o, s.heap.get? b = some o → h'.get? b = some o) → wpAny (model prog w) A.in1.in1 (Builtin.«list.sort» ⟨[.ref h'.objs.size], kw⟩) (fun f s' => f = .done (.ret .none) ∧ Q (.ref h'.objs.size) s') E' { s with heap := h'.push (seqObj "list" its.toArray 0), toks := tk }) :
    wpAny (model prog w) A (call (.builtin "sorted") [l] kw) Q E s := by
  refine call_function_entry_kw kind_sorted plain_sorted entry_sorted ha1 ?_
  unfold Builtin.«sorted»
  refine wpAny_bind (m := checkCount "sorted" 1 1 _) (wpAny_pure ?_)
  refine wpAny_bind (hc _ _ fun its h' tk rv kp => ?_)
  have hL' : its.length ≤ sizeLine := by rw [← rv.length]; exact hL
  refine wpAny_bind (wpAny_newList ?_ hL')
  refine wpAny_bind (wpAny_holding (wpAny_call_entry_kw slot_list_sort ⟨_, Heap.get?_push_size _ rfl, rfl⟩ entry_list_sort ?body (ha2 _)))
  case body =>
    refine wpAny_mono (body _ its h' tk rv kp) (fun f s' hf => ?_) fun _ _ e => e
    obtain ⟨rfl, hq⟩ := hf
    exact ⟨_, rfl, wpAny_pure ⟨_, rfl, hq⟩⟩
def sortV (ws : List V) (ks : List Int) : List V := ((ws.zip ks).mergeSort fun p q => decide (p.2 ≤ q.2)).map (·.1)
theorem col_src {X : Cx} {pins : List (Addr × Obj)} {σ : L2.St} {H : Hp} {s : Shared} {a : Addr} {ws : List V} (I : Inv X pins σ H s) (hh : X.A.handled = none) (h : Src X.K H a ws) : ColV X.prog X.w X.A s (.ref a) ws ∧ ws.length ≤ sizeLine := by
  rcases h with h | h | ⟨i, j, h, rfl, ok⟩
  · obtain ⟨its, rv, hl, hz⟩ := I.list h
    refine ⟨fun E' Q' hQ => ?_, hz⟩
    exact DL.col_seq (A := X.A) (.inl hl.isList) (by rw [← rv.length]; exact hz) E' Q' fun h' tk kp => hQ its h' tk rv kp
  · obtain ⟨its, rv, hl, hz⟩ := I.tuple h
    refine ⟨fun E' Q' hQ => ?_, hz⟩
    exact DL.col_seq (A := X.A) (.inr hl) (by rw [← rv.length]; exact hz) E' Q' fun h' tk kp => hQ its h' tk rv kp
  · obtain ⟨b1, b2, b3, b4, b5⟩ := ok
    obtain ⟨t, u, v, ho⟩ := I.hok a _ h
    refine ⟨fun E' Q' hQ => ?_, by rw [rgV_length, sizeLine_eq]; omega⟩
    have hr : IsRange s.heap a i j 1 t u v := ho
    exact collect_range (A := X.A.in1) (n := (j - i).toNat) hh hr (small_one b1 b2 b3 b4) (rangeSize_nat i j) b5 fun h' tk acc k hi => hQ acc.toList h' tk (vals_rg hi) k
theorem vals_zip_each : ∀ {ws : List V} {its : List Value} {ks : List Int}, Vals ws its → ks.length = ws.length → EachIs (fun (u : Value) (p : V × Int) => RelV p.1 u) its (ws.zip ks)
  | _, _, [], .nil, _ => EachIs.nil
  | _, _, k :: ks, .cons r rs, h => EachIs.cons r (vals_zip_each rs (by simpa using h))
theorem each_vals : ∀ {out : List Value} {ps : List (V × Int)}, EachIs (fun (u : Value) (p : V × Int) => RelV p.1 u) out ps → Vals (ps.map (·.1)) out
  | _, _, .nil => .nil
  | _, _, .cons r rs => .cons r (each_vals rs)
def tSortKey (K : PySem.W.Frag) (T : List (Addr × Str)) (vs : List Nat) (ta : TA) (tb : TE) : TE := fun σ H Q => ta σ H fun xs H1 => Tabs T H1 ∧ ∀ H2, ExtN H1 H2 → Tabs T H2 → ∃ a ws ks, xs = [.ref a] ∧ Src K H2 a ws ∧ ks.length = ws.length ∧
  ∃ G : Hp → Prop, G H2 ∧ (∀ H' c q, G H' → H2 c = some (CodeO c q) → H' c = some (CodeO c q)) ∧
  (∀ (i : Nat) (x : V) (k : Int), ws[i]? = some x → ks[i]? = some k → ∀ H', G H' → tb (wipe σ vs ++ [some x]) H' fun v H'' => v = .int k ∧ G H'') ∧ ∀ H' p, G H' → H' p = none → Q (.ref p) (upd H' p (.lst (sortV ws ks)))
theorem pe_sortKey {X : Cx} {T : List (Addr × Str)} {e : Expr} {ta : TA} {tb : TE} {c P : Addr} {k : Nat} {params : Arguments} {body : Expr} {scope : Scope} {a : Str} {vs : List Nat} {p lpos kpos pos : Pos} (hg : Gl X "sorted") (hm : X.mg "sorted" = none) (he : PA X [e] ta)
    (TB : TabB X.base X.mg c P) (hcode : X.env.code = .ref c) (hmT : (P, X.env.qual ++ "<lambda>") ∈ T) (hu : ∀ p ∈ T, p.1 = P → p.2 = X.env.qual ++ "<lambda>") (hr : Room (k + 2) X.A) (L : LamS1 X.env.scope scope a) (hw : ∀ j, X.N[j]? = some a → j ∈ vs) (hdef : defaultsOf params X.env = ([], []))
    (hbind : ∀ (q : Str) (cl : List (Str × Addr)) (pm cv ctv u : Value), bindArgs (PySem.W.kla_fn "<lambda>" q params body scope cl pm cv ctv) ⟨[u], []⟩ = pure [(a, u)])
    (hbody : ∀ (A : Around) (outer : List Env) (s : Shared) (H : Hp) (f c' : Addr), Room k (A.deeper (lamEnv X scope s.heap.objs.size f c')) → PE (lamCx1 X A outer s H (fun _ _ _ => False) scope f c' a) body tb)
    (hes : backTo pos (starEach [e] X.env) = (false, eval e X.env) :: backTo pos (starEach [] X.env) := by rfl) (hpl : (backTo pos (starEach [e] X.env)).any (·.1) = false := by rfl)
    (hall : (backToKw pos (keywordEach [⟨some "key", .Lambda params body scope lpos, kpos⟩] X.env)).all (·.1.isSome) = true := by rfl) (hnone : (backToKw pos (keywordEach [⟨some "key", .Lambda params body scope lpos, kpos⟩] X.env)).any (·.1.isNone) = false := by rfl)
    (hks : (backToKw pos (keywordEach [⟨some "key", .Lambda params body scope lpos, kpos⟩] X.env)).filterMap (·.1) = ([Str.ofString "key"] : List Str) := by rfl) :
    PE X (.Call (.Name "sorted" p) [e] [⟨some "key", .Lambda params body scope lpos, kpos⟩] pos) (tSortKey X.K T vs ta tb) := by
  refine ⟨fun pins s σ H Q I h => ?_⟩
  refine wpAny_Call_Name_kw (ld_blt I hg hm DL.bb_sorted ?_ (by decide) (by decide))
  refine PyProof.Rows.callWith_kw (thn (he.run pos pins s σ H _ I h) fun us s1 ⟨vs1, H1, I1, r1, hT, q1⟩ => ?_) hes hpl hall hnone
  show wpAny _ _ (evalAll [do let v ← eval (.Lambda params body scope lpos) X.env; standAt pos; pure v]) _ _ s1
  refine wpAny_evalAll_cons (wpAny_bind (lam_make2 I1 TB hcode hmT hu hT hdef (L.has I1.ok) fun f c' pm ctv H2 s2 I2 eN T2 hf hfn hfr hco => wpAny_bind (wpAny_standAt (wpAny_pure (wpAny_evalAll_nil ?_)))))
  rw [hks]
  obtain ⟨a0, ws, ks, rfl, hsrc, hlen, G, g0, hGc, hkey, hq⟩ := q1 H2 eN T2
  rw [Vals.ref1 r1]
  obtain ⟨hcol, hz⟩ := col_src I2 hr.hd hsrc
  show wpAny _ _ (call (.builtin "sorted") [.ref a0] [(Str.ofString "key", .ref f)]) _ _ s2
  refine sorted_of_colV hcol hz (ksk_s1 _ _) (fun _ => ksk_l1 _ _) fun E' its h' tk rv kp => ?_
  rw [ksk_t1]
  have I3 : Inv X pins σ H2 { s2 with heap := h', toks := tk } := I2.kept kp
  have j0 : Jst X H2 H2 { s2 with heap := h', toks := tk } { s2 with heap := h'.push (seqObj "list" its.toArray 0), toks := tk } := (Jst.mk rfl I2.bare Un.refl I3.hok : Jst X H2 H2 { s2 with heap := h', toks := tk } { s2 with heap := h', toks := tk }).kept fun b o e => Heap.get?_push_of_some _ e
  refine keyL_tree (G := G) (kz := ks) g0 I3 j0 (Nat.le_refl _) (Heap.get?_push_size _ rfl) (by rw [hlen]; exact rv.length) (by rw [← rv.length]; exact hz) (by have := hr.un; show X.A.units + 2 < _; omega) (fun i v kk hv hk H' s' g j => ?_) fun H' s' out cc g hn j hat ko => ⟨rfl, ?_⟩
  · obtain ⟨x, hx, rx⟩ := DL.Vals.at' rv hv
    have I' := j.inv I3
    refine key_call (k := k) I' L hw (j.un.keep f _ (kp _ _ hf) hfn hfr (by simp)) (hGc H' c' _ g hco) (hbind _ _ _ _ _ _) rfl ?_ rx (fun A outer s H hr2 => hbody A outer s H f c' hr2) (hkey i x kk hx hk H' g)
    have h1 := hr.dp
    have h2 := hr.un
    exact ⟨hr.hd, by show X.A.depth + 3 * (k + 1) + 5 < _; omega, by show X.A.units + 2 + 16 * (k + 1) + 200 < _; omega⟩
  · have eo := keyedOut_each (bs := ws.zip ks) (R := fun u p => RelV p.1 u) (fun p : V × Int => PyData.int p.2) (by
      have : (ws.zip ks).map (fun p : V × Int => PyData.int p.2) = ks.map PyData.int := by
        show (ws.zip ks).map (PyData.int ∘ fun p : V × Int => p.2) = _
        rw [← List.map_map]
        congr 1
        exact List.map_snd_zip (by omega)
      rw [this]
      exact ko) (vals_zip_each rv hlen)
    rw [dataLe_int] at eo
    have hv := each_vals eo
    have hl : (sortV ws ks).length ≤ sizeLine := by
      unfold sortV
      rw [List.length_map, List.length_mergeSort, List.length_zip]
      omega
    exact ⟨.ref _, upd H' h'.objs.size (.lst (sortV ws ks)), I3.call' j.os (un_add2 j.un (fun b o e => Nat.ne_of_lt (Heap.lt_size e)) hn) (hok_add j.hok hn ⟨hl, out, cc, hv, hat⟩) j.bare (fun b z => absurd z (by simp)), rfl, hq _ _ g hn⟩
end LamY
namespace DL
open PySem PySem.Spec PyProof.Rows L2 LamX LamY
/-! ### sorted(xs, key=lambda a: e), the keys ints -/
noncomputable def keysD (fk : FE D) (ρ : En) (vs : List Nat) (μ : Sto) : List D → Option (List Int)
  | [] => some []
  | d :: ds => match fk (wipeE ρ vs ++ [some d]) μ with
    | .ok (.int k) μ' => if bP (μ' = μ) = true then (keysD fk ρ vs μ ds).map (k :: ·) else none
    | _ => none
def sortK (ds : List D) (ks : List Int) : List D := ((ds.zip ks).mergeSort fun p q => decide (p.2 ≤ q.2)).map (·.1)
theorem keysD_len {fk : FE D} {ρ : En} {vs : List Nat} {μ : Sto} : ∀ {ds : List D} {ks : List Int}, keysD fk ρ vs μ ds = some ks → ks.length = ds.length
  | [], ks, h => by cases Option.some.inj h; rfl
  | d :: ds, ks, h => by
    rw [keysD] at h
    split at h
    · split at h
      · obtain ⟨ks', h1, h2⟩ := Option.map_eq_some_iff.mp h
        rw [← h2, List.length_cons, List.length_cons, keysD_len h1]
      · cases h
    · cases h
theorem keysD_get {fk : FE D} {ρ : En} {vs : List Nat} {μ : Sto} : ∀ {ds : List D} {ks : List Int} {i : Nat} {d : D} {k : Int}, keysD fk ρ vs μ ds = some ks → ds[i]? = some d → ks[i]? = some k → fk (wipeE ρ vs ++ [some d]) μ = .ok (.int k) μ
  | [], ks, i, d, k, h, h1, h2 => by simp at h1
  | e :: ds, ks, i, d, k, h, h1, h2 => by
    rw [keysD] at h
    split at h
    · rename_i k' μ' e1
      split at h
      · rename_i hμ
        obtain ⟨ks', h3, h4⟩ := Option.map_eq_some_iff.mp h
        subst h4
        cases i with
        | zero =>
          simp at h1 h2
          subst h1 h2
          rw [e1, bP_iff.mp hμ]
        | succ i => exact keysD_get h3 (by simpa using h1) (by simpa using h2)
      · cases h
    · cases h
theorem reps_sort {C : Cc} {η : Nm} {H : Hp} {ws : List V} {ds : List D} {ks : List Int} (r : Reps C η H ws ds) (hl : ks.length = ds.length) : Reps C η H (sortV ws ks) (sortK ds ks) := by
  have hlw := r.length
  have e1 : (ws.zip (ds.zip ks)).map (fun t : V × D × Int => (t.1, t.2.2)) = ws.zip ks := by
    clear r
    induction ws generalizing ds ks with
    | nil => simp
    | cons w ws ih =>
      cases ds with
      | nil => simp at hlw
      | cons d ds =>
        cases ks with
        | nil => simp at hl
        | cons k ks => simp only [List.zip_cons_cons, List.map_cons]; rw [ih (by simpa using hl) (by simpa using hlw)]
  have e2 : (ws.zip (ds.zip ks)).map (fun t : V × D × Int => t.2) = ds.zip ks := List.map_snd_zip (by rw [List.length_zip]; omega)
  have m1 : ((ws.zip (ds.zip ks)).mergeSort fun p q => decide (p.2.2 ≤ q.2.2)).map (fun t : V × D × Int => (t.1, t.2.2)) = (ws.zip ks).mergeSort fun p q => decide (p.2 ≤ q.2) := by
    have h := List.map_mergeSort (r := fun p q : V × D × Int => decide (p.2.2 ≤ q.2.2)) (s := fun p q : V × Int => decide (p.2 ≤ q.2)) (f := fun t : V × D × Int => (t.1, t.2.2)) (l := ws.zip (ds.zip ks)) fun a _ b _ => rfl
    rw [h, e1]
  have m2 : ((ws.zip (ds.zip ks)).mergeSort fun p q => decide (p.2.2 ≤ q.2.2)).map (fun t : V × D × Int => t.2) = (ds.zip ks).mergeSort fun p q => decide (p.2 ≤ q.2) := by
    have h := List.map_mergeSort (r := fun p q : V × D × Int => decide (p.2.2 ≤ q.2.2)) (s := fun p q : D × Int => decide (p.2 ≤ q.2)) (f := fun t : V × D × Int => t.2) (l := ws.zip (ds.zip ks)) fun a _ b _ => rfl
    rw [h, e2]
  unfold sortV sortK
  rw [← m1, ← m2, List.map_map, List.map_map]
  have hmem : ∀ t ∈ ws.zip (ds.zip ks), Rep C η H t.1 t.2.1 := by
    intro t ht
    obtain ⟨i, hi⟩ := List.mem_iff_getElem?.mp ht
    rw [List.getElem?_zip_eq_some] at hi
    obtain ⟨h1, h2⟩ := hi
    have h2' := h2
    rw [show t.2 = (t.2.1, t.2.2) from rfl, List.getElem?_zip_eq_some] at h2'
    obtain ⟨d, h3, h4⟩ := r.get' h1
    rw [h2'.1] at h3
    cases h3
    exact h4
  have gen : ∀ l : List (V × D × Int), (∀ t ∈ l, Rep C η H t.1 t.2.1) → Reps C η H (l.map ((fun p : V × Int => p.1) ∘ fun t : V × D × Int => (t.1, t.2.2))) (l.map ((fun p : D × Int => p.1) ∘ fun t : V × D × Int => t.2)) := by
    intro l
    induction l with
    | nil => intro _; exact .nil
    | cons t l ih => intro h; exact .cons (h t List.mem_cons_self) (ih fun u hu => h u (List.mem_cons_of_mem _ hu))
  exact gen _ fun t ht => hmem t (List.mem_mergeSort.mp ht)
theorem Slots.key {C : Cc} {η : Nm} {H : Hp} {σ : L2.St} {ρ : En} {x : V} {d : D} (s : Slots C η H σ ρ) (vs : List Nat) (r : Rep C η H x d) : Slots C η H (L2.wipe σ vs ++ [some x]) (wipeE ρ vs ++ [some d]) := by
  have s' := s.wipe vs
  refine ⟨by rw [List.length_append, List.length_append, s'.len]; rfl, fun i e h => ?_⟩
  by_cases hi : i < (wipeE ρ vs).length
  · rw [List.getElem?_append_left hi] at h
    rw [List.getElem?_append_left (by rw [s'.len]; exact hi)]
    exact s'.at_ i e h
  · rw [List.getElem?_append_right (by omega)] at h
    rw [List.getElem?_append_right (by rw [s'.len]; omega), s'.len]
    have hz : i - (wipeE ρ vs).length = 0 := by
      by_cases z : i - (wipeE ρ vs).length = 0
      · exact z
      · rw [List.getElem?_eq_none (by simp; omega)] at h; cases h
    rw [hz] at h ⊢
    simp at h
    subst h
    exact ⟨x, rfl, r⟩
section
variable {X : Cx} {C : Cc} {W : WX}
theorem sortKey_core {η η0 : Nm} {H1 H0 : Hp} {σ : L2.St} {ρ : En} {μ : Sto} {a : Addr} {ws : List V} {ds : List D} {ks : List Int} {fk : FE D} {vs : List Nat} {Q : VK} {σ' : L2.St} (s : Slots C η H1 σ ρ) (o : Ok C η H1 μ) (hsrc : ∀ H2, ExtN H1 H2 → Src C.K H2 a ws) (r : Reps C η H1 ws ds) (hk : keysD fk ρ vs μ ds = some ks) (n0 : Nxt C η0 H0 η H1)
    (p : Post C W η H1 σ' (PL C H0 Q) (.ok (sortK ds ks) μ)) : Tabs C.T H1 ∧ ∀ H2, ExtN H1 H2 → Tabs C.T H2 → ∃ a' ws' ks', [V.ref a] = [.ref a'] ∧ Src C.K H2 a' ws' ∧ ks'.length = ws'.length ∧
      ∃ G : Hp → Prop, G H2 ∧ (∀ H' c q, G H' → H2 c = some (CodeO c q) → H' c = some (CodeO c q)) ∧
      (∀ (i : Nat) (x : V) (k : Int), ws'[i]? = some x → ks'[i]? = some k → ∀ H', G H' → tD C W0 fk (wipe σ vs ++ [some x]) H' fun v H'' => v = .int k ∧ G H'') ∧ ∀ H' p, G H' → H' p = none → Q (.ref p) (upd H' p (.lst (sortV ws' ks'))) := by
  refine ⟨o.tab, fun H2 x t => ⟨a, ws, ks, rfl, hsrc H2 x, by rw [keysD_len hk, r.length], fun H' => ∃ η', Nxt C η H2 η' H' ∧ Ok C η' H' μ, ⟨η, Nxt.refl .., extN_ok o x t⟩, ?_, ?_, ?_⟩⟩
  · rintro H' c q ⟨η', n, o'⟩ hc
    refine n.keep c _ hc (fun hm => ?_) (fun ps z => codeO_ne ps z)
    obtain ⟨i, hi⟩ := List.mem_iff_getElem?.mp hm
    have o2 := extN_ok o x t
    have hil : i < μ.length := by rw [← o2.len]; exact (List.getElem?_eq_some_iff.mp hi).1
    obtain ⟨ob, h1, h2⟩ := o2.at_ i c _ hi (List.getElem?_eq_getElem hil)
    rw [hc] at h1
    cases h1
    exact h2.mut.code _ _ rfl
  · rintro i y k hy hk' H' ⟨η', n, o'⟩
    obtain ⟨d, hd, rd⟩ := r.get' hy
    have n1 : Nxt C η H1 η' H' := (extN_nxt x).trans n
    refine ⟨η', wipeE ρ vs ++ [some d], μ, (s.mono n1).key vs (rd.mono n1), o', ?_⟩
    rw [keysD_get hk hd hk']
    exact fun η'' H'' n2 o2 v rv => ⟨rv.int_inv, η'', n.trans n2, o2⟩
  · rintro H' q ⟨η', n, o'⟩ hq
    have n1 : Nxt C η H1 η' H' := (extN_nxt x).trans n
    exact Post.newL (p.mono n1) (n0.trans n1) o' hq ((reps_sort r (by rw [keysD_len hk])).mono n1)
variable {e a body : Expr} {fa fk : FE D} {fs : FE (List D)} {params : Arguments} {scope : Scope} {x : Str} {c P : Addr} {k : Nat} {p lpos kpos pos p2 pos2 : Pos}
noncomputable def eSortKey (fe : FE D) (vs : List Nat) (fk : FE D) : FE (List D) := fun ρ μ => (fe ρ μ).bind fun d μ1 => match seqOf μ1 d with | some ds => (match keysD fk ρ vs μ1 ds with | some ks => .ok (sortK ds ks) μ1 | none => .bad) | none => .bad
theorem src_ext {H1 H2 : Hp} {a : Addr} {ws : List V} (x : ExtN H1 H2) (h : SqL C.K H1 a ws ∨ SqT C.K H1 a ws) : Src C.K H2 a ws := by
  rcases h with h | h
  · refine .inl ?_
    rcases h with (h | ⟨o, h⟩) | h
    · exact .inl (.inl (x _ _ h fun ps z => by cases z))
    · exact .inl (.inr ⟨o, x _ _ h fun ps z => by cases z⟩)
    · exact .inr h
  · refine .inr (.inl ?_)
    rcases h with (h | ⟨o, h⟩) | h
    · exact .inl (.inl (x _ _ h fun ps z => by cases z))
    · exact .inl (.inr ⟨o, x _ _ h fun ps z => by cases z⟩)
    · exact .inr h
theorem de_sortKey (vs : List Nat) (hm : X.mg "sorted" = none) (he : DE X C W e fa) (TB : TabB X.base X.mg c P) (hmT : (P, X.env.qual ++ "<lambda>") ∈ C.T) (hu : ∀ p ∈ C.T, p.1 = P → p.2 = X.env.qual ++ "<lambda>") (hr : Room (k + 2) X.A)
    (hbody : ∀ (A : Around) (outer : List Env) (s : Shared) (H : Hp) (f c' : Addr), Room k (A.deeper (lamEnv X scope s.heap.objs.size f c')) → DE (lamCx1 X A outer s H (fun _ _ _ => False) scope f c' x) C W0 body fk)
    (hw : ∀ j, X.N[j]? = some x → j ∈ vs) (hcode : X.env.code = .ref c := by rfl) (hg : Gl X "sorted" := by rfl) (L : LamS1 X.env.scope scope x := by exact LamY.lamS1_by rfl) (hdef : defaultsOf params X.env = ([], []) := by rfl)
    (hbind : ∀ (q : Str) (cl : List (Str × Addr)) (pm cv ctv u : Value), bindArgs (PySem.W.kla_fn "<lambda>" q params body scope cl pm cv ctv) ⟨[u], []⟩ = pure [(x, u)] := by intros; rfl)
    (na : starEach [e] X.env = (false, eval e X.env) :: starEach [] X.env := by rfl)
    (hes : backTo pos (starEach [e] X.env) = (false, eval e X.env) :: backTo pos (starEach [] X.env) := by rfl) (hpl : (backTo pos (starEach [e] X.env)).any (·.1) = false := by rfl)
    (hall : (backToKw pos (keywordEach [⟨some "key", .Lambda params body scope lpos, kpos⟩] X.env)).all (·.1.isSome) = true := by rfl) (hnone : (backToKw pos (keywordEach [⟨some "key", .Lambda params body scope lpos, kpos⟩] X.env)).any (·.1.isNone) = false := by rfl)
    (hks : (backToKw pos (keywordEach [⟨some "key", .Lambda params body scope lpos, kpos⟩] X.env)).filterMap (·.1) = ([Str.ofString "key"] : List Str) := by rfl) (hK : X.K = C.K := by rfl) :
    DEL X C W (.Call (.Name "sorted" p) [e] [⟨some "key", .Lambda params body scope lpos, kpos⟩] pos) (eSortKey fa vs fk) := by
  refine ⟨pe_imp (pe_sortKey (T := C.T) hg hm (pa_cons he.pe pa_nil na) TB hcode hmT hu hr L hw hdef hbind (fun A outer s H f c' h => (hbody A outer s H f c' h).pe) hes hpl hall hnone hks) fun σ H Q => ?_⟩
  rintro ⟨η, ρ, μ, s, o, p⟩
  refine ⟨η, ρ, μ, s, o, p.bind fun d η1 H1 μ1 n1 o1 p1 v rv => ?_⟩
  show Tabs C.T H1 ∧ _
  split at p1
  · rename_i ds e1
    split at p1
    · rename_i ks e2
      obtain ⟨a0, ws, rfl, hq, rw'⟩ := seq_ok o1 rv e1
      rw [hK]
      exact sortKey_core (s.mono n1) o1 (fun H2 x => src_ext x hq) rw' e2 n1 p1
    · exact p1.elim
  · exact p1.elim
theorem cr_range1 : CallR X (.type "range") (fun vs H Q => ∃ j, vs = [V.int j] ∧ ∀ p, H p = none → Q (.ref p) (upd H p (.rng 0 j))) := by
  intro pins s σ H vs us Q I r h
  obtain ⟨j, rfl, q⟩ := h
  cases r with
  | cons rj rn =>
    cases rn
    obtain ⟨t, rfl⟩ := rj
    refine PySem.call_range_1 ⟨.ref s.heap.objs.size, upd H s.heap.objs.size (.rng 0 j), I.laid (t' := s.toks + 1 + 1) (fun b o e => Heap.get?_push_of_some _ e) (Nat.le_refl _) ?_, rfl, q _ (I.hok.fresh (Nat.le_refl _))⟩
    exact ⟨s.toks, t, s.toks + 1, Heap.get?_push_size _ rfl⟩
noncomputable def eSortKeyR (fe : FE D) (vs : List Nat) (fk : FE D) : FE (List D) := fun ρ μ => (fe ρ μ).bind fun d μ1 => match d with | .int n => if lrOk 0 n = true then (match keysD fk ρ vs μ1 (rangeD 0 n.toNat) with | some ks => .ok (sortK (rangeD 0 n.toNat) ks) μ1 | none => .bad) else .bad | _ => .bad
theorem de_sortKeyR (vs : List Nat) (hm2 : X.mg "range" = none) (hm : X.mg "sorted" = none) (he : DE X C W a fa) (TB : TabB X.base X.mg c P) (hmT : (P, X.env.qual ++ "<lambda>") ∈ C.T) (hu : ∀ p ∈ C.T, p.1 = P → p.2 = X.env.qual ++ "<lambda>") (hr : Room (k + 2) X.A)
    (hbody : ∀ (A : Around) (outer : List Env) (s : Shared) (H : Hp) (f c' : Addr), Room k (A.deeper (lamEnv X scope s.heap.objs.size f c')) → DE (lamCx1 X A outer s H (fun _ _ _ => False) scope f c' x) C W0 body fk)
    (hw : ∀ j, X.N[j]? = some x → j ∈ vs) (hcode : X.env.code = .ref c := by rfl) (hg : Gl X "sorted" := by rfl) (hg2 : Gl X "range" := by rfl) (L : LamS1 X.env.scope scope x := by exact LamY.lamS1_by rfl) (hdef : defaultsOf params X.env = ([], []) := by rfl)
    (hbind : ∀ (q : Str) (cl : List (Str × Addr)) (pm cv ctv u : Value), bindArgs (PySem.W.kla_fn "<lambda>" q params body scope cl pm cv ctv) ⟨[u], []⟩ = pure [(x, u)] := by intros; rfl)
    (na : starEach [Expr.Call (.Name "range" p2) [a] [] pos2] X.env = (false, eval (.Call (.Name "range" p2) [a] [] pos2) X.env) :: starEach [] X.env := by rfl) (nb : starEach [a] X.env = (false, eval a X.env) :: starEach [] X.env := by rfl) (npl : (backTo pos2 (starEach [] X.env)).any (·.1) = false := by rfl)
    (hes : backTo pos (starEach [Expr.Call (.Name "range" p2) [a] [] pos2] X.env) = (false, eval (.Call (.Name "range" p2) [a] [] pos2) X.env) :: backTo pos (starEach [] X.env) := by rfl) (hpl : (backTo pos (starEach [Expr.Call (.Name "range" p2) [a] [] pos2] X.env)).any (·.1) = false := by rfl)
    (hall : (backToKw pos (keywordEach [⟨some "key", .Lambda params body scope lpos, kpos⟩] X.env)).all (·.1.isSome) = true := by rfl) (hnone : (backToKw pos (keywordEach [⟨some "key", .Lambda params body scope lpos, kpos⟩] X.env)).any (·.1.isNone) = false := by rfl)
    (hks : (backToKw pos (keywordEach [⟨some "key", .Lambda params body scope lpos, kpos⟩] X.env)).filterMap (·.1) = ([Str.ofString "key"] : List Str) := by rfl) (hK : X.K = C.K := by rfl) :
    DEL X C W (.Call (.Name "sorted" p) [.Call (.Name "range" p2) [a] [] pos2] [⟨some "key", .Lambda params body scope lpos, kpos⟩] pos) (eSortKeyR fa vs fk) := by
  have hpe := pe_callTy (p := p2) (pos := pos2) cr_range1 hg2 hm2 boot_range (pa_cons he.pe pa_nil nb) (by decide) (by decide) nb npl
  refine ⟨pe_imp (pe_sortKey (T := C.T) hg hm (pa_cons hpe pa_nil na) TB hcode hmT hu hr L hw hdef hbind (fun A outer s H f c' h => (hbody A outer s H f c' h).pe) hes hpl hall hnone hks) fun σ H Q => ?_⟩
  rintro ⟨η, ρ, μ, s, o, p⟩
  refine ⟨η, ρ, μ, s, o, p.bind fun d η1 H1 μ1 n1 o1 p1 v rv => ?_⟩
  cases d with
  | int n =>
    dsimp only at p1
    split at p1
    · rename_i hok
      split at p1
      · rename_i ks e2
        refine ⟨n, by rw [rv.int_inv], fun q hq => ?_⟩
        have sm : Same H1 (upd H1 q (.rng 0 n)) := Same.new hq
        have nx : Nxt C η1 H1 η1 (upd H1 q (.rng 0 n)) := Same.nxt sm
        have o2 : Ok C η1 (upd H1 q (.rng 0 n)) μ1 := (o1.hide (p := q) hq (fun ps z => by cases z)).show_
        show Tabs C.T (upd H1 q (.rng 0 n)) ∧ _
        rw [hK]
        have rr := reps_rg (C := C) (η := η1) (H := upd H1 q (.rng 0 n)) 0 n
        rw [Int.sub_zero] at rr
        exact sortKey_core ((s.mono n1).mono nx) o2 (fun H2 x => .inr (.inr ⟨0, n, x _ _ upd_same (fun ps z => by cases z), rfl, lrOk_rg hok⟩)) rr e2 (n1.trans nx) (p1.mono nx)
      · exact p1.elim
    · exact p1.elim
  | _ => exact p1.elim
end
@[simp] theorem x_eSortKey {fe fk : FE D} {vs : List Nat} {ρ : En} {μ : Sto} : eSortKey fe vs fk ρ μ = (fe ρ μ).bind fun d μ1 => match seqOf μ1 d with | some ds => (match keysD fk ρ vs μ1 ds with | some ks => .ok (sortK ds ks) μ1 | none => .bad) | none => .bad := (rfl)
@[simp] theorem x_eSortKeyR {fe fk : FE D} {vs : List Nat} {ρ : En} {μ : Sto} : eSortKeyR fe vs fk ρ μ = (fe ρ μ).bind fun d μ1 => match d with | .int n => if lrOk 0 n = true then (match keysD fk ρ vs μ1 (rangeD 0 n.toNat) with | some ks => .ok (sortK (rangeD 0 n.toNat) ks) μ1 | none => .bad) else .bad | _ => .bad := (rfl)
end DL
namespace DL
open PySem PySem.Spec PyProof.Rows L2
theorem wp_by {N : List Str} {a : Str} {vs : List Nat} (h : ((List.range N.length).all fun j => decide (N[j]? = some a → j ∈ vs)) = true) : ∀ j, N[j]? = some a → j ∈ vs := fun j hj => by
  have hl := (List.getElem?_eq_some_iff.mp hj).1
  exact of_decide_eq_true (List.all_eq_true.mp h j (List.mem_range.mpr hl)) hj
theorem tabs_all {H : Hp} {l : List (Addr × Str)} (h : ∀ p ∈ l, H p.1 = some (.tbl #[])) : LamX.Tabs l H := fun p hp => LamX.TabS.nil (h p hp)
end DL
namespace DL
open PySem PySem.Spec PyProof.Rows L2
/-! ### the order of ints and tuples -/
theorem pyD_int (i : Int) : pyD (.int i) = .int i := by unfold pyD; rw [toPy]; rfl
theorem pyD_tup {ds : List D} {k : Nat} (h : ∀ d ∈ ds, pl k d = true) : pyD (.tup ds) = .tuple (ds.map pyD) := by
  unfold pyD
  rw [toPy, pyDs h]
  rfl
@[simp] theorem dlt_int (i j : Int) : dlt (.int i) (.int j) = decide (i < j) := by
  unfold dlt
  rw [pyD_int, pyD_int, PySem.W.dataLt_int]
@[simp] theorem alk_int (i j : Int) : alk (.int i) (.int j) = true := by
  unfold alk
  rw [pyD_int, pyD_int]
  simp [PySem.W.alike]
theorem lexTok (x : PyData) (xs : List PyData) : PySem.W.dataLt (.tuple []) (.tuple (x :: xs)) = true ∧ PySem.W.dataLt (.tuple (x :: xs)) (.tuple []) = false ∧ PySem.W.dataLt (.tuple []) (.tuple []) = false := by
  have h01 : itemLt (.inl 0) (.inl 1) = true := by simp [itemLt]
  have h10 : itemLt (.inl 1) (.inl 0) = false := by simp [itemLt]
  refine ⟨?_, ?_, lex_irrefl (O := itemOrd) _⟩
  · show lexLt itemOrd (Sum.inl 0 :: []) (Sum.inl 1 :: (PySem.W.keyToks x ++ PySem.W.keyToksAll xs)) = true
    rw [lex_cons (O := itemOrd)]
    show (itemLt (.inl 0) (.inl 1) || (!itemLt (.inl 1) (.inl 0) && lexLt itemOrd [] _)) = true
    rw [h01]; rfl
  · show lexLt itemOrd (Sum.inl 1 :: (PySem.W.keyToks x ++ PySem.W.keyToksAll xs)) (Sum.inl 0 :: []) = false
    rw [lex_cons (O := itemOrd)]
    show (itemLt (.inl 1) (.inl 0) || (!itemLt (.inl 0) (.inl 1) && lexLt itemOrd _ [])) = false
    rw [h01, h10]; rfl
theorem dlt_nil : dlt (.tup []) (.tup []) = false := by
  unfold dlt
  rw [pyD_tup (k := 0) (by simp)]
  exact (lexTok .none []).2.2
theorem dlt_nil_cons {y : D} {ys : List D} {k : Nat} (h : ∀ d ∈ y :: ys, pl k d = true) : dlt (.tup []) (.tup (y :: ys)) = true := by
  unfold dlt
  rw [pyD_tup (k := 0) (by simp), pyD_tup h]
  exact (lexTok _ _).1
theorem dlt_cons_nil {y : D} {ys : List D} {k : Nat} (h : ∀ d ∈ y :: ys, pl k d = true) : dlt (.tup (y :: ys)) (.tup []) = false := by
  unfold dlt
  rw [pyD_tup (k := 0) (ds := []) (by simp), pyD_tup h]
  exact (lexTok _ _).2.1
open Classical in
theorem dlt_cons {x y : D} {xs ys : List D} {k : Nat} (hx : ∀ d ∈ x :: xs, pl k d = true) (hy : ∀ d ∈ y :: ys, pl k d = true) (ha : alk x y = true) : dlt (.tup (x :: xs)) (.tup (y :: ys)) = if x = y then dlt (.tup xs) (.tup ys) else dlt x y := by
  have hx' : ∀ d ∈ xs, pl k d = true := fun d hd => hx d (List.mem_cons_of_mem _ hd)
  have hy' : ∀ d ∈ ys, pl k d = true := fun d hd => hy d (List.mem_cons_of_mem _ hd)
  have px := hx x List.mem_cons_self
  have py' := hy y List.mem_cons_self
  unfold dlt
  rw [pyD_tup hx, pyD_tup hy, pyD_tup hx', pyD_tup hy', PySem.W.dataLt_tuple, PySem.W.dataLt_tuple, List.map_cons, List.map_cons, PySem.W.dataLt_cons ha]
  have e := pl_eqv px py' (pyD_of px) (pyD_of py')
  by_cases c : x = y
  · rw [if_pos (e.mpr c), if_pos c]
  · rw [if_neg (fun z => c (e.mp z)), if_neg c]
open Classical in
theorem dlt_pair {x y u v : D} {k : Nat} (hx : pl k x = true) (hy : pl k y = true) (hu : pl k u = true) (hv : pl k v = true) (ha : alk x u = true) (hb : alk y v = true) : dlt (.tup [x, y]) (.tup [u, v]) = if x = u then (if y = v then false else dlt y v) else dlt x u := by
  rw [dlt_cons (k := k) (by simp [hx, hy]) (by simp [hu, hv]) ha, dlt_cons (k := k) (by simp [hy]) (by simp [hv]) hb, dlt_nil]
theorem alk_tups : ∀ {xs ys : List D} {k j : Nat}, (∀ d ∈ xs, pl k d = true) → (∀ d ∈ ys, pl j d = true) → (∀ d ∈ xs, ∀ e ∈ ys, alk d e = true) → alk (.tup xs) (.tup ys) = true := by
  intro xs ys k j hx hy h
  unfold alk
  rw [pyD_tup hx, pyD_tup hy]
  simp only [PySem.W.alike]
  have : ∀ xs ys : List D, (∀ d ∈ xs, ∀ e ∈ ys, alk d e = true) → PySem.W.alikeAll (xs.map pyD) (ys.map pyD) = true := by
    intro xs
    induction xs with
    | nil => intro ys _; simp [PySem.W.alikeAll]
    | cons x xs ih =>
      intro ys h
      cases ys with
      | nil => simp [PySem.W.alikeAll]
      | cons y ys =>
        simp only [List.map_cons, PySem.W.alikeAll, Bool.and_eq_true]
        exact ⟨h x List.mem_cons_self y List.mem_cons_self, ih ys fun d hd e he => h d (List.mem_cons_of_mem _ hd) e (List.mem_cons_of_mem _ he)⟩
  exact this xs ys h
theorem alk_pair {x y u v : D} {k : Nat} (hx : pl k x = true) (hy : pl k y = true) (hu : pl k u = true) (hv : pl k v = true) (ha : alk x u = true) (hb : alk y v = true) : alk (.tup [x, y]) (.tup [u, v]) = true := by
  unfold alk at *
  rw [pyD_tup (k := k) (by simp [hx, hy]), pyD_tup (k := k) (by simp [hu, hv])]
  simp [PySem.W.alike, PySem.W.alikeAll, ha, hb]

/-! ### tuples of numbers -/
def natD (n : Nat) : D := .int n
def natsL (o : List Nat) : List D := o.map natD
abbrev natsD (o : List Nat) : D := .tup (natsL o)
theorem natD_inj {a b : Nat} (h : natD a = natD b) : a = b := by
  unfold natD at h
  have := D.int.inj h
  omega
theorem natsL_inj : ∀ {a b : List Nat}, natsL a = natsL b → a = b
  | [], [], _ => rfl
  | [], y :: ys, h => by simp [natsL] at h
  | x :: xs, [], h => by simp [natsL] at h
  | x :: xs, y :: ys, h => by
    simp only [natsL, List.map_cons, List.cons.injEq] at h
    rw [natD_inj h.1, natsL_inj h.2]
theorem natsD_inj {a b : List Nat} (h : natsD a = natsD b) : a = b := natsL_inj (D.tup.inj h)
theorem pl_nat (k n : Nat) : pl k (natD n) = true := pl_int _ _
theorem pls_nats (k : Nat) (o : List Nat) : pls k (natsL o) = true := pls_map fun _ _ => pl_nat _ _
theorem pl_nats (k : Nat) (o : List Nat) : pl (k + 1) (natsD o) = true := by unfold natsD; rw [pl_tup]; exact pls_nats _ _
theorem fit_nats {o : List Nat} (h : o.length ≤ SZ) : fitD (natsD o) = true := fit_map h fun _ _ => fit_int _
theorem alk_nats (a b : List Nat) : alk (natsD a) (natsD b) = true := alk_tups (k := 0) (j := 0) (pls_iff.mp (pls_nats _ _)) (pls_iff.mp (pls_nats _ _)) fun d hd e he => by
  obtain ⟨i, _, rfl⟩ := List.mem_map.mp hd
  obtain ⟨j, _, rfl⟩ := List.mem_map.mp he
  exact alk_int _ _
def lexN : List Nat → List Nat → Bool
  | [], [] => false
  | [], _ :: _ => true
  | _ :: _, [] => false
  | a :: x, b :: y => decide (a < b) || (decide (a = b) && lexN x y)
open Classical in
theorem dlt_nats : ∀ a b : List Nat, dlt (natsD a) (natsD b) = lexN a b
  | [], [] => dlt_nil
  | [], y :: ys => dlt_nil_cons (k := 0) (pls_iff.mp (pls_nats 0 (y :: ys)))
  | x :: xs, [] => dlt_cons_nil (k := 0) (pls_iff.mp (pls_nats 0 (x :: xs)))
  | x :: xs, y :: ys => by
    have h := dlt_cons (k := 0) (pls_iff.mp (pls_nats 0 (x :: xs))) (pls_iff.mp (pls_nats 0 (y :: ys))) (alk_int x y)
    have e : dlt (natsD (x :: xs)) (natsD (y :: ys)) = if natD x = natD y then dlt (natsD xs) (natsD ys) else dlt (natD x) (natD y) := h
    rw [e, lexN, dlt_nats xs ys]
    by_cases c : x = y
    · subst c; simp
    · rw [if_neg fun z => c (natD_inj z)]
      show dlt (.int x) (.int y) = _
      rw [dlt_int]
      simp [c]
theorem lexN_irrefl : ∀ a, lexN a a = false
  | [] => rfl
  | a :: x => by simp [lexN, lexN_irrefl x]
theorem lexN_trans : ∀ {a b c : List Nat}, lexN a b = true → lexN b c = true → lexN a c = true
  | [], [], _, h, _ => by cases h
  | [], _ :: _, [], _, h => by cases h
  | [], _ :: _, _ :: _, _, _ => rfl
  | _ :: _, [], _, h, _ => by cases h
  | _ :: _, _ :: _, [], _, h => by cases h
  | a :: x, b :: y, c :: z, h1, h2 => by
    simp only [lexN, Bool.or_eq_true, Bool.and_eq_true, decide_eq_true_eq] at *
    rcases h1 with h1 | ⟨e1, h1⟩
    · rcases h2 with h2 | ⟨e2, h2⟩
      · left; omega
      · left; omega
    · rcases h2 with h2 | ⟨e2, h2⟩
      · left; omega
      · right; exact ⟨by omega, lexN_trans h1 h2⟩
theorem lexN_tri : ∀ a b : List Nat, a = b ∨ lexN a b = true ∨ lexN b a = true
  | [], [] => .inl rfl
  | [], _ :: _ => .inr (.inl rfl)
  | _ :: _, [] => .inr (.inr rfl)
  | a :: x, b :: y => by
    simp only [lexN, Bool.or_eq_true, Bool.and_eq_true, decide_eq_true_eq]
    by_cases h : a = b
    · subst h
      rcases lexN_tri x y with h | h | h
      · exact .inl (by rw [h])
      · exact .inr (.inl (.inr ⟨rfl, h⟩))
      · exact .inr (.inr (.inr ⟨rfl, h⟩))
    · by_cases h2 : a < b
      · exact .inr (.inl (.inl h2))
      · exact .inr (.inr (.inl (by omega)))
theorem lexN_asymm {a b : List Nat} (h : lexN a b = true) : lexN b a = false := by
  cases e : lexN b a with
  | false => rfl
  | true => have := lexN_trans h e; rw [lexN_irrefl] at this; cases this
/-- the least of some, by a relation that is asked of typed items -/
def minBy {α : Type} (lt : α → α → Bool) (x : α) (xs : List α) : α := xs.foldl (fun a y => if lt y a = true then y else a) x
theorem minP_map {α : Type} {enc : α → D} {lt : α → α → Bool} (h : ∀ a b, dlt (enc a) (enc b) = lt a b) (xs : List α) : ∀ x, minP (enc x) (xs.map enc) = enc (minBy lt x xs) := by
  induction xs with
  | nil => intro x; rfl
  | cons y xs ih =>
    intro x
    show minP (if dlt (enc y) (enc x) = true then enc y else enc x) (xs.map enc) = enc (minBy lt (if lt y x = true then y else x) xs)
    rw [h, ← ih]
    split <;> rfl
theorem minBy_mem {α : Type} (lt : α → α → Bool) (xs : List α) : ∀ x, minBy lt x xs ∈ x :: xs := by
  induction xs with
  | nil => intro x; simp [minBy]
  | cons y xs ih =>
    intro x
    show minBy lt (if lt y x = true then y else x) xs ∈ _
    have := ih (if lt y x = true then y else x)
    rcases List.mem_cons.mp this with e | m
    · rw [e]; split <;> simp
    · simp [m]
/-- a strict order without ties -/
structure Sto' {α : Type} (lt : α → α → Bool) : Prop where
  irr : ∀ a, lt a a = false
  tr : ∀ a b c, lt a b = true → lt b c = true → lt a c = true
  tri : ∀ a b, a = b ∨ lt a b = true ∨ lt b a = true
theorem minBy_least {α : Type} {lt : α → α → Bool} (s : Sto' lt) (xs : List α) : ∀ x, ∀ y ∈ x :: xs, lt y (minBy lt x xs) = false := by
  induction xs with
  | nil => intro x y hy; rw [List.mem_singleton.mp hy]; exact s.irr _
  | cons z xs ih =>
    intro x y hy
    show lt y (minBy lt (if lt z x = true then z else x) xs) = false
    have hm := ih (if lt z x = true then z else x)
    have key : ∀ w, w = x ∨ w = z → lt w (minBy lt (if lt z x = true then z else x) xs) = false := by
      intro w hw
      cases e : lt w (minBy lt (if lt z x = true then z else x) xs) with
      | false => rfl
      | true =>
        exfalso
        have h0 := hm _ List.mem_cons_self
        generalize minBy lt (if lt z x = true then z else x) xs = m at e h0
        by_cases c : lt z x = true
        · rw [if_pos c] at h0
          rcases hw with rfl | rfl
          · have := s.tr _ _ _ c e; rw [this] at h0; cases h0
          · rw [e] at h0; cases h0
        · rw [if_neg c] at h0
          rcases hw with rfl | rfl
          · rw [e] at h0; cases h0
          · rcases s.tri w x with r | r | r
            · rw [r, h0] at e; cases e
            · exact c r
            · have := s.tr _ _ _ r e; rw [this] at h0; cases h0
    rcases List.mem_cons.mp hy with h | h
    · exact key y (.inl h)
    · rcases List.mem_cons.mp h with h | h
      · exact key y (.inr h)
      · exact hm y (List.mem_cons_of_mem _ h)
theorem lexN_sto : Sto' lexN := ⟨lexN_irrefl, fun _ _ _ => lexN_trans, lexN_tri⟩
theorem cmpAll_map {α : Type} {enc : α → D} (l : List α) (h : ∀ a ∈ l, pl 31 (enc a) = true ∧ isNon (enc a) = false) (ha : ∀ a ∈ l, ∀ b ∈ l, alk (enc a) (enc b) = true) : cmpAll (l.map enc) = true := by
  unfold cmpAll
  rw [List.all_eq_true]
  intro d hd
  obtain ⟨a, m, rfl⟩ := List.mem_map.mp hd
  rw [Bool.and_eq_true, Bool.and_eq_true, List.all_eq_true]
  refine ⟨⟨(h a m).1, by rw [(h a m).2]; rfl⟩, fun e he => ?_⟩
  obtain ⟨b, m', rfl⟩ := List.mem_map.mp he
  exact ha a m b m'
theorem cmpAll_nats (l : List (List Nat)) : cmpAll (l.map natsD) = true := cmpAll_map l (fun a _ => ⟨pl_nats 30 a, rfl⟩) fun a _ b _ => alk_nats a b
theorem cmpAll_ints (l : List Int) : cmpAll (l.map .int) = true := cmpAll_map l (fun a _ => ⟨pl_int _ _, rfl⟩) fun a _ b _ => alk_int a b
theorem srtb_ints (l : List Int) : srtb (l.map .int) = true := by
  unfold srtb
  rw [Bool.or_eq_true]
  refine .inr (List.all_eq_true.mpr fun d hd => ?_)
  obtain ⟨a, _, rfl⟩ := List.mem_map.mp hd
  rfl
theorem sortP_ints (l : List Int) : sortP (l.map .int) = (sortI l).map .int := by
  unfold sortP sortI
  refine (List.map_mergeSort fun a _ b _ => ?_).symm
  rw [PySem.W.dataLe_eq]
  show decide (a ≤ b) = !PySem.W.dataLt (pyD (.int b)) (pyD (.int a))
  rw [pyD_int, pyD_int, PySem.W.dataLt_int]
  by_cases h : a ≤ b
  · simp [h]
  · simp [h]; omega
@[simp] theorem x_gSortP {d : D} {μ : Sto} : gSortP [d] μ = match seqOf μ d with | some ds => if cmpAll ds = true ∧ srtb ds = true then .ok (sortP ds) μ else .bad | none => .bad := by
  show (match seqOf μ d with | some ds => if cmpAll ds = true ∧ srtb ds = true then R.ok (sortP ds) μ else .bad | _ => .bad) = _
  cases seqOf μ d <;> rfl
theorem gSortP_ints {μ : Sto} {l : List Int} : gSortP [.tup (l.map .int)] μ = .ok ((sortI l).map .int) μ := by
  simp [cmpAll_ints, srtb_ints, sortP_ints]
end DL
namespace DL
/-! ### all orders, all choices -/
theorem sub_perm {α : Type} [BEq α] [LawfulBEq α] : ∀ {P Q : List α}, P.Nodup → (∀ x ∈ P, x ∈ Q) → ∃ R, Q.Perm (P ++ R)
  | [], Q, _, _ => ⟨Q, .refl _⟩
  | p :: P, Q, hn, h => by
    rw [List.nodup_cons] at hn
    have hp := List.perm_cons_erase (h p List.mem_cons_self)
    obtain ⟨R, hR⟩ := sub_perm (P := P) (Q := Q.erase p) hn.2 fun x hx => by
      have hne : x ≠ p := fun e => hn.1 (e ▸ hx)
      exact (List.mem_erase_of_ne hne).mpr (h x (List.mem_cons_of_mem _ hx))
    exact ⟨R, hp.trans (hR.cons p)⟩
theorem perm_of_len {α : Type} [BEq α] [LawfulBEq α] {P Q : List α} (hn : P.Nodup) (h : ∀ x ∈ P, x ∈ Q) (hl : P.length = Q.length) : P.Perm Q := by
  obtain ⟨R, hR⟩ := sub_perm hn h
  have := hR.length_eq
  rw [List.length_append] at this
  have e : R = [] := List.length_eq_zero_iff.mp (by omega)
  rw [e, List.append_nil] at hR
  exact hR.symm
def extN (xs own : List Nat) : List (List Nat) := (xs.filter fun x => decide (x ∉ own)).map fun x => own ++ [x]
def ordersN (xs : List Nat) : Nat → List (List Nat)
  | 0 => [[]]
  | k + 1 => (ordersN xs k).flatMap (extN xs)
theorem mem_ordersN {xs : List Nat} : ∀ {k : Nat} {o : List Nat}, o ∈ ordersN xs k ↔ o.length = k ∧ o.Nodup ∧ ∀ x ∈ o, x ∈ xs
  | 0, o => by
    simp only [ordersN, List.mem_singleton]
    constructor
    · rintro rfl; exact ⟨rfl, List.nodup_nil, by simp⟩
    · rintro ⟨h, _, _⟩; exact List.length_eq_zero_iff.mp h
  | k + 1, o => by
    simp only [ordersN, extN, List.mem_flatMap, List.mem_map, List.mem_filter, decide_eq_true_eq]
    constructor
    · rintro ⟨own, ho, x, ⟨hx, hn⟩, rfl⟩
      obtain ⟨h1, h2, h3⟩ := mem_ordersN.mp ho
      refine ⟨by simp [h1], ?_, fun y hy => ?_⟩
      · rw [List.nodup_append]
        exact ⟨h2, by simp, fun a ha b hb e => hn (by rw [← List.mem_singleton.mp hb, ← e]; exact ha)⟩
      · rcases List.mem_append.mp hy with q | q
        · exact h3 y q
        · rw [List.mem_singleton.mp q]; exact hx
    · rintro ⟨h1, h2, h3⟩
      have hne : o ≠ [] := fun e => by rw [e] at h1; simp at h1
      have e := List.dropLast_concat_getLast hne
      generalize o.dropLast = own at e
      generalize o.getLast hne = x at e
      subst e
      rw [List.nodup_append] at h2
      refine ⟨own, mem_ordersN.mpr ⟨by simp at h1; omega, h2.1, fun y hy => h3 y (by simp [hy])⟩, x, ⟨h3 x (by simp), fun hx => h2.2.2 x hx x (by simp) rfl⟩, rfl⟩
theorem ordersN_len (xs : List Nat) : ∀ k, (ordersN xs k).length ≤ xs.length ^ k
  | 0 => by simp [ordersN]
  | k + 1 => by
    have ih := ordersN_len xs k
    rw [ordersN, List.length_flatMap, Nat.pow_succ]
    have : ∀ l : List (List Nat), (l.map fun own => (extN xs own).length).sum ≤ l.length * xs.length := by
      intro l
      induction l with
      | nil => simp
      | cons a l ih2 =>
        simp only [List.map_cons, List.sum_cons, List.length_map, List.length_cons, extN] at *
        have := List.length_filter_le (fun x => decide (x ∉ a)) xs
        rw [Nat.add_mul, Nat.one_mul]
        omega
    exact Nat.le_trans (this _) (Nat.mul_le_mul_right _ ih)
theorem mem_orders {xs o : List Nat} (hx : xs.Nodup) : o ∈ ordersN xs xs.length ↔ o.Perm xs := by
  rw [mem_ordersN]
  constructor
  · rintro ⟨h1, h2, h3⟩; exact perm_of_len h2 h3 h1
  · intro h; exact ⟨h.length_eq, h.nodup_iff.mpr hx, fun x hm => h.mem_iff.mp hm⟩
def choicesN : Nat → List (List Nat)
  | 0 => [[]]
  | n + 1 => choicesN n ++ (choicesN n).map fun own => own ++ [n]
theorem mem_choicesN : ∀ {n : Nat} {o : List Nat}, o ∈ choicesN n ↔ o.Pairwise (· < ·) ∧ ∀ x ∈ o, x < n
  | 0, o => by
    simp only [choicesN, List.mem_singleton]
    constructor
    · rintro rfl; exact ⟨.nil, by simp⟩
    · rintro ⟨_, h⟩
      cases o with
      | nil => rfl
      | cons x o => have := h x List.mem_cons_self; omega
  | n + 1, o => by
    simp only [choicesN, List.mem_append, List.mem_map]
    constructor
    · rintro (h | ⟨own, h, rfl⟩)
      · obtain ⟨h1, h2⟩ := mem_choicesN.mp h
        exact ⟨h1, fun x hx => Nat.lt_succ_of_lt (h2 x hx)⟩
      · obtain ⟨h1, h2⟩ := mem_choicesN.mp h
        refine ⟨?_, fun x hx => ?_⟩
        · rw [List.pairwise_append]
          exact ⟨h1, by simp, fun a ha b hb => by rw [List.mem_singleton.mp hb]; exact h2 a ha⟩
        · rcases List.mem_append.mp hx with q | q
          · exact Nat.lt_succ_of_lt (h2 x q)
          · rw [List.mem_singleton.mp q]; omega
    · rintro ⟨h1, h2⟩
      by_cases hn : n ∈ o
      · right
        have hne : o ≠ [] := fun e => by rw [e] at hn; simp at hn
        have e := List.dropLast_concat_getLast hne
        generalize o.dropLast = own at e
        generalize o.getLast hne = x at e
        subst e
        rw [List.pairwise_append] at h1
        have hx : x = n := by
          rcases List.mem_append.mp hn with q | q
          · have h3 := h1.2.2 n q x (by simp)
            have h4 := h2 x (by simp)
            omega
          · exact (List.mem_singleton.mp q).symm
        subst hx
        exact ⟨own, mem_choicesN.mpr ⟨h1.1, fun y hy => h1.2.2 y hy x (by simp)⟩, rfl⟩
      · left
        exact mem_choicesN.mpr ⟨h1, fun x hx => by
          have h3 := h2 x hx
          have h4 : x ≠ n := fun e => hn (e ▸ hx)
          omega⟩
theorem choicesN_len : ∀ n, (choicesN n).length = 2 ^ n
  | 0 => rfl
  | n + 1 => by rw [choicesN, List.length_append, List.length_map, choicesN_len n, Nat.pow_succ]; omega
theorem choicesN_head : ∀ n, ∃ r, choicesN n = [] :: r
  | 0 => ⟨[], rfl⟩
  | n + 1 => by
    obtain ⟨r, e⟩ := choicesN_head n
    exact ⟨r ++ (choicesN n).map fun own => own ++ [n], by rw [choicesN, e]; rfl⟩
theorem pw_nodup {o : List Nat} (h : o.Pairwise (· < ·)) : o.Nodup := h.imp fun h => Nat.ne_of_lt h
theorem choices_len {n : Nat} {o : List Nat} (h : o ∈ choicesN n) : o.length ≤ n := by
  obtain ⟨h1, h2⟩ := mem_choicesN.mp h
  obtain ⟨R, hR⟩ := sub_perm (Q := List.range n) (pw_nodup h1) fun x hx => List.mem_range.mpr (h2 x hx)
  have := hR.length_eq
  rw [List.length_range, List.length_append] at this
  omega

/-! ### jobs one after the other -/
def sumF (f : Nat → Int) (o : List Nat) : Int := (o.map f).sum
theorem sumF_nil (f : Nat → Int) : sumF f [] = 0 := rfl
theorem sumF_cons (f : Nat → Int) (x : Nat) (o : List Nat) : sumF f (x :: o) = f x + sumF f o := by unfold sumF; rw [List.map_cons, List.sum_cons]
theorem sumF_app (f : Nat → Int) (a b : List Nat) : sumF f (a ++ b) = sumF f a + sumF f b := by unfold sumF; rw [List.map_append, List.sum_append]
theorem sum_perm {a b : List Int} (h : a.Perm b) : a.sum = b.sum := by
  induction h with
  | nil => rfl
  | cons x _ ih => rw [List.sum_cons, List.sum_cons, ih]
  | swap x y l => simp only [List.sum_cons]; omega
  | trans _ _ ih1 ih2 => rw [ih1, ih2]
theorem sumF_perm {f : Nat → Int} {a b : List Nat} (h : a.Perm b) : sumF f a = sumF f b := sum_perm (h.map f)
theorem sumF_nn {f : Nat → Int} (hf : ∀ n, 0 ≤ f n) : ∀ o, 0 ≤ sumF f o
  | [] => Int.le_refl _
  | x :: o => by rw [sumF_cons]; have := sumF_nn hf o; have := hf x; omega
theorem sumF_sub {f : Nat → Int} (hf : ∀ n, 0 ≤ f n) {P Q : List Nat} (hn : P.Nodup) (h : ∀ x ∈ P, x ∈ Q) : sumF f P ≤ sumF f Q := by
  obtain ⟨R, hR⟩ := sub_perm hn h
  rw [sumF_perm hR, sumF_app]
  have := sumF_nn hf R
  omega
def latesF (f d : Nat → Int) : Int → List Nat → List Int
  | _, [] => []
  | t, n :: o => (t + f n - d n) :: latesF f d (t + f n) o
def maxI : List Int → Int
  | [] => 0
  | x :: xs => xs.foldl max x
def lateV (f d : Nat → Int) (o : List Nat) : Int := maxI (latesF f d 0 o)
theorem maxI_mem {l : List Int} (h : l ≠ []) : maxI l ∈ l := by
  cases l with
  | nil => exact absurd rfl h
  | cons x xs => exact (foldl_max xs x).1
theorem maxI_ge {l : List Int} {y : Int} (h : y ∈ l) : y ≤ maxI l := by
  cases l with
  | nil => simp at h
  | cons x xs => exact (foldl_max xs x).2 y h
theorem lates_mem {f d : Nat → Int} : ∀ {a : List Nat} {x : Nat} {b : List Nat} {t : Int}, t + sumF f a + f x - d x ∈ latesF f d t (a ++ x :: b)
  | [], x, b, t => by simp [latesF, sumF_nil]
  | y :: a, x, b, t => by
    rw [List.cons_append, latesF, sumF_cons]
    have := lates_mem (f := f) (d := d) (a := a) (x := x) (b := b) (t := t + f y)
    rw [show t + (f y + sumF f a) + f x - d x = t + f y + sumF f a + f x - d x by omega]
    exact List.mem_cons_of_mem _ this
theorem lates_inv {f d : Nat → Int} : ∀ {o : List Nat} {t y : Int}, y ∈ latesF f d t o → ∃ a x b, o = a ++ x :: b ∧ y = t + sumF f a + f x - d x
  | [], t, y, h => by simp [latesF] at h
  | n :: o, t, y, h => by
    rw [latesF] at h
    rcases List.mem_cons.mp h with e | h
    · exact ⟨[], n, o, rfl, by rw [e, sumF_nil]; omega⟩
    · obtain ⟨a, x, b, e1, e2⟩ := lates_inv h
      exact ⟨n :: a, x, b, by rw [e1]; rfl, by rw [e2, sumF_cons]; omega⟩
theorem last_split {P : List Nat} : ∀ {o : List Nat}, (∃ x ∈ o, x ∈ P) → ∃ a x b, o = a ++ x :: b ∧ x ∈ P ∧ ∀ y ∈ b, y ∉ P
  | [], h => by obtain ⟨x, hx, _⟩ := h; simp at hx
  | y :: o, h => by
    by_cases c : ∃ x ∈ o, x ∈ P
    · obtain ⟨a, x, b, e, h1, h2⟩ := last_split c
      exact ⟨y :: a, x, b, by rw [e]; rfl, h1, h2⟩
    · obtain ⟨x, hx, hp⟩ := h
      rcases List.mem_cons.mp hx with e | hx
      · subst e
        exact ⟨[], x, o, rfl, hp, fun z hz hz2 => c ⟨z, hz, hz2⟩⟩
      · exact absurd ⟨x, hx, hp⟩ c
/-- what some jobs show -/
theorem bar_le {f d : Nat → Int} (hf : ∀ n, 0 ≤ f n) {P o : List Nat} (hn : P.Nodup) (h0 : P ≠ []) (hs : ∀ x ∈ P, x ∈ o) {D : Int} (hD : ∀ x ∈ P, d x ≤ D) : sumF f P - D ≤ lateV f d o := by
  obtain ⟨p, hp⟩ := List.exists_mem_of_ne_nil P h0
  obtain ⟨a, x, b, e, h1, h2⟩ := last_split (P := P) (o := o) ⟨p, hs p hp, hp⟩
  have hsub : ∀ y ∈ P, y ∈ a ++ [x] := fun y hy => by
    have := hs y hy
    rw [e] at this
    rcases List.mem_append.mp this with q | q
    · exact List.mem_append_left _ q
    · rcases List.mem_cons.mp q with q | q
      · rw [q]; simp
      · exact absurd hy (h2 y q)
  have h3 := sumF_sub hf hn hsub
  rw [sumF_app, sumF_cons, sumF_nil] at h3
  have h4 := maxI_ge (lates_mem (f := f) (d := d) (a := a) (x := x) (b := b) (t := 0))
  rw [← e] at h4
  have h5 := hD x h1
  unfold lateV
  omega
theorem lates_ne {f d : Nat → Int} {o : List Nat} {t : Int} (h : o ≠ []) : latesF f d t o ≠ [] := by
  cases o with
  | nil => exact absurd rfl h
  | cons x o => simp [latesF]
/-- by when they are due is best -/
theorem edd {f d : Nat → Int} (hf : ∀ n, 0 ≤ f n) {o o' : List Nat} (hs : o.Pairwise fun a b => d a ≤ d b) (hn : o.Nodup) (hp : ∀ x ∈ o, x ∈ o') : lateV f d o ≤ lateV f d o' ∨ o = [] := by
  by_cases h0 : o = []
  · exact .inr h0
  left
  obtain ⟨a, x, b, e, h1⟩ := lates_inv (maxI_mem (lates_ne (f := f) (d := d) (t := 0) h0))
  have h2 : lateV f d o = sumF f (a ++ [x]) - d x := by
    unfold lateV
    rw [h1, sumF_app, sumF_cons, sumF_nil]
    omega
  rw [h2]
  subst e
  rw [List.pairwise_append] at hs
  rw [List.nodup_append, List.nodup_cons] at hn
  refine bar_le hf ?_ (by simp) (fun y hy => ?_) fun y hy => ?_
  · rw [List.nodup_append]
    exact ⟨hn.1, by simp, fun u hu v hv => by rw [List.mem_singleton.mp hv]; exact hn.2.2 u hu x (by simp)⟩
  · refine hp y ?_
    rcases List.mem_append.mp hy with q | q
    · exact List.mem_append_left _ q
    · rw [List.mem_singleton.mp q]; simp
  · rcases List.mem_append.mp hy with q | q
    · exact hs.2.2 y q x (by simp)
    · rw [List.mem_singleton.mp q]; exact Int.le_refl _
end DL
namespace DL
open PySem PySem.Spec L2
theorem keysD_map {α : Type} {fk : FE D} {ρ : En} {vs : List Nat} {μ : Sto} {enc : α → D} {k : α → Int} : ∀ {l : List α}, (∀ a ∈ l, fk (wipeE ρ vs ++ [some (enc a)]) μ = .ok (.int (k a)) μ) → keysD fk ρ vs μ (l.map enc) = some (l.map k)
  | [], _ => rfl
  | a :: l, h => by
    rw [List.map_cons, keysD, h a List.mem_cons_self]
    dsimp only
    rw [if_pos (bP_true rfl), keysD_map fun b hb => h b (List.mem_cons_of_mem _ hb)]
    rfl
theorem sortK_map {α : Type} {enc : α → D} {k : α → Int} (l : List α) : sortK (l.map enc) (l.map k) = (l.mergeSort fun a b => decide (k a ≤ k b)).map enc := by
  unfold sortK
  have e : (l.map enc).zip (l.map k) = l.map fun a => (enc a, k a) := by
    induction l with
    | nil => rfl
    | cons a l ih => simp only [List.map_cons, List.zip_cons_cons, ih]
  have h := List.map_mergeSort (r := fun a b : α => decide (k a ≤ k b)) (s := fun p q : D × Int => decide (p.2 ≤ q.2)) (f := fun a => (enc a, k a)) (l := l) fun a _ b _ => rfl
  rw [e, ← h, List.map_map]
  rfl
theorem range_nats (n : Nat) : rangeD 0 n = natsL (List.range n) := by rw [rangeD_eq]; rfl
theorem mem_natsL {x : Nat} {o : List Nat} : natD x ∈ natsL o ↔ x ∈ o := by
  unfold natsL
  rw [List.mem_map]
  exact ⟨fun ⟨y, h, e⟩ => natD_inj e ▸ h, fun h => ⟨x, h, rfl⟩⟩
theorem gIn_nat {x : Nat} {o : List Nat} {μ : Sto} : gIn (.int (x : Int)) (.tup (natsL o)) μ = some (decide (x ∈ o)) := by
  have := (gIn_pl (μ := μ) (pl_nat 31 x) (pls_nats 31 o)).2
  rw [show D.int (x : Int) = natD x from rfl, this, ← bP_dec]
  simp only [mem_natsL]
theorem gNotIn_nat {x : Nat} {o : List Nat} {μ : Sto} : gNotIn (.int (x : Int)) (.tup (natsL o)) μ = some (decide (x ∉ o)) := by
  unfold gNotIn
  rw [gIn_nat]
  simp
theorem foldl_app {α β : Type} (g : α → List β) : ∀ (l : List α) (acc : List β), l.foldl (fun acc a => acc ++ g a) acc = acc ++ l.flatMap g
  | [], acc => by simp
  | a :: l, acc => by rw [List.foldl_cons, foldl_app g l, List.flatMap_cons, List.append_assoc]
theorem flatMap_take_len {α β : Type} (g : α → List β) (l : List α) (j : Nat) : ((l.take j).flatMap g).length ≤ (l.flatMap g).length := by
  have : l.flatMap g = (l.take j).flatMap g ++ (l.drop j).flatMap g := by rw [← List.flatMap_append, List.take_append_drop]
  rw [this, List.length_append]
  omega
theorem flatMap_take_succ {α β : Type} (g : α → List β) {l : List α} {j : Nat} {a : α} (h : l[j]? = some a) : (l.take (j + 1)).flatMap g = (l.take j).flatMap g ++ g a := by
  rw [List.take_add_one, h]
  simp
theorem natsL_app (a b : List Nat) : natsL (a ++ b) = natsL a ++ natsL b := by unfold natsL; rw [List.map_append]
@[simp] theorem natsL_len (o : List Nat) : (natsL o).length = o.length := by unfold natsL; rw [List.length_map]
@[simp] theorem gIs_int {i : Int} {μ : Sto} : gIs (.int i) .non μ = some false := rfl
@[simp] theorem gIs_tup {ds : List D} {μ : Sto} : gIs (.tup ds) .non μ = some false := rfl
@[simp] theorem gIsN_int {i : Int} {μ : Sto} : gIsN (.int i) .non μ = some true := rfl
@[simp] theorem gIsN_tup {ds : List D} {μ : Sto} : gIsN (.tup ds) .non μ = some true := rfl
@[simp] theorem gIsN_non {μ : Sto} : gIsN .non .non μ = some false := rfl
/-- a pure run -/
theorem R.W.eq {d : D} {μ : Sto} {r : R D} (h : r.W fun e ν => e = d ∧ ν = μ) : r = .ok d μ := by
  obtain ⟨e, ν, h1, rfl, rfl⟩ := h.ex
  exact h1
theorem lrOk_of {i j : Int} (h : -4611686018427387904 ≤ i ∧ i < 4611686018427387904 ∧ -4611686018427387904 ≤ j ∧ j < 4611686018427387904 ∧ (j - i).toNat ≤ 16777216) : lrOk i j = true := bP_iff.mpr h
@[simp] theorem x_gListRg1 {j : Int} {μ : Sto} : gListRg [.int j] μ = if lrOk 0 j = true then .ok (rangeD 0 j.toNat) μ else .bad := rfl
end DL
namespace DL
open PySem PySem.Spec PyProof.Rows L2
/-! ### the store has grown -/
def Gro (μ μ' : Sto) : Prop := ∃ γ, μ' = μ ++ γ
theorem Gro.refl (μ : Sto) : Gro μ μ := ⟨[], by simp⟩
theorem Gro.app (μ γ : Sto) : Gro μ (μ ++ γ) := ⟨γ, rfl⟩
theorem Gro.trans {μ μ1 μ2 : Sto} (a : Gro μ μ1) (b : Gro μ1 μ2) : Gro μ μ2 := by
  obtain ⟨γ, rfl⟩ := a
  obtain ⟨δ, rfl⟩ := b
  exact ⟨γ ++ δ, by rw [List.append_assoc]⟩
theorem Gro.get {μ μ' : Sto} (g : Gro μ μ') {n : Nat} {o : DO} (h : μ[n]? = some o) : μ'[n]? = some o := by
  obtain ⟨γ, rfl⟩ := g
  rw [List.getElem?_append_left (List.getElem?_eq_some_iff.mp h).1, h]
theorem Gro.dice {μ μ' : Sto} (g : Gro μ μ') {k n : Nat} (h : Dice k μ n) : Dice k μ' n := by
  obtain ⟨γ, rfl⟩ := g
  exact h.app γ
theorem Gro.frm {μ μ' : Sto} (g : Gro μ μ') (n : Nat) : Frm n μ μ' := by
  obtain ⟨γ, rfl⟩ := g
  exact Frm.app n μ γ
section
variable {α : Type} {g : FG} {tt : FE Bool} {te : FE D} {ρ : En}
/-- a comprehension whose parts make new objects -/
theorem lcD_G (enc f : α → D) (p : α → Bool) : ∀ (l : List α) (μ : Sto), (∀ a ∈ l, ∃ ρ1, g (enc a) ρ = some ρ1 ∧ (∀ μ', Gro μ μ' → ∀ X : Bool → Sto → Prop, (∀ μ1, Gro μ' μ1 → X (p a) μ1) → (tt ρ1 μ').W X) ∧
      (p a = true → ∀ μ', Gro μ μ' → ∀ X : D → Sto → Prop, (∀ μ1, Gro μ' μ1 → X (f a) μ1) → (te ρ1 μ').W X)) → ∀ {P : List D → Sto → Prop}, (∀ μ', Gro μ μ' → P ((l.filter p).map f) μ') → (lcD [] g tt te ρ (l.map enc) μ).W P
  | [], μ, _, P, hP => by
    rw [List.map_nil, lcD, if_pos (by simp)]
    exact hP μ (Gro.refl μ)
  | a :: l, μ, h, P, hP => by
    obtain ⟨ρ1, e1, ht, he⟩ := h a List.mem_cons_self
    rw [List.map_cons, lcD, if_pos (by simp), e1]
    dsimp only
    have hrest : ∀ μ1, Gro μ μ1 → ∀ {P : List D → Sto → Prop}, (∀ μ', Gro μ1 μ' → P ((l.filter p).map f) μ') → (lcD [] g tt te ρ (l.map enc) μ1).W P := fun μ1 g1 P hP =>
      lcD_G enc f p l μ1 (fun b hb => by
        obtain ⟨ρ1, e1, ht, he⟩ := h b (List.mem_cons_of_mem _ hb)
        exact ⟨ρ1, e1, fun μ' g' => ht μ' (g1.trans g'), fun hp μ' g' => he hp μ' (g1.trans g')⟩) hP
    obtain ⟨b, μ1, e2, rfl, g1⟩ := (ht μ (Gro.refl μ) (fun b μ1 => b = p a ∧ Gro μ μ1) fun μ1 g => ⟨rfl, g⟩).ex
    rw [e2, R.nox_ok, R.bind_ok]
    cases hp : p a with
    | true =>
      rw [if_pos rfl]
      obtain ⟨y, μ2, e3, rfl, g2⟩ := (he hp μ1 g1 (fun y μ2 => y = f a ∧ Gro μ1 μ2) fun μ2 g => ⟨rfl, g⟩).ex
      rw [e3, R.nox_ok, R.bind_ok]
      refine R.W_bind.mpr (hrest μ2 (g1.trans g2) fun μ' g' => ?_)
      have := hP μ' ((g1.trans g2).trans g')
      rw [List.filter_cons, hp, if_pos rfl, List.map_cons] at this
      exact this
    | false =>
      rw [if_neg (by simp)]
      refine hrest μ1 g1 fun μ' g' => ?_
      have := hP μ' (g1.trans g')
      rw [List.filter_cons, hp, if_neg (by simp)] at this
      exact this
theorem lcD_Gm (enc f : α → D) (l : List α) (μ : Sto) (h : ∀ a ∈ l, ∃ ρ1, g (enc a) ρ = some ρ1 ∧ ∀ μ', Gro μ μ' → ∀ X : D → Sto → Prop, (∀ μ1, Gro μ' μ1 → X (f a) μ1) → (te ρ1 μ').W X) {P : List D → Sto → Prop} (hP : ∀ μ', Gro μ μ' → P (l.map f) μ') : (lcD [] g tYesD te ρ (l.map enc) μ).W P := by
  refine lcD_G enc f (fun _ => true) l μ (fun a ha => ?_) fun μ' g' => ?_
  · obtain ⟨ρ1, e1, h1⟩ := h a ha
    exact ⟨ρ1, e1, fun μ' _ X hX => hX μ' (Gro.refl μ'), fun _ => h1⟩
  · rw [List.filter_eq_self.mpr (fun _ _ => rfl)]
    exact hP μ' g'
end
/-- a search: the first turn at which c holds ends the loop -/
theorem forD_find {g : FG} {F : FS} {N : En → Sto → Prop} {T : D → Sto → Prop} {α : Type} (enc : α → D) (c : α → Bool) (J : En → Sto → Prop) (l : List α) (ρ : En) (μ : Sto) (h0 : J ρ μ)
    (hs : ∀ a ∈ l, ∀ ρ μ, J ρ μ → ∃ ρ1, g (enc a) ρ = some ρ1 ∧ (c a = true → l.find? c = some a → (F ρ1 μ).L (fun _ _ => False) N T) ∧ (c a = false → ∀ X : En → Sto → Prop, (∀ ρ' μ', J ρ' μ' → X ρ' μ') → (F ρ1 μ).L X N T))
    (he : ∀ ρ μ, J ρ μ → l.find? c = none → N ρ μ) : (forD [] g F (l.map enc) ρ μ).W N T := by
  have gen : ∀ (m : List α) (ρ : En) (μ : Sto) (pre : List α), l = pre ++ m → (∀ a ∈ pre, c a = false) → J ρ μ → (forD [] g F (m.map enc) ρ μ).W N T := by
    intro m
    induction m with
    | nil =>
      intro ρ μ pre e hp h0
      rw [List.map_nil, forD, if_pos (by simp)]
      refine he ρ μ h0 ?_
      rw [List.find?_eq_none, e, List.append_nil]
      intro x hx; rw [hp x hx]; simp
    | cons a m ih =>
      intro ρ μ pre e hp h0
      have ha : a ∈ l := by rw [e]; simp
      obtain ⟨ρ1, e1, h1, h2⟩ := hs a ha ρ μ h0
      rw [List.map_cons, forD, if_pos (by simp), e1]
      dsimp only
      cases hc : c a with
      | true =>
        have hf : l.find? c = some a := by
          rw [e, List.find?_append, List.find?_eq_none.mpr fun x hx => by rw [hp x hx]; simp]
          simp [hc]
        have h := h1 hc hf
        cases hF : F ρ1 μ <;> rw [hF] at h <;> first | exact h | exact h.elim
      | false =>
        have h := h2 hc (fun ρ' μ' => (forD [] g F (m.map enc) ρ' μ').W N T) fun ρ' μ' hJ => ih ρ' μ' (pre ++ [a]) (by rw [e]; simp) (fun x hx => by
          rcases List.mem_append.mp hx with q | q
          · exact hp x q
          · rw [List.mem_singleton.mp q]; exact hc) hJ
        cases hF : F ρ1 μ <;> rw [hF] at h <;> first | exact h | exact h.elim
  exact gen l ρ μ [] rfl (by simp) h0
@[simp] theorem x_gInsert {n : Nat} {i : Int} {y : D} {μ : Sto} : gInsert (.obj n) [.int i, y] μ = match lstAt μ n with | some ds => if ds.length < SZ ∧ 0 ≤ i ∧ small i = true then .ok .non (μ.set n (.lst (ds.take i.toNat ++ [y] ++ ds.drop i.toNat))) else .bad | none => .bad := rfl
/-! ### putting a number into its place -/
def leK (k : Nat → Int) (a b : Nat) : Bool := decide (k a ≤ k b)
theorem leK_tr (k : Nat → Int) : ∀ x y z, leK k x y = true → leK k y z = true → leK k x z = true := fun x y z h1 h2 => by simp [leK] at *; omega
theorem leK_to (k : Nat → Int) : ∀ x y, (leK k x y || leK k y x) = true := fun x y => by simp [leK]; omega
def posK (k : Nat → Int) (L : List Nat) (v : Int) : Nat := (L.takeWhile fun y => decide (k y ≤ v)).length
theorem posK_le (k : Nat → Int) (L : List Nat) (v : Int) : posK k L v ≤ L.length := (List.takeWhile_prefix _).length_le
theorem take_posK (k : Nat → Int) (v : Int) : ∀ L : List Nat, L.take (posK k L v) = L.takeWhile fun y => decide (k y ≤ v)
  | [] => rfl
  | y :: L => by
    unfold posK
    rw [List.takeWhile_cons]
    by_cases h : k y ≤ v
    · rw [decide_eq_true h, if_pos rfl, List.length_cons, List.take_succ_cons]
      exact congrArg _ (take_posK k v L)
    · rw [decide_eq_false h]; rfl
theorem posK_lt {k : Nat → Int} {L : List Nat} {v : Int} {j : Nat} (h : j < posK k L v) : k (L[j]?.getD 0) ≤ v := by
  have hl := posK_le k L v
  have h1 : L[j]? = (L.take (posK k L v))[j]? := by rw [List.getElem?_take_of_lt h]
  rw [take_posK] at h1
  have h2 : j < (L.takeWhile fun y => decide (k y ≤ v)).length := h
  rw [h1, List.getElem?_eq_getElem h2, Option.getD_some]
  have := List.all_takeWhile (p := fun y => decide (k y ≤ v)) (l := L)
  rw [List.all_eq_true] at this
  simpa using this _ (List.getElem_mem h2)
theorem posK_ge {k : Nat → Int} {v : Int} : ∀ {L : List Nat} {j : Nat}, L.Pairwise (fun a b => leK k a b = true) → posK k L v ≤ j → j < L.length → v < k (L[j]?.getD 0)
  | [], j, _, _, h => by simp at h
  | y :: L, j, hp, h, hl => by
    rw [List.pairwise_cons] at hp
    unfold posK at h
    rw [List.takeWhile_cons] at h
    by_cases c : k y ≤ v
    · rw [decide_eq_true c, if_pos rfl, List.length_cons] at h
      cases j with
      | zero => omega
      | succ j =>
        have := posK_ge (k := k) (v := v) (L := L) (j := j) hp.2 (by unfold posK; omega) (by simpa using hl)
        simpa using this
    · cases j with
      | zero => simp; omega
      | succ j =>
        have hj : j < L.length := by simpa using hl
        have := hp.1 (L[j]) (List.getElem_mem hj)
        simp [leK] at this
        simp [hj]
        omega
theorem sort_snoc (k : Nat → Int) (l : List Nat) (i : Nat) : (l ++ [i]).mergeSort (leK k) = (l.mergeSort (leK k)).take (posK k (l.mergeSort (leK k)) (k i)) ++ [i] ++ (l.mergeSort (leK k)).drop (posK k (l.mergeSort (leK k)) (k i)) := by
  have hs := List.pairwise_mergeSort (leK_tr k) (leK_to k) l
  have hk := PySem.W.Srt.any_kept (leK k) (leK_tr k) (leK_to k) l
  generalize l.mergeSort (leK k) = L at hs hk ⊢
  symm
  have hd : ∀ y ∈ L.drop (posK k L (k i)), k i < k y := fun y hy => by
    obtain ⟨n, hn, e⟩ := List.mem_iff_getElem.mp hy
    rw [List.length_drop] at hn
    rw [List.getElem_drop] at e
    have := posK_ge (k := k) (v := k i) hs (Nat.le_add_right (posK k L (k i)) n) (by omega)
    rw [List.getElem?_eq_getElem (by omega), Option.getD_some, e] at this
    exact this
  have ht : ∀ y ∈ L.take (posK k L (k i)), k y ≤ k i := fun y hy => by
    rw [take_posK] at hy
    have := List.all_takeWhile (p := fun y => decide (k y ≤ k i)) (l := L)
    rw [List.all_eq_true] at this
    simpa using this y hy
  refine PySem.W.Srt.the (leK k) (leK_tr k) (leK_to k) ?_ fun z => ?_
  · have hs2 : (L.take (posK k L (k i)) ++ L.drop (posK k L (k i))).Pairwise (fun a b => leK k a b = true) := by rw [List.take_append_drop]; exact hs
    rw [List.pairwise_append] at hs2
    rw [List.append_assoc, List.pairwise_append]
    refine ⟨hs2.1, ?_, fun a ha b hb => ?_⟩
    · rw [List.singleton_append, List.pairwise_cons]
      exact ⟨fun y hy => by have := hd y hy; simp [leK]; omega, hs2.2.1⟩
    · rw [List.singleton_append] at hb
      rcases List.mem_cons.mp hb with e | hb
      · rw [e]; simpa [leK] using ht a ha
      · exact hs2.2.2 a ha b hb
  · rw [List.filter_append, List.filter_append, List.filter_append, ← hk z]
    have e : L.filter (PySem.W.Srt.alike (leK k) z) = (L.take (posK k L (k i))).filter (PySem.W.Srt.alike (leK k) z) ++ (L.drop (posK k L (k i))).filter (PySem.W.Srt.alike (leK k) z) := by rw [← List.filter_append, List.take_append_drop]
    rw [e]
    by_cases c : PySem.W.Srt.alike (leK k) z i = true
    · have : (L.drop (posK k L (k i))).filter (PySem.W.Srt.alike (leK k) z) = [] := by
        rw [List.filter_eq_nil_iff]
        intro y hy h
        have h1 := hd y hy
        simp [PySem.W.Srt.alike, leK] at c h
        omega
      rw [this]; simp
    · have : [i].filter (PySem.W.Srt.alike (leK k) z) = [] := by simp [c]
      rw [this]; simp
/-! ### neighbours -/
theorem zipD_map {α β : Type} (f : α → D) (g : β → D) : ∀ (l : List α) (m : List β), zipD (l.map f) (m.map g) = (l.zip m).map fun p => .tup [f p.1, g p.2]
  | [], _ => by simp [zipD]
  | _ :: _, [] => by simp [zipD]
  | a :: l, b :: m => by simp only [List.map_cons, zipD, List.zip_cons_cons, zipD_map f g l m]
@[simp] theorem x_gZipT {xs ys : List D} {μ : Sto} : gZip [.tup xs, .tup ys] μ = .ok (zipD xs ys, []) μ := rfl
@[simp] theorem x_gZipL {xs ys : List D} {μ : Sto} : gZip [.lst xs, .lst ys] μ = .ok (zipD xs ys, []) μ := rfl
@[simp] theorem cutD_from1 (ds : List D) : cutD ds (some 1) none = ds.drop 1 := cutD_from ds 1
def ascB (o : List Nat) : Bool := (o.zip (o.drop 1)).all fun p => decide (p.1 < p.2)
theorem ascB_iff : ∀ {o : List Nat}, ascB o = true ↔ o.Pairwise (· < ·)
  | [] => by simp [ascB]
  | [x] => by simp [ascB]
  | x :: y :: o => by
    have ih := ascB_iff (o := y :: o)
    have e : ascB (x :: y :: o) = (decide (x < y) && ascB (y :: o)) := by simp [ascB]
    rw [e, Bool.and_eq_true, decide_eq_true_eq, ih, List.pairwise_cons (l := y :: o)]
    constructor
    · rintro ⟨h, hp⟩
      refine ⟨fun z hz => ?_, hp⟩
      rcases List.mem_cons.mp hz with e | hz
      · rw [e]; exact h
      · have := (List.pairwise_cons.mp hp).1 z hz; omega
    · rintro ⟨h, hp⟩
      exact ⟨h y List.mem_cons_self, hp⟩
theorem drop_natsL (o : List Nat) (n : Nat) : (natsL o).drop n = natsL (o.drop n) := by unfold natsL; rw [List.map_drop]
theorem zip_nats (o p : List Nat) : zipD (natsL o) (natsL p) = (o.zip p).map fun q => .tup [natD q.1, natD q.2] := zipD_map natD natD o p
end DL
namespace DL
open PySem PySem.Spec PyProof.Rows L2
/-! ### a sort that computes -/
def insK (k : Nat → Int) (l : List Nat) : List Nat := l.foldl (fun L i => L.take (posK k L (k i)) ++ [i] ++ L.drop (posK k L (k i))) []
theorem insK_eq (k : Nat → Int) (l : List Nat) : l.mergeSort (leK k) = insK k l := by
  have gen : ∀ (m pre : List Nat), (pre ++ m).mergeSort (leK k) = m.foldl (fun L i => L.take (posK k L (k i)) ++ [i] ++ L.drop (posK k L (k i))) (pre.mergeSort (leK k)) := by
    intro m
    induction m with
    | nil => intro pre; rw [List.append_nil]; rfl
    | cons i m ih =>
      intro pre
      have e : pre ++ i :: m = (pre ++ [i]) ++ m := by simp
      rw [List.foldl_cons, ← sort_snoc, e, ih]
  have := gen l []
  rw [List.nil_append, List.mergeSort_nil] at this
  exact this
theorem sortI_of {l m : List Int} (h : m.Perm l) (hs : m.Pairwise (· ≤ ·)) : sortI l = m := sorted_uniq ((sortI_perm l).trans h.symm) (sortI_pw l) hs
end DL
namespace DL
open PySem PySem.Spec PyProof.Rows L2
/-! ### range that falls by one -/
def rangeM (lo : Int) (n : Nat) : List D := (List.range n).map fun i : Nat => D.int (lo - (i : Int))
theorem rangeM_length (lo : Int) (n : Nat) : (rangeM lo n).length = n := by simp [rangeM]
section
variable {X : Cx} {C : Cc} {W : WX} {tg a b c : Expr} {pos : Pos} {fs : FE (List D)}
theorem walkD_rangeM {η1 : Nm} {H1 : Hp} {lo : Int} {n : Nat} : WalkD C (Itc lo (-1) n) (rangeM lo n) [] η1 H1 := by
  intro η1' hr ho η H μ nx o _
  rw [rangeM_length]
  refine ⟨fun i hi => ⟨hi, ?_⟩, Nat.le_refl _⟩
  rintro x H' ⟨rfl, rfl⟩
  refine ⟨.int (lo + i * (-1)), ?_, Same.refl _, .int _⟩
  unfold rangeM
  rw [List.getElem?_map, List.getElem?_range hi]
  show some (D.int (lo - (i : Int))) = some (D.int (lo + (i : Int) * (-1)))
  congr 2
  omega
noncomputable def gRange3 : List D → Sto → R ItD
  | [.int i, .int j, .int c], μ => if small i = true ∧ small j = true ∧ c = -1 then .ok (rangeM i (i - j).toNat, []) μ else .bad
  | _, _ => .bad
theorem di_range3 {p : Pos} (hm : X.mg "range" = none) (ha : DA X C W [a, b, c] fs) (hg : Gl X "range" := by rfl) (hs : starEach [a, b, c] X.env = (false, eval a X.env) :: starEach [b, c] X.env := by rfl) (hs2 : (backTo pos (starEach [b, c] X.env)).any (·.1) = false := by rfl) : DI X C W tg (.Call (.Name "range" p) [a, b, c] [] pos) (eCall gRange3 fs) := by
  refine ⟨pi_imp (pi_range3 hg hm ha.pa hs hs2) fun σ H Q => ?_⟩
  rintro ⟨η, ρ, μ, s, o, p⟩
  refine ⟨η, ρ, μ, s, o, Post.bind p fun ds η1 H1 μ1 n1 o1 p1 vs rv => ?_⟩
  unfold gRange3 at p1
  split at p1
  · split at p1
    · rename_i hz
      obtain ⟨hz1, hz2, rfl⟩ := hz
      cases rv with
      | cons r rr =>
        cases rr with
        | cons r' rr =>
          cases rr with
          | cons r'' rr =>
            cases rr
            cases r
            cases r'
            cases r''
            obtain ⟨h1, h2⟩ := small_iff.mp hz1
            obtain ⟨h3, h4⟩ := small_iff.mp hz2
            exact ⟨_, _, _, _, rfl, RgC.neg h1 h2 h3 h4, p1.now o1 _ walkD_rangeM⟩
    · exact p1.elim
  · exact p1.elim
end
@[simp] theorem x_gRange3 {a b : Int} {μ : Sto} (h1 : small a = true) (h2 : small b = true) : gRange3 [.int a, .int b, .int (-1)] μ = .ok (rangeM a (a - b).toNat, []) μ := if_pos ⟨h1, h2, rfl⟩
end DL
namespace DL
open PySem PySem.Spec PyProof.Rows L2
theorem zSZ' : ∀ n, n ≤ 1000 → n ≤ SZ := fun n h => by rw [SZ_eq]; omega
theorem nats_ints (o : List Nat) : natsL o = (o.map Int.ofNat).map .int := by unfold natsL; rw [List.map_map]; rfl
theorem nats_at {o : List Nat} {n : Nat} (h : n < o.length) : L2.atI (natsL o) (n : Int) = some (natD (o[n]?.getD 0)) := by
  have := atD (ds := natsL o) (j := n) (by simpa using h)
  rw [this]
  simp [natsL, natD, h]
theorem cut_toN (o : List Nat) (j : Nat) : cutD (natsL o) none (some (j : Int)) = natsL (o.take j) := by rw [cutD_to]; unfold natsL; rw [List.map_take]
theorem cut_to1N (o : List Nat) (j : Nat) : cutD (natsL o) none (some ((j : Int) + 1)) = natsL (o.take (j + 1)) := by
  rw [show (j : Int) + 1 = ((j + 1 : Nat) : Int) by omega, cut_toN]
theorem cut_fromN (o : List Nat) (j : Nat) : cutD (natsL o) (some (j : Int)) none = natsL (o.drop j) := by rw [cutD_from, drop_natsL]
theorem gMaxL_f {α : Type} (f : α → Int) (l : List α) (h : l ≠ []) (μ : Sto) : gMaxL [.lst (l.map fun a => D.int (f a))] μ = .ok (.int (maxI (l.map f))) μ := by
  cases l with
  | nil => exact absurd rfl h
  | cons a l =>
    have := gMaxL_int (μ := μ) (n := f a) (ns := l.map f)
    rw [List.map_map] at this
    exact this
theorem foldl_min_of : ∀ (m : List Int) (x v : Int), (∀ y ∈ x :: m, v ≤ y) → v ∈ x :: m → m.foldl min x = v
  | [], x, v, h1, h2 => by rw [List.mem_singleton.mp h2]; rfl
  | y :: m, x, v, h1, h2 => by
    rw [List.foldl_cons]
    refine foldl_min_of m _ _ (fun z hz => ?_) ?_
    · rcases List.mem_cons.mp hz with e | hz
      · have := h1 x (by simp); have := h1 y (by simp); omega
      · exact h1 z (by simp [hz])
    · have q1 := h1 x (by simp)
      have q2 := h1 y (by simp)
      rcases List.mem_cons.mp h2 with e | h2
      · simp; left; omega
      · rcases List.mem_cons.mp h2 with e | h2
        · simp; left; omega
        · simp [h2]
theorem gMinL_f {α : Type} {f : α → Int} {l : List α} {a : α} (ha : a ∈ l) (hm : ∀ b ∈ l, f a ≤ f b) (μ : Sto) : gMinL [.lst (l.map fun a => D.int (f a))] μ = .ok (.int (f a)) μ := by
  cases l with
  | nil => cases ha
  | cons c l =>
    have := gMinL_int (μ := μ) (n := f c) (ns := l.map f)
    rw [List.map_map] at this
    rw [foldl_min_of (l.map f) (f c) (f a) (by
      intro y hy
      rw [← List.map_cons (f := f)] at hy
      obtain ⟨b, hb, rfl⟩ := List.mem_map.mp hy
      exact hm b hb) (by rw [← List.map_cons (f := f)]; exact List.mem_map_of_mem ha)] at this
    exact this
/-! ### orders and what is sorted -/
theorem sort_range' {o : List Nat} {n : Nat} : (sortI (o.map Int.ofNat)).map D.int = natsL (List.range n) ↔ o.Perm (List.range n) := by
  have h1 : natsL (List.range n) = ((List.range n).map Int.ofNat).map D.int := nats_ints _
  rw [h1]
  constructor
  · intro h
    have h2 : sortI (o.map Int.ofNat) = (List.range n).map Int.ofNat := by
      have := congrArg (List.map fun d => match d with | D.int i => i | _ => 0) h
      simp [Function.comp_def] at this
      exact this
    have h3 : (o.map Int.ofNat).Perm ((List.range n).map Int.ofNat) := by rw [← h2]; exact (sortI_perm _).symm
    have h4 := h3.map Int.toNat
    rw [List.map_map, List.map_map] at h4
    simpa [Function.comp_def] using h4
  · intro h
    congr 1
    refine sorted_uniq ((sortI_perm _).trans (h.map _)) (sortI_pw _) ?_
    rw [List.pairwise_map]
    exact List.pairwise_lt_range.imp fun h => Int.ofNat_le.mpr (Nat.le_of_lt h)
/-- buckets one after the other are a sort -/
theorem count_sort (k : Nat → Int) (c : Int) (n : Nat) (l : List Nat) (h : ∀ x ∈ l, c ≤ k x ∧ k x < c + n) : ((List.range n).flatMap fun v : Nat => l.filter fun x => decide (k x = c + v)) = l.mergeSort (leK k) := by
  refine PySem.W.Srt.the (leK k) (leK_tr k) (leK_to k) ?_ fun z => ?_
  · rw [List.pairwise_flatMap]
    refine ⟨fun v _ => ?_, List.pairwise_lt_range.imp fun {v w} hvw x hx y hy => ?_⟩
    · have : ∀ x ∈ l.filter (fun x => decide (k x = c + v)), k x = c + v := fun x hx => of_decide_eq_true (List.mem_filter.mp hx).2
      generalize l.filter (fun x => decide (k x = c + v)) = m at this
      induction m with
      | nil => exact List.Pairwise.nil
      | cons a m ih =>
        refine List.pairwise_cons.mpr ⟨fun y hy => ?_, ih fun x hx => this x (by simp [hx])⟩
        have h1 := this a (by simp)
        have h2 := this y (by simp [hy])
        simp [leK]; omega
    · have h1 := of_decide_eq_true (List.mem_filter.mp hx).2
      have h2 := of_decide_eq_true (List.mem_filter.mp hy).2
      simp [leK]; omega
  · rw [List.filter_flatMap]
    have al : ∀ x, PySem.W.Srt.alike (leK k) z x = decide (k x = k z) := fun x => by
      simp only [PySem.W.Srt.alike, leK]
      by_cases e : k x = k z
      · simp [e]
      · have : ¬ (k z ≤ k x ∧ k x ≤ k z) := by omega
        simp [e]; omega
    have ef : PySem.W.Srt.alike (leK k) z = fun x => decide (k x = k z) := funext al
    rw [ef]
    by_cases hz : c ≤ k z ∧ k z < c + n
    · obtain ⟨v, hv⟩ : ∃ v : Nat, k z = c + v := ⟨(k z - c).toNat, by omega⟩
      have hv' : v < n := by omega
      have gen : ∀ m : Nat, ((List.range m).flatMap fun w : Nat => (l.filter fun x => decide (k x = c + w)).filter fun x => decide (k x = k z)) = if v < m then l.filter (fun x => decide (k x = k z)) else [] := by
        intro m
        induction m with
        | zero => simp
        | succ m ih =>
          rw [List.range_succ, List.flatMap_append, ih, List.flatMap_singleton]
          by_cases e : m = v
          · subst e
            rw [if_neg (by omega), if_pos (by omega), List.nil_append, List.filter_filter]
            congr 1
            funext x
            by_cases q : k x = k z <;> simp [q] <;> omega
          · have : ((l.filter fun x => decide (k x = c + m)).filter fun x => decide (k x = k z)) = [] := by
              rw [List.filter_filter, List.filter_eq_nil_iff]
              intro x _ q
              simp at q
              omega
            rw [this, List.append_nil]
            by_cases q : v < m
            · rw [if_pos q, if_pos (by omega)]
            · rw [if_neg q, if_neg (by omega)]
      rw [gen, if_pos hv']
    · have e1 : l.filter (fun x => decide (k x = k z)) = [] := by
        rw [List.filter_eq_nil_iff]
        intro x hx q
        have := h x hx
        have := of_decide_eq_true q
        omega
      rw [e1, List.flatMap_eq_nil_iff]
      intro v _
      rw [List.filter_filter, List.filter_eq_nil_iff]
      intro x hx q
      have := h x hx
      simp at q
      omega
/-! ### two machines, one after the other -/
theorem sumF_le {f g : Nat → Int} : ∀ {l : List Nat}, (∀ x ∈ l, f x ≤ g x) → sumF f l ≤ sumF g l
  | [], _ => Int.le_refl _
  | x :: l, h => by
    rw [sumF_cons, sumF_cons]
    have := h x (by simp)
    have := sumF_le (l := l) fun y hy => h y (by simp [hy])
    omega
theorem sumF_eq {f g : Nat → Int} {l : List Nat} (h : ∀ x ∈ l, f x = g x) : sumF f l = sumF g l := by
  have h1 := sumF_le (l := l) (f := f) (g := g) fun x hx => by rw [h x hx]; exact Int.le_refl _
  have h2 := sumF_le (l := l) (f := g) (g := f) fun x hx => by rw [h x hx]; exact Int.le_refl _
  omega
theorem first_split {q : Nat → Bool} : ∀ {o : List Nat}, (∃ x ∈ o, q x = true) → ∃ pre y post, o = pre ++ y :: post ∧ q y = true ∧ ∀ i ∈ pre, q i = false
  | [], h => by obtain ⟨x, hx, _⟩ := h; cases hx
  | x :: o, h => by
    cases e : q x with
    | true => exact ⟨[], x, o, rfl, e, by simp⟩
    | false =>
      obtain ⟨y, hy, hq⟩ := h
      rcases List.mem_cons.mp hy with z | z
      · rw [z, e] at hq; cases hq
      · obtain ⟨pre, w, post, e1, e2, e3⟩ := first_split ⟨y, z, hq⟩
        refine ⟨x :: pre, w, post, by rw [e1]; rfl, e2, fun i hi => ?_⟩
        rcases List.mem_cons.mp hi with z | z
        · rw [z]; exact e
        · exact e3 i z
theorem final_split {q : Nat → Bool} {o : List Nat} (h : ∃ x ∈ o, q x = true) : ∃ pre y post, o = pre ++ y :: post ∧ q y = true ∧ ∀ i ∈ post, q i = false := by
  obtain ⟨x, hx, hq⟩ := h
  obtain ⟨pre, y, post, e1, e2, e3⟩ := first_split (o := o.reverse) ⟨x, by simpa using hx, hq⟩
  refine ⟨post.reverse, y, pre.reverse, ?_, e2, fun i hi => e3 i (by simpa using hi)⟩
  have := congrArg List.reverse e1
  rw [List.reverse_reverse] at this
  rw [this]
  simp
section
variable {a b : Nat → Int}
def psS (a b : Nat → Int) (s : Int × Int) (x : Nat) : Int × Int := (s.1 + a x, max (s.1 + a x) s.2 + b x)
def psV (a b : Nat → Int) (o : List Nat) : Int := (o.foldl (psS a b) (0, 0)).2
theorem ps_fst : ∀ (o : List Nat) (s : Int × Int), (o.foldl (psS a b) s).1 = s.1 + sumF a o
  | [], s => by rw [sumF_nil]; simp
  | x :: o, s => by rw [List.foldl_cons, ps_fst o, sumF_cons]; simp only [psS]; omega
theorem ps_ge2 : ∀ (o : List Nat) (s : Int × Int), s.2 + sumF b o ≤ (o.foldl (psS a b) s).2
  | [], s => by rw [sumF_nil]; simp
  | x :: o, s => by
    have := ps_ge2 o (psS a b s x)
    rw [List.foldl_cons, sumF_cons]
    simp only [psS] at *
    omega
theorem ps_ge {y : Nat} {post : List Nat} : ∀ (pre : List Nat) (s : Int × Int), s.1 + sumF a pre + a y + b y + sumF b post ≤ ((pre ++ y :: post).foldl (psS a b) s).2
  | [], s => by
    have := ps_ge2 (a := a) (b := b) post (psS a b s y)
    rw [List.nil_append, List.foldl_cons, sumF_nil]
    simp only [psS] at *
    omega
  | x :: pre, s => by
    have := ps_ge (y := y) (post := post) pre (psS a b s x)
    rw [List.cons_append, List.foldl_cons, sumF_cons]
    simp only [psS] at *
    omega
theorem ps_at : ∀ (o : List Nat) (s : Int × Int), (o.foldl (psS a b) s).2 = s.2 + sumF b o ∨ ∃ pre y post, o = pre ++ y :: post ∧ (o.foldl (psS a b) s).2 = s.1 + sumF a pre + a y + b y + sumF b post
  | [], s => .inl (by rw [sumF_nil]; simp)
  | x :: o, s => by
    rw [List.foldl_cons]
    rcases ps_at o (psS a b s x) with h | ⟨pre, y, post, e, h⟩
    · by_cases c : s.1 + a x ≤ s.2
      · left
        rw [h, sumF_cons]
        simp only [psS]
        omega
      · right
        refine ⟨[], x, o, rfl, ?_⟩
        rw [h, sumF_nil]
        simp only [psS]
        omega
    · right
      refine ⟨x :: pre, y, post, by rw [e]; rfl, ?_⟩
      rw [h, sumF_cons]
      simp only [psS]
      omega
theorem psV_at (ha : ∀ n, 0 ≤ a n) {o : List Nat} (ho : o ≠ []) : ∃ pre y post, o = pre ++ y :: post ∧ psV a b o = sumF a pre + a y + b y + sumF b post := by
  rcases ps_at (a := a) (b := b) o (0, 0) with h | ⟨pre, y, post, e, h⟩
  · cases o with
    | nil => exact absurd rfl ho
    | cons x o =>
      refine ⟨[], x, o, rfl, ?_⟩
      have h1 := ps_ge (a := a) (b := b) (y := x) (post := o) [] (0, 0)
      have h2 := ha x
      unfold psV
      rw [List.nil_append] at h1
      rw [sumF_cons] at h
      rw [sumF_nil] at h1 ⊢
      simp only at h h1
      omega
  · refine ⟨pre, y, post, e, ?_⟩
    unfold psV
    rw [h]
    simp
theorem psV_ge {pre post : List Nat} {y : Nat} : sumF a pre + a y + b y + sumF b post ≤ psV a b (pre ++ y :: post) := by
  have := ps_ge (a := a) (b := b) (y := y) (post := post) pre (0, 0)
  unfold psV
  simpa using this
/-- which comes first by the rule -/
def Jp (a b : Nat → Int) (i j : Nat) : Prop := (a i < b i ∧ (b j ≤ a j ∨ a i ≤ a j)) ∨ (b i ≤ a i ∧ b j ≤ a j ∧ b j ≤ b i)
theorem johnson (ha : ∀ n, 0 ≤ a n) {J o : List Nat} (hp : J.Pairwise (Jp a b)) (hn : J.Nodup) (ho : o.Perm J) : psV a b J ≤ psV a b o := by
  by_cases h0 : J = []
  · subst h0
    have : o = [] := List.eq_nil_of_length_eq_zero (by simpa using ho.length_eq)
    rw [this]
    exact Int.le_refl _
  obtain ⟨P, x, R, rfl, hV⟩ := psV_at (b := b) ha h0
  rw [hV]
  rw [List.pairwise_append, List.pairwise_cons] at hp
  rw [List.nodup_append, List.nodup_cons] at hn
  obtain ⟨_, ⟨hxR, _⟩, hP⟩ := hp
  obtain ⟨_, ⟨hx1, _⟩, hn3⟩ := hn
  have hPx : ∀ i ∈ P, Jp a b i x := fun i hi => hP i hi x (by simp)
  have hxP : x ∉ P := fun h => hn3 x h x (by simp) rfl
  have hPR : ∀ i ∈ P, i ∉ R := fun i hi h => hn3 i hi i (by simp [h]) rfl
  have hm : ∀ i, i ∈ o ↔ i ∈ P ∨ i = x ∨ i ∈ R := fun i => by rw [ho.mem_iff]; simp
  by_cases c : a x < b x
  · let t : Nat → Int := fun i => if i ∈ P then a i else b i
    obtain ⟨pre, y, post, e1, e2, e3⟩ := first_split (q := fun y => decide (y ∉ P ∧ a x ≤ a y)) (o := o) ⟨x, (hm x).mpr (by simp), by simp [hxP]⟩
    have e2' := of_decide_eq_true e2
    have s1 : sumF t (P ++ x :: R) = sumF a P + b x + sumF b R := by
      rw [sumF_app, sumF_cons, sumF_eq (l := P) (f := t) (g := a) fun i hi => if_pos hi, sumF_eq (l := R) (f := t) (g := b) fun i hi => if_neg fun h => hPR i h hi, show t x = b x from if_neg hxP]
      omega
    have s2 : sumF t o = sumF t (P ++ x :: R) := sumF_perm ho
    have s3 : sumF t o = sumF t pre + t y + sumF t post := by rw [e1, sumF_app, sumF_cons]; omega
    have s4 : sumF t pre ≤ sumF a pre := sumF_le fun i hi => by
      by_cases q : i ∈ P
      · show (if i ∈ P then a i else b i) ≤ a i
        rw [if_pos q]; exact Int.le_refl _
      · show (if i ∈ P then a i else b i) ≤ a i
        rw [if_neg q]
        have h1 := of_decide_eq_false (e3 i hi)
        have h2 : ¬ a x ≤ a i := fun z => h1 ⟨q, z⟩
        rcases (hm i).mp (by rw [e1]; simp [hi]) with z | z | z
        · exact absurd z q
        · rw [z] at h2; exact absurd (Int.le_refl _) h2
        · rcases hxR i z with ⟨_, w | w⟩ | ⟨w, _⟩ <;> omega
    have s5 : sumF t post ≤ sumF b post := sumF_le fun i hi => by
      show (if i ∈ P then a i else b i) ≤ b i
      by_cases q : i ∈ P
      · rw [if_pos q]
        rcases hPx i q with ⟨w, _⟩ | ⟨_, w, _⟩ <;> omega
      · rw [if_neg q]; exact Int.le_refl _
    have s6 : t y = b y := if_neg e2'.1
    have s7 := psV_ge (a := a) (b := b) (pre := pre) (post := post) (y := y)
    rw [← e1] at s7
    have := e2'.2
    omega
  · let t : Nat → Int := fun i => if i ∈ R then b i else a i
    obtain ⟨pre, y, post, e1, e2, e3⟩ := final_split (q := fun y => decide (y ∉ R ∧ b x ≤ b y)) (o := o) ⟨x, (hm x).mpr (by simp), by simp [hx1]⟩
    have e2' := of_decide_eq_true e2
    have s1 : sumF t (P ++ x :: R) = sumF a P + a x + sumF b R := by
      rw [sumF_app, sumF_cons, sumF_eq (l := P) (f := t) (g := a) fun i hi => if_neg (hPR i hi), sumF_eq (l := R) (f := t) (g := b) fun i hi => if_pos hi, show t x = a x from if_neg hx1]
      omega
    have s2 : sumF t o = sumF t (P ++ x :: R) := sumF_perm ho
    have s3 : sumF t o = sumF t pre + t y + sumF t post := by rw [e1, sumF_app, sumF_cons]; omega
    have s4 : sumF t pre ≤ sumF a pre := sumF_le fun i hi => by
      show (if i ∈ R then b i else a i) ≤ a i
      by_cases q : i ∈ R
      · rw [if_pos q]
        rcases hxR i q with ⟨w, _⟩ | ⟨_, w, _⟩ <;> omega
      · rw [if_neg q]; exact Int.le_refl _
    have s5 : sumF t post ≤ sumF b post := sumF_le fun i hi => by
      show (if i ∈ R then b i else a i) ≤ b i
      by_cases q : i ∈ R
      · rw [if_pos q]; exact Int.le_refl _
      · rw [if_neg q]
        have h1 := of_decide_eq_false (e3 i hi)
        have h2 : ¬ b x ≤ b i := fun z => h1 ⟨q, z⟩
        rcases (hm i).mp (by rw [e1]; simp [hi]) with z | z | z
        · rcases hPx i z with ⟨w, _⟩ | ⟨_, _, w⟩ <;> omega
        · rw [z] at h2; exact absurd (Int.le_refl _) h2
        · exact absurd z q
    have s6 : t y = a y := if_neg e2'.1
    have s7 := psV_ge (a := a) (b := b) (pre := pre) (post := post) (y := y)
    rw [← e1] at s7
    have := e2'.2
    omega
end
end DL
namespace DL
open PySem PySem.Spec PyProof.Rows L2
/-! ### x[::-1] -/
section
variable {prog : Program} {w : World} {A : Around} {E : Value → Shared → Prop} {s : Shared}
theorem rev_places (n : Nat) : Builtin.Slice.slicePlaces ((n : Int) - 1) (-1) (-1) = n := by
  unfold Builtin.Slice.slicePlaces
  have h1 : ¬ ((-1 : Int) > 0) := by decide
  simp only [h1, if_false]
  by_cases h : (n : Int) - 1 > -1
  · rw [if_pos h, show (- -1 : Int) = 1 by decide, Int.ediv_one]; omega
  · rw [if_neg h]; omega
theorem sliceApplied_rev {sl : Addr} {vk : Value} {n : Nat} {Q : Int × Int × Nat → Shared → Prop} (hs : s.heap.IsSliceOf sl .none .none vk) (pk : IsPart vk (some (-1)))
    (h : Q ((n : Int) - 1, -1, n) s) : wpAny (model prog w) A (Builtin.Slice.sliceApplied (.ref sl) (pure (n : Int))) Q E s := by
  obtain ⟨os, hos, hcs, hds⟩ := id hs
  unfold Builtin.Slice.sliceApplied Builtin.Slice.sliceFields
  refine wpAny_bind (wpAny_bind (wpAny_field hos hds (x := .none) rfl (wpAny_bind (wpAny_field hos hds (x := .none) rfl (wpAny_bind (wpAny_field hos hds (x := vk) rfl (wpAny_pure ?_)))))))
  refine wpAny_bind (HT.slicePart_ pk ?_)
  show wpAny _ _ (if ((-1 : Int) == 0) = true then _ else _) _ _ s
  rw [if_neg (by decide)]
  refine wpAny_bind (slicePart_none (wpAny_bind (slicePart_none (wpAny_bind (wpAny_pure ?_)))))
  show wpAny _ _ (pure ((n : Int) - 1, (-1 : Int), Builtin.Slice.slicePlaces ((n : Int) - 1) (-1) (-1))) _ _ s
  rw [rev_places]
  exact wpAny_pure h
theorem filterMap_ext {α β : Type} {f g : α → Option β} : ∀ {l : List α}, (∀ x ∈ l, f x = g x) → l.filterMap f = l.filterMap g
  | [], _ => rfl
  | x :: l, h => by rw [List.filterMap_cons, List.filterMap_cons, h x (by simp), filterMap_ext fun y hy => h y (by simp [hy])]
theorem rev_pick (xs : Array Value) : ((List.range xs.size).filterMap fun (m : Nat) => xs[(((xs.size : Int) - 1) + (m : Int) * (-1)).toNat]?).toArray = xs.toList.reverse.toArray := by
  have e : ((List.range xs.size).filterMap fun (m : Nat) => xs[(((xs.size : Int) - 1) + (m : Int) * (-1)).toNat]?) = ((List.range xs.size).map fun k => xs.size - 1 - k).filterMap (xs[·]?) := by
    rw [List.filterMap_map]
    refine filterMap_ext fun m hm => ?_
    have := List.mem_range.mp hm
    have : (((xs.size : Int) - 1) + (m : Int) * (-1)).toNat = xs.size - 1 - m := by omega
    rw [this]
    rfl
  rw [e, PySem.W.krv_range, List.filterMap_reverse, PySem.W.krv_all]
theorem getItem_tuple_rev {t sl : Addr} {items : Array Value} {vk : Value} {Q : Value → Shared → Prop} (ht : IsTup s.heap t items) (hs : s.heap.IsSliceOf sl .none .none vk) (pk : IsPart vk (some (-1)))
    (h : Q (.ref s.heap.objs.size) { s with heap := s.heap.push { cls := .type "tuple", data := .seq items.toList.reverse.toArray } })
    (hsz : items.size ≤ sizeLine) : wpAny (model prog w) A (getItem (.ref t) (.ref sl)) Q E s := by
  have htake : sizeOk (.seq items.toList.reverse.toArray) := by
    show items.toList.reverse.toArray.size ≤ sizeLine
    rw [List.size_toArray, List.length_reverse, Array.length_toList]
    exact hsz
  obtain ⟨os, hos, hcs, hds⟩ := id hs
  have hTs : s.TypeIs (.ref sl) "slice" := ⟨os, hos, hcs⟩
  unfold getItem
  try with_reducible refine wpAny_holding ?_
  first | refine wpAny_bind (wpAny_pure ?_) | skip
  refine wpAny_bind (wpAny_sequenceKey ht.typeIs (by decide) ?_)
  refine wpAny_bind (wpAny_callSpecial?_slot (name := Str.ofString "__getitem__") ht.typeIs PyProof.Rows.slot_tuple_getitem
    (wpAny_call_entry PyProof.Rows.slot_tuple_getitem ht.typeIs entry_tuple_getitem ?_ (args_tuple_getitem _ _)))
  show wpAny _ _ (Builtin.Tuple.tupleItemsOf (.ref t) >>= _) _ _ s
  refine wpAny_bind (tupleItemsOf_ ht ?_)
  refine wpAny_bind (wpAny_typeOf hTs ?_)
  rw [if_pos (by decide)]
  refine wpAny_bind (sliceApplied_rev hs pk ?_)
  have hno : ¬ ((((items.size : Int) - 1) == 0 && (-1 : Int) == 1 && items.size == items.size) = true) := by
    intro q
    rw [Bool.and_eq_true, Bool.and_eq_true] at q
    exact absurd q.1.2 (by decide)
  show wpAny _ _ (if (((items.size : Int) - 1) == 0 && (-1 : Int) == 1 && items.size == items.size) = true then _ else _) _ _ s
  rw [if_neg hno, rev_pick]
  first
    | exact wpAny_bind (m := Builtin.Tuple.tupleExact _) (wpAny_newObj_type (wpAny_pure ⟨_, rfl, wpAny_pure h⟩) htake)
    | exact wpAny_bind (m := Builtin.Tuple.tupleExact _) (wpAny_newObj_type (wpAny_bind (wpAny_pure (wpAny_pure ⟨_, rfl, wpAny_pure h⟩))) htake)
    | exact wpAny_bind (wpAny_bind (m := Builtin.Tuple.tupleExact _) (wpAny_newObj_type (wpAny_pure (wpAny_pure ⟨_, rfl, wpAny_pure h⟩)) htake))
    | exact wpAny_bind (wpAny_bind (m := Builtin.Tuple.tupleExact _) (wpAny_newObj_type (wpAny_pure ⟨_, rfl, wpAny_pure h⟩) htake))
end
section
variable {X : Cx} {e k : Expr} {te : TE} {tk : TO} {pos p2 : Pos}
theorem _root_.L2.Vals.rev {xs : List V} {us : List Value} (h : Vals xs us) : Vals xs.reverse us.reverse := Vals.reverse h
def tRev (K : PySem.W.Frag) (te : TE) (tk : TO) : TE := fun σ H Q => te σ H fun x H1 => tk σ H1 fun o H2 => o = some (-1) ∧ ∃ a xs, x = .ref a ∧
  ((SqL K H2 a xs ∧ ∀ p, H2 p = none → Q (.ref p) (upd H2 p (.lst xs.reverse))) ∨ (SqT K H2 a xs ∧ ∀ p, H2 p = none → Q (.ref p) (upd H2 p (.tup xs.reverse))))
theorem pe_rev (he : PE X e te) (hk : PO X (some k) tk) (hsub : ∀ v i, subscripted (.Slice none none (some k) p2) false v i = operate [v, i] (getItem v i) := by intro v i; with_unfolding_all rfl) : PE X (.Subscript e (.Slice none none (some k) p2) pos) (tRev X.K te tk) := by
  refine ⟨fun pins s σ H Q I h => ?_⟩
  refine Subscript_ (thn (he.run pins s σ H _ I h) fun v s1 ⟨x, H1, I1, r1, q1⟩ => ?_)
  refine wpAny_Slice ?_
  rw [evalPart_none]
  refine wpAny_pure (wpAny_pure (thn (hk.run pins s1 σ H1 _ I1 q1) fun vk s3 ⟨o, H3, I3, pk, q3⟩ => ?_))
  obtain ⟨rfl, a, xs, rfl, q⟩ := q3
  cases r1
  have I4 : Inv X pins σ H3 { s3 with heap := s3.heap.push { cls := .type "slice", data := .fields #[.none, .none, vk] } } := I3.kept (t' := s3.toks) fun b ob q => Heap.get?_push_of_some _ q
  show wpAny (model X.prog X.w) X.A (subscriptTail e (.Slice none none (some k) p2) (.ref a) (.ref s3.heap.objs.size)) (EP X pins σ Q) X.xe { s3 with heap := s3.heap.push { cls := .type "slice", data := .fields #[.none, .none, vk] } }
  rcases q with ⟨hx, q⟩ | ⟨hx, q⟩
  · obtain ⟨its, r, ht, hz⟩ := I4.list hx
    have hlen := r.length
    refine tail_any (ops := [.ref a, .ref s3.heap.objs.size]) ht.isList.typeIs slot_list_getitem.lookup ?_ (hsub _ _)
    refine wpAny_getItem_list_slice ht.isList (Heap.IsSliceOf.new ..) .none .none pk (by decide) ?_ (by rw [List.size_toArray] <;> omega)
    rw [PySem.W.krv_pick]
    refine ⟨.ref _, _, I4.laid (t' := s3.toks) (o := .lst xs.reverse) (fun b ob q => Heap.get?_push_of_some _ q) (Nat.le_refl _) ?_, rfl, q _ (I4.hok.fresh (Nat.le_refl _))⟩
    exact ⟨by rw [List.length_reverse]; exact hz, _, 0, r.reverse, Heap.get?_push_size _ rfl⟩
  · obtain ⟨its, r, ht, hz⟩ := I4.tuple hx
    have hlen := r.length
    refine tail_any (ops := [.ref a, .ref s3.heap.objs.size]) ht.typeIs PyProof.Rows.slot_tuple_getitem.lookup ?_ (hsub _ _)
    refine getItem_tuple_rev ht (Heap.IsSliceOf.new ..) pk ?_ (by rw [List.size_toArray] <;> omega)
    refine ⟨.ref _, _, I4.laid (t' := s3.toks) (o := .tup xs.reverse) (fun b ob q => Heap.get?_push_of_some _ q) (Nat.le_refl _) ?_, rfl, q _ (I4.hok.fresh (Nat.le_refl _))⟩
    exact ⟨by rw [List.length_reverse]; exact hz, _, r.reverse, IsTup.new _ _⟩
variable {C : Cc} {W : WX} {fe : FE D} {fo : FE (Option Int)}
/-- t[::-1] of a tuple -/
def eRevT (fa : FE D) (fo : FE (Option Int)) : FE D := fun ρ μ => (fa ρ μ).bind fun x μ1 => (fo ρ μ1).bind fun i μ2 => match x with | .tup ds => if i = some (-1) then .ok (.tup ds.reverse) μ2 else .bad | _ => .bad
theorem de_revT (ha : DE X C W e fe) (hk : DO_ X C W (some k) fo) (hsub : ∀ v i, subscripted (.Slice none none (some k) p2) false v i = operate [v, i] (getItem v i) := by intro v i; with_unfolding_all rfl) (hK : X.K = C.K := by rfl) : DE X C W (.Subscript e (.Slice none none (some k) p2) pos) (eRevT fe fo) := by
  refine ⟨pe_imp (pe_rev ha.pe hk.po hsub) fun σ H Q => ?_⟩
  rintro ⟨η, ρ, μ, s, o, p⟩
  refine ⟨η, ρ, μ, s, o, Post.bind p fun d η1 H1 μ1 n1 o1 p1 x rx => ?_⟩
  refine ⟨η1, ρ, μ1, s.mono n1, o1, Post.bind p1 fun i η2 H2 μ2 n2 o2 p2 => ?_⟩
  split at p2
  · split at p2
    · rename_i hi
      have rx' := rx.mono n2
      cases rx' with
      | tup h1 h2 =>
        rename_i ds a' vs
        refine ⟨hi, _, vs, rfl, .inr ⟨by rw [hK]; exact h1, fun q hq => ?_⟩⟩
        exact Post.new p2 o2 hq _ (rep_new_tup hq h2.reverse)
    · exact p2.elim
  · exact p2.elim
/-- xs[::-1] of a list -/
def eRevL (fa : FE D) (fo : FE (Option Int)) : FE (List D) := fun ρ μ => (fa ρ μ).bind fun x μ1 => (fo ρ μ1).bind fun i μ2 => match listOf μ2 x with | some ds => if i = some (-1) then .ok ds.reverse μ2 else .bad | none => .bad
theorem de_revL (ha : DE X C W e fe) (hk : DO_ X C W (some k) fo) (hsub : ∀ v i, subscripted (.Slice none none (some k) p2) false v i = operate [v, i] (getItem v i) := by intro v i; with_unfolding_all rfl) (hK : X.K = C.K := by rfl) : DEL X C W (.Subscript e (.Slice none none (some k) p2) pos) (eRevL fe fo) := by
  refine ⟨pe_imp (pe_rev ha.pe hk.po hsub) fun σ H Q => ?_⟩
  rintro ⟨η, ρ, μ, s, o, p⟩
  refine ⟨η, ρ, μ, s, o, Post.bind p fun d η1 H1 μ1 n1 o1 p1 x rx => ?_⟩
  refine ⟨η1, ρ, μ1, s.mono n1, o1, Post.bind p1 fun i η2 H2 μ2 n2 o2 p2 => ?_⟩
  cases e : listOf μ2 d with
  | none => simp only [e] at p2; exact p2.elim
  | some ds =>
    simp only [e] at p2
    split at p2
    · rename_i hi
      obtain ⟨q, vs, rfl, hq, r⟩ := list_ok o2 (rx.mono n2) e
      exact ⟨hi, _, vs, rfl, .inl ⟨by rw [hK]; exact hq, fun l hl => Post.newL p2 (n1.trans n2) o2 hl r.reverse⟩⟩
    · exact p2.elim
@[simp] theorem x_eRevT {ρ : En} {μ : Sto} : eRevT fe fo ρ μ = (fe ρ μ).bind fun x μ1 => (fo ρ μ1).bind fun i μ2 => match x with | .tup ds => if i = some (-1) then .ok (.tup ds.reverse) μ2 else .bad | _ => .bad := rfl
@[simp] theorem x_eRevL {ρ : En} {μ : Sto} : eRevL fe fo ρ μ = (fe ρ μ).bind fun x μ1 => (fo ρ μ1).bind fun i μ2 => match listOf μ2 x with | some ds => if i = some (-1) then .ok ds.reverse μ2 else .bad | none => .bad := rfl
end
end DL
namespace DL
open PySem PySem.Spec PyProof.Rows L2
/-! ### instances of own classes -/
section
variable {C : Cc} {η : Nm} {H : Hp} {μ : Sto}
theorem RepK.lookupS : ∀ {vs : List (Str × V)} {ds : List (Str × D)} {f : Str}, RepK C η H vs ds → (∀ d, ds.lookup f = some d → ∃ v, vs.lookup f = some v ∧ Rep C η H v d) ∧ (ds.lookup f = none → vs.lookup f = none)
  | [], [], f, .nil => ⟨(fun d h => nomatch h), fun _ => rfl⟩
  | (k, v) :: vs, (_, d) :: ds, f, .cons r rs => by
    obtain ⟨h1, h2⟩ := RepK.lookupS (f := f) rs
    rw [List.lookup_cons, List.lookup_cons]
    by_cases e : (f == k) = true
    · rw [e]
      exact ⟨fun d' h => by cases h; exact ⟨v, rfl, r⟩, fun h => by cases h⟩
    · rw [Bool.eq_false_iff.mpr e]
      exact ⟨h1, h2⟩
def putA (f : Str) (d : D) : List (Str × D) → List (Str × D)
  | [] => [(f, d)]
  | (g, x) :: r => if g = f then (g, d) :: r else (g, x) :: putA f d r
theorem RepK.putA : ∀ {vs : List (Str × V)} {ds : List (Str × D)} {f : Str} {v : V} {d : D}, RepK C η H vs ds → Rep C η H v d → RepK C η H (putF f v vs) (DL.putA f d ds)
  | [], [], f, v, d, .nil, r => .cons r .nil
  | (k, w) :: vs, (_, e) :: ds, f, v, d, .cons q rs, r => by
    unfold putF DL.putA
    by_cases h : k = f
    · rw [if_pos h, if_pos h]; exact .cons r rs
    · rw [if_neg h, if_neg h]; exact .cons q (RepK.putA rs r)
/-- the attributes of an instance of class c -/
def insAt (c : Nat) (μ : Sto) : D → Option (List (Str × D))
  | .obj n => match μ[n]? with
    | some (.ins c' fs) => if c' = c then some fs else none
    | _ => none
  | _ => none
theorem insAt_ok {c : Nat} {x : V} {d : D} {ds : List (Str × D)} (ok : Ok C η H μ) (rx : Rep C η H x d) (h : insAt c μ d = some ds) : ∃ (n : Nat) (a dx : Addr) (vs : List (Str × V)), d = .obj n ∧ x = .ref a ∧ η.o[n]? = some a ∧ μ[n]? = some (.ins c ds) ∧ H a = some (.ins (C.cc c) dx vs) ∧ RepK C η H vs ds := by
  unfold insAt at h
  split at h
  · rename_i n
    split at h
    · rename_i c' fs e
      split at h
      · rename_i hc
        subst hc
        cases h
        obtain ⟨a, rfl, hn⟩ := rx.obj_inv
        obtain ⟨o, ho, r⟩ := ok.get hn e
        cases r with
        | ins r => exact ⟨n, a, _, _, rfl, rfl, hn, e, ho, r⟩
      · cases h
    · cases h
  · cases h
end
section
variable {X : Cx} {C : Cc} {W : WX} {e o a b value : Expr} {es : List Expr} {pos apos pos' p : Pos} {x f m : Str} {fa fo fv : FE D} {fs : FE (List D)} {c : Nat}
/-- o.f -/
def eFld (c : Nat) (f : Str) (fa : FE D) : FE D := fun ρ μ => (fa ρ μ).bind fun d μ1 => match (insAt c μ1 d).bind fun ds => ds.lookup f with | some v => .ok v μ1 | none => .bad
theorem de_fld (kc : Cls X.K (C.cc c)) (kn : NoAttr X.K (C.cc c) f) (ha : DE X C W e fa) (hb : attributeBase e f X.env (eval e X.env) = eval e X.env := by rfl) : DE X C W (.Attribute e f pos) (eFld c f fa) := by
  refine ⟨pe_imp (pe_fld ha.pe hb) fun σ H Q => ?_⟩
  rintro ⟨η, ρ, μ, s, o, p⟩
  refine ⟨η, ρ, μ, s, o, Post.bind p fun d η1 H1 μ1 n1 o1 p1 y ry => ?_⟩
  cases hi : insAt c μ1 d with
  | none => rw [hi] at p1; exact p1.elim
  | some ds =>
    rw [hi, Option.bind_some] at p1
    cases hl : ds.lookup f with
    | none => rw [hl] at p1; exact p1.elim
    | some v =>
      rw [hl] at p1
      obtain ⟨n, a, dx, vs, rfl, rfl, hn, e1, e2, r⟩ := insAt_ok o1 ry hi
      obtain ⟨w, hw, rw'⟩ := (r.lookupS (f := f)).1 v hl
      exact ⟨a, _, dx, vs, w, rfl, e2, kc, kn, hw, p1.now o1 w rw'⟩
/-- o.f = e -/
def setA (c : Nat) (f : Str) (v : D) (μ : Sto) : D → Option Sto
  | .obj n => match μ[n]? with
    | some (.ins c' fs) => if c' = c ∧ fs.length < 1000 then some (μ.set n (.ins c (putA f v fs))) else none
    | _ => none
  | _ => none
def sAtt (c : Nat) (f : Str) (fo fv : FE D) : FS := fun ρ μ => (fv ρ μ).st ρ fun v μ1 => (fo ρ μ1).st ρ fun d μ2 => match setA c f v μ2 d with | some μ3 => .nx ρ μ3 | none => .bad
theorem ds_att (kc : Cls X.K (C.cc c)) (kn : NoAttr X.K (C.cc c) f) (ho : DE X C W o fo) (hv : DE X C W value fv) (hs : swapsWith value (some (.Attribute o f pos')) pos.line X.env = pure false := by rfl) : DS X C W (.Assign [.Attribute o f pos'] value pos) (sAtt c f fo fv) := by
  refine ⟨ps_imp (ps_fld ho.pe hv.pe hs) fun E σ H => ?_⟩
  rintro ⟨η, ρ, μ, s, ok, p⟩
  refine ⟨η, ρ, μ, s, ok, PostS.bindE s p fun v η1 H1 μ1 n1 o1 s1 p1 y ry => ?_⟩
  refine ⟨η1, ρ, μ1, s1, o1, PostS.bindE s1 p1 fun d η2 H2 μ2 n2 o2 s2 p2 z rz => ?_⟩
  cases hi : setA c f v μ2 d with
  | none => rw [hi] at p2; exact p2.elim
  | some μ3 =>
    rw [hi] at p2
    unfold setA at hi
    split at hi
    · rename_i n
      split at hi
      · rename_i c' ds e
        split at hi
        · rename_i hc
          obtain ⟨rfl, hz⟩ := hc
          cases hi
          have hi2 : insAt c' μ2 (.obj n) = some ds := by unfold insAt; simp only [e, if_true]
          obtain ⟨n', a, dx, vs, e0, rfl, hn, e1, e2, r⟩ := insAt_ok o2 rz hi2
          cases e0
          obtain ⟨o', nx⟩ := o2.put hn e (u := .ins (C.cc c') dx (putF f y vs)) (m := .ins c' (putA f v ds)) (.ins (r.putA (ry.mono n2)))
          exact ⟨a, _, dx, vs, rfl, e2, kc, kn, by rw [r.length]; exact hz, p2 η2 _ σ nx o' (s2.mono nx)⟩
        · cases hi
      · cases hi
    · cases hi
variable {k : Nat} {fd : FuncData} {ps : List Str} {ff : Addr} {G : FD}
/-- o.m(e, ..), o an instance of class c -/
def isObj (c : Nat) (m : Str) (μ : Sto) (d : D) : Bool := match insAt c μ d with | some ds => (ds.lookup m).isNone | none => false
theorem isObj_inv {μ : Sto} {d : D} (h : isObj c m μ d = true) : ∃ ds, insAt c μ d = some ds ∧ ds.lookup m = none := by
  unfold isObj at h
  split at h
  · rename_i ds e
    exact ⟨ds, e, by simpa using h⟩
  · cases h
def eMth (c : Nat) (m : Str) (G : FD) (fo : FE D) (fs : FE (List D)) : FE D := fun ρ μ => (fo ρ μ).bind fun d μ1 => if isObj c m μ1 d = true then (fs ρ μ1).bind fun ds μ2 => G (d :: ds) μ2 else .bad
theorem de_mth {pl : Sem Bool} (kc : Cls X.K (C.cc c)) (km : L2.Meth X.K (C.cc c) m ff) (F : FnOk X.prog X.w X.K X.mg X.base (L2.CX X.prog X.w) k ff fd ps (spD C ps.length G)) (hb : Binds X.K fd ps []) (hr : Room k X.A) (tk : Takes X W) (ho : DE X C W o fo) (ha : DA X C W (e :: es) fs) (hl : (o :: e :: es).length = ps.length := by rfl)
    (hst : starEach (e :: es) X.env = (false, eval e X.env) :: starEach es X.env := by rfl) (hpl : (backTo pos (starEach es X.env)).any (·.1) = false := by rfl)
    (ht : eval (.Call (.Attribute o m apos) (e :: es) [] pos) X.env = (do
      let ov ← eval o X.env
      standAt apos.atName
      let (f, first) ← holding [ov] (getMethod ov m pl)
      callWith pos f first (backTo pos (starEach (e :: es) X.env)) (backToKw pos (keywordEach [] X.env))) := by rfl) :
    DE X C W (.Call (.Attribute o m apos) (e :: es) [] pos) (eMth c m G fo fs) := by
  refine ⟨⟨fun pins s σ H Q I h => ?_⟩⟩
  refine PySem.W.methodCall_KW (pl := pl) (thn (ho.pe.run pins s σ H (fun x H1 => ∃ (a dx : Addr) (vs : List (Str × V)), x = .ref a ∧ H1 a = some (.ins (C.cc c) dx vs) ∧ vs.lookup m = none ∧ tDA C W fs σ H1 fun us H2 => spD C ps.length G (.ref a :: us) H2 Q (WE W σ)) I ?_) fun u s1 ⟨x, H1, I1, rx, a, dx, vs, ex, ea, l, q⟩ => ?_) ht
  · obtain ⟨η, ρ, μ, s, ok, p⟩ := h
    refine ⟨η, ρ, μ, s, ok, Post.bind p fun d η1 H1 μ1 n1 o1 p1 x rx => ?_⟩
    have p1' : Post C W η1 H1 σ (PV C Q) (if isObj c m μ1 d = true then (fs ρ μ1).bind fun ds μ2 => G (d :: ds) μ2 else .bad) := p1
    by_cases hob : isObj c m μ1 d = true
    · rw [if_pos hob] at p1'
      obtain ⟨ds, hi, hln⟩ := isObj_inv hob
      obtain ⟨n, a, dx, vs, rfl, rfl, hn, e1, e2, r⟩ := insAt_ok o1 rx hi
      refine ⟨a, dx, vs, rfl, e2, (r.lookupS (f := m)).2 hln, η1, ρ, μ1, s.mono n1, o1, Post.bind' p1' fun es' η2 H2 μ2 eq n2 o2 p3 us rus => ?_⟩
      refine ⟨η2, .obj n :: es', μ2, ?_, .cons (rx.mono n2) rus, o2, PostF.of p3⟩
      rw [List.length_cons, rus.length, ha.len _ _ _ _ eq]
      exact hl
    · rw [if_neg hob] at p1'; exact p1'.elim
  · subst ex
    obtain rfl : u = Value.ref a := rx
    refine getmeth_ok I1 ea kc km l ?_
    refine PySem.W.callWith_K (first := [.ref a]) (h₀ := X.base) I1.ok.mod.kin km.kp (thn (ha.pa.run pos pins s1 σ H1 _ I1 q) fun us s2 ⟨vs', H2, I2, r, q2⟩ => ⟨I2.kIn, ?_⟩) hst hpl
    exact run_fnS (E := fun σ => WE W σ) (us := .ref a :: us) (vs := .ref a :: vs') F hr hb (passAt tk σ) I2 (.cons rfl r) q2
/-- o.m() -/
theorem de_mth0 {pl : Sem Bool} (kc : Cls X.K (C.cc c)) (km : L2.Meth X.K (C.cc c) m ff) (F : FnOk X.prog X.w X.K X.mg X.base (L2.CX X.prog X.w) k ff fd ps (spD C ps.length G)) (hb : Binds X.K fd ps []) (hr : Room k X.A) (tk : Takes X W) (ho : DE X C W o fo) (hl : 1 = ps.length := by rfl)
    (ht : eval (.Call (.Attribute o m apos) [] [] pos) X.env = (do
      let ov ← eval o X.env
      standAt apos.atName
      let (f, first) ← holding [ov] (getMethod ov m pl)
      callWith pos f first (backTo pos (starEach [] X.env)) (backToKw pos (keywordEach [] X.env))) := by rfl) :
    DE X C W (.Call (.Attribute o m apos) [] [] pos) (eMth c m G fo eNil) := by
  refine ⟨⟨fun pins s σ H Q I h => ?_⟩⟩
  refine PySem.W.methodCall_KW (pl := pl) (thn (ho.pe.run pins s σ H (fun x H1 => ∃ (a dx : Addr) (vs : List (Str × V)), x = .ref a ∧ H1 a = some (.ins (C.cc c) dx vs) ∧ vs.lookup m = none ∧ spD C ps.length G [.ref a] H1 Q (WE W σ)) I ?_) fun u s1 ⟨x, H1, I1, rx, a, dx, vs, ex, ea, l, q⟩ => ?_) ht
  · obtain ⟨η, ρ, μ, s, ok, p⟩ := h
    refine ⟨η, ρ, μ, s, ok, Post.bind p fun d η1 H1 μ1 n1 o1 p1 x rx => ?_⟩
    have p1' : Post C W η1 H1 σ (PV C Q) (if isObj c m μ1 d = true then G [d] μ1 else .bad) := p1
    by_cases hob : isObj c m μ1 d = true
    · rw [if_pos hob] at p1'
      obtain ⟨ds, hi, hln⟩ := isObj_inv hob
      obtain ⟨n, a, dx, vs, rfl, rfl, hn, e1, e2, r⟩ := insAt_ok o1 rx hi
      exact ⟨a, dx, vs, rfl, e2, (r.lookupS (f := m)).2 hln, η1, [.obj n], μ1, hl, .cons rx .nil, o1, PostF.of p1'⟩
    · rw [if_neg hob] at p1'; exact p1'.elim
  · subst ex
    obtain rfl : u = Value.ref a := rx
    refine getmeth_ok I1 ea kc km l ?_
    exact PySem.W.callWith_K0 (first := [.ref a]) I1.kIn km.kp (run_fnS (E := fun σ => WE W σ) (us := [.ref a]) (vs := [.ref a]) F hr hb (passAt tk σ) I1 (.cons rfl .nil) q)
/-- C(e, ..): a new instance, then __init__ -/
def eNew (c : Nat) (G : FD) (fs : FE (List D)) : FE D := fun ρ μ => (fs ρ μ).bind fun ds μ1 => (G (.obj μ1.length :: ds) (μ1 ++ [.ins c []])).bind fun v μ2 => match v with | .non => .ok (.obj μ1.length) μ2 | _ => .bad
theorem run_makeS {pins : List (Addr × Obj)} {σ : L2.St} {H : Hp} {s : Shared} {Q : VK} {us : List Value} {vs : List V} {cA : Addr} {sp : Sp} {E : XK} (M : L2.Mk X.K cA ff) (F : FnOk X.prog X.w X.K X.mg X.base (L2.CX X.prog X.w) k ff fd ps sp) (hr : Room (k + 1) X.A) (hb : Binds X.K fd ps [])
    (hx : PassesAt (L2.CX X.prog X.w) X σ E) (I : Inv X pins σ H s) (r : Vals vs us)
    (h : ∀ x dx, H x = none → H dx = none → dx ≠ x → sp (.ref x :: vs) (upd (upd H dx (.own x)) x (.ins cA dx [])) (fun v H2 => v = .non ∧ Q (.ref x) H2) E) :
    wpAny (model X.prog X.w) X.A (call (.ref cA) us) (EP X pins σ Q) X.xe s := by
  have hq := h (s.heap.objs.size + 1) s.heap.objs.size (I.hok.fresh (Nat.le_succ _)) (I.hok.fresh (Nat.le_refl _)) (Nat.ne_of_lt (Nat.lt_succ_self _))
  have I2 := Inv.made (C := cA) I
  have r2 : Vals (V.ref (s.heap.objs.size + 1) :: vs) (Value.ref (s.heap.objs.size + 1) :: us) := .cons rfl r
  have hl : (Value.ref (s.heap.objs.size + 1) :: us ++ []).length = ps.length := by
    have e := r2.length
    rw [F.len _ _ _ _ hq] at e
    rw [List.append_nil]
    exact e.symm
  have hbb := hb _ (Value.ref (s.heap.objs.size + 1) :: us) I2.kIn hl
  rw [List.append_nil] at hbb
  refine wpAny_call (make_map (f := ff) I.kIn M.makes M.init (beq_iff_eq.mp M.fn) (codeAny_mono (F.run _ X.stack _ _ ⟨Value.ref (s.heap.objs.size + 1) :: us, []⟩ (Value.ref (s.heap.objs.size + 1) :: us) _ _ E (hr.make cA us [])
    (I2.env0.make cA us []) hbb r2 hq) fun r s' hq' => ?_))
  cases r with
  | error e => exact hx pins _ _ e s' I2 hq'
  | ok fl =>
    cases fl with
    | ret u =>
      obtain ⟨v, H', I3, rv, ev, q3⟩ := I2.after hq'
      subst ev
      exact ⟨rv, ⟨V.ref (s.heap.objs.size + 1), H', I3, rfl, q3⟩⟩
    | next => exact False.elim hq'
    | brk => exact False.elim hq'
    | cont => exact False.elim hq'
theorem new_sp {σ : L2.St} {H : Hp} {Q : VK} {η : Nm} {ds : List D} {μ : Sto} {us : List V} (hl : ds.length + 1 = ps.length) (ru : Reps C η H us ds) (o1 : Ok C η H μ)
    (p : Post C W η H σ (PV C Q) ((G (.obj μ.length :: ds) (μ ++ [.ins c []])).bind fun v μ2 => match v with | .non => .ok (.obj μ.length) μ2 | _ => .bad)) (x dx : Addr) (hx : H x = none) (hd : H dx = none) (hne : dx ≠ x) :
    spD C ps.length G (.ref x :: us) (upd (upd H dx (.own x)) x (.ins (C.cc c) dx [])) (fun v H2 => v = .non ∧ Q (.ref x) H2) (WE W σ) := by
  have sm := Same.new (o := HO.own x) hd
  have o2 : Ok C η (upd H dx (.own x)) μ := o1.same sm
  have hx2 : (upd H dx (.own x)) x = none := by rw [upd_ne (fun z => hne z.symm)]; exact hx
  obtain ⟨o3, n3, e3⟩ := o2.new hx2 (u := .ins (C.cc c) dx []) (m := .ins c []) (.ins .nil)
  have nx := (Same.nxt (C := C) (η := η) sm).trans n3
  refine ⟨η.add x, .obj μ.length :: ds, _, by rw [List.length_cons, ru.length]; exact hl, .cons (.obj e3) (ru.mono nx), o3, ?_⟩
  have p' := p.mono nx
  cases hG : G (.obj μ.length :: ds) (μ ++ [.ins c []]) with
  | ok d μ' =>
    rw [hG, R.bind_ok] at p'
    intro η' H' v n' o' rv
    cases d with
    | non => exact ⟨(by cases rv; rfl), p' η' H' n' o' _ (.obj (n'.get e3))⟩
    | _ => exact p'.elim
  | ex a b μ' => rw [hG] at p'; exact p'
  | bad => rw [hG] at p'; exact p'
theorem de_new {cx : Str} (M : L2.Mk X.K (C.cc c) ff) (hm : X.mg cx = some (.ref (C.cc c))) (F : FnOk X.prog X.w X.K X.mg X.base (L2.CX X.prog X.w) k ff fd ps (spD C ps.length G)) (hb : Binds X.K fd ps []) (hr : Room (k + 1) X.A) (tk : Takes X W) (ha : DA X C W (e :: es) fs) (hl : (e :: es).length + 1 = ps.length := by rfl) (hg : Gl X cx := by rfl)
    (hdb : (cx == ("__debug__" : Str)) = false := by decide) (he : starEach (e :: es) X.env = (false, eval e X.env) :: starEach es X.env := by rfl) (hpl : (backTo pos (starEach es X.env)).any (·.1) = false := by rfl) : DE X C W (.Call (.Name cx p) (e :: es) [] pos) (eNew c G fs) := by
  refine ⟨⟨fun pins s σ H Q I h => ?_⟩⟩
  refine wpAny_Call_Name_kw (ld_glob I hg hm ?_ hdb)
  refine PySem.W.callWith_K (h₀ := X.base) I.ok.mod.kin M.kp (thn (ha.pa.run pos pins s σ H (fun us H1 => ∀ x dx, H1 x = none → H1 dx = none → dx ≠ x → spD C ps.length G (.ref x :: us) (upd (upd H1 dx (.own x)) x (.ins (C.cc c) dx [])) (fun v H2 => v = .non ∧ Q (.ref x) H2) (WE W σ)) I ?_) fun us s1 ⟨vs, H1, I1, r, q⟩ => ⟨I1.kIn, ?_⟩) he hpl
  · obtain ⟨η, ρ, μ, s, ok, p⟩ := h
    exact ⟨η, ρ, μ, s, ok, Post.bind' p fun ds η1 H1 μ1 eq n1 o1 p1 us rus x dx hx hd hne => new_sp (by rw [ha.len _ _ _ _ eq]; exact hl) rus o1 p1 x dx hx hd hne⟩
  · exact run_makeS M F hr hb (passAt tk σ) I1 r q
/-- C() -/
theorem de_new0 {cx : Str} (M : L2.Mk X.K (C.cc c) ff) (hm : X.mg cx = some (.ref (C.cc c))) (F : FnOk X.prog X.w X.K X.mg X.base (L2.CX X.prog X.w) k ff fd ps (spD C ps.length G)) (hb : Binds X.K fd ps []) (hr : Room (k + 1) X.A) (tk : Takes X W) (hl : 1 = ps.length := by rfl) (hg : Gl X cx := by rfl)
    (hdb : (cx == ("__debug__" : Str)) = false := by decide) : DE X C W (.Call (.Name cx p) [] [] pos) (eNew c G eNil) := by
  refine ⟨⟨fun pins s σ H Q I h => ?_⟩⟩
  refine wpAny_Call_Name_kw (ld_glob I hg hm ?_ hdb)
  obtain ⟨η, ρ, μ, s', ok, p⟩ := h
  exact PySem.W.callWith_K0 I.kIn M.kp (run_makeS (us := []) M F hr hb (passAt tk σ) I .nil fun x dx hx hd hne => new_sp (ds := []) hl .nil ok p x dx hx hd hne)
section
variable {ρ : En} {μ : Sto}
@[simp] theorem x_eFld : eFld c f fa ρ μ = (fa ρ μ).bind fun d μ1 => match (insAt c μ1 d).bind fun ds => ds.lookup f with | some v => .ok v μ1 | none => .bad := rfl
@[simp] theorem x_sAtt : sAtt c f fo fv ρ μ = (fv ρ μ).st ρ fun v μ1 => (fo ρ μ1).st ρ fun d μ2 => match setA c f v μ2 d with | some μ3 => .nx ρ μ3 | none => .bad := rfl
@[simp] theorem x_eMth : eMth c m G fo fs ρ μ = (fo ρ μ).bind fun d μ1 => if isObj c m μ1 d = true then (fs ρ μ1).bind fun ds μ2 => G (d :: ds) μ2 else .bad := rfl
@[simp] theorem x_eNew : eNew c G fs ρ μ = (fs ρ μ).bind fun ds μ1 => (G (.obj μ1.length :: ds) (μ1 ++ [.ins c []])).bind fun v μ2 => match v with | .non => .ok (.obj μ1.length) μ2 | _ => .bad := rfl
end
end
end DL
namespace DL
open PySem PySem.Spec PyProof.Rows L2
/-! ### o.f op= e, xs[i] op= e -/
section
variable {X : Cx} {C : Cc} {W : WX} {e o i : Expr} {pos tpos : Pos} {f : Str} {fo fi fe : FE D} {c : Nat}
def gOpI (g : Int → Int → Option Int) (x y : D) : Option D := match x, y with
  | .int a, .int b => (g a b).map .int
  | _, _ => none
/-- o.f op= e -/
def sAttAug (c : Nat) (f : Str) (g : Int → Int → Option Int) (fo fe : FE D) : FS := fun ρ μ => (fo ρ μ).st ρ fun d μ1 => match (insAt c μ1 d).bind fun ds => ds.lookup f with
  | some x => (fe ρ μ1).st ρ fun y μ2 => match gOpI g x y with
    | some z => (match setA c f z μ2 d with | some μ3 => .nx ρ μ3 | none => .bad)
    | none => .bad
  | none => .bad
theorem setA_ok {η : Nm} {H : Hp} {μ μ' : Sto} {x y : V} {d z : D} (ok : Ok C η H μ) (rx : Rep C η H x d) (ry : Rep C η H y z) (h : setA c f z μ d = some μ') :
    ∃ (a dx : Addr) (vs : List (Str × V)), x = .ref a ∧ H a = some (.ins (C.cc c) dx vs) ∧ vs.length < 1000 ∧ Ok C η (upd H a (.ins (C.cc c) dx (putF f y vs))) μ' ∧ Nxt C η H η (upd H a (.ins (C.cc c) dx (putF f y vs))) := by
  unfold setA at h
  split at h
  · rename_i n
    split at h
    · rename_i c' ds e
      split at h
      · rename_i hc
        obtain ⟨rfl, hz⟩ := hc
        cases h
        have hi2 : insAt c' μ (.obj n) = some ds := by unfold insAt; simp only [e, if_true]
        obtain ⟨n', a, dx, vs, e0, rfl, hn, e1, e2, r⟩ := insAt_ok ok rx hi2
        cases e0
        obtain ⟨o', nx⟩ := ok.put hn e (u := .ins (C.cc c') dx (putF f y vs)) (m := .ins c' (putA f z ds)) (.ins (r.putA ry))
        exact ⟨a, dx, vs, rfl, e2, by rw [r.length]; exact hz, o', nx⟩
      · cases h
    · cases h
  · cases h
theorem ds_attAug {op : Operator} {ti : TIp} {g : Int → Int → Option Int} (ho' : PIp X op ti) (hg : ∀ a b c H Q, g a b = some c → Q (.int c) H → ti (.int a) (.int b) H Q) (kc : Cls X.K (C.cc c)) (kn : NoAttr X.K (C.cc c) f) (ho : DE X C W o fo) (he : DE X C W e fe) :
    DS X C W (.AugAssign (.Attribute o f tpos) op e pos) (sAttAug c f g fo fe) := by
  refine ⟨ps_imp (ps_fldaug ho.pe he.pe (fun pins s σ H x y u v Q I r1 r2 q => ho' pins s σ H x y u v Q I r1 r2 q)) fun E σ H => ?_⟩
  rintro ⟨η, ρ, μ, s, ok, p⟩
  refine ⟨η, ρ, μ, s, ok, PostS.bindE s p fun d η1 H1 μ1 n1 o1 s1 p1 x rx => ?_⟩
  cases hi : insAt c μ1 d with
  | none => rw [hi] at p1; exact p1.elim
  | some ds =>
    rw [hi, Option.bind_some] at p1
    cases hl : ds.lookup f with
    | none => rw [hl] at p1; exact p1.elim
    | some v =>
      rw [hl] at p1
      obtain ⟨n, a, dx, vs, rfl, rfl, hn, e1, e2, r⟩ := insAt_ok o1 rx hi
      obtain ⟨w, hw, rw'⟩ := (r.lookupS (f := f)).1 v hl
      refine ⟨a, _, dx, vs, w, rfl, e2, kc, kn, hw, ?_⟩
      refine ⟨η1, ρ, μ1, s1, o1, PostS.bindE s1 p1 fun y η2 H2 μ2 n2 o2 s2 p2 z rz => ?_⟩
      cases hq : gOpI g v y with
      | none => rw [hq] at p2; exact p2.elim
      | some zz =>
        rw [hq] at p2
        have rv := rw'.mono n2
        unfold gOpI at hq
        split at hq
        · rename_i i j
          cases hgz : g i j with
          | none => rw [hgz] at hq; cases hq
          | some k =>
            rw [hgz] at hq
            cases hq
            rw [rv.int_inv, rz.int_inv]
            refine hg i j k H2 _ hgz ?_
            have p3 : PostS C W η2 H2 E (match setA c f (.int k) μ2 (.obj n) with | some μ3 => SR.nx ρ μ3 | none => .bad) := p2
            cases hs : setA c f (.int k) μ2 (.obj n) with
            | none => rw [hs] at p3; exact p3.elim
            | some μ3 =>
              rw [hs] at p3
              obtain ⟨a', dx', vs', ea, e3, hz, o', nx⟩ := setA_ok o2 ((Rep.obj hn).mono n2) (.int k) hs
              cases ea
              exact ⟨dx', vs', e3, hz, p3 η2 _ σ nx o' (s2.mono nx)⟩
        · cases hq
theorem get_list : PGet X (rIxL X.K) := by
  intro pins s σ H x y v u Q I rx ry h
  obtain ⟨p, xs, i, z, rfl, rfl, hq, he, q⟩ := h
  cases rx
  obtain ⟨t, rfl⟩ := ry
  obtain ⟨its, r, pl, hz⟩ := I.list hq
  obtain ⟨j, h1, h2, h3, h4, h5⟩ := atI_get he
  obtain ⟨w, ew, rw'⟩ := r.get h2
  have hl := r.length
  have fin : EP X pins σ Q w s := ⟨z, H, I, rw', q⟩
  by_cases h0 : 0 ≤ i
  · have hj : i.toNat = j := by
      rw [seqIndex_of h0 h5] at h1
      exact Option.some.inj h1
    exact wpAny_getItem_list pl.isList h0 (by rw [sizeLine_eq] at hz; omega) (by rw [hj]; simpa using ew) fin
  · have hj : (i + (its.toArray.size : Int)).toNat = j := by
      rw [seqIndex_neg (by omega) h4] at h1
      rw [List.size_toArray, ← hl]
      exact Option.some.inj h1
    exact wpAny_getItem_list_neg pl.isList (by omega) (by rw [List.size_toArray] <;> omega) (by rw [sizeLine_eq] at hz; omega) (by rw [hj]; simpa using ew) fin
/-- xs[i] op= e, a list of the store -/
def sPutAug (g : Int → Int → Option Int) (fo fi fe : FE D) : FS := fun ρ μ => (fo ρ μ).st ρ fun d μ1 => (fi ρ μ1).st ρ fun k μ2 => match d with
  | .obj n => (match gIx μ2 (.obj n) k with
    | some x => (fe ρ μ2).st ρ fun y μ3 => (match gOpI g x y with
      | some z => (match gSet (.obj n) k z μ3 with | some μ4 => .nx ρ μ4 | none => .bad)
      | none => .bad)
    | none => .bad)
  | _ => .bad
theorem gIx_obj {η : Nm} {H : Hp} {μ : Sto} {x y : V} {k v : D} {n : Nat} (ok : Ok C η H μ) (rx : Rep C η H x (.obj n)) (ry : Rep C η H y k) (h : gIx μ (.obj n) k = some v) : ∃ (p : Addr) (xs : List V) (i : Int) (w : V), x = .ref p ∧ y = .int i ∧ SqL C.K H p xs ∧ L2.atI xs i = some w ∧ Rep C η H w v := by
  cases k with
  | int i =>
    have h' : ((lstAt μ n).bind fun ds => L2.atI ds i) = some v := h
    cases hl : lstAt μ n with
    | none => rw [hl] at h'; cases h'
    | some ds =>
      rw [hl, Option.bind_some] at h'
      obtain ⟨a, rfl, hn⟩ := rx.obj_inv
      obtain ⟨vs, h1, h2⟩ := ok.lst hn (lstAt_iff.mp hl)
      have hlen := h2.length
      unfold L2.atI at h' ⊢
      cases hj : ixN ds.length i with
      | none => rw [hj] at h'; cases h'
      | some j =>
        rw [hj, Option.bind_some] at h'
        obtain ⟨w, hw, rw'⟩ := h2.get h'
        refine ⟨a, vs, i, w, rfl, ry.int_inv, .of h1, ?_, rw'⟩
        rw [hlen, hj, Option.bind_some]
        exact hw
  | _ => cases h
theorem ds_putAug {op : Operator} {ti : TIp} {g : Int → Int → Option Int} (ho' : PIp X op ti) (hg : ∀ a b c H Q, g a b = some c → Q (.int c) H → ti (.int a) (.int b) H Q) (ho : DE X C W o fo) (hi : DE X C W i fi) (he : DE X C W e fe)
    (hu : X.A.units + 64 < cLine) (ha : ∀ ov iv new, augStore i ov iv new = (do holding [new, ov, iv] (setItem ov iv new); release [new, ov, iv] []; pure .next) := by intros; rfl) (hK : X.K = C.K := by rfl) :
    DS X C W (.AugAssign (.Subscript o i tpos) op e pos) (sPutAug g fo fi fe) := by
  refine ⟨ps_imp (ps_augS ho.pe hi.pe get_list he.pe ho' (pset_or set_list (set_dict (by omega))) ha) fun E σ H => ?_⟩
  rintro ⟨η, ρ, μ, s, ok, p⟩
  refine ⟨η, ρ, μ, s, ok, PostS.bindE s p fun d η1 H1 μ1 n1 o1 s1 p1 x rx => ?_⟩
  refine ⟨η1, ρ, μ1, s1, o1, PostS.bindE s1 p1 fun k η2 H2 μ2 n2 o2 s2 p2 y ry => ?_⟩
  split at p2
  · rename_i n
    cases hx : gIx μ2 (.obj n) k with
    | none => rw [hx] at p2; exact p2.elim
    | some v =>
      rw [hx] at p2
      have rx2 := rx.mono n2
      obtain ⟨pp, xs, ii, w, ex, ey, hq, hat, rv⟩ := gIx_obj o2 rx2 ry hx
      refine ⟨pp, xs, ii, w, ex, ey, by rw [hK]; exact hq, hat, ?_⟩
      refine ⟨η2, ρ, μ2, s2, o2, PostS.bindE s2 p2 fun q η3 H3 μ3 n3 o3 s3 p3 z rz => ?_⟩
      cases hq : gOpI g v q with
      | none => rw [hq] at p3; exact p3.elim
      | some zz =>
        rw [hq] at p3
        have rv3 := rv.mono n3
        unfold gOpI at hq
        split at hq
        · rename_i a b
          cases hgz : g a b with
          | none => rw [hgz] at hq; cases hq
          | some c =>
            rw [hgz] at hq
            cases hq
            rw [rv3.int_inv, rz.int_inv]
            refine hg a b c H3 _ hgz ?_
            have p4 : PostS C W η3 H3 E (match gSet (.obj n) k (.int c) μ3 with | some μ4 => SR.nx ρ μ4 | none => .bad) := p3
            cases hs : gSet (.obj n) k (.int c) μ3 with
            | none => rw [hs] at p4; exact p4.elim
            | some μ4 =>
              rw [hs] at p4
              exact gSet_ok o3 (rx2.mono n3) (ry.mono n3) (.int c) hs fun H' nx o' => p4 η3 H' σ nx o' (s3.mono nx)
        · cases hq
  · exact p2.elim
section
variable {ρ : En} {μ : Sto}
@[simp] theorem x_sAttAug {g : Int → Int → Option Int} : sAttAug c f g fo fe ρ μ = (fo ρ μ).st ρ fun d μ1 => match (insAt c μ1 d).bind fun ds => ds.lookup f with
  | some x => (fe ρ μ1).st ρ fun y μ2 => match gOpI g x y with
    | some z => (match setA c f z μ2 d with | some μ3 => .nx ρ μ3 | none => .bad)
    | none => .bad
  | none => .bad := rfl
@[simp] theorem x_sPutAug {g : Int → Int → Option Int} : sPutAug g fo fi fe ρ μ = (fo ρ μ).st ρ fun d μ1 => (fi ρ μ1).st ρ fun k μ2 => match d with
  | .obj n => (match gIx μ2 (.obj n) k with
    | some x => (fe ρ μ2).st ρ fun y μ3 => (match gOpI g x y with
      | some z => (match gSet (.obj n) k z μ3 with | some μ4 => .nx ρ μ4 | none => .bad)
      | none => .bad)
    | none => .bad)
  | _ => .bad := rfl
@[simp] theorem x_gOpI {g : Int → Int → Option Int} {a b : Int} : gOpI g (.int a) (.int b) = (g a b).map .int := rfl
end
theorem ag_add : ∀ a b c (H : Hp) Q, gAugAdd a b = some c → Q (.int c) H → ipI (fun i j => i + j) (.int a) (.int b) H Q := fun a b c H Q h q => by cases h; exact ⟨a, b, rfl, rfl, q⟩
theorem ag_sub : ∀ a b c (H : Hp) Q, gAugSub a b = some c → Q (.int c) H → ipI (fun i j => i - j) (.int a) (.int b) H Q := fun a b c H Q h q => by cases h; exact ⟨a, b, rfl, rfl, q⟩
end
end DL
namespace DL
open PySem PySem.Spec PyProof.Rows L2
/-! ### {k: v, ..}, keys ints and texts -/
inductive RepP (C : Cc) (η : Nm) (H : Hp) : List (V × V) → List (D × D) → Prop
  | nil : RepP C η H [] []
  | cons {x y : V} {a b : D} {vs : List (V × V)} {ds : List (D × D)} : Rep C η H x a → Rep C η H y b → RepP C η H vs ds → RepP C η H ((x, y) :: vs) ((a, b) :: ds)
theorem RepP.mono {C : Cc} {η η' : Nm} {H H' : Hp} (n : Nxt C η H η' H') : ∀ {vs : List (V × V)} {ds : List (D × D)}, RepP C η H vs ds → RepP C η' H' vs ds
  | _, _, .nil => .nil
  | _, _, .cons r1 r2 r => .cons (r1.mono n) (r2.mono n) (RepP.mono n r)
def keysOf : List (D × D) → Option (List (Key × D))
  | [] => some []
  | (a, b) :: r => (keyD a).bind fun k => (keysOf r).map fun l => (k, b) :: l
theorem keysOf_ok {C : Cc} {η : Nm} {H : Hp} : ∀ {vs : List (V × V)} {ds : List (D × D)} {l : List (Key × D)}, RepP C η H vs ds → keysOf ds = some l → ∃ kvs : List (Key × V), vs = kvs.map (fun kv => (kV kv.1, kv.2)) ∧ RepK C η H kvs l
  | [], [], l, .nil, h => by cases h; exact ⟨[], rfl, .nil⟩
  | (x, y) :: vs, (a, b) :: ds, l, .cons r1 r2 r, h => by
    unfold keysOf at h
    cases hk : keyD a with
    | none => rw [hk] at h; cases h
    | some k =>
      rw [hk, Option.bind_some] at h
      cases hl : keysOf ds with
      | none => rw [hl] at h; cases h
      | some l' =>
        rw [hl] at h
        cases h
        obtain ⟨kvs, e, q⟩ := keysOf_ok r hl
        exact ⟨(k, y) :: kvs, by rw [keyD_ok r1 hk, e]; rfl, .cons r2 q⟩
def mergeD (kvs more : List (Key × D)) : List (Key × D) := more.foldl (fun acc kv => putD acc kv.1 kv.2) kvs
theorem RepK.merge {C : Cc} {η : Nm} {H : Hp} : ∀ {mv : List (Key × V)} {md : List (Key × D)} {vs : List (Key × V)} {ds : List (Key × D)}, RepK C η H vs ds → RepK C η H mv md → RepK C η H (mergeK vs mv) (mergeD ds md)
  | [], [], _, _, r, .nil => r
  | (k, v) :: mv, (_, d) :: md, vs, ds, r, .cons h q => RepK.merge (mv := mv) (md := md) (r.put k h) q
structure DPs (X : Cx) (C : Cc) (W : WX) (pos : Pos) (keys : List (Option Expr)) (values : List Expr) (f : FE (List (D × D))) : Prop where
  ex : ∃ trs, PPs X pos keys values trs ∧ ∀ σ H (Q : List (V × V) → Hp → Prop), (∃ η ρ μ, Slots C η H σ ρ ∧ Ok C η H μ ∧ Post C W η H σ (fun ds η' H' μ' => Ok C η' H' μ' → ∀ ps, RepP C η' H' ps ds → Q ps H') (f ρ μ)) → tPairs trs σ H Q
def pNil : FE (List (D × D)) := fun _ μ => .ok [] μ
def pCons (fk fv : FE D) (f : FE (List (D × D))) : FE (List (D × D)) := fun ρ μ => (fk ρ μ).bind fun a μ1 => (fv ρ μ1).bind fun b μ2 => (f ρ μ2).bind fun r μ3 => .ok ((a, b) :: r) μ3
section
variable {X : Cx} {C : Cc} {W : WX} {k v : Expr} {pos : Pos} {keys : List (Option Expr)} {values : List Expr} {fk fv : FE D} {f : FE (List (D × D))}
theorem dps_nil : DPs X C W pos [] [] pNil := ⟨[], pps_nil, fun σ H Q ⟨η, ρ, μ, s, o, p⟩ => p.now o o [] .nil⟩
theorem dps_cons (hk : DE X C W k fk) (hv : DE X C W v fv) (hr : DPs X C W pos keys values f) : DPs X C W pos (some k :: keys) (v :: values) (pCons fk fv f) := by
  obtain ⟨trs, pp, im⟩ := hr.ex
  refine ⟨_, pps_cons hk.pe hv.pe pp, fun σ H Q => ?_⟩
  rintro ⟨η, ρ, μ, s, o, p⟩
  refine ⟨η, ρ, μ, s, o, Post.bind p fun a η1 H1 μ1 n1 o1 p1 x rx => ?_⟩
  refine ⟨η1, ρ, μ1, s.mono n1, o1, Post.bind p1 fun b η2 H2 μ2 n2 o2 p2 y ry => ?_⟩
  refine im σ H2 _ ⟨η2, ρ, μ2, (s.mono n1).mono n2, o2, Post.bind p2 fun r η3 H3 μ3 n3 o3 p3 o3' ps rp => ?_⟩
  exact p3.now o3 o3 _ (.cons ((rx.mono n2).mono n3) (ry.mono n3) rp)
def eDisp (f : FE (List (D × D))) : FE D := fun ρ μ => (f ρ (μ ++ [.dk []])).bind fun kvs μ1 => match keysOf kvs, μ1[μ.length]? with
  | some l, some (.dk []) => if l.length ≤ 15 then .ok (.obj μ.length) (μ1.set μ.length (.dk (mergeD [] l))) else .bad
  | _, _ => .bad
theorem RepK.len {κ : Type} {η : Nm} {H : Hp} : ∀ {vs : List (κ × V)} {ds : List (κ × D)}, RepK C η H vs ds → vs.length = ds.length
  | [], [], .nil => rfl
  | _ :: _, _ :: _, .cons _ r => by rw [List.length_cons, List.length_cons, RepK.len r]
theorem de_disp (hp : DPs X C W pos keys values f) (hall : keys.all (·.isSome) = true := by rfl) (hl : keys.length = values.length := by rfl) (h0 : keys ≠ [] := by intro h; cases h) (h15 : keys.length ≤ 15 := by decide) : DE X C W (.Dict keys values pos) (eDisp f) := by
  obtain ⟨trs, pp, im⟩ := hp.ex
  refine ⟨pe_imp (pe_disp pp hall hl h0 h15) fun σ H Q => ?_⟩
  rintro ⟨η, ρ, μ, s, o, p⟩ q hq
  obtain ⟨o1, n1, e1⟩ := o.new hq (u := .dK []) (m := .dk []) (.dk .nil)
  have p' := p.mono n1
  refine im σ _ _ ⟨η.add q, ρ, μ ++ [.dk []], s.mono n1, o1, Post.bind p' fun kvs η2 H2 μ2 n2 o2 p2 o2' ps rp => ?_⟩
  cases hk : keysOf kvs with
  | none => simp only [hk] at p2; exact p2.elim
  | some l =>
    cases hm : μ2[μ.length]? with
    | none => simp only [hk, hm] at p2; exact p2.elim
    | some m =>
      cases m with
      | dk z =>
        cases z with
        | cons a b => simp only [hk, hm] at p2; exact p2.elim
        | nil =>
          simp only [hk, hm] at p2
          split at p2
          · rename_i hz
            obtain ⟨kvs', e, rk⟩ := keysOf_ok rp hk
            have e2 := n2.get e1
            obtain ⟨ob, h1, h2⟩ := o2.get e2 hm
            cases h2 with
            | dk h2 =>
              cases h2
              obtain ⟨o', nx⟩ := o2.put e2 hm (u := .dK (mergeK [] kvs')) (m := .dk (mergeD [] l)) (.dk (RepK.merge .nil rk))
              exact ⟨h1, kvs', e, by rw [rk.len]; exact hz, p2 _ _ nx o' _ (.obj e2)⟩
          · exact p2.elim
      | _ => simp only [hk, hm] at p2; exact p2.elim
section
variable {ρ : En} {μ : Sto}
@[simp] theorem x_pNil : pNil ρ μ = .ok [] μ := rfl
@[simp] theorem x_pCons : pCons fk fv f ρ μ = (fk ρ μ).bind fun a μ1 => (fv ρ μ1).bind fun b μ2 => (f ρ μ2).bind fun r μ3 => .ok ((a, b) :: r) μ3 := rfl
@[simp] theorem x_eDisp : eDisp f ρ μ = (f ρ (μ ++ [.dk []])).bind fun kvs μ1 => match keysOf kvs, μ1[μ.length]? with
  | some l, some (.dk []) => if l.length ≤ 15 then .ok (.obj μ.length) (μ1.set μ.length (.dk (mergeD [] l))) else .bad
  | _, _ => .bad := rfl
end
end
end DL
namespace DL
open PySem PySem.Spec PyProof.Rows L2
/-! ### len(set(t)), t a tuple of ints -/
def undup : List Int → List Int
  | [] => []
  | x :: l => if x ∈ l then undup l else x :: undup l
theorem mem_undup {y : Int} : ∀ {l : List Int}, y ∈ undup l ↔ y ∈ l
  | [] => Iff.rfl
  | x :: l => by
    unfold undup
    by_cases h : x ∈ l
    · rw [if_pos h, mem_undup, List.mem_cons]
      exact ⟨.inr, fun z => z.elim (fun e => e ▸ h) id⟩
    · rw [if_neg h, List.mem_cons, List.mem_cons, mem_undup]
theorem undup_nd : ∀ l : List Int, (undup l).Nodup
  | [] => List.nodup_nil
  | x :: l => by
    unfold undup
    by_cases h : x ∈ l
    · rw [if_pos h]; exact undup_nd l
    · rw [if_neg h, List.nodup_cons]; exact ⟨fun z => h (mem_undup.mp z), undup_nd l⟩
theorem undup_len {l m : List Int} (hn : m.Nodup) (h : ∀ k, k ∈ m ↔ k ∈ l) : m.length = (undup l).length :=
  ((List.perm_ext_iff_of_nodup hn (undup_nd l)).mpr fun k => by rw [h, mem_undup]).length_eq
theorem undup_le : ∀ l : List Int, (undup l).length ≤ l.length
  | [] => Nat.le_refl _
  | x :: l => by
    unfold undup
    have := undup_le l
    split <;> simp <;> omega
theorem undup_self : ∀ {l : List Int}, l.Nodup → undup l = l
  | [], _ => rfl
  | x :: l, h => by
    rw [List.nodup_cons] at h
    unfold undup
    rw [if_neg h.1, undup_self h.2]
theorem undup_lt : ∀ {l : List Int}, ¬ l.Nodup → (undup l).length < l.length
  | [], h => absurd List.nodup_nil h
  | x :: l, h => by
    unfold undup
    by_cases hx : x ∈ l
    · rw [if_pos hx, List.length_cons]; exact Nat.lt_succ_of_le (undup_le l)
    · rw [if_neg hx, List.length_cons, List.length_cons]
      have : ¬ l.Nodup := fun z => h (List.nodup_cons.mpr ⟨hx, z⟩)
      have := undup_lt this
      omega
section
variable {X : Cx} {C : Cc} {W : WX} {a : Expr} {p p2 q pos : Pos} {fa : FE D}
def tLenSetT (K : PySem.W.Frag) (ta : TE) : TE := fun σ H Q => ta σ H fun x H1 => ∃ (l : Addr) (ns : List Int), x = .ref l ∧ SqT K H1 l (ns.map V.int) ∧ ns.length ≤ 4000 ∧ Q (.int ((undup ns).length : Nat)) H1
theorem pe_lenSetT {ta : TE} (hg : Gl X "len") (hm : X.mg "len" = none) (hg2 : Gl X "set") (hm2 : X.mg "set" = none) (ha : PE X a ta) (hc : X.calm = true := by rfl)
    (na : starEach [a] X.env = (false, eval a X.env) :: starEach [] X.env := by rfl) : PE X (.Call (.Name "len" p) [.Call (.Name "set" p2) [a] [] q] [] pos) (tLenSetT X.K ta) := by
  refine ⟨fun pins s σ H Q I h => ?_⟩
  refine Call_ (ld_blt I hg hm boot_len ?_)
  refine PyProof.Rows.callWith_builtin1 (PyProof.Rows.args_cons ?_ rfl) rfl rfl
  refine Call_ (ld_blt I hg2 hm2 PyProof.Rows.boot_set ?_)
  refine PyProof.Rows.callWith_type1 (PyProof.Rows.args_cons (thn (ha.run pins s σ H _ I h) fun v s1 ⟨x, H1, I1, r1, q1⟩ => PyProof.Rows.args_nil ?_) na) na rfl
  obtain ⟨l, ns, rfl, hq, hl, q1⟩ := q1
  cases r1
  obtain ⟨its, r, pt, hz⟩ := I1.tuple hq
  refine call_set_tupI ns (I1.ok.hd hc) (show s1.heap.IsTuple l its.toArray from pt) (RZ.intsAre_vals r) (by unfold scanBound; omega) fun h' tk c R1 hcn hk => ?_
  refine PyProof.Rows.args_nil ?_
  obtain ⟨o, es, ep, t, ho, hex, hdt, g, nd, hm3, hb, hf, hn, hr, hl2⟩ := R1
  have I2 : Inv X pins σ H1 { s1 with heap := h', toks := tk } := I1.kept fun b o e => hk b o e
  have hlen : es.size = (undup ns).length := by
    have := undup_len nd fun k => (hm3 k).symm.trans (by rw [decide_eq_true_eq])
    rw [List.length_map, Array.length_toList] at this
    exact this
  exact call_len_set ho hex hdt hf (by unfold scanBound at hb; omega) ⟨.int ((undup ns).length : Nat), H1, I2.tok _, ⟨_, by rw [hlen]⟩, q1⟩
def eLenSetT (fa : FE D) : FE D := fun ρ μ => (fa ρ μ).bind fun x μ1 => match x with
  | .tup ds => (match asInts ds with | some ns => if ns.length ≤ 4000 then .ok (.int ((undup ns).length : Nat)) μ1 else .bad | none => .bad)
  | _ => .bad
theorem reps_ints {η : Nm} {H : Hp} : ∀ {vs : List V} {ns : List Int}, Reps C η H vs (ns.map .int) → vs = ns.map V.int
  | [], [], _ => rfl
  | _ :: _, n :: ns, .cons r rs => by rw [r.int_inv, reps_ints rs]; rfl
theorem de_lenSetT (hm : X.mg "len" = none) (hm2 : X.mg "set" = none) (ha : DE X C W a fa) (hc : X.calm = true := by rfl) (hg : Gl X "len" := by rfl) (hg2 : Gl X "set" := by rfl)
    (na : starEach [a] X.env = (false, eval a X.env) :: starEach [] X.env := by rfl) (hK : X.K = C.K := by rfl) : DE X C W (.Call (.Name "len" p) [.Call (.Name "set" p2) [a] [] q] [] pos) (eLenSetT fa) := by
  refine ⟨pe_imp (pe_lenSetT hg hm hg2 hm2 ha.pe hc na) fun σ H Q => ?_⟩
  rintro ⟨η, ρ, μ, s, o, p⟩
  refine ⟨η, ρ, μ, s, o, Post.bind p fun d η1 H1 μ1 n1 o1 p1 x rx => ?_⟩
  split at p1
  · rename_i ds
    cases hi : asInts ds with
    | none => simp only [hi] at p1; exact p1.elim
    | some ns =>
      simp only [hi] at p1
      split at p1
      · rename_i hz
        cases rx with
        | tup h1 h2 =>
          cases asInts_inv hi
          rw [reps_ints h2] at h1
          exact ⟨_, ns, rfl, by rw [hK]; exact h1, hz, p1.now o1 _ (.int _)⟩
      · exact p1.elim
  · exact p1.elim
@[simp] theorem x_eLenSetT {ρ : En} {μ : Sto} : eLenSetT fa ρ μ = (fa ρ μ).bind fun x μ1 => match x with
  | .tup ds => (match asInts ds with | some ns => if ns.length ≤ 4000 then .ok (.int ((undup ns).length : Nat)) μ1 else .bad | none => .bad)
  | _ => .bad := rfl
end
end DL
namespace DL
open PySem PySem.Spec PyProof.Rows L2
/-! ### l.index(x), t.index(x), l.remove(x) -/
section
variable {X : Cx} {C : Cc}
def rIndexT (K : PySem.W.Frag) : V → List V → Hp → VK → Prop := fun x xs H Q => ∃ (a : Addr) (y : V) (d : PyData) (ds : List PyData) (j : Nat) (z : PyData), x = V.ref a ∧ xs = [y] ∧ Dp K H (V.ref a) (.tuple ds) ∧ Dp K H y d ∧
  SeqAt.shaped (.list ds) = true ∧ SeqAt.shaped d = true ∧ ds[j]? = some z ∧ PyData.eqv z d = true ∧ (∀ (m : Nat) (z' : PyData), m < j → ds[m]? = some z' → PyData.eqv z' d = false) ∧ Q (.int (j : Nat)) H
theorem mt_indexT (hu : X.A.units + 65 < cLine) : MtR X "tuple.index" (rIndexT X.K) := by
  intro pins s σ H x xs v us Q I rx rxs h
  obtain ⟨a, y, d, ds, j, z, rfl, rfl, hl, hy, sl, sd, hz, hzj, hno, q⟩ := h
  cases rx
  obtain ⟨uy, rfl, ry⟩ := vals1 rxs
  obtain ⟨bs, r1⟩ := Dp.reads I d y uy hy ry
  have hxs : PyData.canLayAll0 ds = true := SeqAt.canLay_of_shaped sl
  have hroom : X.A.units + 1 + min (PyData.depthAll ds) d.depth < cLine := room_in_shaped sd hu
  cases hl with
  | tup hs ha =>
    obtain ⟨its, rv, pl, hlen⟩ := I.tuple hs
    obtain ⟨⟨cls, dd, data, sls⟩, ho, hc, n, hdt⟩ := pl
    simp only at hc hdt
    subst hc hdt
    obtain ⟨as, h4⟩ := Dp.readsAll I ds _ its ha rv
    have hn : its.length = ds.length := SeqAt.ReadsAll.length ds its as h4
    have hmap : its.map (SeqAt.readOf s.heap) = ds := SeqAt.readsAll_map ds its as hxs h4
    obtain ⟨hjd, _⟩ := List.getElem?_eq_some_iff.mp hz
    have hjl : j < its.length := by omega
    have hj : j < its.toArray.size := by simpa using hjl
    have at_ : ∀ (m : Nat) (hm : m < its.toArray.size) (z' : PyData), ds[m]? = some z' → SeqAt.readOf s.heap its.toArray[m] = z' := by
      intro m hm z' hz'
      have hml : m < its.length := by simpa using hm
      rw [← hmap, List.getElem?_map, List.getElem?_eq_getElem hml] at hz'
      have e1 : SeqAt.readOf s.heap its[m] = z' := Option.some.inj (show some (SeqAt.readOf s.heap its[m]) = some z' from hz')
      simpa using e1
    refine call_meets PySem.F.slot_tuple_index ⟨_, ho, rfl⟩ PySem.F.entry_tuple_index (PySem.F.args_tuple_index_2 _ _)
      (TI.tuple_indexAt a its.toArray n dd sls uy (fun u => PyData.eqv (SeqAt.readOf s.heap u) d) j hj ?_ ?_) ⟨ho, SeqAt.items_eqAt (vs := its.toArray) (show ReadsAll s.heap its.toArray.toList ds as from h4) r1 hxs (SeqAt.canLay_of_shaped sd) hroom, ?_⟩
    · show PyData.eqv (SeqAt.readOf s.heap its.toArray[j]) d = true
      rw [at_ j hj z hz]
      exact hzj
    · intro m hm hmj
      have hmd : m < ds.length := by omega
      have hz' : ds[m]? = some ds[m] := List.getElem?_eq_getElem hmd
      show PyData.eqv (SeqAt.readOf s.heap its.toArray[m]) d = false
      rw [at_ m hm _ hz']
      exact hno m _ hmj hz'
    · exact ⟨.int (j : Nat), H, I.tok _, ⟨_, rfl⟩, q⟩
def idxOf (ds : List PyData) (d : PyData) : Option Nat := ds.findIdx? fun z => PyData.eqv z d
theorem idxOf_inv {ds : List PyData} {d : PyData} {j : Nat} (h : idxOf ds d = some j) : ∃ z, ds[j]? = some z ∧ PyData.eqv z d = true ∧ ∀ (m : Nat) (z' : PyData), m < j → ds[m]? = some z' → PyData.eqv z' d = false := by
  unfold idxOf at h
  rw [List.findIdx?_eq_some_iff_getElem] at h
  obtain ⟨hj, h1, h2⟩ := h
  refine ⟨ds[j], List.getElem?_eq_getElem hj, h1, fun m z' hm hz => ?_⟩
  have hml : m < ds.length := by omega
  rw [List.getElem?_eq_getElem hml] at hz
  cases hz
  simpa using h2 m hm
/-- x.index(y), x a list or a tuple -/
def gIndex : D → List D → Sto → R D
  | x, [y], μ => match toPyS μ x, toPyS μ y with
    | some (.list ds), some d => if SeqAt.shaped d = true ∧ SeqAt.shaped (.list ds) = true then (match idxOf ds d with | some j => .ok (.int j) μ | none => .bad) else .bad
    | _, _ => .bad
  | _, _, _ => .bad
def gIndexT : D → List D → Sto → R D
  | x, [y], μ => match toPyS μ x, toPyS μ y with
    | some (.tuple ds), some d => if SeqAt.shaped d = true ∧ SeqAt.shaped (.list ds) = true then (match idxOf ds d with | some j => .ok (.int j) μ | none => .bad) else .bad
    | _, _ => .bad
  | _, _, _ => .bad
theorem dp_list_ref {K : PySem.W.Frag} {H : Hp} {x : V} {ds : List PyData} (h : Dp K H x (.list ds)) : ∃ a, x = .ref a := by cases h; exact ⟨_, rfl⟩
theorem dp_tup_ref {K : PySem.W.Frag} {H : Hp} {x : V} {ds : List PyData} (h : Dp K H x (.tuple ds)) : ∃ a, x = .ref a := by cases h; exact ⟨_, rfl⟩
theorem mc_index (hu : X.A.units + 65 < cLine) (hK : X.K = C.K := by rfl) : MC X C "list.index" gIndex := by
  refine ⟨_, mt_indexD hu, fun W η H μ σ Q x xs d ds o r rs p => ?_⟩
  unfold gIndex at p
  split at p
  · rename_i y _
    obtain ⟨v, rfl, rv⟩ := rs.one
    split at p
    · rename_i ds' d' h1 h2
      split at p
      · rename_i hs
        split at p
        · rename_i j hj
          have dx := r.dpS o h1
          have dy := rv.dpS o h2
          obtain ⟨a, rfl⟩ := dp_list_ref dx
          obtain ⟨z, e1, e2, e3⟩ := idxOf_inv hj
          rw [← hK] at dx dy
          exact ⟨a, v, d', ds', j, z, rfl, rfl, dx, dy, hs.2, hs.1, e1, e2, e3, p.now o _ (.int _)⟩
        · exact p.elim
      · exact p.elim
    · exact p.elim
  · exact p.elim
theorem mc_indexT (hu : X.A.units + 65 < cLine) (hK : X.K = C.K := by rfl) : MC X C "tuple.index" gIndexT := by
  refine ⟨_, mt_indexT hu, fun W η H μ σ Q x xs d ds o r rs p => ?_⟩
  unfold gIndexT at p
  split at p
  · rename_i y _
    obtain ⟨v, rfl, rv⟩ := rs.one
    split at p
    · rename_i ds' d' h1 h2
      split at p
      · rename_i hs
        split at p
        · rename_i j hj
          have dx := r.dpS o h1
          have dy := rv.dpS o h2
          obtain ⟨a, rfl⟩ := dp_tup_ref dx
          obtain ⟨z, e1, e2, e3⟩ := idxOf_inv hj
          rw [← hK] at dx dy
          exact ⟨a, v, d', ds', j, z, rfl, rfl, dx, dy, hs.2, hs.1, e1, e2, e3, p.now o _ (.int _)⟩
        · exact p.elim
      · exact p.elim
    · exact p.elim
  · exact p.elim
theorem idxI {k : Int} : ∀ {ns : List Int}, k ∈ ns → ns[ns.idxOf k]? = some k ∧ ∀ m, m < ns.idxOf k → ns[m]? ≠ some k
  | x :: ns, h => by
    rw [List.idxOf_cons]
    by_cases e : x = k
    · subst e
      simp
    · have hb : (x == k) = false := beq_eq_false_iff_ne.mpr e
      rw [hb]
      have h' : k ∈ ns := (List.mem_cons.mp h).resolve_left fun z => e z.symm
      obtain ⟨h1, h2⟩ := idxI h'
      refine ⟨by simpa using h1, fun m hm => ?_⟩
      cases m with
      | zero => simpa using e
      | succ m =>
        have := h2 m (by simp at hm; omega)
        simpa using this
def gRemove : D → List D → Sto → R D
  | .obj n, [.int k], μ => match (lstAt μ n).bind asInts with | some ns => if k ∈ ns then .ok .non (μ.set n (.lst ((ns.eraseIdx (ns.idxOf k)).map .int))) else .bad | none => .bad
  | _, _, _ => .bad
theorem mc_remove : MC X C "list.remove" gRemove := by
  refine ⟨_, mt_remove, fun W η H μ σ Q x xs d ds o r rs p => ?_⟩
  unfold gRemove at p
  split at p
  · rename_i n k
    split at p
    · rename_i ns e1
      split at p
      · rename_i hk
        obtain ⟨q, rfl, hn⟩ := r.obj_inv
        obtain ⟨v, rfl, rv⟩ := rs.one
        cases rv
        cases e2 : lstAt μ n with
        | none => rw [e2] at e1; cases e1
        | some ds' =>
          rw [e2, Option.bind_some] at e1
          cases asInts_inv e1
          have e3 := lstAt_iff.mp e2
          obtain ⟨vs, h1, h2⟩ := o.lst hn e3
          rw [reps_ints h2] at h1
          obtain ⟨k1, k2⟩ := idxI hk
          have rI : ∀ ms : List Int, Reps C η H (ms.map V.int) (ms.map .int) := fun ms => by
            induction ms with
            | nil => exact .nil
            | cons m ms ih => exact .cons (.int m) ih
          exact ⟨q, ns, k, ns.idxOf k, rfl, rfl, h1, k1, k2, Post.put o p hn e3 (u := .lst ((ns.eraseIdx (ns.idxOf k)).map V.int)) (.lst (rI _)) _ .non⟩
      · exact p.elim
    · exact p.elim
  · exact p.elim
end
end DL
namespace DL
open PySem PySem.Spec PyProof.Rows L2
/-! ### o[i], x = e -/
section
variable {X : Cx} {C : Cc} {W : WX} {e o i : Expr} {pos tpos ppos npos : Pos} {fo fi fe : FE D}
def sAsgSub (j : Nat) (fo fi fe : FE D) : FS := fun ρ μ => (fe ρ μ).st ρ fun d μ1 => match d with
  | .tup [v, w] => (fo ρ μ1).st ρ fun x μ2 => (fi ρ μ2).st ρ fun k μ3 => match gSet x k v μ3 with
    | some μ4 => .nx (ρ.set j (some w)) μ4
    | none => .bad
  | _ => .bad
theorem ds_asgSub (j : Nat) {y : Str} {kk : Nat} (hu : X.A.units + 64 < cLine) (hN : X.N.Nodup) (ho : DE X C W o fo) (hi : DE X C W i fi) (he : DE X C W e fe) (hj : X.N[j]? = some y := by rfl) (hx : Loc X.env.scope y := by first | exact Or.inl rfl | exact Or.inr rfl)
    (hf : X.fn y = true ∨ X.env.scope.names.lookup y = some .local := by first | exact .inl rfl | exact .inr rfl)
    (ha : ∀ v, assign (.Subscript o i tpos) X.env v = (do
      let ov ← holding [v] (eval o X.env)
      let iv ← holding [v, ov] (eval i X.env)
      standAt tpos
      holding [v, ov, iv] (setItem ov iv v)
      release [v, ov, iv] []) := by intro _; rfl)
    (hc : X.calm = true := by rfl) (hK : X.K = C.K := by rfl)
    (g1 : (assignEach [.Subscript o i tpos, .Name y npos] X.env).map (·.2) = assign (.Subscript o i tpos) X.env :: (assignEach [.Name y npos] X.env).map (·.2) := by rfl)
    (g2 : (assignEach [.Name y npos] X.env).map (·.2) = assign (.Name y npos) X.env :: (assignEach [] X.env).map (·.2) := by rfl)
    (hn : (assignEach [.Subscript o i tpos, .Name y npos] X.env).length = 2 := by rfl) (hst : (assignEach [.Subscript o i tpos, .Name y npos] X.env).findIdx? (·.1) = none := by rfl)
    (hs : swapsWithSole [.Tuple [.Subscript o i tpos, .Name y npos] kk ppos] e pos.line X.env = pure false := by rfl) (hw : swappedStores [.Tuple [.Subscript o i tpos, .Name y npos] kk ppos] e X.env = pure none := by rfl)
    (h1 : (assignEach [.Tuple [.Subscript o i tpos, .Name y npos] kk ppos] X.env).map (·.2) = [assign (.Tuple [.Subscript o i tpos, .Name y npos] kk ppos) X.env] := by rfl) :
    DS X C W (.Assign [.Tuple [.Subscript o i tpos, .Name y npos] kk ppos] e pos) (sAsgSub j fo fi fe) := by
  refine ⟨ps_imp (ps_asg he.pe (pg_tup hc (pgs_cons (pg_sub ho.pe hi.pe (pset_or set_list (set_dict (by omega))) ha) (pgs_cons (pg_name hN hj hx hf) pgs_nil g2) g1) hn hst) hs hw h1) fun E σ H => ?_⟩
  rintro ⟨η, ρ, μ, s, ok, p⟩
  refine ⟨η, ρ, μ, s, ok, PostS.bindE s p fun d η1 H1 μ1 n1 o1 s1 p1 x rx => ?_⟩
  split at p1
  · rename_i v w
    cases rx with
    | tup k1 k2 =>
      cases k2 with
      | cons rv k2 =>
        cases k2 with
        | cons rw' k2 =>
          cases k2
          rename_i a v' w'
          refine ⟨a, _, rfl, by rw [hK]; exact k1, rfl, v', [w'], rfl, ?_⟩
          refine ⟨η1, ρ, μ1, s1, o1, PostS.bindE s1 p1 fun dd η2 H2 μ2 n2 o2 s2 p2 y ry => ?_⟩
          refine ⟨η2, ρ, μ2, s2, o2, PostS.bindE s2 p2 fun k η3 H3 μ3 n3 o3 s3 p3 z rz => ?_⟩
          cases hg : gSet dd k v μ3 with
          | none => rw [hg] at p3; exact p3.elim
          | some μ4 =>
            rw [hg] at p3
            refine gSet_ok o3 (ry.mono n3) rz ((rv.mono n2).mono n3) hg fun H' nx o' => ?_
            exact ⟨w', [], rfl, rfl, p3 η3 H' _ nx o' ((s3.mono nx).set j (((rw'.mono n2).mono n3).mono nx))⟩
  · exact p1.elim
@[simp] theorem x_sAsgSub {j : Nat} {ρ : En} {μ : Sto} : sAsgSub j fo fi fe ρ μ = (fe ρ μ).st ρ fun d μ1 => match d with
  | .tup [v, w] => (fo ρ μ1).st ρ fun x μ2 => (fi ρ μ2).st ρ fun k μ3 => match gSet x k v μ3 with
    | some μ4 => .nx (ρ.set j (some w)) μ4
    | none => .bad
  | _ => .bad := rfl
end
end DL
namespace DL
open PySem PySem.Spec PyProof.Rows L2
/-! ### tuple * int: once, or not at all -/
theorem tuple_mul1 (l : Addr) (items : Array Value) (n : Nat) (dd : Option Addr) (sl : Array (Option Value)) (x : Int) (u : Tok) (c0 : (decide (x < -(2 ^ 63)) || decide (x ≥ 2 ^ 63)) = false) (c1 : (items.isEmpty || x == 1) = true) :
    Meets (Builtin.«tuple.__mul__» ⟨[.ref l, .int x u], []⟩) (fun _ R s => s.heap.get? l = some { cls := .type "tuple", dict := dd, data := .seq items n, slots := sl } ∧ R (.ok (.ret (Value.ref l))) s) :=
  .of_wp fun prog w A R s h => by
    obtain ⟨hp, g, d, tk, os⟩ := s
    obtain ⟨hl, h⟩ := h
    have f1 := AutoSeq1.idx_int
    wp_walk using wpAny_loadPart' hl
    repeat (first
      | (refine wpAny_ite_false (decide_eq_false (by rw [c0]; exact Bool.false_ne_true)) ?_; wp_walk using wpAny_loadPart' hl)
      | (refine wpAny_ite_true (decide_eq_true (by rw [c1])) ?_; wp_walk using wpAny_loadPart' hl))
    exact ⟨_, rfl, h⟩
theorem tuple_mul0 (l : Addr) (items : Array Value) (n : Nat) (dd : Option Addr) (sl : Array (Option Value)) (x : Int) (u : Tok) (c0 : (decide (x < -(2 ^ 63)) || decide (x ≥ 2 ^ 63)) = false) (c1 : (items.isEmpty || x == 1) = false) (c2 : (decide (x ≤ 0) || items.isEmpty) = true) :
    Meets (Builtin.«tuple.__mul__» ⟨[.ref l, .int x u], []⟩) (fun _ R s => s.heap.get? l = some { cls := .type "tuple", dict := dd, data := .seq items n, slots := sl } ∧
      R (.ok (.ret (Value.ref s.heap.objs.size))) { s with heap := s.heap.push { cls := Value.type "tuple", data := Data.seq #[] }, toks := s.toks }) :=
  .of_wp fun prog w A R s h => by
    obtain ⟨hp, g, d, tk, os⟩ := s
    obtain ⟨hl, h⟩ := h
    have f1 := AutoSeq1.idx_int
    wp_walk using wpAny_loadPart' hl
    repeat (first
      | (refine wpAny_ite_false (decide_eq_false (by rw [c0]; exact Bool.false_ne_true)) ?_; wp_walk using wpAny_loadPart' hl)
      | (refine wpAny_ite_false (decide_eq_false (by rw [c1]; exact Bool.false_ne_true)) ?_; wp_walk using wpAny_loadPart' hl)
      | (refine wpAny_ite_true (decide_eq_true (by rw [c2])) ?_; wp_walk using wpAny_loadPart' hl))
    exact ⟨_, rfl, h⟩
def rRep1 (K : PySem.W.Frag) : R2 := fun x y H Q => ∃ l k xs, x = .ref l ∧ y = .int k ∧ SqT K H l xs ∧ -1000 ≤ k ∧ k ≤ 1000 ∧ (xs = [] ∨ k = 1) ∧ Q (.ref l) H
def rRep0 (K : PySem.W.Frag) : R2 := fun x y H Q => ∃ l k xs, x = .ref l ∧ y = .int k ∧ SqT K H l xs ∧ -1000 ≤ k ∧ k ≤ 0 ∧ xs ≠ [] ∧ ∀ p, H p = none → Q (.ref p) (upd H p (.tup []))
section
variable {X : Cx}
theorem op_rep1 : OpR X (binaryOp .Mult) (rRep1 X.K) := by
  intro pins s σ H x y v u Q I rx ry h
  obtain ⟨l, k, xs, rfl, rfl, hT, h1, h2, h3, q⟩ := h
  cases rx
  obtain ⟨t, rfl⟩ := ry
  obtain ⟨its, r, ⟨⟨cls, dd, data, sl⟩, ho, hc, n, hd⟩, hs⟩ := I.tuple hT
  simp only at hc hd
  subst hc hd
  have c0 : (decide (k < -(2 ^ 63)) || decide (k ≥ 2 ^ 63)) = false := by
    rw [decide_eq_false (by omega), decide_eq_false (by omega)] <;> rfl
  have c1 : (its.toArray.isEmpty || k == 1) = true := by
    rcases h3 with e | e
    · subst e
      cases r
      rfl
    · subst e; simp
  exact wpAny_binaryOp_repeat_ref (T := "tuple") (U := "int") (by decide) ⟨_, ho, rfl⟩ (fun s' => typeIs_int s' k t) noFill_tuple_mul F.fills_int_mul F.slot_int_rmul repeat_tuple F.slot_int_index.lookup
    (call_meets F.slot_int_rmul (typeIs_int s k t) F.entry_int_rmul (F.args_int_rmul_2 _ _) (int_rmul_tuple k t l its.toArray n dd sl)
      ⟨ho, rfl, ⟨_, ho, rfl⟩, call_meets F.slot_tuple_mul ⟨_, ho, rfl⟩ F.entry_tuple_mul (F.args_tuple_mul_2 _ _) (tuple_mul1 l its.toArray n dd sl k t c0 c1) ⟨ho, ⟨.ref l, H, I, rfl, q⟩⟩⟩)
theorem op_rep0 : OpR X (binaryOp .Mult) (rRep0 X.K) := by
  intro pins s σ H x y v u Q I rx ry h
  obtain ⟨l, k, xs, rfl, rfl, hT, h1, h2, h3, q⟩ := h
  cases rx
  obtain ⟨t, rfl⟩ := ry
  obtain ⟨its, r, ⟨⟨cls, dd, data, sl⟩, ho, hc, n, hd⟩, hs⟩ := I.tuple hT
  simp only at hc hd
  subst hc hd
  have c0 : (decide (k < -(2 ^ 63)) || decide (k ≥ 2 ^ 63)) = false := by
    rw [decide_eq_false (by omega), decide_eq_false (by omega)] <;> rfl
  have hi : its.toArray.isEmpty = false := by
    cases r with
    | nil => exact absurd rfl h3
    | cons a b => rfl
  have c1 : (its.toArray.isEmpty || k == 1) = false := by
    rw [hi, Bool.false_or]
    exact beq_eq_false_iff_ne.mpr (by omega)
  have c2 : (decide (k ≤ 0) || its.toArray.isEmpty) = true := by
    rw [hi, Bool.or_false]
    exact decide_eq_true h2
  refine wpAny_binaryOp_repeat_ref (T := "tuple") (U := "int") (by decide) ⟨_, ho, rfl⟩ (fun s' => typeIs_int s' k t) noFill_tuple_mul F.fills_int_mul F.slot_int_rmul repeat_tuple F.slot_int_index.lookup
    (call_meets F.slot_int_rmul (typeIs_int s k t) F.entry_int_rmul (F.args_int_rmul_2 _ _) (int_rmul_tuple k t l its.toArray n dd sl)
      ⟨ho, rfl, ⟨_, ho, rfl⟩, call_meets F.slot_tuple_mul ⟨_, ho, rfl⟩ F.entry_tuple_mul (F.args_tuple_mul_2 _ _) (tuple_mul0 l its.toArray n dd sl k t c0 c1 c2) ⟨ho, ?_⟩⟩)
  refine ⟨.ref s.heap.objs.size, _, I.laid (t' := s.toks) (o := .tup []) (fun b ob q => Heap.get?_push_of_some _ q) (Nat.le_refl _) ?_, rfl, q _ (I.hok.fresh (Nat.le_refl _))⟩
  exact ⟨Nat.zero_le _, [], .nil, IsTup.new _ _⟩
end
def gRepA : D → D → Option D
  | .tup ds, .int k => if -1000 ≤ k ∧ k ≤ 1000 ∧ ds.length ≤ 1000 then some (.tup (List.replicate k.toNat ds).flatten) else none
  | _, _ => none
section
variable {X : Cx} {C : Cc} {W : WX} {a b : Expr} {pos : Pos} {fa fb : FE D}
theorem rep_nil : ∀ n : Nat, (List.replicate n ([] : List D)).flatten = [] := fun n => by
  induction n with
  | zero => rfl
  | succ n ih => rw [List.replicate_succ, List.flatten_cons, ih]; rfl
theorem de_repA (ha : DE X C W a fa) (hb : DE X C W b fb) (hK : X.K = C.K := by rfl) : DE X C W (.BinOp a .Mult b pos) (eOp gRepA fa fb) := by
  refine ⟨pe_imp (pe_op (OpR.or (OpR.or op_repT op_rep1) op_rep0) ha.pe hb.pe) fun σ H Q h => tD_two (g := fun x y μ2 => match gRepA x y with | some z => .ok z μ2 | none => .bad) (fun η H μ σ Q x y d e o rx ry p => ?_) h⟩
  cases hg : gRepA d e with
  | none => simp only [hg] at p; exact p.elim
  | some z =>
    simp only [hg] at p
    unfold gRepA at hg
    split at hg
    · rename_i ds k
      split at hg
      · rename_i hz
        cases hg
        cases rx with
        | tup h1 h2 =>
          rename_i a' vs
          cases ry
          have hl := h2.length
          by_cases e0 : ds = [] ∨ k = 1
          · refine .inl (.inr ⟨a', k, vs, rfl, rfl, by rw [hK]; exact h1, hz.1, hz.2.1, ?_, ?_⟩)
            · rcases e0 with e | e
              · left
                subst e
                cases h2; rfl
              · exact .inr e
            · have e2 : (List.replicate k.toNat ds).flatten = ds := by
                rcases e0 with e | e
                · subst e; exact rep_nil _
                · subst e; simp
              rw [e2] at p
              exact p.now o _ (.tup h1 h2)
          · have hds : ds ≠ [] := fun e => e0 (.inl e)
            have hvs : vs ≠ [] := fun e => hds (by subst e; cases h2; rfl)
            by_cases hk : k ≤ 0
            · refine .inr ⟨a', k, vs, rfl, rfl, by rw [hK]; exact h1, hz.1, hk, hvs, fun q hq => ?_⟩
              have e2 : (List.replicate k.toNat ds).flatten = [] := by
                rw [show k.toNat = 0 by omega]; rfl
              rw [e2] at p
              exact Post.new p o hq _ (rep_new_tup hq .nil)
            · refine .inl (.inl ⟨a', k, vs, rfl, rfl, by rw [hK]; exact h1, hvs, by
                have : k ≠ 1 := fun e => e0 (.inr e)
                omega, hz.2.1, by rw [hl]; exact hz.2.2, fun q hq => ?_⟩)
              exact Post.new p o hq _ (rep_new_tup hq (h2.rep k.toNat))
      · cases hg
    · cases hg
end
end DL
namespace DL
open PySem PySem.Spec PyProof.Rows L2
/-! ### while, by a measure -/
theorem whileD_W {t : FE Bool} {F : FS} {N : En → Sto → Prop} {T : D → Sto → Prop} (I : Nat → En → Sto → Prop)
    (h : ∀ m ρ μ, I m ρ μ → (t ρ μ).W fun b μ1 => if b = true then ∃ j, j < m ∧ ∀ X : En → Sto → Prop, (∀ ρ' μ', I j ρ' μ' → X ρ' μ') → (F ρ μ1).L X N T else N ρ μ1) :
    ∀ (k m : Nat) (ρ : En) (μ : Sto), m < k → I m ρ μ → (whileD t F k ρ μ).W N T
  | 0, m, ρ, μ, hk, _ => by omega
  | k + 1, m, ρ, μ, hk, hI => by
    have h1 := h m ρ μ hI
    unfold whileD
    rw [R.W_iff] at h1
    obtain ⟨b, μ1, e, h2⟩ := h1
    rw [e]
    cases b with
    | false => exact h2
    | true =>
      rw [if_pos rfl] at h2
      obtain ⟨j, hj, h3⟩ := h2
      have h4 := h3 (fun ρ' μ' => (whileD t F k ρ' μ').W N T) fun ρ' μ' hI' => whileD_W I h k j ρ' μ' (by omega) hI'
      simp only [R.st_ok]
      cases hF : F ρ μ1 <;> rw [hF] at h4 <;> first | exact h4 | exact h4.elim
/-! ### what lies below stands -/
structure Kp (k : Nat) (μ μ' : Sto) : Prop where
  len : μ.length ≤ μ'.length
  at_ : ∀ m, m < k → μ'[m]? = μ[m]?
theorem Kp.refl (k : Nat) (μ : Sto) : Kp k μ μ := ⟨Nat.le_refl _, fun _ _ => rfl⟩
theorem Kp.trans {k : Nat} {μ μ1 μ2 : Sto} (a : Kp k μ μ1) (b : Kp k μ1 μ2) : Kp k μ μ2 := ⟨Nat.le_trans a.len b.len, fun m hm => (b.at_ m hm).trans (a.at_ m hm)⟩
theorem Kp.set {k n : Nat} (μ : Sto) (o : DO) (h : k ≤ n) : Kp k μ (μ.set n o) := ⟨by simp, fun m hm => List.getElem?_set_ne (by omega)⟩
theorem Kp.app {k : Nat} (μ γ : Sto) (h : k ≤ μ.length) : Kp k μ (μ ++ γ) := ⟨by simp, fun m hm => List.getElem?_append_left (by omega)⟩
theorem Kp.get {k : Nat} {μ μ' : Sto} (a : Kp k μ μ') {m : Nat} {o : DO} (hm : m < k) (h : μ[m]? = some o) : μ'[m]? = some o := by rw [a.at_ m hm, h]
end DL
namespace DL
open PySem PySem.Spec PyProof.Rows L2
/-! ### is True, is not False: both sides bools -/
def gIsB (x y : D) (_ : Sto) : Option Bool := match x, y with
  | .bl a, .bl b => some (decide (a = b))
  | _, _ => none
def gIsNB (x y : D) (μ : Sto) : Option Bool := (gIsB x y μ).map not
section
variable {X : Cx} {C : Cc}
theorem gIsB_ok {η : Nm} {H : Hp} {μ : Sto} {x y : V} {d e : D} {z : Bool} (rx : Rep C η H x d) (ry : Rep C η H y e) (h : gIsB d e μ = some z) : ∃ a b, x = .bl a ∧ y = .bl b ∧ z = decide (a = b) := by
  unfold gIsB at h
  split at h
  · cases h
    exact ⟨_, _, rx.bl_inv, ry.bl_inv, rfl⟩
  · cases h
theorem oc_isB : OC X C .Is gIsB := by
  refine ⟨_, op_is_bl, fun η H μ x y d e z Q ok rx ry h q => ?_⟩
  obtain ⟨a, b, h1, h2, rfl⟩ := gIsB_ok rx ry h
  exact ⟨a, b, h1, h2, q⟩
theorem oc_isNB : OC X C .IsNot gIsNB := by
  refine ⟨_, op_isnot_bl, fun η H μ x y d e z Q ok rx ry h q => ?_⟩
  unfold gIsNB at h
  cases hg : gIsB d e μ with
  | none => rw [hg] at h; cases h
  | some w =>
    rw [hg] at h
    cases h
    obtain ⟨a, b, h1, h2, rfl⟩ := gIsB_ok rx ry hg
    exact ⟨a, b, h1, h2, q⟩
@[simp] theorem x_gIsB {a b : Bool} {μ : Sto} : gIsB (.bl a) (.bl b) μ = some (decide (a = b)) := rfl
@[simp] theorem x_gIsNB {a b : Bool} {μ : Sto} : gIsNB (.bl a) (.bl b) μ = some (!decide (a = b)) := rfl
end
end DL
namespace DL
open PySem PySem.Spec PyProof.Rows L2
/-! ### dicts whose keys are tuples of any depth -/
/-! ### the epoch of a dict that only grows is its length -/
section
variable {prog : Program} {w : World} {K : Type} [DecidableEq K] {knd : HeapKind prog w K} {A : Around} {E : Value → Shared → Prop} {s : Shared} {d a : Addr} {k : K} {xs : List (K × Addr × Value)}
def DictE (knd : HeapKind prog w K) (h : Heap) (d : Addr) (xs : List (K × Addr × Value)) : Prop :=
  ∃ o es, h.get? d = some o ∧ o.ExactDict ∧ o.data = .dict es xs.length ∧ es.toList = xs.map (entryOfKey knd) ∧ (∀ x ∈ xs, knd.is h x.1 x.2.1) ∧ (xs.map (·.1)).Nodup
theorem DictE.h {h : Heap} (x : DictE knd h d xs) : h.DictOfH knd d xs := let ⟨o, es, h1, h2, h3, h4, h5, h6⟩ := x; ⟨o, es, _, h1, h2, h3, h4, h5, h6⟩
theorem DictE.new (h : Heap) : DictE knd (h.push { cls := .type "dict", data := .dict #[] }) h.objs.size [] := by
  obtain ⟨o, es, ep, h1, h2, h3, h4, h5, h6⟩ := Heap.DictOfH.new (knd := knd) h
  have e : (h.push { cls := .type "dict", data := .dict #[] }).get? h.objs.size = some { cls := .type "dict", data := .dict #[] } := Heap.get?_push_size _ rfl
  rw [e] at h1
  cases h1
  exact ⟨_, #[], e, h2, rfl, rfl, h5, h6⟩
theorem storedH_lenN (h : atKey xs k = none) (v : Value) : (storedH xs k a v).length = xs.length + 1 := by rw [storedH_new h]; simp
theorem storedH_lenO {p : Addr × Value} (h : atKey xs k = some p) (v : Value) : (storedH xs k a v).length = xs.length := by rw [storedH_old h]; simp
theorem dictSetE {v : Value} {Q : Unit → Shared → Prop} (hu : knd.room A) (hkey : knd.is s.heap k a) (hm : DictE knd s.heap d xs)
    (hQ : ∀ h', DictE knd h' d (storedH xs k a v) → Heap.SameBut d s.heap h' → Q () { s with heap := h', toks := s.toks + knd.draws k })
    (hsz : xs.length ≤ sizeLine) :
    wpAny (model prog w) A (dictSet d (.ref a) v) Q E s := by
  obtain ⟨o, es, ho, hc, hd, he, his, hn⟩ := hm
  unfold dictSet
  try with_reducible refine wpAny_holding ?_
  refine wpAny_bind (knd.pyHash hu hkey ?_)
  unfold dictSetHashed
  try with_reducible refine wpAny_holding ?_
  refine wpAny_bind (wpAny_dictFind_heap (s := { s with toks := s.toks + knd.draws k }) hu hkey ho hd he his hn ?_ ?_)
  · intro hno
    have hnot : k ∉ xs.map (·.1) := not_mem_keys_of_get hno
    refine wpAny_bind (wpAny_rule (wpAny_updateDictKeys (hz := by have e := size_of_entries he; omega) (s := { s with toks := s.toks + knd.draws k }) ho hd (hQ _ ⟨_, _, Heap.get?_update_self _ ho (Obj.isFreed_of_dict (Obj.data_mapDictKeys hd _)),
      hc.mapDictKeys _, (by rw [storedH_lenN (atKey_none_of_get hno)]; exact Obj.data_mapDictKeys hd _), ?_, ?_, ?_⟩ (Heap.SameBut.update ..))))
    · rw [storedH_new (atKey_none_of_get hno)]
      simp [he, entryOfKey]
    · rw [storedH_new (atKey_none_of_get hno)]
      intro x hx
      rcases List.mem_append.mp hx with hx | hx
      · exact knd.keeps (his x hx) ho hd (Heap.SameBut.update ..)
      · simp only [List.mem_singleton] at hx
        subst hx
        exact knd.keeps hkey ho hd (Heap.SameBut.update ..)
    · rw [storedH_new (atKey_none_of_get hno)]
      rw [List.map_append, List.nodup_append]
      refine ⟨hn, by simp, ?_⟩
      intro x hx y hy
      simp only [List.map_cons, List.map_nil, List.mem_singleton] at hy
      subst hy
      exact fun e => hnot (e ▸ hx)
  · intro j p hj
    refine wpAny_bind (wpAny_rule (wpAny_bind (wpAny_updateDict (s := { s with toks := s.toks + knd.draws k }) ho hd (wpAny_point (hQ _ ⟨_, _, Heap.get?_update_self _ ho (Obj.isFreed_of_dict (Obj.data_mapDict hd _)),
      hc.mapDict _, (by rw [storedH_lenO (atKey_of_get hn hj)]; exact Obj.data_mapDict hd _), ?_, ?_, ?_⟩ (Heap.SameBut.update ..))))))
    · rw [storedH_old (atKey_of_get hn hj)]
      have := modify_map_putAt (entryOfKey knd) (fun e : DictEntry => { e with val := v }) k v (fun _ _ => rfl) hn hj
      rw [← he] at this
      obtain ⟨l⟩ := es
      simpa using this
    · rw [storedH_old (atKey_of_get hn hj)]
      intro x hx
      obtain ⟨y, hy, rfl⟩ := List.mem_map.mp hx
      unfold putAt
      split <;> exact knd.keeps (his y hy) ho hd (Heap.SameBut.update ..)
    · rw [storedH_old (atKey_of_get hn hj)]
      rw [keys_map_putAt]; exact hn
theorem setItemE {v : Value} {Q : Unit → Shared → Prop} (hu : knd.room A.in1) (hkey : knd.is s.heap k a) (hm : DictE knd s.heap d xs)
    (hQ : ∀ h', DictE knd h' d (storedH xs k a v) → Heap.SameBut d s.heap h' → Q () { s with heap := h', toks := s.toks + knd.draws k })
    (hsz : xs.length ≤ sizeLine) :
    wpAny (model prog w) A (setItem (.ref d) (.ref a) v) Q E s := by
  unfold setItem
  try with_reducible refine wpAny_holding ?_
  refine wpAny_bind (wpAny_sequenceKey hm.h.typeIs (by decide) ?_)
  refine wpAny_bind (wpAny_callSpecial?_slot (name := Str.ofString "__setitem__") hm.h.typeIs F.slot_dict_setitem
    (wpAny_call_entry F.slot_dict_setitem hm.h.typeIs F.entry_dict_setitem ?_ (F.args_dict_setitem_3 _ _ _)))
  show wpAny _ _ (Builtin.Dict.notOrdered "__setitem__" ⟨[.ref d, .ref a, v], []⟩ >>= _) _ _ s
  refine wpAny_bind (wpAny_notOrdered_dict hm.h.typeIs ?_)
  show wpAny _ _ (dictSet d (.ref a) v >>= _) _ _ s
  exact wpAny_bind (dictSetE hu hkey hm (fun h' hm' hs' => wpAny_pure ⟨.none, rfl, wpAny_pure (hQ h' hm' hs')⟩) hsz)
theorem storeAllE (hu : knd.room A) : ∀ (vs : List (Value × Value)) (ps acc : List (K × Addr × Value)) (s : Shared) (Q : PUnit → Shared → Prop), CarriesH knd s.heap vs ps → DictE knd s.heap d acc → acc.length + ps.length ≤ sizeLine →
    (∀ h' tk, DictE knd h' d (storedAllH acc ps) → Heap.SameBut d s.heap h' → Q PUnit.unit { s with heap := h', toks := tk }) →
    wpAny (model prog w) A (forIn vs PUnit.unit fun x _ => do dictSet d x.1 x.2; pure (ForInStep.yield PUnit.unit)) Q E s
  | [], [], acc, s, Q, _, hm, _, hQ => by
    rw [List.forIn_nil]
    exact wpAny_pure (hQ s.heap s.toks hm (Heap.SameBut.refl _ _))
  | (key, v) :: vs, (k, a, v') :: ps, acc, s, Q, hc, hm, hsz, hQ => by
    obtain ⟨rfl, rfl, hkey, hc'⟩ := hc
    rw [List.length_cons] at hsz
    rw [List.forIn_cons]
    refine wpAny_bind (wpAny_bind (dictSetE hu hkey hm (fun h₁ hm₁ hs₁ => wpAny_pure ?_) (by omega)))
    exact storeAllE hu vs ps (storedH acc k a v) _ Q (hc'.keeps hm.h hs₁) hm₁ (by have e := storedH_length acc k a v; omega) fun h' tk hm' hs' => hQ h' tk hm' (hs₁.trans hs')
  | [], _ :: _, _, _, _, hc, _, _, _ => hc.elim
  | _ :: _, [], _, _, _, hc, _, _, _ => hc.elim
theorem subDictE {pairs : List (Sem Value × Sem Value)} {Q : Addr → Shared → Prop} (hu : knd.room A) (hlen : pairs.length ≤ 15)
    (h : wpAny (model prog w) A (evalPairs pairs) (fun vs s₁ => ∃ ps, CarriesH knd s₁.heap vs ps ∧ DictE knd s₁.heap s.heap.objs.size [] ∧
      ∀ h' tk, DictE knd h' s.heap.objs.size (storedAllH [] ps) → Heap.SameBut s.heap.objs.size s₁.heap h' → Q s.heap.objs.size { s₁ with heap := h', toks := tk }) E
      { s with heap := s.heap.push { cls := .type "dict", data := .dict #[] } }) :
    wpAny (model prog w) A (subDict pairs) Q E s := by
  unfold subDict
  refine wpAny_bind (wpAny_alloc ?_)
  refine wpAny_bind (wpAny_holding ?_)
  rw [if_pos hlen]
  refine wpAny_bind (wpAny_mono (wpAny_evalPairs_len h) (fun vs s₁ h₁ => ?_) fun _ _ e => e)
  obtain ⟨hvl, ps, hc, hm, hQ⟩ := h₁
  have hsz : ([] : List (K × Addr × Value)).length + ps.length ≤ sizeLine := by
    have e := hc.length
    rw [sizeLine_eq, List.length_nil]; omega
  refine wpAny_holding ?_
  exact wpAny_bind (storeAllE hu vs ps [] s₁ _ hc hm hsz fun h' tk hm' hs' => wpAny_pure (wpAny_pure (hQ h' tk hm' hs')))
end
mutual
def keyN : D → Option NestedKey
  | .non => some .none
  | .int i => some (.num i)
  | .str x => some (.text x)
  | .tup ds => (keyNs ds).map .tup
  | .bl _ => none
  | .lst _ => none
  | .frz _ => none
  | .obj _ => none
def keyNs : List D → Option (List NestedKey)
  | [] => some []
  | d :: ds => match keyN d, keyNs ds with | some k, some ks => some (k :: ks) | _, _ => none
end
mutual
theorem keyN_nk : ∀ k : NestedKey, keyN (nkD k) = some k
  | .none => by rw [nkD, keyN]
  | .num _ => by rw [nkD, keyN]
  | .text _ => by rw [nkD, keyN]
  | .tup ks => by rw [nkD, keyN, keyNs_nk ks]; rfl
theorem keyNs_nk : ∀ ks : List NestedKey, keyNs (nkDs ks) = some ks
  | [] => by rw [nkDs, keyNs]
  | k :: ks => by rw [nkDs, keyNs, keyN_nk k, keyNs_nk ks]
end
mutual
theorem keyN_eq : ∀ {d : D} {k : NestedKey}, keyN d = some k → d = nkD k
  | .non, k, h => by rw [keyN] at h; cases h; rw [nkD]
  | .int i, k, h => by rw [keyN] at h; cases h; rw [nkD]
  | .str x, k, h => by rw [keyN] at h; cases h; rw [nkD]
  | .tup ds, k, h => by
    rw [keyN] at h
    cases e : keyNs ds with
    | none => rw [e] at h; cases h
    | some ks => rw [e] at h; cases h; rw [nkD, keyNs_eq e]
  | .bl _, k, h => by rw [keyN] at h; cases h
  | .lst _, k, h => by rw [keyN] at h; cases h
  | .frz _, k, h => by rw [keyN] at h; cases h
  | .obj _, k, h => by rw [keyN] at h; cases h
theorem keyNs_eq : ∀ {ds : List D} {ks : List NestedKey}, keyNs ds = some ks → ds = nkDs ks
  | [], ks, h => by rw [keyNs] at h; cases h; rw [nkDs]
  | d :: ds, ks, h => by
    rw [keyNs] at h
    cases e1 : keyN d with
    | none => rw [e1] at h; cases h
    | some k =>
      cases e2 : keyNs ds with
      | none => rw [e1, e2] at h; cases h
      | some ks' => rw [e1, e2] at h; cases h; rw [nkDs, keyN_eq e1, keyNs_eq e2]
end
/-- a key of a dict: a tuple, not too deep -/
def keyT : D → Option NestedKey
  | .tup ds => match keyN (.tup ds) with | some k => if k.depth ≤ 8 then some k else none | none => none
  | _ => none
theorem keyT_eq {d : D} {k : NestedKey} (h : keyT d = some k) : d = nkD k ∧ k.depth ≤ 8 ∧ ∃ ds, d = .tup ds := by
  unfold keyT at h
  split at h
  · split at h
    · rename_i ds _ k' e
      split at h
      · rename_i hd
        cases h
        exact ⟨keyN_eq e, hd, ds, rfl⟩
      · cases h
    · cases h
  · cases h
section
variable {C : Cc} {X : Cx} {η : Nm} {H : Hp} {pins : List (Addr × Obj)} {σ : L2.St} {s : Shared}
mutual
theorem nested_is (I : Inv X pins σ H s) (hK : X.K = C.K) : ∀ {v : V} {u : Value} (k : NestedKey), Rep C η H v (nkD k) → RelV v u → NestedIs s.heap k u
  | _, _, .none, r, ru => by rw [nkD] at r; cases r; cases (show _ = _ from ru); exact .none
  | _, _, .num i, r, ru => by rw [nkD] at r; cases r; obtain ⟨t, rfl⟩ := ru; exact .int _ _
  | _, _, .text x, r, ru => by rw [nkD] at r; cases r; obtain ⟨t, rfl⟩ := ru; exact .text _ _
  | _, _, .tup ks, r, ru => by
    rw [nkD] at r
    cases r with
    | tup h1 h2 =>
      obtain ⟨its, rv, ⟨o, ho, hc, hd⟩, _⟩ := I.tuple (by rw [hK]; exact h1)
      cases (show _ = _ from ru)
      obtain ⟨n, hd⟩ := hd
      exact .tup ho hc hd (by simpa using nested_all I hK ks h2 rv)
theorem nested_all (I : Inv X pins σ H s) (hK : X.K = C.K) : ∀ {vs : List V} {us : List Value} (ks : List NestedKey), Reps C η H vs (nkDs ks) → Vals vs us → NestedAll s.heap ks us
  | _, _, [], r, ru => by rw [nkDs] at r; cases r; cases ru; exact .nil
  | _, _, k :: ks, r, ru => by
    rw [nkDs] at r
    cases r with
    | cons h1 h2 =>
      cases ru with
      | cons g1 g2 => exact .cons (nested_is I hK k h1 g1) (nested_all I hK ks h2 g2)
end
/-- what the dict's rows and the store's say of a key -/
theorem RepN.get {k : NestedKey} : ∀ {xs : List (NestedKey × Addr × V)} {ys : List (NestedKey × Addr × Value)} {ds : List (NestedKey × D)}, RepN C η H xs ds → Paired NR xs ys →
    (∃ b v u d, atKey ys k = some (b, u) ∧ valD ds k = some d ∧ RelV v u ∧ Rep C η H v d) ∨ (atKey ys k = none ∧ valD ds k = none)
  | [], [], [], .nil, .nil => .inr ⟨rfl, rfl⟩
  | _, (k2, b2, u2) :: ys, _, .cons (k := k1) (b := b1) (v := v1) (d := d3) (xs := xs) (ds := ds) h1 h2 h3 h4, .cons g1 g2 => by
    obtain ⟨e1, e2, e3⟩ := g1
    dsimp only at e1 e2 e3
    subst e1 e2
    by_cases c : k1 = k
    · exact .inl ⟨b1, v1, u2, d3, by simp [atKey, c], by simp [valD, c], e3, h3⟩
    · rcases RepN.get (k := k) h4 g2 with ⟨b, v, u, d, q1, q2, q3⟩ | ⟨q1, q2⟩
      · exact .inl ⟨b, v, u, d, by simpa [atKey, c] using q1, by simpa [valD, c] using q2, q3⟩
      · exact .inr ⟨by simpa [atKey, c] using q1, by simpa [valD, c] using q2⟩
theorem RepN.len : ∀ {xs : List (NestedKey × Addr × V)} {ds : List (NestedKey × D)}, RepN C η H xs ds → xs.length = ds.length
  | [], [], .nil => rfl
  | _ :: _, _ :: _, .cons _ _ _ r => by rw [List.length_cons, List.length_cons, RepN.len r]
theorem RepN.is (I : Inv X pins σ H s) (hK : X.K = C.K) : ∀ {xs : List (NestedKey × Addr × V)} {ys : List (NestedKey × Addr × Value)} {ds : List (NestedKey × D)}, RepN C η H xs ds → Paired NR xs ys → ∀ y ∈ ys, (nestedKind X.prog X.w).is s.heap y.1 y.2.1
  | [], [], [], .nil, .nil => by simp
  | _, (k2, b2, u2) :: ys, _, .cons (k := k1) (b := b1) (v := v1) (d := d3) (xs := xs) (ds := ds) h1 h2 h3 h4, .cons g1 g2 => by
    obtain ⟨e1, e2, e3⟩ := g1
    dsimp only at e1 e2 e3
    subst e1 e2
    intro y hy
    rcases List.mem_cons.mp hy with rfl | hy
    · exact ⟨nested_is I hK k1 h1 rfl, h2⟩
    · exact RepN.is I hK h4 g2 y hy
/-- the dict as the library sees it -/
theorem dn_of {a : Addr} {xs : List (NestedKey × Addr × V)} {ds : List (NestedKey × D)} (I : Inv X pins σ H s) (hK : X.K = C.K) (hw : X.w = C.w) (e : H a = some (NRaw C.w a xs)) (r : RepN C η H xs ds) :
    xs.length ≤ sizeLine ∧ (a == sysModules) = false ∧ ∃ ys, Paired NR xs ys ∧ DictE (nestedKind X.prog X.w) s.heap a ys := by
  obtain ⟨⟨h1, h2, ys, h3, o, es, h4, h5, h6, h7, h8⟩, _⟩ := I.hok a _ e
  refine ⟨h1, h2, ys, h3, o, es, h4, h5, h6, ?_, r.is I hK h3, h8⟩
  rw [h7, hw]
  rfl
theorem nraw_ok {P : Program} {w : World} {H' : Hp} {h' : Heap} {a : Addr} {xs : List (NestedKey × Addr × V)} {ys : List (NestedKey × Addr × Value)} (h1 : xs.length ≤ sizeLine) (h2 : (a == sysModules) = false) (h3 : Paired NR xs ys) (h4 : DictE (nestedKind P w) h' a ys) : ObjOk P w H' h' a (NRaw w a xs) := by
  obtain ⟨o, es, g1, g2, g3, g4, _, g5⟩ := h4
  refine ⟨⟨h1, h2, ys, h3, o, es, g1, g2, g3, g4, g5⟩, ⟨o, g1⟩, fun x1 x2 => ?_⟩
  rintro ⟨q1, q2, zs, q3, o', es', q4, q5⟩ k
  exact ⟨q1, q2, zs, q3, o', es', k _ q4, q5⟩
theorem dn_get {a : Addr} (ok : Ok C η H μ) {n : Nat} {kvs : List (NestedKey × D)} (h1 : η.o[n]? = some a) (h2 : μ[n]? = some (.dn kvs)) : ∃ xs, H a = some (NRaw C.w a xs) ∧ RepN C η H xs kvs := by
  obtain ⟨o, h, r⟩ := ok.get h1 h2
  cases r with
  | dn r => exact ⟨_, h, r⟩
def dnAt (μ : Sto) : D → Option (List (NestedKey × D))
  | .obj n => match μ[n]? with | some (.dn kvs) => some kvs | _ => none
  | _ => none
theorem dnAt_obj {μ : Sto} {d : D} {kvs : List (NestedKey × D)} (h : dnAt μ d = some kvs) : ∃ n, d = .obj n ∧ μ[n]? = some (.dn kvs) := by
  unfold dnAt at h
  split at h
  · rename_i n
    split at h
    · rename_i k e
      cases h
      exact ⟨n, rfl, e⟩
    · cases h
  · cases h
theorem dnAt_ok {μ : Sto} {x : V} {d : D} {kvs : List (NestedKey × D)} (ok : Ok C η H μ) (r : Rep C η H x d) (h : dnAt μ d = some kvs) : ∃ n a xs, d = .obj n ∧ x = .ref a ∧ η.o[n]? = some a ∧ μ[n]? = some (.dn kvs) ∧ H a = some (NRaw C.w a xs) ∧ RepN C η H xs kvs := by
  obtain ⟨n, rfl, e⟩ := dnAt_obj h
  obtain ⟨a, rfl, hn⟩ := r.obj_inv
  obtain ⟨xs, h1, h2⟩ := dn_get ok hn e
  exact ⟨n, a, xs, rfl, rfl, hn, e, h1, h2⟩
theorem key_is {x : V} {u : Value} {d : D} {k : NestedKey} (I : Inv X pins σ H s) (hK : X.K = C.K) (r : Rep C η H x d) (h : keyT d = some k) (ru : RelV x u) : ∃ b, x = .ref b ∧ u = .ref b ∧ (nestedKind X.prog X.w).is s.heap k b := by
  obtain ⟨rfl, hd, ds, e⟩ := keyT_eq h
  have r' := r
  rw [e] at r'
  cases r' with
  | tup h1 h2 =>
    cases (show u = _ from ru)
    exact ⟨_, rfl, rfl, nested_is I hK k r rfl, hd⟩
end
section
variable {X : Cx} {C : Cc} {W : WX} {e a b i o : Expr} {es : List Expr} {pos apos cpos tpos : Pos} {f fa fb fo fi fv fx : FE D} {fs : FE (List D)}
/-- k in d -/
def gInN (x y : D) (μ : Sto) : Option Bool := match keyT x, dnAt μ y with | some k, some kvs => some (valD kvs k).isSome | _, _ => none
def gNotInN (x y : D) (μ : Sto) : Option Bool := (gInN x y μ).map not
def rInN (C : Cc) (neg : Bool) : R2 := fun x y H Q => ∃ η μ d e z, Ok C η H μ ∧ Rep C η H x d ∧ Rep C η H y e ∧ gInN d e μ = some z ∧ Q (.bl (if neg = true then !z else z)) H
theorem op_inN (hu : X.A.units + 64 < cLine) (hK : X.K = C.K) (hw : X.w = C.w) : OpR X (compareOp .In) (rInN C false) := by
  intro pins s σ H x y v u Q I rx ry h
  obtain ⟨η, μ, d, e, z, ok, r1, r2, h, q⟩ := h
  unfold gInN at h
  split at h
  · rename_i k kvs h1 h2
    cases h
    obtain ⟨n, a, xs, rfl, rfl, hn, hm, ha, rn⟩ := dnAt_ok ok r2 h2
    obtain ⟨b, rfl, rfl, hb⟩ := key_is I hK r1 h1 rx
    obtain ⟨l1, l2, ys, l3, l4e⟩ := dn_of I hK hw ha rn
    have l4 := l4e.h
    cases (show u = _ from ry)
    refine wpAny_in_heap (by show X.A.units + 1 + 8 < cLine; omega) hb l2 l4 ⟨.bl (valD kvs k).isSome, H, I.tok _, ?_, q⟩
    rcases rn.get (k := k) l3 with ⟨b', v', u', d', g1, g2, _⟩ | ⟨g1, g2⟩
    · rw [g1, g2]; rfl
    · rw [g1, g2]; rfl
  · cases h
theorem op_notInN (hu : X.A.units + 64 < cLine) (hK : X.K = C.K) (hw : X.w = C.w) : OpR X (compareOp .NotIn) (rInN C true) := by
  intro pins s σ H x y v u Q I rx ry h
  obtain ⟨η, μ, d, e, z, ok, r1, r2, h, q⟩ := h
  unfold gInN at h
  split at h
  · rename_i k kvs h1 h2
    cases h
    obtain ⟨n, a, xs, rfl, rfl, hn, hm, ha, rn⟩ := dnAt_ok ok r2 h2
    obtain ⟨b, rfl, rfl, hb⟩ := key_is I hK r1 h1 rx
    obtain ⟨l1, l2, ys, l3, l4e⟩ := dn_of I hK hw ha rn
    have l4 := l4e.h
    cases (show u = _ from ry)
    refine notIn_keyed (by show X.A.units + 1 + 8 < cLine; omega) hb l2 ⟨ys, l4, rfl⟩ ⟨.bl (!(valD kvs k).isSome), H, I.tok _, ?_, q⟩
    rw [valueAt_pairsH, Option.isSome_map]
    rcases rn.get (k := k) l3 with ⟨b', v', u', d', g1, g2, _⟩ | ⟨g1, g2⟩
    · rw [g1, g2]; rfl
    · rw [g1, g2]; rfl
  · cases h
theorem oc_inN (hu : X.A.units + 64 < cLine) (hw : X.w = C.w) (hK : X.K = C.K := by rfl) : OC X C .In gInN := by
  refine ⟨_, op_inN hu hK hw, fun η H μ x y d e z Q ok rx ry h q => ⟨η, μ, d, e, z, ok, rx, ry, h, q⟩⟩
theorem oc_notInN (hu : X.A.units + 64 < cLine) (hw : X.w = C.w) (hK : X.K = C.K := by rfl) : OC X C .NotIn gNotInN := by
  refine ⟨_, op_notInN hu hK hw, fun η H μ x y d e z Q ok rx ry h q => ?_⟩
  unfold gNotInN at h
  cases hg : gInN d e μ with
  | none => rw [hg] at h; cases h
  | some k => rw [hg] at h; cases h; exact ⟨η, μ, d, e, k, ok, rx, ry, hg, q⟩
/-- d[k] -/
def eNIx (fo fi : FE D) : FE D := fun ρ μ => (fo ρ μ).bind fun d μ1 => (fi ρ μ1).bind fun k μ2 => match (dnAt μ2 d).bind fun kvs => (keyT k).bind fun y => valD kvs y with
  | some z => .ok z μ2
  | none => .bad
theorem de_nix (hu : X.A.units + 64 < cLine) (hw : X.w = C.w) (ho : DE X C W o fo) (hi : DE X C W i fi) (hK : X.K = C.K := by rfl) (hs : NoSl i := by exact fun _ _ => rfl) : DE X C W (.Subscript o i pos) (eNIx fo fi) := by
  refine ⟨⟨fun pins s σ H Q I h => ?_⟩⟩
  obtain ⟨η, ρ, μ, sl, ok, p⟩ := h
  have h1 : tD C W fo σ H fun x H1 => tD C W fi σ H1 fun y H2 => ∃ η2 μ2 d k kvs z nk, Ok C η2 H2 μ2 ∧ Rep C η2 H2 x d ∧ Rep C η2 H2 y k ∧ dnAt μ2 d = some kvs ∧ keyT k = some nk ∧ valD kvs nk = some z ∧ ∀ v, Rep C η2 H2 v z → Q v H2 := by
    refine ⟨η, ρ, μ, sl, ok, Post.bind p fun d η1 H1 μ1 n1 o1 p1 x rx => ?_⟩
    refine ⟨η1, ρ, μ1, sl.mono n1, o1, Post.bind p1 fun k η2 H2 μ2 n2 o2 p2 y ry => ?_⟩
    split at p2
    · rename_i z e1
      cases e2 : dnAt μ2 d with
      | none => rw [e2] at e1; cases e1
      | some kvs =>
        rw [e2, Option.bind_some] at e1
        cases e3 : keyT k with
        | none => rw [e3] at e1; cases e1
        | some nk =>
          rw [e3, Option.bind_some] at e1
          exact ⟨η2, μ2, d, k, kvs, z, nk, o2, rx.mono n2, ry, e2, e3, e1, fun v rv => p2.now o2 v rv⟩
    · exact p2.elim
  refine subD_of PySem.F.slot_dict_getitem.lookup hs (thn (ho.pe.run pins s σ H _ I h1) fun u s1 ⟨x, H1, I1, rx, q1⟩ => thn (hi.pe.run pins s1 σ H1 _ I1 q1) fun iv s2 ⟨y, H2, I2, ry, η2, μ2, d, k, kvs, z, nk, o2, r1, r2, e2, e3, e1, q⟩ => ?_)
  obtain ⟨n, a, xs, rfl, rfl, hn, hm, ha, rn⟩ := dnAt_ok o2 r1 e2
  obtain ⟨b, rfl, rfl, hb⟩ := key_is I2 hK r2 e3 ry
  obtain ⟨l1, l2, ys, l3, l4e⟩ := dn_of I2 hK hw ha rn
  have l4 := l4e.h
  cases (show u = _ from rx)
  refine ⟨l4.typeIs, ?_⟩
  rcases rn.get (k := nk) l3 with ⟨b', v', u', d', g1, g2, g3, g4⟩ | ⟨g1, g2⟩
  · rw [e1] at g2
    cases g2
    exact wpAny_getItem_heap (by show X.A.units + 1 + 8 < cLine; omega) hb l4 g1 ⟨v', H2, I2.tok _, g3, q v' g4⟩
  · rw [e1] at g2; cases g2
/-- d.get(k, x) -/
def eNGet2 (fo fi fx : FE D) : FE D := fun ρ μ => (fo ρ μ).bind fun d μ1 => if (dnAt μ1 d).isSome = true then (fi ρ μ1).bind fun k μ2 => (fx ρ μ2).bind fun z μ3 => match dnAt μ3 d, keyT k with
  | some kvs, some y => .ok ((valD kvs y).getD z) μ3
  | _, _ => .bad else .bad
theorem isN_at {pins : List (Addr × Obj)} {σ : L2.St} {H : Hp} {s : Shared} {a : Addr} {xs : List (NestedKey × Addr × V)} {w : World} (I : Inv X pins σ H s) (d : H a = some (NRaw w a xs)) :
    s.TypeIs (.ref a) "dict" ∧ (∀ b, Value.ref a = .ref b → ∃ ob, s.heap.get? b = some ob ∧ ob.dict = none) ∧ (a == sysModules) = false := by
  obtain ⟨⟨h1, h2, ys, h3, o, es, h4, h5, h6, h7, h8⟩, _⟩ := I.hok a _ d
  refine ⟨⟨o, h4, h5.1⟩, fun b q => ?_, h2⟩
  cases q
  exact ⟨o, h4, h5.2.1⟩
theorem de_nget2 (hu : X.A.units + 64 < cLine) (hw : X.w = C.w) (ho : DE X C W o fo) (hi : DE X C W a fi) (hx : DE X C W b fx) (hK : X.K = C.K := by rfl) (m : M2 X o "get" apos a b cpos := by exact ⟨rfl, rfl, rfl, rfl⟩) : DE X C W (.Call (.Attribute o "get" apos) [a, b] [] cpos) (eNGet2 fo fi fx) := by
  refine ⟨⟨fun pins s σ H Q I h => ?_⟩⟩
  obtain ⟨η, ρ, μ, sl, ok, p⟩ := h
  have h1 : tD C W fo σ H fun x H1 => ∃ a0 xs0, x = .ref a0 ∧ H1 a0 = some (NRaw C.w a0 xs0) ∧ tD C W fi σ H1 fun y H2 => tD C W fx σ H2 fun zv H3 => ∃ η3 μ3 d k kvs nk z, Ok C η3 H3 μ3 ∧ Rep C η3 H3 x d ∧ Rep C η3 H3 y k ∧ Rep C η3 H3 zv z ∧ dnAt μ3 d = some kvs ∧ keyT k = some nk ∧ ∀ v, Rep C η3 H3 v ((valD kvs nk).getD z) → Q v H3 := by
    refine ⟨η, ρ, μ, sl, ok, Post.bind p fun d η1 H1 μ1 n1 o1 p1 x rx => ?_⟩
    split at p1
    · rename_i hd
      obtain ⟨kvs0, hd0⟩ := Option.isSome_iff_exists.mp hd
      obtain ⟨n0, a0, xs0, rfl, rfl, hn0, hm0, h0, _⟩ := dnAt_ok o1 rx hd0
      refine ⟨a0, xs0, rfl, h0, η1, ρ, μ1, sl.mono n1, o1, Post.bind p1 fun k η2 H2 μ2 n2 o2 p2 y ry => ?_⟩
      refine ⟨η2, ρ, μ2, (sl.mono n1).mono n2, o2, Post.bind p2 fun z η3 H3 μ3 n3 o3 p3 zv rz => ?_⟩
      split at p3
      · rename_i kvs nk e2 e3
        exact ⟨η3, μ3, _, k, kvs, nk, z, o3, (rx.mono n2).mono n3, ry.mono n3, rz, e2, e3, fun v rv => p3.now o3 v rv⟩
      · exact p3.elim
    · exact p1.elim
  refine wpAny_Call_method m.base m.few m.line PySem.F.plainAttrs_dict PySem.F.slot_dict_get PySem.F.type_dict_get (thn (ho.pe.run pins s σ H _ I h1) fun u s1 ⟨x, H1, I1, rx, a0, xs0, ex, d0, q1⟩ => ?_)
  subst ex
  obtain rfl : u = Value.ref a0 := rx
  obtain ⟨t1, t2, _⟩ := isN_at I1 d0
  refine ⟨t1, t2, ?_⟩
  rw [m.trees]
  refine Calls.callWith_builtin rfl (Calls.evalArgs_plain (Calls.spliced_cons (thn (hi.pe.run pins s1 σ H1 _ I1 q1) fun iv s2 ⟨y, H2, I2, ry, q2⟩ =>
    Calls.spliced_cons (thn (hx.pe.run pins s2 σ H2 _ I2 q2) fun fv s3 ⟨zv, H3, I3, rz, η3, μ3, d, k, kvs, nk, z, o3, r1, r2, r3, e2, e3, q⟩ => Calls.spliced_nil ?_))))
  obtain ⟨n, a1, xs, rfl, ea, hn, hm, ha, rn⟩ := dnAt_ok o3 r1 e2
  cases ea
  obtain ⟨b1, rfl, rfl, hb⟩ := key_is I3 hK r2 e3 ry
  obtain ⟨l1, l2, ys, l3, l4e⟩ := dn_of I3 hK hw ha rn
  have l4 := l4e.h
  refine getOr_keyed (by show X.A.units + 1 + 8 < cLine; omega) hb l2 ⟨ys, l4, rfl⟩ ?_
  rw [valueAt_pairsH]
  rcases rn.get (k := nk) l3 with ⟨b', v', u', d', g1, g2, g3, g4⟩ | ⟨g1, g2⟩
  · rw [g2] at q
    rw [g1]
    exact ⟨v', H3, I3.tok _, g3, q v' g4⟩
  · rw [g2] at q
    rw [g1]
    exact ⟨zv, H3, I3.tok _, rz, q zv r3⟩
/-- d[k] = v -/
noncomputable def gSetN (d k w : D) (μ : Sto) : Option Sto := match d with
  | .obj n => match μ[n]?, keyT k with
    | some (.dn kvs), some y => if kvs.length < 1000000 then some (μ.set n (.dn (putD kvs y w))) else none
    | _, _ => none
  | _ => none
theorem Paired.mapB {α β : Type} {F : α → β → Prop} (f : α → α) (g : β → β) (hfg : ∀ a b, F a b → F (f a) (g b)) : ∀ {l : List α} {m : List β}, Paired F l m → Paired F (l.map f) (m.map g)
  | _, _, .nil => .nil
  | _, _, .cons h t => .cons (hfg _ _ h) (Paired.mapB f g hfg t)
def putX (k : NestedKey) (v : V) (x : NestedKey × Addr × V) : NestedKey × Addr × V := if x.1 = k then (x.1, x.2.1, v) else x
theorem RepN.put {η : Nm} {H : Hp} {k : NestedKey} {b : Addr} {v : V} {u : Value} {d : D} {xs : List (NestedKey × Addr × V)} {ys : List (NestedKey × Addr × Value)} {ds : List (NestedKey × D)} (r : RepN C η H xs ds) (g : Paired NR xs ys) (rk : Rep C η H (.ref b) (nkD k)) (hk : k.depth ≤ 8) (rv : Rep C η H v d) (ru : RelV v u) :
    ∃ xs', RepN C η H xs' (putD ds k d) ∧ Paired NR xs' (storedH ys k b u) ∧ xs'.length ≤ xs.length + 1 := by
  have any : (ds.any fun kv => decide (kv.1 = k)) = (atKey ys k).isSome := by
    clear rk rv ru
    induction r generalizing ys with
    | nil => cases g; rfl
    | cons h1 h2 h3 h4 ih =>
      cases g with
      | @cons _ y _ ys g1 g2 =>
        obtain ⟨k2, b2, u2⟩ := y
        obtain ⟨e1, e2, e3⟩ := g1
        dsimp only at e1 e2 e3
        subst e1 e2
        rename_i k1 _ _ _ _ _
        have ih := ih g2
        by_cases c : k1 = k
        · simp [atKey, c]
        · simp only [List.any_cons, c, decide_false, Bool.false_or, ih]
          simp [atKey, c]
  cases hs : (atKey ys k).isSome with
  | true =>
    refine ⟨xs.map (putX k v), ?_, ?_, by simp⟩
    · unfold putD
      rw [any, hs, if_pos rfl]
      clear any hs g
      induction r with
      | nil => exact .nil
      | @cons k1 b1 v1 d1 xs ds h1 h2 h3 h4 ih =>
        rw [List.map_cons, List.map_cons]
        by_cases c : k1 = k
        · unfold putX
          dsimp only
          rw [if_pos c, if_pos c]
          exact .cons h1 h2 rv ih
        · unfold putX
          dsimp only
          rw [if_neg c, if_neg c]
          exact .cons h1 h2 h3 ih
    · unfold storedH
      rw [hs, if_pos rfl]
      clear any hs r
      induction g with
      | nil => exact .nil
      | @cons x y xs ys g1 g2 ih =>
        obtain ⟨e1, e2, e3⟩ := g1
        rw [List.map_cons, List.map_cons]
        refine .cons ?_ ih
        unfold putX putAt
        by_cases c : x.1 = k
        · rw [if_pos c, if_pos (e1 ▸ c)]; exact ⟨e1, e2, ru⟩
        · rw [if_neg c, if_neg (e1 ▸ c)]; exact ⟨e1, e2, e3⟩
  | false =>
    refine ⟨xs ++ [(k, b, v)], ?_, ?_, by simp⟩
    · unfold putD
      rw [any, hs, if_neg (by simp)]
      clear any hs g
      induction r with
      | nil => exact .cons rk hk rv .nil
      | cons h1 h2 h3 h4 ih => exact .cons h1 h2 h3 ih
    · unfold storedH
      rw [hs, if_neg (by simp)]
      clear any hs r
      induction g with
      | nil => exact .cons ⟨rfl, rfl, ru⟩ .nil
      | cons g1 g2 ih => exact .cons g1 ih
end
end DL
namespace DL
open PySem PySem.Spec PyProof.Rows L2
section
variable {X : Cx} {C : Cc} {W : WX} {e a b i o : Expr} {es : List Expr} {pos apos cpos tpos : Pos} {f fa fb fo fi fv fx : FE D} {fs : FE (List D)}
/-- the dict at a is written: k gets d -/
theorem dn_write {η : Nm} {H : Hp} {μ : Sto} {pins : List (Addr × Obj)} {σ : L2.St} {s : Shared} {n : Nat} {a b : Addr} {kvs : List (NestedKey × D)} {k : NestedKey} {v : V} {u : Value} {d : D} {Q : Unit → Shared → Prop}
    (I : Inv X pins σ H s) (hK : X.K = C.K) (hw : X.w = C.w) (hu : X.A.units + 64 < cLine) (ok : Ok C η H μ) (hn : η.o[n]? = some a) (hm : μ[n]? = some (.dn kvs)) (hl : kvs.length < 1000000)
    (rk : Rep C η H (.ref b) (nkD k)) (hk : k.depth ≤ 8) (rv : Rep C η H v d) (ru : RelV v u)
    (q : ∀ H' s', Nxt C η H η H' → Ok C η H' (μ.set n (.dn (putD kvs k d))) → Inv X pins σ H' s' → Q () s') :
    wpAny (model X.prog X.w) X.A (setItem (.ref a) (.ref b) u) Q X.xe s := by
  obtain ⟨xs, ha, rn⟩ := dn_get ok hn hm
  obtain ⟨l1, l2, ys, l3, l4⟩ := dn_of I hK hw ha rn
  have hys : ys.length = xs.length := (Paired.length l3).symm
  obtain ⟨xs', r1, r2, r3⟩ := rn.put l3 rk hk rv ru
  have hb : (nestedKind X.prog X.w).is s.heap k b := ⟨nested_is I hK k rk rfl, hk⟩
  refine setItemE (by show X.A.units + 1 + 8 < cLine; omega) hb l4 (fun h' dd' hs => ?_) (by rw [hys]; exact l1)
  have hz : xs'.length ≤ sizeLine := by rw [sizeLine_eq]; have := rn.len; omega
  obtain ⟨o', nx⟩ := ok.put hn hm (u := NRaw C.w a xs') (.dn r1)
  refine q _ _ nx o' ?_
  have he : ∃ z, h'.get? a = some z := let ⟨z, _, hz, _⟩ := dd'; ⟨z, hz⟩
  exact d_write I (by rw [ha]; exact True.intro) hs he (show ObjOk X.prog X.w (upd H a (NRaw C.w a xs')) h' a (NRaw C.w a xs') from hw ▸ nraw_ok (P := X.prog) hz l2 r2 dd')
def rSetN (C : Cc) : TSet := fun o i v H Q => ∃ η μ d k w μ', Ok C η H μ ∧ Rep C η H o d ∧ Rep C η H i k ∧ Rep C η H v w ∧ gSetN d k w μ = some μ' ∧ ∀ H', Nxt C η H η H' → Ok C η H' μ' → Q H'
theorem set_dictN (hu : X.A.units + 64 < cLine) (hK : X.K = C.K) (hw : X.w = C.w) : PSet X (rSetN C) := by
  intro pins s σ H o i v ov iv u Q I ro ri rv h
  obtain ⟨η, μ, d, k, w, μ', ok, r1, r2, r3, h, q⟩ := h
  unfold gSetN at h
  split at h
  · rename_i n
    obtain ⟨a, rfl, hn⟩ := r1.obj_inv
    split at h
    · rename_i kvs y e1 e2
      split at h
      · rename_i hl
        cases h
        obtain ⟨rfl, hd, ds, e3⟩ := keyT_eq e2
        have r2' := r2
        rw [e3] at r2'
        cases r2' with
        | tup g1 g2 =>
          cases (show ov = _ from ro)
          cases (show iv = _ from ri)
          exact dn_write I hK hw hu ok hn e1 hl r2 hd r3 rv fun H' s' nx o' I' => ⟨H', I', q H' nx o'⟩
      · cases h
    · cases h
  · cases h
noncomputable def sPutN (fv fo fi : FE D) : FS := fun ρ μ => (fv ρ μ).st ρ fun w μ1 => (fo ρ μ1).st ρ fun d μ2 => (fi ρ μ2).st ρ fun k μ3 => match gSetN d k w μ3 with | some μ4 => .nx ρ μ4 | none => .bad
theorem ds_putN {e : Expr} (hu : X.A.units + 64 < cLine) (hw : X.w = C.w) (hv : DE X C W e fv) (ho : DE X C W o fo) (hi : DE X C W i fi) (hK : X.K = C.K := by rfl)
    (ha : ∀ v, assign (.Subscript o i tpos) X.env v = (do
      let ov ← holding [v] (eval o X.env)
      let iv ← holding [v, ov] (eval i X.env)
      standAt tpos
      holding [v, ov, iv] (setItem ov iv v)
      release [v, ov, iv] []) := by intro _; rfl) (hs : swapsWithSole [.Subscript o i tpos] e pos.line X.env = pure false := by rfl) (hsw : swappedStores [.Subscript o i tpos] e X.env = pure none := by rfl)
    (h1 : (assignEach [.Subscript o i tpos] X.env).map (·.2) = [assign (.Subscript o i tpos) X.env] := by rfl) : DS X C W (.Assign [.Subscript o i tpos] e pos) (sPutN fv fo fi) := by
  refine ⟨ps_imp (ps_asg hv.pe (pg_sub ho.pe hi.pe (set_dictN hu hK hw) ha) hs hsw h1) fun E σ H => ?_⟩
  rintro ⟨η, ρ, μ, s, o, p⟩
  refine ⟨η, ρ, μ, s, o, PostS.bindE s p fun w η1 H1 μ1 n1 o1 s1 p1 v rv => ?_⟩
  refine ⟨η1, ρ, μ1, s1, o1, PostS.bindE s1 p1 fun d η2 H2 μ2 n2 o2 s2 p2 x rx => ?_⟩
  refine ⟨η2, ρ, μ2, s2, o2, PostS.bindE s2 p2 fun k η3 H3 μ3 n3 o3 s3 p3 y ry => ?_⟩
  cases hg : gSetN d k w μ3 with
  | none => rw [hg] at p3; exact p3.elim
  | some μ4 =>
    rw [hg] at p3
    exact ⟨η3, μ3, d, k, w, μ4, o3, rx.mono n3, ry, (rv.mono n2).mono n3, hg, fun H' nx o' => p3 η3 H' σ nx o' (s3.mono nx)⟩
/-! ### {} -/
def eNNew : FE D := fun _ μ => .ok (.obj μ.length) (μ ++ [.dn []])
theorem nraw_empty {P : Program} {w : World} {H : Hp} (h : Heap) (hb : sysModules < h.objs.size) : ObjOk P w H (h.push { cls := .type "dict", data := .dict #[] }) h.objs.size (NRaw w h.objs.size []) :=
  nraw_ok (ys := []) (by rw [sizeLine_eq]; simp) (beq_false_of_ne (Nat.ne_of_gt hb)) .nil (DictE.new h)
theorem de_nnew (hw : X.w = C.w) : DE X C W (.Dict [] [] pos) eNNew := by
  refine ⟨⟨fun pins s σ H Q I h => ?_⟩⟩
  obtain ⟨η, ρ, μ, sl, ok, p⟩ := h
  have hn := I.hok.fresh (Nat.le_refl s.heap.objs.size)
  obtain ⟨o', nx, hp⟩ := ok.new hn (u := NRaw C.w s.heap.objs.size []) (m := .dn []) (.dn .nil)
  exact wpAny_Dict_empty ⟨.ref s.heap.objs.size, _, I.laid (a := s.heap.objs.size) (o := NRaw C.w s.heap.objs.size []) (t' := s.toks) (fun _ _ q => Heap.get?_push_of_some _ q) (Nat.le_refl _) (hw ▸ nraw_empty s.heap I.big), rfl, p _ _ nx o' _ (.obj hp)⟩
/-! ### {k: v, ..} -/
def nkeys : List (D × D) → Option (List (NestedKey × D))
  | [] => some []
  | (a, b) :: r => match keyT a, nkeys r with | some k, some l => some ((k, b) :: l) | _, _ => none
def mergeN (kvs more : List (NestedKey × D)) : List (NestedKey × D) := more.foldl (fun acc kv => putD acc kv.1 kv.2) kvs
theorem carriesN {η : Nm} {H : Hp} {pins : List (Addr × Obj)} {σ : L2.St} {s : Shared} (I : Inv X pins σ H s) (hK : X.K = C.K) {ds : List (D × D)} {l : List (NestedKey × D)} {vs : List (V × V)} {ws : List (Value × Value)} (r : RepP C η H vs ds) (h : nkeys ds = some l) (g : VV vs ws) :
    ∃ ps : List (NestedKey × Addr × Value), CarriesH (nestedKind X.prog X.w) s.heap ws ps ∧ ∃ xs, RepN C η H xs l ∧ Paired NR xs ps := by
  induction r generalizing l ws with
  | nil =>
    cases h
    cases g
    exact ⟨[], trivial, [], .nil, .nil⟩
  | @cons x y a b vs ds r1 r2 r ih =>
    cases g with
    | @cons _ w12 _ ws g1 g2 =>
      obtain ⟨w1, w2⟩ := w12
      unfold nkeys at h
      split at h
      · rename_i k l' e1 e2
        cases h
        obtain ⟨ps, c1, xs, c2, c3⟩ := ih e2 g2
        obtain ⟨b1, rfl, hw1, hb⟩ := key_is I hK r1 e1 g1.1
        dsimp only at hw1
        subst hw1
        obtain ⟨rfl, hd, _⟩ := keyT_eq e1
        exact ⟨(k, b1, w2) :: ps, ⟨rfl, rfl, hb, c1⟩, (k, b1, y) :: xs, .cons r1 hd r2 c2, .cons ⟨rfl, rfl, g1.2⟩ c3⟩
      · cases h
theorem RepN.merge {η : Nm} {H : Hp} {l : List (NestedKey × D)} {xs : List (NestedKey × Addr × V)} {ps : List (NestedKey × Addr × Value)} {ds : List (NestedKey × D)} {xs0 : List (NestedKey × Addr × V)} {ys0 : List (NestedKey × Addr × Value)} (r0 : RepN C η H xs0 ds) (g0 : Paired NR xs0 ys0) (r : RepN C η H xs l) (g : Paired NR xs ps) :
    ∃ xs', RepN C η H xs' (mergeN ds l) ∧ Paired NR xs' (storedAllH ys0 ps) ∧ xs'.length ≤ xs0.length + l.length := by
  induction r generalizing ds xs0 ys0 ps with
  | nil =>
    cases g
    exact ⟨xs0, r0, g0, by simp⟩
  | @cons k b v d xs l h1 h2 h3 h4 ih =>
    cases g with
    | @cons _ w12 _ ps g1 g2 =>
      obtain ⟨k2, b2, u2⟩ := w12
      obtain ⟨e1, e2, e3⟩ := g1
      dsimp only at e1 e2 e3
      subst e1 e2
      obtain ⟨xs1, q1, q2, q3⟩ := r0.put g0 h1 h2 h3 e3
      obtain ⟨xs', q4, q5, q6⟩ := ih q1 q2 g2
      exact ⟨xs', q4, q5, by rw [List.length_cons]; omega⟩
theorem nkeys_len : ∀ {ds : List (D × D)} {l : List (NestedKey × D)}, nkeys ds = some l → l.length = ds.length
  | [], l, h => by cases h; rfl
  | (a, b) :: ds, l, h => by
    unfold nkeys at h
    split at h
    · rename_i k l' e1 e2
      cases h
      rw [List.length_cons, List.length_cons, nkeys_len e2]
    · cases h
def eNDisp (f : FE (List (D × D))) : FE D := fun ρ μ => (f ρ (μ ++ [.dn []])).bind fun kvs μ1 => match nkeys kvs, μ1[μ.length]? with
  | some l, some (.dn []) => if l.length ≤ 15 then .ok (.obj μ.length) (μ1.set μ.length (.dn (mergeN [] l))) else .bad
  | _, _ => .bad
theorem de_ndisp {keys : List (Option Expr)} {values : List Expr} {f : FE (List (D × D))} (hu : X.A.units + 64 < cLine) (hw : X.w = C.w) (hp : DPs X C W pos keys values f) (hall : keys.all (·.isSome) = true := by rfl) (hl : keys.length = values.length := by rfl) (h0 : keys ≠ [] := by intro h; cases h) (h15 : keys.length ≤ 15 := by decide) (hK : X.K = C.K := by rfl) : DE X C W (.Dict keys values pos) (eNDisp f) := by
  obtain ⟨trs, pp, im⟩ := hp.ex
  refine ⟨⟨fun pins s σ H Q I h => ?_⟩⟩
  obtain ⟨η, ρ, μ, sl, ok, p⟩ := h
  have hn := I.hok.fresh (Nat.le_refl s.heap.objs.size)
  obtain ⟨o1, n1, e1⟩ := ok.new hn (u := NRaw C.w s.heap.objs.size []) (m := .dn []) (.dn .nil)
  have I1 := I.laid (a := s.heap.objs.size) (o := NRaw C.w s.heap.objs.size []) (h' := s.heap.push { cls := .type "dict", data := .dict #[] }) (t' := s.toks) (fun _ _ q => Heap.get?_push_of_some _ q) (Nat.le_refl _) (hw ▸ nraw_empty s.heap I.big)
  have hpl := pairTrees_length keys values X.env pos hall hl
  have p' := p.mono n1
  have im' := im σ (upd H s.heap.objs.size (NRaw C.w s.heap.objs.size [])) (fun ps H2 => ∃ η2 μ2 kvs l, Nxt C (η.add s.heap.objs.size) (upd H s.heap.objs.size (NRaw C.w s.heap.objs.size [])) η2 H2 ∧ Ok C η2 H2 μ2 ∧ RepP C η2 H2 ps kvs ∧ nkeys kvs = some l ∧ μ2[μ.length]? = some (.dn []) ∧ l.length ≤ 15 ∧ Post C W η2 H2 σ (PV C Q) (.ok (.obj μ.length) (μ2.set μ.length (.dn (mergeN [] l)))))
    ⟨η.add s.heap.objs.size, ρ, μ ++ [.dn []], sl.mono n1, o1, Post.bind p' fun kvs η2 H2 μ2 n2 o2 p2 o2' ps rp => by
      split at p2
      · rename_i l hk hm
        split at p2
        · rename_i hz
          exact ⟨η2, μ2, kvs, l, n2, o2, rp, hk, hm, hz, p2⟩
        · exact p2.elim
      · exact p2.elim⟩
  have hne : pairTrees keys values X.env pos ≠ [] := fun he => by
    rw [he] at hpl
    exact h0 (List.length_eq_zero_iff.mp hpl.symm)
  rw [arm_eval_Dict, zip_pairTrees keys values X.env pos hall hl, dictDisplay_pairs _ hne (by omega)]
  refine wpAny_bind (wpAny_standAt (wpAny_bind (subDictE (knd := nestedKind X.prog X.w) (by show X.A.units + 8 < cLine; omega) (by rw [hpl]; exact h15) ?_)))
  refine thn (pp.run pins _ σ _ _ I1 im') fun ws s2 ⟨ps, H2, I2, rel, η2, μ2, kvs, l, n2, o2, rp, hk, hm, hz, p2⟩ => ?_
  have e2 := n2.get e1
  obtain ⟨xs0, ha, rn⟩ := dn_get o2 e2 hm
  cases rn
  obtain ⟨l1, l2, ys, l3, l4⟩ := dn_of I2 hK hw ha (RepN.nil (η := η2))
  cases l3
  obtain ⟨qs, c1, xs, c2, c3⟩ := carriesN I2 hK rp hk rel
  refine ⟨qs, c1, l4, fun h' tk dd' hs => wpAny_pure ?_⟩
  obtain ⟨xs', q1, q2, q3⟩ := RepN.merge (xs0 := []) (ys0 := []) .nil .nil c2 c3
  have hz2 : xs'.length ≤ sizeLine := by rw [sizeLine_eq]; simp at q3; omega
  obtain ⟨o', nx⟩ := o2.put e2 hm (u := NRaw C.w s.heap.objs.size xs') (.dn q1)
  have he : ∃ z, h'.get? s.heap.objs.size = some z := let ⟨z, _, hz, _⟩ := dd'; ⟨z, hz⟩
  refine ⟨.ref s.heap.objs.size, _, d_write I2 (by rw [ha]; exact True.intro) hs he (show ObjOk X.prog X.w (upd H2 s.heap.objs.size (NRaw C.w s.heap.objs.size xs')) h' s.heap.objs.size (NRaw C.w s.heap.objs.size xs') from hw ▸ nraw_ok (P := X.prog) hz2 l2 q2 dd'), rfl, p2 _ _ nx o' _ (.obj e2)⟩
/-- len of a dict -/
def gLenN : List D → Sto → R D
  | [d], μ => match dnAt μ d with | some kvs => .ok (.int kvs.length) μ | none => .bad
  | _, _ => .bad
theorem cc_lenN (hw : X.w = C.w) (hK : X.K = C.K := by rfl) : CC X C (.builtin "len") gLenN := by
  refine ⟨fun xs H Q => ∃ η μ d kvs x, xs = [x] ∧ Ok C η H μ ∧ Rep C η H x d ∧ dnAt μ d = some kvs ∧ Q (.int kvs.length) H, fun pins s σ H xs us Q I r h => ?_, fun W η H μ σ Q xs ds o rx p => ?_⟩
  · obtain ⟨η, μ, d, kvs, x, rfl, ok, rd, e, q⟩ := h
    obtain ⟨n, a, ys, rfl, rfl, hn, hm, ha, rn⟩ := dnAt_ok ok rd e
    obtain ⟨l1, l2, zs, l3, l4⟩ := dn_of I hK hw ha rn
    rw [Vals.ref1 r]
    have hlen : kvs.length = (pairsH zs).length := by rw [pairsH_length, ← Paired.length l3, rn.len]
    refine PyProof.Rows.call_len_slot (n := kvs.length) l4.h.typeIs PySem.F.slot_dict_len (fun Q' hq => len_keyed l2 ⟨zs, l4.h, rfl⟩ (by rw [← hlen]; exact hq)) (by omega) (by rw [← rn.len]; rw [sizeLine_eq] at l1; omega) ⟨.int kvs.length, H, I.tok _, ⟨_, rfl⟩, q⟩
  · unfold gLenN at p
    split at p
    · rename_i d
      obtain ⟨x, rfl, r⟩ := rx.one
      split at p
      · rename_i kvs e
        exact ⟨η, μ, d, kvs, x, rfl, o, r, e, p.now o _ (.int _)⟩
      · exact p.elim
    · exact p.elim
section
variable {ρ : En} {μ : Sto}
@[simp] theorem x_eNIx : eNIx fo fi ρ μ = (fo ρ μ).bind fun d μ1 => (fi ρ μ1).bind fun k μ2 => match (dnAt μ2 d).bind fun kvs => (keyT k).bind fun y => valD kvs y with
  | some z => .ok z μ2
  | none => .bad := rfl
@[simp] theorem x_eNGet2 : eNGet2 fo fi fx ρ μ = (fo ρ μ).bind fun d μ1 => if (dnAt μ1 d).isSome = true then (fi ρ μ1).bind fun k μ2 => (fx ρ μ2).bind fun z μ3 => match dnAt μ3 d, keyT k with
  | some kvs, some y => .ok ((valD kvs y).getD z) μ3
  | _, _ => .bad else .bad := rfl
@[simp] theorem x_sPutN : sPutN fv fo fi ρ μ = (fv ρ μ).st ρ fun w μ1 => (fo ρ μ1).st ρ fun d μ2 => (fi ρ μ2).st ρ fun k μ3 => match gSetN d k w μ3 with | some μ4 => .nx ρ μ4 | none => .bad := rfl
@[simp] theorem x_eNNew : eNNew ρ μ = .ok (.obj μ.length) (μ ++ [.dn []]) := rfl
@[simp] theorem x_eNDisp {f : FE (List (D × D))} : eNDisp f ρ μ = (f ρ (μ ++ [.dn []])).bind fun kvs μ1 => match nkeys kvs, μ1[μ.length]? with
  | some l, some (.dn []) => if l.length ≤ 15 then .ok (.obj μ.length) (μ1.set μ.length (.dn (mergeN [] l))) else .bad
  | _, _ => .bad := rfl
@[simp] theorem x_gLenN {d : D} : gLenN [d] μ = match dnAt μ d with | some kvs => .ok (.int kvs.length) μ | none => .bad := rfl
theorem dnAt_iff {n : Nat} {kvs : List (NestedKey × D)} : dnAt μ (.obj n) = some kvs ↔ μ[n]? = some (.dn kvs) := by
  constructor
  · intro h
    obtain ⟨m, e, h⟩ := dnAt_obj h
    cases e
    exact h
  · intro h
    unfold dnAt
    simp only [h]
end
end
end DL
namespace DL
open PySem PySem.Spec PyProof.Rows L2
/-! ### walks of dicts keyed by nested tuples -/
def vOf : Value → V
  | .none => .non
  | .bool b => .bl b
  | .int i _ => .int i
  | .str x _ => .str x
  | .bytes b _ => .byt b
  | .float b _ => .flt b
  | .ref a => .ref a
  | .type n => .ty n
  | _ => .non
theorem vOf_of {x : V} {u : Value} (h : L2.RelV x u) : x = vOf u := by
  cases x with
  | non => cases (show u = _ from h); rfl
  | bl b => cases (show u = _ from h); rfl
  | int i => obtain ⟨t, rfl⟩ := (show ∃ t, u = Value.int i t from h); rfl
  | str i => obtain ⟨t, rfl⟩ := (show ∃ t, u = Value.str i t from h); rfl
  | byt i => obtain ⟨t, rfl⟩ := (show ∃ t, u = Value.bytes i t from h); rfl
  | flt i => obtain ⟨t, rfl⟩ := (show ∃ t, u = Value.float i t from h); rfl
  | ref a => cases (show u = _ from h); rfl
  | ty n => cases (show u = _ from h); rfl
theorem relV_fn {x y : V} {u : Value} (h : L2.RelV x u) (g : L2.RelV y u) : x = y := (vOf_of h).trans (vOf_of g).symm
section
variable {C : Cc} {X : Cx} {η : Nm} {H : Hp} {pins : List (Addr × Obj)} {σ : L2.St} {s : Shared}
theorem paired_at {α β : Type} {F : α → β → Prop} : ∀ {l : List α} {m : List β}, Paired F l m → ∀ {i : Nat} {a : α}, l[i]? = some a → ∃ b, m[i]? = some b ∧ F a b
  | _, _, .nil, i, a, h => by simp at h
  | _, _, .cons g r, 0, a, h => by
    cases (Option.some.inj h)
    exact ⟨_, rfl, g⟩
  | _, _, .cons g r, i + 1, a, h => by
    obtain ⟨b, h1, h2⟩ := paired_at r (i := i) (by simpa using h)
    exact ⟨b, by simpa using h1, h2⟩
theorem nraw_rows {w : World} {a : Addr} {xs : List (NestedKey × Addr × V)} (I : Inv X pins σ H s) (e : H a = some (NRaw w a xs)) :
    (a == sysModules) = false ∧ ∃ es, s.heap.DictRaw a es xs.length ∧ es.size = xs.length ∧ ∀ i (hi : i < es.size) k b v, xs[i]? = some (k, b, v) → es[i].key = .ref b ∧ RelV v es[i].val := by
  obtain ⟨⟨h1, h2, ys, h3, o, es, h4, h5, h6, h7, h8⟩, _⟩ := I.hok a _ e
  have hl : xs.length = ys.length := Paired.length h3
  have hs : es.size = ys.length := by rw [← Array.length_toList, h7, List.length_map]
  refine ⟨h2, es, ⟨o, h4, h5, by rw [hl]; exact h6⟩, by rw [hs, hl], fun i hi k b v hx => ?_⟩
  obtain ⟨⟨k2, b2, u⟩, g1, g2, g3, g4⟩ := paired_at h3 hx
  dsimp only at g2 g3 g4
  have e1 : es[i] = es.toList[i]'(by simpa using hi) := (Array.getElem_toList ..).symm
  have e2 : es.toList[i]? = some ⟨k2.hash w, .ref b2, u⟩ := by
    rw [h7, List.getElem?_map, g1]
    rfl
  rw [List.getElem?_eq_getElem (by simpa using hi)] at e2
  rw [e1, Option.some.inj e2]
  exact ⟨by rw [g3], g4⟩
/-- the pairs of the dict at d -/
def ItiN (w : World) (d : Addr) (n : Nat) : It :=
  ⟨fun i H => (∃ xs, H d = some (NRaw w d xs) ∧ xs.length = n) ∧ i < n, fun i H x H' => ∃ T b v, x = .ref T ∧ H T = none ∧ H' = upd H T (.tup [.ref b, v]) ∧ ∀ xs, H d = some (NRaw w d xs) → xs.length = n → ∃ k, xs[i]? = some (k, b, v), fun i H => (∃ xs, H d = some (NRaw w d xs) ∧ xs.length = n) ∧ n ≤ i⟩
theorem turn_itemsN {P : Program} {w : World} {K : PySem.W.Frag} {d : Addr} {n : Nat} {w' : World} {elts : List Expr} {kk : Nat} {tpos : Pos} (it : Addr) :
    Turn P w K (.Tuple elts kk tpos) (ItiN w' d n) [it] it (fun i h => ∃ ok ov, IsItemIter h it d i n n ok ov) where
  mem := by simp
  obj := fun i h st b hb => by
    have e : b = it := by simpa using hb
    subst e
    obtain ⟨ok, ov, e⟩ := st
    exact ⟨_, e, fun v z => nomatch z⟩
  keep := fun i h h' st k => let ⟨ok, ov, e⟩ := st; ⟨ok, ov, k it (by simp) _ e⟩
  item := by
    intro X hP hw hK hc i pins s σ H E I hf st hg
    subst hP hw hK
    obtain ⟨⟨xs, hd, hl⟩, hi⟩ := hg
    obtain ⟨hs, es, hr, hsz, rows⟩ := nraw_rows I hd
    obtain ⟨ok, ov, he⟩ := st
    have hie : i < es.size := by omega
    obtain ⟨⟨k, b, v⟩, hx⟩ : ∃ p, xs[i]? = some p := ⟨xs[i]'(by omega), List.getElem?_eq_getElem (by omega)⟩
    obtain ⟨r1, r2⟩ := rows i hie k b v hx
    have hlt : it < s.heap.objs.size := Heap.lt_size he
    have he0 : IsItemIter s.heap it d i es.size xs.length ok ov := by rw [hsz, hl]; exact he
    refine wpAny_pyNext_items_item_raw he0 hr hie fun h' ho hT hz hk => ?_
    refine ⟨_, rfl, wpAny_letOwnedTupleGo_items (s := { s with heap := h' }) ho fun h'' he' sb => ?_⟩
    rw [r1] at hT
    have hT2 : h''.get? s.heap.objs.size = some { cls := .type "tuple", data := .seq #[.ref b, es[i].val] } := (sb.2 _ (Nat.ne_of_gt hlt)).trans hT
    have new : ObjOk X.prog X.w (upd H s.heap.objs.size (.tup [.ref b, v])) h'' s.heap.objs.size (.tup [.ref b, v]) :=
      ⟨by show 2 ≤ sizeLine; decide, [.ref b, es[i].val], .cons rfl (.cons r2 .nil), ⟨_, hT2, rfl, _, rfl⟩⟩
    have I1 : Inv X pins σ (upd H s.heap.objs.size (.tup [.ref b, v])) { s with heap := h'' } :=
      I.turnedNew (t' := s.toks) (ch := [it]) (fun b ob hb e => (sb.2 b (by simpa using hb)).trans (hk b ob (by simpa using hb) e)) hf (Nat.le_refl _) new
    refine ⟨.ref s.heap.objs.size, _, I1, rfl, ⟨_, b, v, rfl, I.hok.fresh (Nat.le_refl _), rfl, fun xs2 hd2 hl2 => ?_⟩, ⟨es[i].key, es[i].val, ?_⟩, fun b' hb => ?_⟩
    · obtain ⟨_, es2, hr2, hsz2, rows2⟩ := nraw_rows I hd2
      obtain ⟨o1, q1, _, q2⟩ := hr
      obtain ⟨o2, q3, _, q4⟩ := hr2
      rw [q1] at q3
      cases q3
      rw [q2] at q4
      injection q4 with q5 _
      subst q5
      obtain ⟨⟨k2, b2, v2⟩, hx2⟩ : ∃ p, xs2[i]? = some p := ⟨xs2[i]'(by omega), List.getElem?_eq_getElem (by omega)⟩
      obtain ⟨r3, r4⟩ := rows2 i hie k2 b2 v2 hx2
      rw [r1] at r3
      cases r3
      rw [relV_fn r2 r4]
      exact ⟨k2, hx2⟩
    · have := he'
      rw [hsz, hl] at this
      exact this
    · have e : b' = it := by simpa using hb
      rw [e, upd_ne (Nat.ne_of_lt hlt)]
      exact (hf it (by simp)).1
  done := by
    intro X hP hw hK hc i pins s σ H E I hf st hg
    subst hP hw hK
    obtain ⟨⟨xs, hd, hl⟩, hi⟩ := hg
    obtain ⟨f0, f1, f2, f3, f4, f5⟩ := hf it (by simp)
    obtain ⟨hs, es, hr, hsz, rows⟩ := nraw_rows I hd
    obtain ⟨ok, ov, he⟩ := st
    have he0 : IsItemIter s.heap it d i es.size xs.length ok ov := by rw [hsz, hl]; exact he
    exact wpAny_pyNext_items_end_raw (I.ok.hd hc) he0 hr (by omega) fun h' eb => ⟨rfl, I.turned (t' := s.toks) (fun b ob hb e => eb b ob hb e) f0 f1 f3 f4 f5⟩
  self := fun A i s Q E st h => let ⟨_, _, e⟩ := st; PySem.W.kcp_self e h
/-- its keys -/
def ItkN (w : World) (d : Addr) (n : Nat) : It :=
  ⟨fun i H => (∃ xs, H d = some (NRaw w d xs) ∧ xs.length = n) ∧ i < n, fun i H x H' => H' = H ∧ ∃ b, x = .ref b ∧ ∀ xs, H d = some (NRaw w d xs) → xs.length = n → ∃ k v, xs[i]? = some (k, b, v), fun i H => (∃ xs, H d = some (NRaw w d xs) ∧ xs.length = n) ∧ n ≤ i⟩
theorem turn_keysN {P : Program} {w : World} {K : PySem.W.Frag} {d : Addr} {n : Nat} {w' : World} {tg : Expr} (it : Addr) :
    Turn P w K tg (ItkN w' d n) [it] it (fun i h => h.IsKeyIter it d i n n) where
  mem := by simp
  obj := fun i h st b hb => by
    have e : b = it := by simpa using hb
    subst e
    obtain ⟨oi, e, c, dd⟩ := st
    exact ⟨oi, e, fun v z => by rw [dd] at z; cases z⟩
  keep := fun i h h' st k => st.at fun oi e => k it (by simp) oi e
  item := by
    intro X hP hw hK hc i pins s σ H E I hf st hg
    subst hP hw hK
    obtain ⟨⟨xs, hd, hl⟩, hi⟩ := hg
    obtain ⟨f0, f1, f2, f3, f4, f5⟩ := hf it (by simp)
    obtain ⟨hs, es, hr, hsz, rows⟩ := nraw_rows I hd
    have hie : i < es.size := by omega
    obtain ⟨⟨k, b, v⟩, hx⟩ : ∃ p, xs[i]? = some p := ⟨xs[i]'(by omega), List.getElem?_eq_getElem (by omega)⟩
    obtain ⟨r1, r2⟩ := rows i hie k b v hx
    have st0 : s.heap.IsKeyIter it d i es.size xs.length := by rw [hsz, hl]; exact st
    refine wpAny_pyNext_keys_item_raw st0 hr hie fun h' st' sb => ?_
    have I1 : Inv X pins σ H { s with heap := h' } := I.turned (t' := s.toks) (fun b ob hb e => (sb.2 b hb).trans e) f0 f1 f3 f4 f5
    obtain ⟨oi, e, c, dd⟩ := id st'
    refine ⟨_, rfl, go_of (s := { s with heap := h' }) e c dd (by decide) ⟨.ref b, H, I1, ?_, ⟨rfl, b, rfl, fun xs2 hd2 hl2 => ?_⟩, ?_, fun b hb => (hf b hb).1⟩⟩
    · rw [r1]; exact rfl
    · obtain ⟨_, es2, hr2, hsz2, rows2⟩ := nraw_rows I hd2
      obtain ⟨o1, q1, _, q2⟩ := hr
      obtain ⟨o2, q3, _, q4⟩ := hr2
      rw [q1] at q3
      cases q3
      rw [q2] at q4
      injection q4 with q5 _
      subst q5
      obtain ⟨⟨k2, b2, v2⟩, hx2⟩ : ∃ p, xs2[i]? = some p := ⟨xs2[i]'(by omega), List.getElem?_eq_getElem (by omega)⟩
      obtain ⟨r3, r4⟩ := rows2 i hie k2 b2 v2 hx2
      rw [r1] at r3
      cases r3
      exact ⟨k2, v2, hx2⟩
    · have := st'
      rw [hsz, hl] at this
      exact this
  done := by
    intro X hP hw hK hc i pins s σ H E I hf st hg
    subst hP hw hK
    obtain ⟨⟨xs, hd, hl⟩, hi⟩ := hg
    obtain ⟨f0, f1, f2, f3, f4, f5⟩ := hf it (by simp)
    obtain ⟨hs, es, hr, hsz, rows⟩ := nraw_rows I hd
    have st0 : s.heap.IsKeyIter it d i es.size xs.length := by rw [hsz, hl]; exact st
    exact wpAny_pyNext_keys_end_raw (I.ok.hd hc) st0 hr (by omega) fun h' eb => ⟨rfl, I.turned (t' := s.toks) (fun b ob hb e => eb b ob hb e) f0 f1 f3 f4 f5⟩
  self := fun A i s Q E st h => wpAny_pyIter_keyiter st h
/-- its values -/
def ItdN (w : World) (d : Addr) (n : Nat) : It :=
  ⟨fun i H => (∃ xs, H d = some (NRaw w d xs) ∧ xs.length = n) ∧ i < n, fun i H x H' => H' = H ∧ ∀ xs, H d = some (NRaw w d xs) → xs.length = n → ∃ k b, xs[i]? = some (k, b, x), fun i H => (∃ xs, H d = some (NRaw w d xs) ∧ xs.length = n) ∧ n ≤ i⟩
theorem turn_valsN {P : Program} {w : World} {K : PySem.W.Frag} {d : Addr} {n : Nat} {w' : World} {tg : Expr} (it : Addr) :
    Turn P w K tg (ItdN w' d n) [it] it (fun i h => h.IsValIter it d i n n) where
  mem := by simp
  obj := fun i h st b hb => by
    have e : b = it := by simpa using hb
    subst e
    obtain ⟨oi, e, c, dd⟩ := st
    exact ⟨oi, e, fun v z => by rw [dd] at z; cases z⟩
  keep := fun i h h' st k => st.at fun oi e => k it (by simp) oi e
  item := by
    intro X hP hw hK hc i pins s σ H E I hf st hg
    subst hP hw hK
    obtain ⟨⟨xs, hd, hl⟩, hi⟩ := hg
    obtain ⟨f0, f1, f2, f3, f4, f5⟩ := hf it (by simp)
    obtain ⟨hs, es, hr, hsz, rows⟩ := nraw_rows I hd
    have hie : i < es.size := by omega
    obtain ⟨⟨k, b, v⟩, hx⟩ : ∃ p, xs[i]? = some p := ⟨xs[i]'(by omega), List.getElem?_eq_getElem (by omega)⟩
    obtain ⟨r1, r2⟩ := rows i hie k b v hx
    have st0 : s.heap.IsValIter it d i es.size xs.length := by rw [hsz, hl]; exact st
    refine wpAny_pyNext_values_item_raw st0 hr hie fun h' st' sb => ?_
    have I1 : Inv X pins σ H { s with heap := h' } := I.turned (t' := s.toks) (fun b ob hb e => (sb.2 b hb).trans e) f0 f1 f3 f4 f5
    obtain ⟨oi, e, c, dd⟩ := id st'
    refine ⟨_, rfl, go_of (s := { s with heap := h' }) e c dd (by decide) ⟨v, H, I1, r2, ⟨rfl, fun xs2 hd2 hl2 => ?_⟩, ?_, fun b hb => (hf b hb).1⟩⟩
    · obtain ⟨_, es2, hr2, hsz2, rows2⟩ := nraw_rows I hd2
      obtain ⟨o1, q1, _, q2⟩ := hr
      obtain ⟨o2, q3, _, q4⟩ := hr2
      rw [q1] at q3
      cases q3
      rw [q2] at q4
      injection q4 with q5 _
      subst q5
      obtain ⟨⟨k2, b2, v2⟩, hx2⟩ : ∃ p, xs2[i]? = some p := ⟨xs2[i]'(by omega), List.getElem?_eq_getElem (by omega)⟩
      obtain ⟨r3, r4⟩ := rows2 i hie k2 b2 v2 hx2
      rw [relV_fn r2 r4]
      exact ⟨k2, b2, hx2⟩
    · have := st'
      rw [hsz, hl] at this
      exact this
  done := by
    intro X hP hw hK hc i pins s σ H E I hf st hg
    subst hP hw hK
    obtain ⟨⟨xs, hd, hl⟩, hi⟩ := hg
    obtain ⟨f0, f1, f2, f3, f4, f5⟩ := hf it (by simp)
    obtain ⟨hs, es, hr, hsz, rows⟩ := nraw_rows I hd
    have st0 : s.heap.IsValIter it d i es.size xs.length := by rw [hsz, hl]; exact st
    exact wpAny_pyNext_values_end_raw (I.ok.hd hc) st0 hr (by omega) fun h' eb => ⟨rfl, I.turned (t' := s.toks) (fun b ob hb e => eb b ob hb e) f0 f1 f3 f4 f5⟩
  self := fun A i s Q E st h => wpAny_pyIter_valiter st h
end
end DL
namespace DL
open PySem PySem.Spec PyProof.Rows L2
section
variable {X : Cx} {C : Cc} {W : WX} {tg e a b : Expr} {pos apos cpos tpos : Pos} {f fa fb : FE D}
/-- a dict with nested keys walked: what is walked, of its pairs -/
def dnIt (g : NestedKey × D → D) (μ : Sto) : D → Option ItD
  | .obj n => match μ[n]? with | some (.dn kvs) => some (kvs.map g, [(n, .dn kvs)]) | _ => none
  | _ => none
theorem dnIt_ok {g : NestedKey × D → D} {η : Nm} {H : Hp} {μ : Sto} {x : V} {d : D} {it : ItD} (ok : Ok C η H μ) (r : Rep C η H x d) (h : dnIt g μ d = some it) :
    ∃ n a kvs xs, d = .obj n ∧ x = .ref a ∧ it = (kvs.map g, [(n, .dn kvs)]) ∧ η.o[n]? = some a ∧ μ[n]? = some (.dn kvs) ∧ H a = some (NRaw C.w a xs) ∧ RepN C η H xs kvs := by
  unfold dnIt at h
  split at h
  · rename_i n
    split at h
    · rename_i kvs e
      cases h
      obtain ⟨n', a, xs, e1, e2, e3, e4, e5, e6⟩ := dnAt_ok (kvs := kvs) ok r (dnAt_iff.mpr e)
      cases e1
      exact ⟨n, a, kvs, xs, rfl, e2, rfl, e3, e, e5, e6⟩
    · cases h
  · cases h
def iItemsN (fa : FE D) : FE ItD := fun ρ μ => (fa ρ μ).bind fun x μ1 => match dnIt (fun p => .tup [nkD p.1, p.2]) μ1 x with | some it => .ok it μ1 | none => .bad
def iKeysN (fa : FE D) : FE ItD := fun ρ μ => (fa ρ μ).bind fun x μ1 => match dnIt (fun p => nkD p.1) μ1 x with | some it => .ok it μ1 | none => .bad
def iValsN (fa : FE D) : FE ItD := fun ρ μ => (fa ρ μ).bind fun x μ1 => match dnIt (fun p => p.2) μ1 x with | some it => .ok it μ1 | none => .bad
theorem repN_at {η : Nm} {H : Hp} : ∀ {xs : List (NestedKey × Addr × V)} {ds : List (NestedKey × D)}, RepN C η H xs ds → ∀ {i : Nat} {k : NestedKey} {d : D}, ds[i]? = some (k, d) → ∃ b v, xs[i]? = some (k, b, v) ∧ Rep C η H (.ref b) (nkD k) ∧ Rep C η H v d
  | _, _, .nil, i, k, d, h => by simp at h
  | _, _, .cons h1 h2 h3 h4, 0, k, d, h => by
    cases (Option.some.inj h)
    exact ⟨_, _, rfl, h1, h3⟩
  | _, _, .cons h1 h2 h3 h4, i + 1, k, d, h => by
    obtain ⟨b, v, g1, g2⟩ := repN_at h4 (i := i) (by simpa using h)
    exact ⟨b, v, by simpa using g1, g2⟩
theorem go_dn {η1 : Nm} {H1 : Hp} {n : Nat} {a : Addr} {kvs : List (NestedKey × D)} (hn : η1.o[n]? = some a) {η : Nm} {H : Hp} {μ : Sto} {η1' : Nm} (ho : η1'.o = η1.o) (nx : NxtW C η1' H1 η H) (ok : Ok C η H μ) (hc : chk [(n, .dn kvs)] μ) :
    ∃ xs, H a = some (NRaw C.w a xs) ∧ RepN C η H xs kvs ∧ xs.length = kvs.length := by
  rw [← ho] at hn
  have h1 := nx.get hn
  obtain ⟨xs, h2, h3⟩ := dn_get ok h1 (by simpa using hc)
  exact ⟨xs, h2, h3, h3.len⟩
theorem walkD_itemsN {η1 : Nm} {H1 : Hp} {n : Nat} {a : Addr} {kvs : List (NestedKey × D)} (hn : η1.o[n]? = some a) : WalkD C (ItiN C.w a kvs.length) (kvs.map fun p => .tup [nkD p.1, p.2]) [(n, .dn kvs)] η1 H1 := by
  intro η1' hr ho η H μ nx ok hc
  obtain ⟨xs, h1, h2, h3⟩ := go_dn hn ho nx ok hc
  rw [List.length_map]
  refine ⟨fun i hi => ⟨⟨⟨xs, h1, h3⟩, hi⟩, ?_⟩, ⟨⟨xs, h1, h3⟩, Nat.le_refl _⟩⟩
  rintro x H' ⟨T, b, v, rfl, hT, hH, hy⟩
  obtain ⟨k, hx⟩ := hy xs h1 h3
  have hk : kvs[i]? = some kvs[i] := List.getElem?_eq_getElem hi
  obtain ⟨b', v', g1, g2, g3⟩ := repN_at h2 (i := i) (k := kvs[i].1) (d := kvs[i].2) hk
  rw [hx] at g1
  cases g1
  obtain ⟨s1, r1⟩ := rep_pair hT hH g2 g3
  exact ⟨_, by rw [List.getElem?_map, hk]; rfl, s1, r1⟩
theorem walkD_keysN {η1 : Nm} {H1 : Hp} {n : Nat} {a : Addr} {kvs : List (NestedKey × D)} (hn : η1.o[n]? = some a) : WalkD C (ItkN C.w a kvs.length) (kvs.map fun p => nkD p.1) [(n, .dn kvs)] η1 H1 := by
  intro η1' hr ho η H μ nx ok hc
  obtain ⟨xs, h1, h2, h3⟩ := go_dn hn ho nx ok hc
  rw [List.length_map]
  refine ⟨fun i hi => ⟨⟨⟨xs, h1, h3⟩, hi⟩, ?_⟩, ⟨⟨xs, h1, h3⟩, Nat.le_refl _⟩⟩
  rintro x H' ⟨rfl, b, rfl, hy⟩
  obtain ⟨k, v, hx⟩ := hy xs h1 h3
  have hk : kvs[i]? = some kvs[i] := List.getElem?_eq_getElem hi
  obtain ⟨b', v', g1, g2, g3⟩ := repN_at h2 (i := i) (k := kvs[i].1) (d := kvs[i].2) hk
  rw [hx] at g1
  cases g1
  exact ⟨_, by rw [List.getElem?_map, hk]; rfl, Same.refl _, g2⟩
theorem walkD_valsN {η1 : Nm} {H1 : Hp} {n : Nat} {a : Addr} {kvs : List (NestedKey × D)} (hn : η1.o[n]? = some a) : WalkD C (ItdN C.w a kvs.length) (kvs.map fun p => p.2) [(n, .dn kvs)] η1 H1 := by
  intro η1' hr ho η H μ nx ok hc
  obtain ⟨xs, h1, h2, h3⟩ := go_dn hn ho nx ok hc
  rw [List.length_map]
  refine ⟨fun i hi => ⟨⟨⟨xs, h1, h3⟩, hi⟩, ?_⟩, ⟨⟨xs, h1, h3⟩, Nat.le_refl _⟩⟩
  rintro x H' ⟨rfl, hy⟩
  obtain ⟨k, b, hx⟩ := hy xs h1 h3
  have hk : kvs[i]? = some kvs[i] := List.getElem?_eq_getElem hi
  obtain ⟨b', v', g1, g2, g3⟩ := repN_at h2 (i := i) (k := kvs[i].1) (d := kvs[i].2) hk
  rw [hx] at g1
  cases g1
  exact ⟨_, by rw [List.getElem?_map, hk]; rfl, Same.refl _, g3⟩
theorem tD_dn {g : NestedKey × D → D} {J : Addr → Nat → It} {σ : L2.St} {H : Hp} {R : It → Hp → Prop} (hJ : ∀ (η1 : Nm) (H1 : Hp) (n : Nat) (a : Addr) (kvs : List (NestedKey × D)), η1.o[n]? = some a → WalkD C (J a kvs.length) (kvs.map g) [(n, .dn kvs)] η1 H1)
    (h : tDI C W (fun ρ μ => (fa ρ μ).bind fun x μ1 => match dnIt g μ1 x with | some it => .ok it μ1 | none => .bad) σ H R) :
    tD C W fa σ H fun x H1 => ∃ a xs, x = .ref a ∧ H1 a = some (NRaw C.w a xs) ∧ R (J a xs.length) H1 := by
  obtain ⟨η, ρ, μ, s, o, p⟩ := h
  refine ⟨η, ρ, μ, s, o, Post.bind p fun d η1 H1 μ1 n1 o1 p1 x rx => ?_⟩
  cases hs : dnIt g μ1 d with
  | none => rw [hs] at p1; exact p1.elim
  | some it =>
    rw [hs] at p1
    obtain ⟨n, a, kvs, xs, rfl, rfl, rfl, hn, hm, ha, rn⟩ := dnIt_ok o1 rx hs
    refine ⟨a, xs, rfl, ha, ?_⟩
    rw [rn.len]
    exact p1.now o1 _ (hJ η1 H1 n a kvs hn)
/-- for k in d -/
theorem di_keysN (ha : DE X C W a fa) : DI X C W tg a (iKeysN fa) := by
  refine ⟨⟨fun pins s σ H R I h => ?_⟩⟩
  refine thn (ha.pe.run pins s σ H _ I (tD_dn (J := ItkN C.w) (fun η1 H1 n a kvs hn => walkD_keysN hn) h)) fun u s1 ⟨x, H1, I1, rx, d, xs, ex, hd, q⟩ => ?_
  subst ex
  obtain rfl : u = Value.ref d := rx
  obtain ⟨hs, es, hr, hsz, _⟩ := nraw_rows I1 hd
  refine wpAny_pyIter_dict_raw hs hr (pi_one (tk := s1.toks) I1 _ (turn_keysN _) ⟨_, Heap.get?_push_size _ rfl, rfl, ?_⟩ q)
  rw [hsz] <;> rfl
theorem di_valsN (ha : DE X C W a fa) (hbase : attributeBase a "values" X.env (eval a X.env) = eval a X.env := by rfl) (hline : (apos.endLine == cpos.line) = true := by rfl) : DI X C W tg (.Call (.Attribute a "values" apos) [] [] cpos) (iValsN fa) := by
  refine ⟨⟨fun pins s σ H R I h => ?_⟩⟩
  refine wpAny_Call_method (T := "dict") (id := "dict.values") hbase rfl hline F.plainAttrs_dict F.slot_dict_values F.type_dict_values (thn (ha.pe.run pins s σ H _ I (tD_dn (J := ItdN C.w) (fun η1 H1 n a kvs hn => walkD_valsN hn) h)) fun u s1 ⟨x, H1, I1, rx, d, xs, ex, hd, q⟩ => ?_)
  subst ex
  obtain rfl : u = Value.ref d := rx
  obtain ⟨hs, es, hr, hsz, _⟩ := nraw_rows I1 hd
  obtain ⟨t1, t2, _⟩ := isN_at I1 hd
  refine ⟨t1, t2, ?_⟩
  have I2 : Inv X pins σ H1 { s1 with heap := s1.heap.push { cls := .type "dict_values", data := .fields #[.ref d] } } := I1.kept (t' := s1.toks) fun b ob q => Heap.get?_push_of_some _ q
  have fin : wpAny (model X.prog X.w) X.A (pyIter (.ref s1.heap.objs.size)) (PIE X pins σ tg R) X.xe { s1 with heap := s1.heap.push { cls := .type "dict_values", data := .fields #[.ref d] } } := by
    refine wpAny_pyIter_values_raw (d := d) (es := es) (ep := xs.length) ⟨_, Heap.get?_push_size _ rfl, rfl, rfl⟩ (hr.at fun o e => Heap.get?_push_of_some _ e) (pi_one (tk := s1.toks) I2 _ (turn_valsN _) ⟨_, Heap.get?_push_size _ rfl, rfl, ?_⟩ q)
    rw [hsz] <;> rfl
  show wpAny _ _ (callWith cpos (.builtin "dict.values") [.ref d] [] []) _ X.xe s1
  exact method_meetsIn F.slot_dict_values F.entry_dict_values rfl (PySem.evalArgs_none ⟨rfl, t1, F.args_dict_values_1 _, _, meets_dict_values_raw d hs, ⟨_, _, hr⟩, fin⟩)
theorem di_itemsN {elts : List Expr} {kk : Nat} (ha : DE X C W a fa) (hbase : attributeBase a "items" X.env (eval a X.env) = eval a X.env := by rfl) (hline : (apos.endLine == cpos.line) = true := by rfl) : DI X C W (.Tuple elts kk tpos) (.Call (.Attribute a "items" apos) [] [] cpos) (iItemsN fa) := by
  refine ⟨⟨fun pins s σ H R I h => ?_⟩⟩
  refine wpAny_Call_method (T := "dict") (id := "dict.items") hbase rfl hline F.plainAttrs_dict F.slot_dict_items F.type_dict_items (thn (ha.pe.run pins s σ H _ I (tD_dn (J := ItiN C.w) (fun η1 H1 n a kvs hn => walkD_itemsN hn) h)) fun u s1 ⟨x, H1, I1, rx, d, xs, ex, hd, q⟩ => ?_)
  subst ex
  obtain rfl : u = Value.ref d := rx
  obtain ⟨hs, es, hr, hsz, _⟩ := nraw_rows I1 hd
  obtain ⟨t1, t2, _⟩ := isN_at I1 hd
  refine ⟨t1, t2, ?_⟩
  have I2 : Inv X pins σ H1 { s1 with heap := s1.heap.push { cls := .type "dict_items", data := .fields #[.ref d] } } := I1.kept (t' := s1.toks) fun b ob q => Heap.get?_push_of_some _ q
  have fin : wpAny (model X.prog X.w) X.A (pyIter (.ref s1.heap.objs.size)) (PIE X pins σ (.Tuple elts kk tpos) R) X.xe { s1 with heap := s1.heap.push { cls := .type "dict_items", data := .fields #[.ref d] } } := by
    refine wpAny_pyIter_items_raw (d := d) (es := es) (ep := xs.length) ⟨_, Heap.get?_push_size _ rfl, rfl, rfl⟩ (hr.at fun o e => Heap.get?_push_of_some _ e) (pi_one (tk := s1.toks) I2 _ (turn_itemsN _) ⟨.none, .none, ?_⟩ q)
    rw [hsz]
    exact Heap.get?_push_size _ rfl
  show wpAny _ _ (callWith cpos (.builtin "dict.items") [.ref d] [] []) _ X.xe s1
  exact method_meetsIn F.slot_dict_items F.entry_dict_items rfl (PySem.evalArgs_none ⟨rfl, t1, F.args_dict_items_1 _, _, meets_dict_items_raw d hs, ⟨_, _, hr⟩, fin⟩)
section
variable {ρ : En} {μ : Sto}
@[simp] theorem x_iItemsN : iItemsN fa ρ μ = (fa ρ μ).bind fun x μ1 => match dnIt (fun p => .tup [nkD p.1, p.2]) μ1 x with | some it => .ok it μ1 | none => .bad := rfl
@[simp] theorem x_iKeysN : iKeysN fa ρ μ = (fa ρ μ).bind fun x μ1 => match dnIt (fun p => nkD p.1) μ1 x with | some it => .ok it μ1 | none => .bad := rfl
@[simp] theorem x_iValsN : iValsN fa ρ μ = (fa ρ μ).bind fun x μ1 => match dnIt (fun p => p.2) μ1 x with | some it => .ok it μ1 | none => .bad := rfl
theorem dnIt_obj {g : NestedKey × D → D} {n : Nat} {kvs : List (NestedKey × D)} (h : μ[n]? = some (.dn kvs)) : dnIt g μ (.obj n) = some (kvs.map g, [(n, .dn kvs)]) := by unfold dnIt; simp only [h]
end
end
end DL
namespace DL
open PySem PySem.Spec PyProof.Rows L2
/-! ### min(d.values()) -/
section
variable {X : Cx} {C : Cc} {W : WX} {e o : Expr} {pos apos mpos p : Pos} {f fo : FE D}
def eMinValsN (fo : FE D) : FE D := fun ρ μ => (fo ρ μ).bind fun d μ1 => match dnAt μ1 d with
  | some kvs => (match kvs.map (·.2) with | x :: xs => if cmpAll (x :: xs) = true then .ok (minP x xs) μ1 else .bad | [] => .bad)
  | none => .bad
/-- the values, as the library sees them -/
theorem vals_rel {η : Nm} {H : Hp} : ∀ {xs : List (NestedKey × Addr × V)} {ds : List (NestedKey × D)}, RepN C η H xs ds → Reps C η H (xs.map fun x => x.2.2) (ds.map (·.2))
  | _, _, .nil => .nil
  | _, _, .cons h1 h2 h3 h4 => .cons h3 (vals_rel h4)
theorem vals_vs : ∀ {xs : List (NestedKey × Addr × V)} {ys : List (NestedKey × Addr × Value)}, Paired NR xs ys → Vals (xs.map fun x => x.2.2) (ys.map fun y => y.2.2)
  | _, _, .nil => .nil
  | _, _, .cons h t => .cons h.2.2 (vals_vs t)
theorem de_minValsN (hu : X.A.units + 64 < cLine) (hw : X.w = C.w) (hm : X.mg "min" = none) (ho : DE X C W o fo) (hc : X.calm = true := by rfl) (hg : Gl X "min" := by rfl) (hbase : attributeBase o "values" X.env (eval o X.env) = eval o X.env := by rfl) (hline : (apos.endLine == mpos.line) = true := by rfl)
    (hse : starEach [Expr.Call (.Attribute o "values" apos) [] [] mpos] X.env = [(false, eval (Expr.Call (.Attribute o "values" apos) [] [] mpos) X.env)] := by rfl) (hK : X.K = C.K := by rfl) :
    DE X C W (.Call (.Name "min" p) [.Call (.Attribute o "values" apos) [] [] mpos] [] pos) (eMinValsN fo) := by
  refine ⟨⟨fun pins s σ H Q I h => ?_⟩⟩
  obtain ⟨η, ρ, μ, sl, ok, pp⟩ := h
  have h1 : tD C W fo σ H fun x H1 => ∃ a xs ds d0 d1 η1, x = .ref a ∧ H1 a = some (NRaw C.w a xs) ∧ RepN C η1 H1 xs ds ∧ ds.map (·.2) = d0 :: d1 ∧ cmpAll (d0 :: d1) = true ∧ ∀ v, Rep C η1 H1 v (minP d0 d1) → Q v H1 := by
    refine ⟨η, ρ, μ, sl, ok, Post.bind pp fun d η1 H1 μ1 n1 o1 p1 x rx => ?_⟩
    split at p1
    · rename_i kvs e1
      obtain ⟨n, a, xs, rfl, rfl, hn, hm', ha, rn⟩ := dnAt_ok o1 rx e1
      split at p1
      · rename_i d0 d1 e2
        split at p1
        · rename_i hall
          exact ⟨a, xs, kvs, d0, d1, η1, rfl, ha, rn, e2, hall, fun v rv => p1.now o1 v rv⟩
        · exact p1.elim
      · exact p1.elim
    · exact p1.elim
  refine wpAny_Call_Name_kw (ld_blt I hg hm (u := .builtin "min") (by first | rfl | decide +kernel) ?_ (by first | decide +kernel | decide) (by first | decide +kernel | decide))
  rw [hse]
  refine PySem.callWith_builtin1 (wpAny_Call_method0_late hbase hline (thn (ho.pe.run pins s σ H _ I h1) fun v s1 ⟨x, H1, I1, r1, a, xs, ds, x0, x1, η1, ex, ha, rn, hds, hall, q⟩ => ?_))
  subst ex
  obtain rfl : v = Value.ref a := r1
  obtain ⟨l1, l2, ys, l3, l4⟩ := dn_of I1 hK hw ha rn
  obtain ⟨ob, es, ho', ex, hdat, hes, his, hnd⟩ := l4
  refine ⟨"dict", "dict.values", F.plainAttrs_dict, F.slot_dict_values, F.type_dict_values, ⟨ob, ho', ex.1⟩, fun b e => ?_, Calls.callWith_builtin rfl (PySem.evalArgs_none ?_)⟩
  · cases e
    exact ⟨ob, ho', ex.2.1⟩
  refine call_meetsIn F.slot_dict_values ⟨ob, ho', ex.1⟩ F.entry_dict_values (F.args_dict_values_1 _) (meets_dict_values_raw a l2) ⟨⟨es, _, ob, ho', ex, hdat⟩, ?_⟩
  let h2 : Heap := s1.heap.push { cls := .type "dict_values", data := .fields #[.ref a] }
  have k1 : ∀ b u, s1.heap.get? b = some u → h2.get? b = some u := fun b u e => Heap.get?_push_of_some _ e
  have raw1 : h2.DictRaw a es ys.length := ⟨ob, k1 _ _ ho', ex, hdat⟩
  have hlt : a < s1.heap.objs.size := Heap.lt_size ho'
  have hsz : h2.objs.size = s1.heap.objs.size + 1 := Heap.size_push _ _
  have rv : Reps C η1 H1 (xs.map fun x => x.2.2) (x0 :: x1) := by rw [← hds]; exact vals_rel rn
  have rvv : Vals (xs.map fun x => x.2.2) (ys.map fun y => y.2.2) := vals_vs l3
  obtain ⟨hp, hal⟩ := cmpAll_inv hall
  have hpy : toPys (x0 :: x1) = some ((x0 :: x1).map pyD) := pyDs fun d hd => (hp d hd).1
  have hdp : DpAll X.K H1 (xs.map fun x => x.2.2) ((x0 :: x1).map pyD) := by rw [hK]; exact rv.dp hpy
  have hA : PySem.W.AlikeAll ((x0 :: x1).map pyD) := ⟨fun p hp' q hq' => by
      obtain ⟨d, hd, rfl⟩ := List.mem_map.mp hp'
      obtain ⟨e, he, rfl⟩ := List.mem_map.mp hq'
      exact hal d hd e he, fun p hp' => by
      obtain ⟨d, hd, rfl⟩ := List.mem_map.mp hp'
      exact pyD_non (hp d hd).1 (hp d hd).2⟩
  have hdep : PyData.depthAll (pyD x0 :: x1.map pyD) ≤ 31 := depAll_le (ds := (x0 :: x1).map pyD) fun p hp' => by
    obtain ⟨d, hd, rfl⟩ := List.mem_map.mp hp'
    exact (pyD_dep (hp d hd).1).2
  obtain ⟨hm1, hm2⟩ := minP_py x1 x0
  obtain ⟨as, hra⟩ := Dp.readsAll I1 _ _ _ hdp rvv
  have hra' : ReadsAll s1.heap (ys.map fun y => y.2.2).toArray.toList (pyD x0 :: x1.map pyD) as := by simpa using hra
  have hesz : es.size = ys.length := by rw [← Array.length_toList, hes, List.length_map]
  have hval : ∀ (i : Nat) (hi : i < es.size), (ys.map fun y => y.2.2)[i]? = some es[i].val := fun i hi => by
    have e1 : es[i] = es.toList[i]'(by simpa using hi) := (Array.getElem_toList ..).symm
    have hi' : i < ys.length := by omega
    have e2 : es.toList[i]? = (ys[i]?).map (entryOfKey (nestedKind X.prog X.w)) := by rw [hes, List.getElem?_map]
    rw [List.getElem?_eq_getElem (by simpa using hi), List.getElem?_eq_getElem hi'] at e2
    rw [e1, List.getElem?_map, List.getElem?_eq_getElem hi', Option.some.inj e2]
    rfl
  refine PySem.call_min_walkH (wpAny_pyIter_values_raw (v := s1.heap.objs.size) (d := a) (es := es) (ep := ys.length) ⟨_, Heap.get?_push_size _ rfl, rfl, rfl⟩ raw1 ?_)
  let h3 : Heap := h2.push { cls := .type "dict_valueiterator", data := .fields #[.ref a, .int 0 0, .int es.size 0, .int ys.length 0] }
  have k2 : ∀ b u, s1.heap.get? b = some u → h3.get? b = some u := fun b u e => Heap.get?_push_of_some _ (k1 b u e)
  have nlt : ∀ b o, s1.heap.get? b = some o → b ∉ [h2.objs.size] := fun b o e hb => by
    have e2 := Heap.lt_size e
    rw [List.mem_singleton.mp hb, hsz] at e2
    exact absurd e2 (Nat.not_lt.mpr (Nat.le_succ _))
  have hlen : es.size = x1.length + 1 := by
    have := rv.length
    rw [List.length_map, List.length_cons] at this
    rw [hesz, ← Paired.length l3, this]
  refine ⟨_, _, _, _, _, _, _, s1.heap, fun i j => PySem.W.dataLt ((pyD x0 :: x1.map pyD).getD i .none) ((pyD x0 :: x1.map pyD).getD j .none), rfl, (Walks.rawValues (A := X.A.in1) (I1.ok.hd hc) h2.objs.size a (by rw [hsz]; exact Nat.ne_of_lt (Nat.lt_succ_of_lt hlt)) es ys.length).toS,
    ⟨⟨_, Heap.get?_push_size _ rfl, rfl, rfl⟩, raw1.at fun o e => Heap.get?_push_of_some _ e⟩, fun b hb => ?_, by omega, nlt, k2, fun i j vi vj s' Q' E' hk hi hj hq => ?_, fun v s' hP m => ?_⟩
  · show b < (h2.push _).objs.size
    rw [Heap.size_push, hsz]
    rcases List.mem_cons.mp hb with e | hb
    · rw [e, hsz]
      exact Nat.lt_succ_self _
    · rw [List.mem_singleton.mp hb]
      exact Nat.lt_succ_of_lt (Nat.lt_succ_of_lt hlt)
  · obtain ⟨hi1, rfl⟩ := hi
    obtain ⟨hj1, rfl⟩ := hj
    exact PySem.W.cmpIn_lt (A := X.A.in1) (s := s1) hra' hA (by show X.A.units + 1 + _ < _; have := hdep; show X.A.units + 1 + PyData.depthAll (pyD x0 :: x1.map pyD) < _; omega) i j _ _ s' Q' E' hk (by simpa using hval i hi1) (by simpa using hval j hj1) hq
  · obtain ⟨hi1, hv⟩ := hP
    obtain ⟨bs, r, _, _, _⟩ := PySem.W.readsAll_atA hra' _ v (by rw [hv]; simpa using hval _ hi1)
    have e1 : es.size - 1 = (x1.map pyD).length := by rw [List.length_map]; omega
    have e2 := (PySem.W.argBest_fold PySem.W.dataLt PyData.none (pyD x0) (x1.map pyD) (x1.map pyD).length (Nat.le_refl _)).2
    rw [List.take_length] at e2
    rw [e1] at r
    have r2 : Reads s1.heap v (PySem.W.minD (pyD x0) (x1.map pyD)) bs := by
      unfold PySem.W.minD
      rw [← e2]
      exact r
    rw [← hm1] at r2
    obtain ⟨z, hz1, hz2⟩ := item_of I1 hK rv rvv (fun d hd => (hp d hd).1) hm2 (by rw [hv]; exact hval _ hi1) r2 (fun b o e => e)
    have hk : ∀ b o, s1.heap.get? b = some o → s'.heap.get? b = some o := fun b o e => m.heap b o (nlt b o e) (k2 b o e)
    have es' : s' = { s1 with heap := s'.heap, toks := s'.toks } := by
      obtain ⟨hp', g, dd, tk, os⟩ := s'
      have h1 : g = s1.gens := m.gens
      have h2 : dd = s1.drawn := m.drawn
      have h3 : os = s1.os := m.os
      subst h1
      subst h2
      subst h3
      rfl
    rw [es']
    exact ⟨z, H1, I1.kept hk, hz1, q z hz2⟩
section
variable {ρ : En} {μ : Sto}
@[simp] theorem x_eMinValsN : eMinValsN fo ρ μ = (fo ρ μ).bind fun d μ1 => match dnAt μ1 d with
  | some kvs => (match kvs.map (·.2) with | x :: xs => if cmpAll (x :: xs) = true then .ok (minP x xs) μ1 else .bad | [] => .bad)
  | none => .bad := rfl
end
end
end DL
namespace DL
open PySem PySem.Spec PyProof.Rows L2
/-! ### min and max of two things -/
section
variable {prog : Program} {w : World} {A : Around} {E : Value → Shared → Prop} {s : Shared}
theorem call_min_twoH {a b : Value} {Q : Value → Shared → Prop}
    (h : wpAny (model prog w) A.in1 (pyIter (.ref s.heap.objs.size)) (fun it s₂ => ∃ I fp wr G n P St H bt, it = .ref I ∧ WalksS prog w A.in1 I fp wr G n P St ∧ St 0 s₂ ∧ (∀ b ∈ fp, b < s₂.heap.objs.size) ∧ 0 < n ∧
      (∀ b o, H.get? b = some o → b ∉ wr) ∧ (∀ b o, H.get? b = some o → s₂.heap.get? b = some o) ∧ CmpIn prog w A.in1 .Lt H P bt ∧ ∀ v s', P (argBest bt (n - 1)) v → Moved wr G s₂ s' → Q v s') E
      { s with heap := s.heap.push { cls := .type "tuple", data := .seq #[a, b] } }) :
    wpAny (model prog w) A (call (.builtin "min") [a, b]) Q E s := by
  have hname : (toString "min" ++ toString ".loop" : String) = "min.loop" := by decide
  refine call_function_tree F.kind_min F.plain_min F.entry_min (F.args_min2 _ _) ?_
  show wpAny _ A.in1 (Builtin.Builtins.bindParams "min" ["key", "default"] 0 ⟨[], []⟩ >>= _) _ _ s
  refine wpAny_bind (wpAny_of_eq (show Builtin.Builtins.bindParams "min" ["key", "default"] 0 ⟨[], []⟩ = pure [none, none] from rfl) ?_)
  show wpAny _ A.in1 (newTuple [a, b] >>= _) _ _ s
  refine wpAny_bind (wpAny_newObj_type ?_)
  refine wpAny_bind (wpAny_mono h (fun it s₂ h₂ => ?_) fun _ _ e => e)
  obtain ⟨I, fp, wr, G, n, P, St, H, bt, rfl, W, hst, hfp, hn, hHw, hHk, hcmp, hQ⟩ := h₂
  refine wpAny_bind (wpAny_newObj_type ?_)
  have hSf : s₂.heap.objs.size ∉ fp := fun hm => Nat.lt_irrefl _ (hfp _ hm)
  rw [hname]
  refine wpAny_pure ⟨plainId_quiet F.plain_min_loop _, codeAny_min_loop_firstH W H hHw bt hcmp s₂.heap.objs.size hSf (fresh_in hHk) _ hn (fun b o e => Heap.get?_push_of_some _ (hHk b o e)) (W.frame 0 s₂ _ s₂.toks hst (Nat.le_refl _) fun b _ o e => Heap.get?_push_of_some _ e) (Heap.get?_push_size _ rfl) fun v s' hP hm => ?_⟩
  exact hQ v s' hP (Moved.drop_new (tk := s₂.toks) hm (Nat.le_refl _))
theorem min_two_data {va vb : Value} {a b : PyData} {as : List Addr} {Q : Value → Shared → Prop} (hh : A.handled = none) (hr : ReadsAll s.heap [va, vb] [a, b] as) (ha : PySem.W.AlikeAll [a, b]) (hu : A.units + 1 + PyData.depthAll [a, b] < cLine)
    (h : ∀ (i : Nat) v h' tk bs, [va, vb][i]? = some v → Reads h' v (PySem.W.minD a [b]) bs → (∀ b o, s.heap.get? b = some o → h'.get? b = some o) → Q v { s with heap := h', toks := tk }) :
    wpAny (model prog w) A (call (.builtin "min") [va, vb]) Q E s := by
  have hr' : ReadsAll s.heap (#[va, vb] : Array Value).toList [a, b] as := hr
  have ht : (s.heap.push { cls := .type "tuple", data := .seq #[va, vb] }).IsTuple s.heap.objs.size #[va, vb] := ⟨_, Heap.get?_push_size _ rfl, rfl, _, rfl⟩
  have k1 : ∀ b o, s.heap.get? b = some o → (s.heap.push { cls := .type "tuple", data := .seq #[va, vb] }).get? b = some o := fun b o e => Heap.get?_push_of_some _ e
  refine call_min_twoH (PySem.W.iter_tupleW (A := A.in1) hh ht fun s₂ e W st hfp hw hk => ?_)
  refine ⟨_, _, _, _, _, _, _, s.heap, _, rfl, W, st, hfp, by simp, fun b o e => hw b o (k1 b o e), fun b o e => hk b o (k1 b o e), PySem.W.cmpIn_lt (A := A.in1) hr' ha (by show A.units + 1 + _ < _; exact hu), fun v s' hP m => ?_⟩
  obtain ⟨h', tk, rfl, hk'⟩ := PySem.W.moved_old e rfl m
  obtain ⟨bs, r, _, _, _⟩ := PySem.W.readsAll_atA hr' _ v hP
  have e2 := (PySem.W.argBest_fold PySem.W.dataLt PyData.none a [b] 1 (Nat.le_refl _)).2
  rw [List.take_of_length_le (by simp)] at e2
  refine h _ v h' tk bs (by simpa using hP) (PySem.W.reads_keeps (fun b o e => hk' b o (k1 b o e)) (by unfold PySem.W.minD; rw [← e2]; exact r)) fun b o e => hk' b o (k1 b o e)
end
section
variable {X : Cx} {C : Cc}
def gMin2P : List D → Sto → R D
  | [.int i, .int j], μ => .ok (.int (if j < i then j else i)) μ
  | [x, y], μ => if cmpAll [x, y] = true then .ok (minP x [y]) μ else .bad
  | _, _ => .bad
theorem cc_min2P (hu : X.A.units + 64 < cLine) (hc : X.calm = true := by rfl) (hK : X.K = C.K := by rfl) : CC X C (.builtin "min") gMin2P := by
  refine ⟨fun xs H Q => ∃ η μ ds, Ok C η H μ ∧ Reps C η H xs ds ∧ ∃ (W : WX) (σ : L2.St), Post C W η H σ (PV C Q) (gMin2P ds μ), fun pins s σ H vs us Q I r h => ?_, fun W η H μ σ Q xs ds o rx p => ⟨η, μ, ds, o, rx, W, σ, p⟩⟩
  obtain ⟨η, μ, ds, o, rx, W, σ', p⟩ := h
  unfold gMin2P at p
  split at p
  · rename_i i j
    obtain ⟨x, y, rfl, r1, r2⟩ := rx.two
    cases r1
    cases r2
    exact call_min2 hc pins s σ H _ us Q I r ⟨i, j, rfl, p.now o _ (.int _)⟩
  · rename_i x y _
    split at p
    · rename_i hall
      obtain ⟨hp, hal⟩ := cmpAll_inv hall
      have hpy : toPys [x, y] = some ([x, y].map pyD) := pyDs fun d hd => (hp d hd).1
      have hdp : DpAll X.K H vs ([x, y].map pyD) := by rw [hK]; exact rx.dp hpy
      have hA : PySem.W.AlikeAll ([x, y].map pyD) := ⟨fun p hp' q hq' => by
          obtain ⟨d, hd, rfl⟩ := List.mem_map.mp hp'
          obtain ⟨e, he, rfl⟩ := List.mem_map.mp hq'
          exact hal d hd e he, fun p hp' => by
          obtain ⟨d, hd, rfl⟩ := List.mem_map.mp hp'
          exact pyD_non (hp d hd).1 (hp d hd).2⟩
      have hdep : PyData.depthAll (pyD x :: [y].map pyD) ≤ 31 := depAll_le (ds := [x, y].map pyD) fun p hp' => by
        obtain ⟨d, hd, rfl⟩ := List.mem_map.mp hp'
        exact (pyD_dep (hp d hd).1).2
      obtain ⟨hm1, hm2⟩ := minP_py [y] x
      obtain ⟨as, hra⟩ := Dp.readsAll I _ _ _ hdp r
      obtain ⟨u1, u2, rfl, _, _⟩ : ∃ u1 u2, us = [u1, u2] ∧ True ∧ True := by
        have hl := r.length
        have hl2 := rx.length
        rw [hl] at hl2
        match us, hl2 with
        | [u1, u2], _ => exact ⟨u1, u2, rfl, trivial, trivial⟩
      refine min_two_data (I.ok.hd hc) hra hA (by show X.A.units + 1 + PyData.depthAll (pyD x :: [y].map pyD) < _; omega) fun i v h' tk bs hv hr hk => ?_
      have hr2 : Reads h' v (pyD (minP x [y])) bs := by rw [hm1]; exact hr
      obtain ⟨z, hz1, hz2⟩ := item_of I hK rx r (fun d hd => (hp d hd).1) hm2 hv hr2 hk
      exact ⟨z, H, I.kept hk, hz1, p.now o z hz2⟩
    · exact p.elim
  · exact p.elim
@[simp] theorem x_gMin2PI {i j : Int} {μ : Sto} : gMin2P [.int i, .int j] μ = .ok (.int (if j < i then j else i)) μ := rfl
@[simp] theorem x_gMin2PT {ds es : List D} {μ : Sto} : gMin2P [.tup ds, .tup es] μ = if cmpAll [.tup ds, .tup es] = true then .ok (minP (.tup ds) [.tup es]) μ else .bad := rfl
end
end DL
namespace DL
open PySem
/-! ### a dict that keeps the least of what was told -/
section
variable {κ β : Type} [DecidableEq κ]
theorem valD_mem {L : List (κ × β)} {k : κ} {v : β} (h : valD L k = some v) : (k, v) ∈ L := by
  unfold valD at h
  obtain ⟨p, hp, rfl⟩ := Option.map_eq_some_iff.mp h
  have h1 := List.find?_some hp
  have h2 := List.mem_of_find?_eq_some hp
  simp at h1
  subst h1
  exact h2
theorem valD_of {L : List (κ × β)} (hn : (L.map (·.1)).Nodup) {k : κ} {v : β} (h : (k, v) ∈ L) : valD L k = some v := by
  induction L with
  | nil => cases h
  | cons p L ih =>
    rw [List.map_cons, List.nodup_cons] at hn
    by_cases c : p.1 = k
    · rcases List.mem_cons.mp h with e | m
      · subst e
        simp [valD]
      · exact absurd (List.mem_map.mpr ⟨_, m, rfl⟩) (c ▸ hn.1)
    · rcases List.mem_cons.mp h with e | m
      · subst e
        exact absurd rfl c
      · have := ih hn.2 m
        simp only [valD, List.find?_cons, c, decide_false]
        exact this
theorem valD_none {L : List (κ × β)} {k : κ} : valD L k = none ↔ k ∉ L.map (·.1) := by
  unfold valD
  rw [Option.map_eq_none_iff, List.find?_eq_none]
  constructor
  · intro h m
    obtain ⟨p, hp, e⟩ := List.mem_map.mp m
    exact h p hp (by simp [e])
  · intro h p hp q
    exact h (List.mem_map.mpr ⟨p, hp, by simpa using q⟩)
theorem any_key {L : List (κ × β)} {k : κ} : (L.any fun kv => decide (kv.1 = k)) = (valD L k).isSome := by
  induction L with
  | nil => rfl
  | cons p L ih =>
    by_cases c : p.1 = k
    · simp [valD, c]
    · simp only [List.any_cons, c, decide_false, Bool.false_or, ih]
      simp [valD, c]
theorem putD_none {L : List (κ × β)} {k : κ} (h : valD L k = none) (v : β) : putD L k v = L ++ [(k, v)] := by
  unfold putD
  rw [any_key, h]
  rfl
theorem putD_some {L : List (κ × β)} {k : κ} {o : β} (h : valD L k = some o) (v : β) : putD L k v = L.map fun kv => if kv.1 = k then (kv.1, v) else kv := by
  unfold putD
  rw [any_key, h]
  rfl
theorem putD_keys {L : List (κ × β)} {k : κ} {o : β} (h : valD L k = some o) (v : β) : (putD L k v).map (·.1) = L.map (·.1) := by
  rw [putD_some h, List.map_map]
  refine List.map_congr_left fun p _ => ?_
  show (if p.1 = k then (p.1, v) else p).1 = p.1
  split <;> rfl
theorem mem_putD {L : List (κ × β)} (hn : (L.map (·.1)).Nodup) {k j : κ} {v u : β} : (j, u) ∈ putD L k v ↔ (j = k ∧ u = v) ∨ (j ≠ k ∧ (j, u) ∈ L) := by
  cases h : valD L k with
  | none =>
    rw [putD_none h, List.mem_append, List.mem_singleton]
    have hk := valD_none.mp h
    constructor
    · rintro (m | m)
      · refine .inr ⟨fun e => hk ?_, m⟩
        subst e
        exact List.mem_map.mpr ⟨_, m, rfl⟩
      · cases m; exact .inl ⟨rfl, rfl⟩
    · rintro (⟨rfl, rfl⟩ | ⟨_, m⟩)
      · exact .inr rfl
      · exact .inl m
  | some o =>
    rw [putD_some h, List.mem_map]
    constructor
    · rintro ⟨⟨a, b⟩, m, e⟩
      dsimp only at e
      split at e
      · rename_i c
        cases e
        exact .inl ⟨c, rfl⟩
      · rename_i c
        cases e
        exact .inr ⟨c, m⟩
    · rintro (⟨rfl, rfl⟩ | ⟨c, m⟩)
      · exact ⟨_, valD_mem h, by simp⟩
      · exact ⟨_, m, by simp [c]⟩
theorem putD_nd {L : List (κ × β)} (hn : (L.map (·.1)).Nodup) (k : κ) (v : β) : ((putD L k v).map (·.1)).Nodup := by
  cases h : valD L k with
  | none =>
    rw [putD_none h, List.map_append, List.nodup_append]
    refine ⟨hn, by simp, fun a ha b hb e => ?_⟩
    simp at hb
    subst hb
    subst e
    exact valD_none.mp h ha
  | some o => rw [putD_keys h]; exact hn
theorem putD_len (L : List (κ × β)) (k : κ) (v : β) : (putD L k v).length ≤ L.length + 1 := by
  unfold putD
  split
  · rw [List.length_map]; omega
  · simp
/-- what is told, and what the dict holds -/
structure MinD (lt : β → β → Bool) (ops L : List (κ × β)) : Prop where
  nd : (L.map (·.1)).Nodup
  sub : ∀ p ∈ L, p ∈ ops
  le : ∀ k v, (k, v) ∈ ops → ∃ v', (k, v') ∈ L ∧ lt v v' = false
theorem MinD.nil (lt : β → β → Bool) : MinD lt ([] : List (κ × β)) [] := ⟨List.nodup_nil, by simp, by simp⟩
def minV (lt : β → β → Bool) (L : List (κ × β)) (k : κ) (v : β) : β := if lt v ((valD L k).getD v) = true then v else (valD L k).getD v
theorem MinD.put {lt : β → β → Bool} (s : Sto' lt) {ops L : List (κ × β)} (m : MinD lt ops L) (k : κ) (v : β) : MinD lt (ops ++ [(k, v)]) (putD L k (minV lt L k v)) := by
  refine ⟨putD_nd m.nd _ _, fun p hp => ?_, fun j u hj => ?_⟩
  · obtain ⟨j, u⟩ := p
    rw [List.mem_append, List.mem_singleton]
    rcases (mem_putD m.nd).mp hp with ⟨rfl, rfl⟩ | ⟨_, h⟩
    · unfold minV
      cases h : valD L j with
      | none => right; simp
      | some o =>
        dsimp only [Option.getD_some]
        split
        · exact .inr rfl
        · exact .inl (m.sub _ (valD_mem h))
    · exact .inl (m.sub _ h)
  · by_cases c : j = k
    · subst c
      refine ⟨_, (mem_putD m.nd).mpr (.inl ⟨rfl, rfl⟩), ?_⟩
      unfold minV
      rw [List.mem_append, List.mem_singleton] at hj
      cases h : valD L j with
      | none =>
        rcases hj with hj | hj
        · obtain ⟨v', h1, _⟩ := m.le j u hj
          exact absurd (List.mem_map.mpr ⟨_, h1, rfl⟩) (valD_none.mp h)
        · cases hj
          simp [s.irr]
      | some o =>
        dsimp only [Option.getD_some]
        rcases hj with hj | hj
        · obtain ⟨v', h1, h2⟩ := m.le j u hj
          have e : v' = o := by
            have := valD_of m.nd h1
            rw [h] at this
            exact (Option.some.inj this).symm
          subst e
          split
          · rename_i hv
            cases e : lt u v with
            | false => rfl
            | true => rw [s.tr _ _ _ e hv] at h2; cases h2
          · exact h2
        · cases hj
          split
          · exact s.irr _
          · rename_i hv; exact Bool.not_eq_true _ ▸ hv
    · rw [List.mem_append, List.mem_singleton] at hj
      rcases hj with hj | hj
      · obtain ⟨v', h1, h2⟩ := m.le j u hj
        exact ⟨v', (mem_putD m.nd).mpr (.inr ⟨c, h1⟩), h2⟩
      · cases hj; exact absurd rfl c
/-! ### as it lies in the store -/
def encN {κ β : Type} (nk : κ → NestedKey) (dv : β → D) (p : κ × β) : NestedKey × D := (nk p.1, dv p.2)
theorem valD_enc {nk : κ → NestedKey} {dv : β → D} (inj : ∀ a b, nk a = nk b → a = b) (L : List (κ × β)) (k : κ) : valD (L.map (encN nk dv)) (nk k) = (valD L k).map dv := by
  induction L with
  | nil => rfl
  | cons p L ih =>
    by_cases c : p.1 = k
    · simp [valD, encN, c]
    · have c' : ¬ nk p.1 = nk k := fun e => c (inj _ _ e)
      have e1 : valD (L.map (encN nk dv)) (nk k) = valD ((p :: L).map (encN nk dv)) (nk k) := by
        simp [valD, encN, c']
      have e2 : valD L k = valD (p :: L) k := by simp [valD, c]
      rw [← e1, ← e2, ih]
theorem putD_enc {nk : κ → NestedKey} {dv : β → D} (inj : ∀ a b, nk a = nk b → a = b) (L : List (κ × β)) (k : κ) (v : β) : putD (L.map (encN nk dv)) (nk k) (dv v) = (putD L k v).map (encN nk dv) := by
  cases h : valD L k with
  | none =>
    rw [putD_none h, putD_none (by rw [valD_enc inj, h]; rfl), List.map_append]
    rfl
  | some o =>
    rw [putD_some h, putD_some (by rw [valD_enc inj, h]; rfl), List.map_map, List.map_map]
    refine List.map_congr_left fun p _ => ?_
    show (if nk p.1 = nk k then (nk p.1, dv v) else encN nk dv p) = encN nk dv (if p.1 = k then (p.1, v) else p)
    by_cases c : p.1 = k
    · rw [if_pos c, if_pos (by rw [c])]; rfl
    · rw [if_neg c, if_neg fun e => c (inj _ _ e)]
def nkN (o : List Nat) : NestedKey := .tup (o.map fun n : Nat => .num n)
theorem nkDs_nums : ∀ o : List Nat, nkDs (o.map fun n : Nat => NestedKey.num n) = natsL o
  | [] => by rw [List.map_nil, nkDs]; rfl
  | a :: o => by rw [List.map_cons, nkDs, nkD, nkDs_nums o]; rfl
@[simp] theorem nkD_nats (o : List Nat) : nkD (nkN o) = natsD o := by unfold nkN; rw [nkD, nkDs_nums]
theorem nkN_inj {a b : List Nat} (h : nkN a = nkN b) : a = b := by
  have := congrArg nkD h
  rw [nkD_nats, nkD_nats] at this
  exact natsD_inj this
theorem depthAll_nums : ∀ o : List Nat, NestedKey.depthAll (o.map fun n : Nat => NestedKey.num n) = 0
  | [] => by rw [List.map_nil, NestedKey.depthAll]
  | a :: o => by rw [List.map_cons, NestedKey.depthAll, NestedKey.depth, depthAll_nums o]; rfl
theorem depth_nats (o : List Nat) : (nkN o).depth = 1 := by unfold nkN; rw [NestedKey.depth, depthAll_nums]
theorem keyT_nk {k : NestedKey} {ds : List D} (h : nkD k = .tup ds) (hd : k.depth ≤ 8) : keyT (.tup ds) = some k := by
  have e : keyN (.tup ds) = some k := by rw [← h, keyN_nk]
  unfold keyT
  simp only [e, hd, if_true]
theorem keyT_nats (o : List Nat) : keyT (natsD o) = some (nkN o) := keyT_nk (nkD_nats o) (by rw [depth_nats]; omega)
/-- (a tuple of numbers, a number) -/
def nkP (p : List Nat × Nat) : NestedKey := .tup [nkN p.1, .num p.2]
@[simp] theorem nkD_pair (p : List Nat × Nat) : nkD (nkP p) = .tup [natsD p.1, natD p.2] := by
  unfold nkP
  rw [nkD, nkDs, nkDs, nkDs, nkD_nats, nkD]
  rfl
theorem nkP_inj {a b : List Nat × Nat} (h : nkP a = nkP b) : a = b := by
  have := congrArg nkD h
  rw [nkD_pair, nkD_pair] at this
  simp only [D.tup.injEq, List.cons.injEq, and_true] at this
  obtain ⟨h1, h2⟩ := this
  obtain ⟨a1, a2⟩ := a
  obtain ⟨b1, b2⟩ := b
  rw [show a1 = b1 from natsL_inj h1, show a2 = b2 from natD_inj h2]
theorem keyT_pair (o : List Nat) (n : Nat) : keyT (.tup [natsD o, natD n]) = some (nkP (o, n)) := by
  refine keyT_nk (nkD_pair (o, n)) ?_
  unfold nkP
  rw [NestedKey.depth, NestedKey.depthAll, NestedKey.depthAll, NestedKey.depthAll, depth_nats, NestedKey.depth]
  simp
end
/-! ### costs and orders -/
def ltCO (a b : Int × List Nat) : Bool := decide (a.1 < b.1) || (decide (a.1 = b.1) && lexN a.2 b.2)
def coD (p : Int × List Nat) : D := .tup [.int p.1, natsD p.2]
theorem pl_co (p : Int × List Nat) : pl 31 (coD p) = true := by
  unfold coD
  rw [pl_tup]
  simp [pls_nats]
theorem dlt_co (a b : Int × List Nat) : dlt (coD a) (coD b) = ltCO a b := by
  unfold coD ltCO
  rw [dlt_pair (k := 1) (pl_int _ _) (pl_nats 0 _) (pl_int _ _) (pl_nats 0 _) (alk_int _ _) (alk_nats _ _)]
  by_cases c : a.1 = b.1
  · rw [if_pos (by rw [c])]
    by_cases e : natsD a.2 = natsD b.2
    · rw [if_pos e, natsD_inj e, lexN_irrefl, c]
      simp
    · rw [if_neg e, dlt_nats, c]
      simp
  · rw [if_neg (fun e => c (D.int.inj e)), dlt_int]
    simp [c]
theorem alk_co (a b : Int × List Nat) : alk (coD a) (coD b) = true := alk_pair (k := 1) (pl_int _ _) (pl_nats 0 _) (pl_int _ _) (pl_nats 0 _) (alk_int _ _) (alk_nats _ _)
theorem ltCO_sto : Sto' ltCO := by
  refine ⟨fun a => by simp [ltCO, lexN_irrefl], fun a b c h1 h2 => ?_, fun a b => ?_⟩
  · simp only [ltCO, Bool.or_eq_true, Bool.and_eq_true, decide_eq_true_eq] at *
    rcases h1 with h1 | ⟨h1, h1'⟩ <;> rcases h2 with h2 | ⟨h2, h2'⟩
    · exact .inl (by omega)
    · exact .inl (by omega)
    · exact .inl (by omega)
    · exact .inr ⟨by omega, lexN_trans h1' h2'⟩
  · obtain ⟨a1, a2⟩ := a
    obtain ⟨b1, b2⟩ := b
    simp only [ltCO, Bool.or_eq_true, Bool.and_eq_true, decide_eq_true_eq]
    rcases Int.lt_trichotomy a1 b1 with h | h | h
    · exact .inr (.inl (.inl h))
    · subst h
      rcases lexN_tri a2 b2 with e | e | e
      · subst e; exact .inl rfl
      · exact .inr (.inl (.inr ⟨rfl, e⟩))
      · exact .inr (.inr (.inr ⟨rfl, e⟩))
    · exact .inr (.inr (.inl h))
theorem ltI_sto : Sto' (fun a b : Int => decide (a < b)) := ⟨by simp, fun a b c => by simp; omega, fun a b => by simp; omega⟩
end DL
namespace DL
open PySem PySem.Spec L2
/-! ### tables of numbers -/
abbrev tabD (W : List (List Nat)) : D := .tup (W.map natsD)
def rowT (W : List (List Nat)) (a : Nat) : List Nat := W.getD a []
def atN (o : List Nat) (i : Nat) : Nat := o.getD i 0
theorem atN_get {o : List Nat} {i : Nat} (h : i < o.length) : atN o i = o[i] := by unfold atN; rw [List.getD_eq_getElem?_getD, List.getElem?_eq_getElem h]; rfl
theorem atN_mem {o : List Nat} {i : Nat} (h : i < o.length) : atN o i ∈ o := by rw [atN_get h]; exact List.getElem_mem h
def ent (W : List (List Nat)) (a b : Nat) : Nat := atN (rowT W a) b
theorem tab_at {W : List (List Nat)} {p : Nat} (h : p < W.length) : L2.atI (W.map natsD) (p : Int) = some (natsD (rowT W p)) := by
  rw [atD (by simpa using h)]
  simp [rowT, List.getD_eq_getElem?_getD, List.getElem?_eq_getElem h]
theorem nat_at {o : List Nat} {p : Nat} (h : p < o.length) : L2.atI (natsL o) (p : Int) = some (natD (atN o p)) := by
  unfold natsL
  rw [atD (by simpa using h)]
  simp [atN, List.getD_eq_getElem?_getD, List.getElem?_eq_getElem h]
theorem int_at {o : List Int} {p : Nat} (h : p < o.length) : L2.atI (o.map D.int) (p : Int) = some (.int (o.getD p 0)) := by
  rw [atD (by simpa using h)]
  simp [List.getD_eq_getElem?_getD, List.getElem?_eq_getElem h]
/-- a square table, n rows, numbers up to m -/
structure Sq (m : Nat) (W : List (List Nat)) : Prop where
  row : ∀ r ∈ W, r.length = W.length ∧ ∀ x ∈ r, x ≤ m
theorem Sq.rowAt {m : Nat} {W : List (List Nat)} (h : Sq m W) {a : Nat} (ha : a < W.length) : (rowT W a).length = W.length ∧ ∀ x ∈ rowT W a, x ≤ m := by
  have : rowT W a ∈ W := by
    unfold rowT
    rw [List.getD_eq_getElem?_getD, List.getElem?_eq_getElem ha]
    exact List.getElem_mem ha
  exact h.row _ this
theorem Sq.ent_le {m : Nat} {W : List (List Nat)} (h : Sq m W) (a b : Nat) : ent W a b ≤ m := by
  unfold ent
  by_cases ha : a < W.length
  · obtain ⟨h1, h2⟩ := h.rowAt ha
    by_cases hb : b < (rowT W a).length
    · exact h2 _ (atN_mem hb)
    · unfold atN
      rw [List.getD_eq_getElem?_getD, List.getElem?_eq_none (by omega)]
      exact Nat.zero_le _
  · unfold atN rowT
    rw [List.getD_eq_getElem?_getD (l := W), List.getElem?_eq_none (by omega)]
    exact Nat.zero_le _
theorem areIn_nats {o : List Nat} {n m : Nat} : areInD (natsD o) n n 0 m = (decide (o.length = n) && o.all fun x => decide (x ≤ m)) := by
  have e : ((natsL o).all fun d => isInD d 0 (m : Int)) = o.all fun x => decide (x ≤ m) := by
    unfold natsL
    rw [List.all_map]
    congr 1
    funext x
    show isInD (natD x) 0 m = _
    unfold natD isInD
    by_cases c : x ≤ m <;> simp [c] <;> omega
  unfold areInD
  dsimp only
  rw [e]
  congr 1
  unfold isTupleD
  by_cases c : o.length = n <;> simp [natsL, c] <;> omega
theorem tab_fit {m : Nat} {W : List (List Nat)} (h : Sq m W) (hl : W.length ≤ 1000) : fitD (tabD W) = true := fit_map (by rw [SZ_eq]; omega) fun w hw => fit_nats (by rw [(h.row w hw).1, SZ_eq]; omega)
/-! ### the sum along an order -/
def alongC (W : List (List Nat)) (o : List Nat) : Int := ((o.zip (o.drop 1)).map fun p => (ent W p.1 p.2 : Int)).sum
theorem alongC_snoc (W : List (List Nat)) : ∀ (o : List Nat) (x : Nat) (h : o ≠ []), alongC W (o ++ [x]) = alongC W o + (ent W (o.getLast h) x : Int)
  | [], x, h => absurd rfl h
  | [a], x, _ => by simp [alongC]
  | a :: b :: o, x, _ => by
    have ih := alongC_snoc W (b :: o) x (by simp)
    have e : (a :: b :: o).getLast (by simp) = (b :: o).getLast (by simp) := List.getLast_cons (by simp)
    rw [e]
    unfold alongC at *
    simp only [List.cons_append, List.drop_succ_cons, List.drop_zero, List.zip_cons_cons, List.map_cons, List.sum_cons] at *
    rw [ih]
    omega
theorem along_range (W : List (List Nat)) (o : List Nat) : ((o.zip (o.drop 1)).map fun p => (ent W p.1 p.2 : Int)) = (List.range (o.length - 1)).map fun i => (ent W (atN o i) (atN o (i + 1)) : Int) := by
  apply List.ext_getElem
  · simp
  · intro i h1 h2
    simp at h1 h2
    simp [atN_get (show i < o.length by omega), atN_get (show i + 1 < o.length by omega), Nat.add_comm 1 i]
/-! ### all orders come ascending -/
theorem lexN_snoc : ∀ {a b : List Nat} {x y : Nat}, a.length = b.length → lexN a b = true → lexN (a ++ [x]) (b ++ [y]) = true
  | [], [], _, _, _, h => by cases h
  | [], _ :: _, _, _, hl, _ => by cases hl
  | _ :: _, [], _, _, hl, _ => by cases hl
  | a :: as, b :: bs, x, y, hl, h => by
    simp only [List.cons_append, lexN, Bool.or_eq_true, Bool.and_eq_true, decide_eq_true_eq] at *
    rcases h with h | ⟨h1, h2⟩
    · exact .inl h
    · exact .inr ⟨h1, lexN_snoc (by simpa using hl) h2⟩
theorem lexN_last : ∀ {a : List Nat} {x y : Nat}, x < y → lexN (a ++ [x]) (a ++ [y]) = true
  | [], x, y, h => by simp [lexN, h]
  | a :: as, x, y, h => by
    simp [lexN, lexN_last h]
theorem lexN_snoc_inv : ∀ {a b : List Nat} {x y : Nat}, a.length = b.length → lexN (a ++ [x]) (b ++ [y]) = true → lexN a b = true ∨ (a = b ∧ x < y)
  | [], [], x, y, _, h => by simp [lexN] at h; exact .inr ⟨rfl, h⟩
  | [], _ :: _, _, _, hl, _ => by cases hl
  | _ :: _, [], _, _, hl, _ => by cases hl
  | a :: as, b :: bs, x, y, hl, h => by
    simp only [List.cons_append, lexN, Bool.or_eq_true, Bool.and_eq_true, decide_eq_true_eq] at *
    rcases h with h | ⟨h1, h2⟩
    · exact .inl (.inl h)
    · rcases lexN_snoc_inv (by simpa using hl) h2 with q | ⟨q1, q2⟩
      · exact .inl (.inr ⟨h1, q⟩)
      · exact .inr ⟨by rw [h1, q1], q2⟩
theorem orders_asc {xs : List Nat} (hx : xs.Pairwise (· < ·)) : ∀ k, (ordersN xs k).Pairwise fun a b => lexN a b = true
  | 0 => by rw [ordersN]; exact List.pairwise_singleton _ _
  | k + 1 => by
    have ih := orders_asc hx k
    rw [ordersN, List.flatMap_def, List.pairwise_flatten]
    refine ⟨fun l hl => ?_, ?_⟩
    · obtain ⟨own, _, rfl⟩ := List.mem_map.mp hl
      unfold extN
      rw [List.pairwise_map]
      exact (hx.filter _).imp fun h => lexN_last h
    · rw [List.pairwise_map]
      refine List.Pairwise.imp_of_mem (R := fun a b => lexN a b = true) (fun {a b} ha hb h x hx y hy => ?_) ih
      have la := (mem_ordersN.mp ha).1
      have lb := (mem_ordersN.mp hb).1
      unfold extN at hx hy
      obtain ⟨u, _, rfl⟩ := List.mem_map.mp hx
      obtain ⟨v, _, rfl⟩ := List.mem_map.mp hy
      exact lexN_snoc (by rw [la, lb]) h
/-- the first of an ascending list that are so is the least of them -/
theorem first_least {l : List (List Nat)} (h : l.Pairwise fun a b => lexN a b = true) {p : List Nat → Bool} {a : List Nat} (ha : a ∈ l) (hp : p a = true) (hm : ∀ b ∈ l, p b = true → lexN b a = false) : ∃ r, l.filter p = a :: r := by
  have hf : (l.filter p).Pairwise fun a b => lexN a b = true := h.filter _
  have hin : a ∈ l.filter p := List.mem_filter.mpr ⟨ha, hp⟩
  cases e : l.filter p with
  | nil => rw [e] at hin; cases hin
  | cons b r =>
    rw [e] at hin hf
    rcases List.mem_cons.mp hin with h1 | h1
    · exact ⟨r, by rw [h1]⟩
    · have h2 := (List.pairwise_cons.mp hf).1 a h1
      have hb : b ∈ l.filter p := by rw [e]; exact List.mem_cons_self
      obtain ⟨hb1, hb2⟩ := List.mem_filter.mp hb
      rw [hm b hb1 hb2] at h2
      cases h2
/-! ### sorted tuples of unlike numbers -/
def sortN (o : List Nat) : List Nat := (sortI (o.map Int.ofNat)).map Int.toNat
theorem sortN_perm (o : List Nat) : (sortN o).Perm o := by
  have h1 := (sortI_perm (o.map Int.ofNat)).map Int.toNat
  rw [List.map_map] at h1
  have e : o.map (Int.toNat ∘ Int.ofNat) = o := by
    exact (List.map_congr_left (g := id) (fun x _ => rfl)).trans (List.map_id o)
  rw [e] at h1
  exact h1
theorem sortP_nats (o : List Nat) : sortP (natsL o) = natsL (sortN o) := by
  rw [nats_ints, sortP_ints]
  unfold sortN natsL
  rw [List.map_map]
  refine List.map_congr_left fun x hx => ?_
  have : x ∈ o.map Int.ofNat := (sortI_perm _).mem_iff.mp hx
  obtain ⟨a, _, rfl⟩ := List.mem_map.mp this
  rfl
theorem sortN_pw (o : List Nat) : (sortN o).Pairwise (· ≤ ·) := by
  unfold sortN
  rw [List.pairwise_map]
  exact (sortI_pw _).imp fun h => Int.toNat_le_toNat h
theorem sortN_eq {a b : List Nat} (h : a.Perm b) : sortN a = sortN b := by
  unfold sortN
  rw [sortI_of (m := sortI (b.map Int.ofNat)) ((sortI_perm _).trans (h.symm.map Int.ofNat)) (sortI_pw _)]
theorem srt_nats (o : List Nat) : cmpAll (natsL o) = true ∧ srtb (natsL o) = true := by
  rw [nats_ints]
  exact ⟨cmpAll_ints _, srtb_ints _⟩
end DL
namespace DL
open PySem PySem.Spec L2
/-- a loop whose state is a fold; the state is that of a beginning -/
theorem forD_F {α σ : Type} {gd : List (Nat × DO)} {g : FG} {F : FS} {N : En → Sto → Prop} {T : D → Sto → Prop} {ρ : En} {μ : Sto} (enc : α → D) (f : σ → α → σ) (I : σ → En → Sto → Prop) (l : List α) (s0 : σ) (h0 : I s0 ρ μ)
    (hs : ∀ i a s ρ μ, l[i]? = some a → s = (l.take i).foldl f s0 → I s ρ μ → chk gd μ ∧ ∃ ρ1, g (enc a) ρ = some ρ1 ∧ ∀ X : En → Sto → Prop, (∀ ρ' μ', I (f s a) ρ' μ' → X ρ' μ') → (F ρ1 μ).L X N T)
    (he : ∀ ρ μ, I (l.foldl f s0) ρ μ → chk gd μ ∧ N ρ μ) : (forD gd g F (l.map enc) ρ μ).W N T := by
  refine forD_W (fun i ρ μ => I ((l.take i).foldl f s0) ρ μ) _ h0 ?_ ?_
  · intro i d ρ μ hd hI
    rw [List.getElem?_map] at hd
    obtain ⟨a, ha, rfl⟩ := Option.map_eq_some_iff.mp hd
    obtain ⟨c, ρ1, e1, h⟩ := hs i a _ ρ μ ha rfl hI
    refine ⟨c, ρ1, e1, fun X hX => h X fun ρ' μ' q => hX ρ' μ' ?_⟩
    have hl := (List.getElem?_eq_some_iff.mp ha)
    obtain ⟨hl, rfl⟩ := hl
    rw [List.take_succ_eq_append_getElem hl, List.foldl_append]
    exact q
  · intro ρ μ hI
    refine he ρ μ ?_
    rw [List.length_map, List.take_length] at hI
    exact hI
/-! ### Held and Karp -/
abbrev Ent := (List Nat × Nat) × (Int × List Nat)
theorem co_min (o v : Int × List Nat) (μ : Sto) : gMin2P [coD o, coD v] μ = .ok (coD (if ltCO v o = true then v else o)) μ := by
  have h := cmpAll_map (enc := coD) [o, v] (fun a _ => ⟨pl_co a, rfl⟩) fun a _ b _ => alk_co a b
  have hm := minP_map (enc := coD) (lt := ltCO) dlt_co [v] o
  simp only [List.map_cons, List.map_nil] at h hm
  have e : gMin2P [coD o, coD v] μ = if cmpAll [coD o, coD v] = true then .ok (minP (coD o) [coD v]) μ else .bad := by
    unfold coD
    rfl
  rw [e, if_pos h, hm]
  rfl
/-- what is told of an entry -/
def opC (w : Nat → Nat → Int) (e : Ent) (c : Nat) : Ent := ((sortN (e.1.1 ++ [c]), c), (e.2.1 + w e.1.2 c, e.2.2 ++ [c]))
def stepC (w : Nat → Nat → Int) (e : Ent) (L : List Ent) (c : Nat) : List Ent := if c ∈ e.1.1 then L else putD L (opC w e c).1 (minV ltCO L (opC w e c).1 (opC w e c).2)
def stepE (w : Nat → Nat → Int) (n : Nat) (L : List Ent) (e : Ent) : List Ent := (List.range n).foldl (stepC w e) L
def opsC (w : Nat → Nat → Int) (e : Ent) (l : List Nat) : List Ent := (l.filter fun c => decide (c ∉ e.1.1)).map (opC w e)
theorem stepC_len (w : Nat → Nat → Int) (e : Ent) (l : List Nat) : ∀ L : List Ent, (l.foldl (stepC w e) L).length ≤ L.length + l.length := by
  induction l with
  | nil => intro L; simp
  | cons c l ih =>
    intro L
    rw [List.foldl_cons, List.length_cons]
    have h1 := ih (stepC w e L c)
    have h2 : (stepC w e L c).length ≤ L.length + 1 := by
      unfold stepC
      split
      · omega
      · exact putD_len _ _ _
    omega
theorem stepE_len (w : Nat → Nat → Int) (n : Nat) (l : List Ent) : ∀ L : List Ent, (l.foldl (stepE w n) L).length ≤ L.length + l.length * n := by
  induction l with
  | nil => intro L; simp
  | cons e l ih =>
    intro L
    rw [List.foldl_cons, List.length_cons]
    have h1 := ih (stepE w n L e)
    have h2 := stepC_len w e (List.range n) L
    rw [List.length_range] at h2
    have h3 : (stepE w n L e).length ≤ L.length + n := h2
    rw [Nat.add_mul, Nat.one_mul]
    omega
theorem minD_C (w : Nat → Nat → Int) (e : Ent) (l : List Nat) : ∀ {ops L : List Ent}, MinD ltCO ops L → MinD ltCO (ops ++ opsC w e l) (l.foldl (stepC w e) L) := by
  induction l with
  | nil => intro ops L h; simpa [opsC] using h
  | cons c l ih =>
    intro ops L h
    rw [List.foldl_cons]
    by_cases hc : c ∈ e.1.1
    · have e1 : stepC w e L c = L := if_pos hc
      have e2 : opsC w e (c :: l) = opsC w e l := by simp [opsC, hc]
      rw [e1, e2]
      exact ih h
    · have e1 : stepC w e L c = putD L (opC w e c).1 (minV ltCO L (opC w e c).1 (opC w e c).2) := if_neg hc
      have e2 : ops ++ opsC w e (c :: l) = (ops ++ [((opC w e c).1, (opC w e c).2)]) ++ opsC w e l := by simp [opsC, hc]
      rw [e1, e2]
      exact ih (h.put ltCO_sto (opC w e c).1 (opC w e c).2)
theorem minD_E (w : Nat → Nat → Int) (n : Nat) (l : List Ent) : ∀ {ops L : List Ent}, MinD ltCO ops L → MinD ltCO (ops ++ l.flatMap fun e => opsC w e (List.range n)) (l.foldl (stepE w n) L) := by
  induction l with
  | nil => intro ops L h; simpa using h
  | cons e l ih =>
    intro ops L h
    rw [List.foldl_cons, List.flatMap_cons, ← List.append_assoc]
    exact ih (minD_C w e _ h)
def lastN (o : List Nat) : Nat := o.getLast?.getD 0
theorem lastN_snoc (o : List Nat) (x : Nat) : lastN (o ++ [x]) = x := by simp [lastN]
theorem lt_of_nlt {α : Type} {lt : α → α → Bool} (s : Sto' lt) {a b c : α} (h1 : lt a c = true) (h2 : lt a b = false) : lt b c = true := by
  rcases s.tri a b with e | e | e
  · rw [← e]; exact h1
  · rw [e] at h2; cases h2
  · exact s.tr _ _ _ e h1
/-- an order of some, from f on -/
structure Pth (n f t : Nat) (o : List Nat) : Prop where
  len : o.length = t + 1
  nd : o.Nodup
  lt : ∀ x ∈ o, x < n
  hd : o.head? = some f
/-- the entries at a level: of each set and last one the least -/
structure Lev (n f t : Nat) (cost : List Nat → Int) (L : List Ent) : Prop where
  ok : ∀ e ∈ L, Pth n f t e.2.2 ∧ e.1 = (sortN e.2.2, lastN e.2.2) ∧ e.2.1 = cost e.2.2
  le : ∀ o, Pth n f t o → ∃ v, ((sortN o, lastN o), v) ∈ L ∧ ltCO (cost o, o) v = false
theorem Pth.ne {n f t : Nat} {o : List Nat} (h : Pth n f t o) : o ≠ [] := fun e => by have := h.len; rw [e] at this; simp at this
theorem Lev.next {n f t : Nat} {cost : List Nat → Int} {w : Nat → Nat → Int} (hc : ∀ o x, o ≠ [] → cost (o ++ [x]) = cost o + w (lastN o) x) {L : List Ent} (h : Lev n f t cost L) : Lev n f (t + 1) cost (L.foldl (stepE w n) []) := by
  have m := minD_E w n L (MinD.nil ltCO)
  rw [List.nil_append] at m
  refine ⟨fun e he => ?_, fun o ho => ?_⟩
  · have := m.sub e he
    obtain ⟨e0, h0, h1⟩ := List.mem_flatMap.mp this
    unfold opsC at h1
    obtain ⟨c, hcm, rfl⟩ := List.mem_map.mp h1
    obtain ⟨hcn, hcs⟩ := List.mem_filter.mp hcm
    have hcn := List.mem_range.mp hcn
    have hcs := of_decide_eq_true hcs
    obtain ⟨p, k1, k2⟩ := h.ok e0 h0
    rw [k1] at hcs
    have hcs' : c ∉ e0.2.2 := fun q => hcs ((sortN_perm _).mem_iff.mpr q)
    refine ⟨⟨by simp [opC, p.len], ?_, fun x hx => ?_, ?_⟩, ?_, ?_⟩
    · show (e0.2.2 ++ [c]).Nodup
      rw [List.nodup_append]
      exact ⟨p.nd, by simp, fun a ha b hb q => hcs' (by rw [← List.mem_singleton.mp hb, ← q]; exact ha)⟩
    · rcases List.mem_append.mp (show x ∈ e0.2.2 ++ [c] from hx) with q | q
      · exact p.lt x q
      · rw [List.mem_singleton.mp q]; exact hcn
    · show (e0.2.2 ++ [c]).head? = some f
      rw [List.head?_append, p.hd]
      rfl
    · show (sortN (e0.1.1 ++ [c]), c) = (sortN (e0.2.2 ++ [c]), lastN (e0.2.2 ++ [c]))
      rw [lastN_snoc, k1]
      congr 1
      exact sortN_eq ((sortN_perm _).append_right _)
    · show e0.2.1 + w e0.1.2 c = cost (e0.2.2 ++ [c])
      rw [hc _ _ p.ne, k2, k1]
  · have hne := ho.ne
    have e := List.dropLast_concat_getLast hne
    generalize o.dropLast = q at e
    generalize o.getLast hne = c at e
    subst e
    have hq : q ≠ [] := fun z => by have := ho.len; rw [z] at this; simp at this
    have hnd := ho.nd
    rw [List.nodup_append] at hnd
    have hcq : c ∉ q := fun z => hnd.2.2 c z c (by simp) rfl
    have pq : Pth n f t q := ⟨by have := ho.len; simp at this; exact this, hnd.1, fun x hx => ho.lt x (by simp [hx]), by
      have := ho.hd
      rw [List.head?_append] at this
      cases q with
      | nil => exact absurd rfl hq
      | cons a q => simpa using this⟩
    obtain ⟨v, hv, hle⟩ := h.le q pq
    have hop : opC w ((sortN q, lastN q), v) c ∈ L.flatMap fun e => opsC w e (List.range n) := List.mem_flatMap.mpr ⟨_, hv, List.mem_map.mpr ⟨c, List.mem_filter.mpr ⟨List.mem_range.mpr (ho.lt c (by simp)), decide_eq_true fun z => hcq ((sortN_perm q).mem_iff.mp z)⟩, rfl⟩⟩
    obtain ⟨v', h1, h2⟩ := m.le _ _ hop
    have hk : (opC w ((sortN q, lastN q), v) c).1 = (sortN (q ++ [c]), lastN (q ++ [c])) := by
      show (sortN (sortN q ++ [c]), c) = _
      rw [lastN_snoc, sortN_eq ((sortN_perm q).append_right [c])]
    have h1 : ((opC w ((sortN q, lastN q), v) c).1, v') ∈ L.foldl (stepE w n) [] := h1
    rw [hk] at h1
    refine ⟨v', h1, ?_⟩
    cases hlt : ltCO (cost (q ++ [c]), q ++ [c]) v' with
    | false => rfl
    | true =>
      exfalso
      have hvl : v.2.length = q.length := by rw [(h.ok _ hv).1.len, pq.len]
      have key : ltCO (cost (q ++ [c]), q ++ [c]) (v.1 + w (lastN q) c, v.2 ++ [c]) = false := by
        cases hh : ltCO (cost (q ++ [c]), q ++ [c]) (v.1 + w (lastN q) c, v.2 ++ [c]) with
        | false => rfl
        | true =>
          exfalso
          simp only [ltCO, Bool.or_eq_true, Bool.and_eq_true, decide_eq_true_eq, Bool.or_eq_false_iff, Bool.and_eq_false_iff, decide_eq_false_iff_not] at hh hle
          rw [hc _ _ hq] at hh
          rcases hh with hh | ⟨hh, hh2⟩
          · exact hle.1 (by omega)
          · rcases lexN_snoc_inv hvl.symm hh2 with z | ⟨_, z⟩
            · rcases hle.2 with y | y
              · exact y (by omega)
              · rw [z] at y; cases y
            · omega
      have := lt_of_nlt ltCO_sto hlt key
      have h2' : ltCO (v.1 + w (lastN q) c, v.2 ++ [c]) v' = false := h2
      rw [h2'] at this
      cases this
end DL
namespace DL
open PySem PySem.Spec L2
theorem ixN_nat {n j : Nat} (h : j < n) : L2.ixN n (j : Int) = some j := by
  unfold L2.ixN
  simp [h]
theorem gSet_nat {μ : Sto} {n j : Nat} {ds : List D} (h : μ[n]? = some (.lst ds)) (hj : j < ds.length) (w : D) : gSet (.obj n) (.int (j : Int)) w μ = some (μ.set n (.lst (ds.set j w))) := by
  unfold gSet
  simp only [h, ixN_nat hj]
  rfl
theorem set_rng {α : Type} {n j : Nat} (g : Nat → α) (v : α) : ((List.range n).map g).set j v = (List.range n).map fun x => if x = j then v else g x := by
  apply List.ext_getElem
  · simp
  · intro i h1 h2
    simp at h1
    rw [List.getElem_set]
    by_cases c : j = i
    · subst c; simp
    · rw [if_neg c]
      have c' : ¬ i = j := fun e => c e.symm
      simp [c']
theorem row_range (o : List Nat) : natsL o = (List.range o.length).map fun x => D.int (atN o x) := by
  unfold natsL
  apply List.ext_getElem
  · simp
  · intro i h1 h2
    simp at h1
    simp [atN_get h1, natD]
theorem ints_range (o : List Int) : o.map D.int = (List.range o.length).map fun x => D.int (o.getD x 0) := by
  apply List.ext_getElem
  · simp
  · intro i h1 h2
    simp at h1
    simp [h1]
theorem gEq_nn {a b : Nat} {μ : Sto} : gEq (.int (a : Int)) (.int (b : Int)) μ = some (decide (a = b)) := by
  rw [gEq_int]
  by_cases c : a = b
  · subst c; simp
  · rw [decide_eq_false c, decide_eq_false (fun q => c (by omega))]
theorem gNe_nn {a b : Nat} {μ : Sto} : gNe (.int (a : Int)) (.int (b : Int)) μ = some (decide (a ≠ b)) := by
  rw [gNe_int]
  by_cases c : a = b
  · subst c; simp
  · have c' : ¬ (a : Int) = b := fun q => c (by omega)
    simp [c, c']
end DL
namespace DL
open PySem PySem.Spec PyProof.Rows L2
/-! ### sorted(set(xs)), xs a list of tuples of small whole numbers -/
def natOf : D → Option Nat
  | .int i => if 0 ≤ i then some i.toNat else none
  | _ => none
def natsOf : D → Option (List Nat)
  | .tup ds => ds.mapM natOf
  | _ => none
theorem natOf_inv {d : D} {n : Nat} (h : natOf d = some n) : d = natD n := by
  cases d with
  | int i =>
    have h : (if 0 ≤ i then some i.toNat else none) = some n := h
    by_cases hi : 0 ≤ i
    · rw [if_pos hi] at h
      have e := Option.some.inj h
      subst e
      show D.int i = D.int (i.toNat : Int)
      rw [Int.toNat_of_nonneg hi]
    · rw [if_neg hi] at h
      exact absurd h (by simp)
  | _ => cases h
theorem mapM_inv {α β : Type} {f : α → Option β} {g : β → α} (hf : ∀ a b, f a = some b → a = g b) : ∀ {l : List α} {m : List β}, l.mapM f = some m → l = m.map g
  | [], m, h => by
    rw [List.mapM_nil] at h
    cases h
    rfl
  | a :: l, m, h => by
    rw [List.mapM_cons] at h
    cases h1 : f a with
    | none => rw [h1] at h; cases h
    | some b =>
      rw [h1] at h
      cases h2 : l.mapM f with
      | none => rw [h2] at h; cases h
      | some m' =>
        rw [h2] at h
        cases h
        rw [List.map_cons, ← hf a b h1, ← mapM_inv hf h2]
theorem mapM_of {α β : Type} {f : α → Option β} {g : β → α} (hf : ∀ b, f (g b) = some b) : ∀ m : List β, (m.map g).mapM f = some m
  | [] => rfl
  | b :: m => by
    rw [List.map_cons, List.mapM_cons, hf b, mapM_of hf m]
    rfl
theorem natOf_nat (n : Nat) : natOf (natD n) = some n := by
  show (if 0 ≤ (n : Int) then some (n : Int).toNat else none) = some n
  rw [if_pos (by omega)]
  rfl
theorem natsOf_nats (o : List Nat) : natsOf (natsD o) = some o := mapM_of natOf_nat o
theorem natsOf_inv {d : D} {o : List Nat} (h : natsOf d = some o) : d = natsD o := by
  cases d with
  | tup ds => exact congrArg D.tup (mapM_inv (g := natD) (fun a b => natOf_inv) h)
  | _ => cases h
def undupA {α : Type} [DecidableEq α] : List α → List α
  | [] => []
  | x :: l => if x ∈ l then undupA l else x :: undupA l
theorem mem_undupA {α : Type} [DecidableEq α] {y : α} : ∀ {l : List α}, y ∈ undupA l ↔ y ∈ l
  | [] => Iff.rfl
  | x :: l => by
    unfold undupA
    by_cases h : x ∈ l
    · rw [if_pos h, mem_undupA, List.mem_cons]
      exact ⟨.inr, fun z => z.elim (fun e => e ▸ h) id⟩
    · rw [if_neg h, List.mem_cons, List.mem_cons, mem_undupA]
theorem undupA_nd {α : Type} [DecidableEq α] : ∀ l : List α, (undupA l).Nodup
  | [] => List.nodup_nil
  | x :: l => by
    unfold undupA
    by_cases h : x ∈ l
    · rw [if_pos h]; exact undupA_nd l
    · rw [if_neg h, List.nodup_cons]; exact ⟨fun z => h (mem_undupA.mp z), undupA_nd l⟩
/-- rows in their order -/
def srtN (l : List (List Nat)) : List (List Nat) := l.mergeSort fun a b => !lexN b a
theorem srtN_pw (l : List (List Nat)) : (srtN l).Pairwise fun a b => lexN b a = false := by
  have h := List.pairwise_mergeSort (le := fun a b : List Nat => !lexN b a) (fun a b c h1 h2 => ?_) (fun a b => ?_) l
  · exact h.imp fun {a b} q => by simpa using q
  · simp only [Bool.not_eq_true'] at h1 h2 ⊢
    cases e : lexN c a with
    | false => rfl
    | true =>
      rcases lexN_tri a b with q | q | q
      · subst q; rw [e] at h2; cases h2
      · have := lexN_trans e q; rw [this] at h2; cases h2
      · rw [q] at h1; cases h1
  · simp only [Bool.or_eq_true, Bool.not_eq_true']
    cases e : lexN a b with
    | false => exact .inr rfl
    | true => exact .inl (lexN_asymm e)
theorem srtN_perm (l : List (List Nat)) : (srtN l).Perm l := List.mergeSort_perm ..
theorem sortP_rows (l : List (List Nat)) : sortP (l.map natsD) = (srtN l).map natsD := by
  unfold sortP srtN
  refine (List.map_mergeSort fun a _ b _ => ?_).symm
  rw [PySem.W.dataLe_eq]
  show (!lexN b a) = !dlt (natsD b) (natsD a)
  rw [dlt_nats]
theorem lex_uniq : ∀ {a b : List (List Nat)}, a.Perm b → a.Pairwise (fun x y => lexN y x = false) → b.Pairwise (fun x y => lexN y x = false) → a = b := by
  intro a b p h1 h2
  refine p.eq_of_pairwise (le := fun x y => lexN y x = false) (fun x y _ _ q1 q2 => ?_) h1 h2
  rcases lexN_tri x y with e | e | e
  · exact e
  · rw [e] at q2; cases q2
  · rw [e] at q1; cases q1
theorem srtN_eq {a b : List (List Nat)} (h : a.Perm b) : srtN a = srtN b := lex_uniq ((srtN_perm a).trans (h.trans (srtN_perm b).symm)) (srtN_pw a) (srtN_pw b)
/-- the library's code of such a row says its order -/
theorem code_lexN : ∀ {a b : List Nat}, a.length = b.length → TS.Bd 64 (a.map Int.ofNat) → TS.Bd 64 (b.map Int.ofNat) → TS.code 64 (a.map Int.ofNat) ≤ TS.code 64 (b.map Int.ofNat) → lexN b a = false
  | [], [], _, _, _, _ => rfl
  | x :: a, y :: b, hl, h1, h2, h => by
    have hl' : a.length = b.length := by simpa using hl
    have hm : (a.map Int.ofNat).length = (b.map Int.ofNat).length := by simpa using hl'
    rw [List.map_cons] at h1 h2
    rw [List.map_cons, List.map_cons] at h
    rcases Nat.lt_trichotomy x y with c | c | c
    · unfold lexN
      have e1 : ¬ y < x := by omega
      have e2 : ¬ y = x := by omega
      simp [e1, e2]
    · subst c
      unfold lexN
      have q : TS.code 64 (a.map Int.ofNat) ≤ TS.code 64 (b.map Int.ofNat) := by
        rcases Int.lt_or_le (TS.code 64 (b.map Int.ofNat)) (TS.code 64 (a.map Int.ofNat)) with z | z
        · have := (TS.code_same (B := 64) (d := Int.ofNat x) hm.symm).mpr z
          omega
        · exact z
      have := code_lexN hl' h1.tail h2.tail q
      simp [this]
    · have := TS.code_lt (B := 64) (d := Int.ofNat y) (e := Int.ofNat x) hm.symm h2.tail h1.tail (by show (y : Int) < (x : Int); omega)
      omega
/-- fewer than 64 rows of one length, of numbers below 64 -/
def okRows (ks : List (List Nat)) : Bool := decide (ks.length < 64) && ks.all fun k => decide (k.length = (ks.headD []).length) && decide (0 < k.length) && k.all fun n => decide (n < 64)
def eSortSet (fa : FE D) : FE (List D) := fun ρ μ => (fa ρ μ).bind fun x μ1 => match x with
  | .lst ds => (match ds.mapM natsOf with | some ks => if okRows ks = true then .ok ((srtN (undupA ks)).map natsD) μ1 else .bad | none => .bad)
  | _ => .bad
section
variable {X : Cx} {C : Cc} {W : WX} {a : Expr} {p p2 q pos : Pos} {fa : FE D}
theorem reps_rows {η : Nm} {H : Hp} : ∀ {vs : List V} {ks : List (List Nat)}, Reps C η H vs (ks.map natsD) → ∃ ps : List (Addr × List Int), vs = ps.map (fun p => V.ref p.1) ∧ ps.map (·.2) = ks.map (fun k => k.map Int.ofNat) ∧ (∀ p ∈ ps, SqT C.K H p.1 (p.2.map V.int)) ∧ ∀ p ∈ ps, ∃ k ∈ ks, p.2 = k.map Int.ofNat ∧ Rep C η H (.ref p.1) (natsD k)
  | _, [], .nil => ⟨[], rfl, rfl, by simp, by simp⟩
  | _, k :: ks, .cons r rs => by
    obtain ⟨ps, h1, h2, h3, h4⟩ := reps_rows rs
    have r' := r
    cases r with
    | tup g1 g2 =>
      have e : natsL k = (k.map Int.ofNat).map D.int := by unfold natsL natD; rw [List.map_map]; rfl
      rw [e] at g2
      rw [reps_ints g2] at g1
      refine ⟨(_, k.map Int.ofNat) :: ps, by rw [List.map_cons, ← h1], by rw [List.map_cons, List.map_cons, h2], fun p hp => ?_, fun p hp => ?_⟩
      · rcases List.mem_cons.mp hp with z | z
        · subst z; exact g1
        · exact h3 p z
      · rcases List.mem_cons.mp hp with z | z
        · subst z; exact ⟨k, List.mem_cons_self, rfl, r'⟩
        · obtain ⟨k', m, e1, e2⟩ := h4 p z
          exact ⟨k', List.mem_cons_of_mem _ m, e1, e2⟩
theorem reps_back {η : Nm} {H : Hp} {ks : List (List Nat)} : ∀ (L : List (Addr × List Int)), (∀ p ∈ L, ∃ k ∈ ks, p.2 = k.map Int.ofNat ∧ Rep C η H (.ref p.1) (natsD k)) → ∃ m : List (List Nat), m.map (fun k => k.map Int.ofNat) = L.map (·.2) ∧ (∀ k ∈ m, k ∈ ks) ∧ Reps C η H (L.map fun p => V.ref p.1) (m.map natsD)
  | [], _ => ⟨[], rfl, by simp, .nil⟩
  | p :: L, h => by
    obtain ⟨k, hk, e, r⟩ := h p List.mem_cons_self
    obtain ⟨m, h1, h2, h3⟩ := reps_back L fun q hq => h q (List.mem_cons_of_mem _ hq)
    refine ⟨k :: m, by rw [List.map_cons, List.map_cons, h1, e], fun x hx => ?_, .cons r h3⟩
    rcases List.mem_cons.mp hx with z | z
    · rw [z]; exact hk
    · exact h2 x z
theorem ofNat_inj : ∀ {a b : List Nat}, a.map Int.ofNat = b.map Int.ofNat → a = b := fun {a b} h => by
  have := congrArg (List.map Int.toNat) h
  rwa [List.map_map, List.map_map, show (Int.toNat ∘ Int.ofNat) = id from rfl, List.map_id, List.map_id] at this
theorem nd_of_map {α β : Type} {f : α → β} {l : List α} (h : (l.map f).Nodup) : l.Nodup := List.Pairwise.of_map f (fun _ _ ne e => ne (congrArg f e)) h
theorem nd_map_ofNat {m : List (List Nat)} (h : m.Nodup) : (m.map fun k => k.map Int.ofNat).Nodup := by
  unfold List.Nodup
  rw [List.pairwise_map]
  exact h.imp fun ne e => ne (ofNat_inj e)
theorem de_sortSet (hu : X.A.units + 64 < cLine) (hm : X.mg "sorted" = none) (hm2 : X.mg "set" = none) (ha : DE X C W a fa) (hc : X.calm = true := by rfl) (hg : Gl X "sorted" := by rfl) (hg2 : Gl X "set" := by rfl)
    (na : starEach [a] X.env = (false, eval a X.env) :: starEach [] X.env := by rfl) (nb : starEach [.Call (.Name "set" p2) [a] [] q] X.env = (false, eval (.Call (.Name "set" p2) [a] [] q) X.env) :: starEach [] X.env := by rfl) (hK : X.K = C.K := by rfl) :
    DEL X C W (.Call (.Name "sorted" p) [.Call (.Name "set" p2) [a] [] q] [] pos) (eSortSet fa) := by
  have h1 : PE X (.Call (.Name "set" p2) [a] [] q) _ := pe_callTy (cr_setOfT (X := X) hc hu) hg2 hm2 PyProof.Rows.boot_set (L2.pa_cons ha.pe L2.pa_nil na) (by decide) (by decide) na rfl
  have h2 := pe_callB (pos := pos) (p := p) (cr_sortedT (X := X) hc) hg hm bb_sorted (L2.pa_cons h1 L2.pa_nil nb) (by decide) (by decide) nb rfl
  refine ⟨pe_imp h2 fun σ H Q => ?_⟩
  rintro ⟨η, ρ, μ, s, o, pp⟩
  refine ⟨η, ρ, μ, s, o, Post.bind pp fun d η1 H1 μ1 n1 o1 p1 x rx => ?_⟩
  split at p1
  · rename_i ds
    cases hi : ds.mapM natsOf with
    | none => simp only [hi] at p1; exact p1.elim
    | some ks =>
      simp only [hi] at p1
      split at p1
      · rename_i hz
        have hds := mapM_inv (g := natsD) (fun a b => natsOf_inv) hi
        subst hds
        unfold okRows at hz
        rw [Bool.and_eq_true, decide_eq_true_eq, List.all_eq_true] at hz
        obtain ⟨hlen, hall⟩ := hz
        cases rx with
        | lst g1 _ _ g2 =>
          obtain ⟨ps, e1, e2, e3, e4⟩ := reps_rows g2
          rw [e1] at g1
          refine ⟨_, ps, rfl, by rw [hK]; exact SqL.of g1, by rw [hK]; exact e3, ?_, fun A L hA hsub hall' => ?_⟩
          · have := congrArg List.length e2
            rw [List.length_map, List.length_map] at this
            omega
          · have sm : L2.Same H1 (upd H1 A (SetTO X.prog X.w A L)) := Same.new hA
            have o2 := o1.same sm
            have n2 : Nxt C η1 H1 η1 (upd H1 A (SetTO X.prog X.w A L)) := Same.nxt sm
            have e4' : ∀ p ∈ L, ∃ k ∈ ks, p.2 = k.map Int.ofNat ∧ Rep C η1 (upd H1 A (SetTO X.prog X.w A L)) (.ref p.1) (natsD k) := fun p hp => by
              obtain ⟨k, m, a1, a2⟩ := e4 p (hsub p hp)
              exact ⟨k, m, a1, a2.mono n2⟩
            refine ⟨A, L, max 1 (ks.headD []).length, 64, rfl, upd_same, fun p hp => ?_, ?_, fun p hp => ?_, fun L' P hL' hnd hl' hpw hP => ?_⟩
            · rw [hK]
              exact n2.sqT (e3 p (hsub p hp))
            · exact Nat.le_max_left 1 _
            · obtain ⟨k, m, a1, _⟩ := e4 p (hsub p hp)
              have b := hall k m
              rw [Bool.and_eq_true, Bool.and_eq_true, decide_eq_true_eq, decide_eq_true_eq, List.all_eq_true] at b
              rw [a1]
              refine ⟨by rw [List.length_map]; omega, fun x hx => ?_⟩
              obtain ⟨n, hn, rfl⟩ := List.mem_map.mp hx
              have := b.2 n hn
              rw [decide_eq_true_eq] at this
              exact ⟨Int.ofNat_nonneg n, by show (n : Int) < 64; omega⟩
            · obtain ⟨m, f1, f2, f3⟩ := reps_back L' fun p hp => e4' p (hL'.mem_iff.mp hp)
              have bd : ∀ k ∈ ks, k.length = (ks.headD []).length ∧ TS.Bd 64 (k.map Int.ofNat) := fun k hk => by
                have b := hall k hk
                rw [Bool.and_eq_true, Bool.and_eq_true, decide_eq_true_eq, decide_eq_true_eq, List.all_eq_true] at b
                refine ⟨b.1.1, fun x hx => ?_⟩
                obtain ⟨n, hn, rfl⟩ := List.mem_map.mp hx
                have := b.2 n hn
                rw [decide_eq_true_eq] at this
                exact ⟨Int.ofNat_nonneg n, by show (n : Int) < 64; omega⟩
              have em : m = srtN (undupA ks) := by
                refine lex_uniq ?_ ?_ (srtN_pw _)
                · refine List.Perm.trans ?_ (srtN_perm _).symm
                  refine (List.perm_ext_iff_of_nodup ?_ (undupA_nd ks)).mpr fun k => ?_
                  · rw [← f1] at hnd
                    exact nd_of_map hnd
                  · rw [mem_undupA]
                    refine ⟨f2 k, fun hk => ?_⟩
                    have : k.map Int.ofNat ∈ ps.map (·.2) := by rw [e2]; exact List.mem_map.mpr ⟨k, hk, rfl⟩
                    obtain ⟨p', hp', ep⟩ := List.mem_map.mp this
                    have h3 := hall' p' hp'
                    have h4 : p'.2 ∈ L'.map (·.2) := ((hL'.map (·.2)).mem_iff).mpr h3
                    rw [← f1, ep] at h4
                    obtain ⟨k', hk', e'⟩ := List.mem_map.mp h4
                    rw [← ofNat_inj e']
                    exact hk'
                · have q : (L'.map (·.2)).Pairwise fun x y => TS.code 64 x ≤ TS.code 64 y := by rw [List.pairwise_map]; exact hpw
                  rw [← f1, List.pairwise_map] at q
                  refine q.imp_of_mem fun {x y} hx hy h => ?_
                  exact code_lexN ((bd x (f2 x hx)).1.trans (bd y (f2 y hy)).1.symm) (bd x (f2 x hx)).2 (bd y (f2 y hy)).2 h
              rw [← em] at p1
              exact Post.newL (Post.mono p1 n2) (n1.trans n2) o2 hP f3
      · exact p1.elim
  · exact p1.elim
end
end DL
/-! a lambda handed to a def that gives back what it answers, or a word and an error's field. -/
namespace DL
open PySem PySem.Spec PyProof.Rows L2
def TAsk (CS : Addr) (prm pre : Str) : (XK → Hp → VK → Prop) → Hp → VK → Prop := fun tl H Q =>
  tl (fun cls dd H' => cls = .ref CS ∧ ∃ a z, dd = some a ∧ H' a = some (.xd [(prm, .str z)]) ∧ pre.length + z.length ≤ sizeLine ∧ Q (.str (pre ++ z)) H') H Q
theorem ask_gives {X : Cx} {x a e be q prm pre : Str} {sg : Scope} {g CS : Addr} {cdg : Value} {j : Nat} {p1 p2 p3 p4 p5 p6 p7 p8 p9 p10 p11 : Pos} (hbe : sg.names.lookup be = some .globalImplicit) (hme : X.mg be = some (.ref CS)) (hde : (be == ("__debug__" : Str)) = false)
    (T : XfC X.K CS) (hno : PySem.W.findIn X.K (.ref CS) prm = some none) (te : PySem.W.exmOne X.K (.ref CS) (.ref CS) = some true) (hN : [a, e].Nodup) (hln : sg.names.lookup e = some .local) (hd : (e == ("__debug__" : Str)) = false) (hcd : (e == ("__classdict__" : Str)) = false) :
    LamX.GivesTo X [a, e] x sg g cdg [.Try [.Return (some (.Call (.Name a p1) [] [] p2)) p3] [.ExceptHandler (some (.Name be p4)) (some e) [.Return (some (.BinOp (.Constant (.str pre) j p5) .Add (.Attribute (.Name e p6) prm p7) p8)) p9] p10] [] [] p11] a q (TAsk CS prm pre) := by
  intro f c' s H Q tl act hc h
  have hgl : Gl (cxOf C8.CX0 X.prog X.w X.K X.mg X.base [a, e] x sg g cdg X.A X.stack s H C8.E0).nox be := hbe
  refine ⟨_, pss_one (ps_try_as (X := (cxOf C8.CX0 X.prog X.w X.K X.mg X.base [a, e] x sg g cdg X.A X.stack s H C8.E0).nox) (i := 1) (n := e) (c := .ref CS)
      (tb := fun W D σ H => ∃ Ech : XK, (∀ cls d σ' H', σ'.length = 2 → Ech cls d H' → W cls d σ' H') ∧ σ = L2.start [a, e] [.ref f] ∧ H c' = some (LamX.CodeO c' q) ∧ tl Ech H D.rt)
      (ts := fun ax cls d => tRet (tOp (fun x y H Q => ∃ i j, x = V.str i ∧ y = V.str j ∧ i.length + j.length ≤ sizeLine ∧ Q (.str (i ++ j)) H) (tC (.str pre)) (tXf ax cls d CS prm (tVar 1)))) (Wout := fun _ _ _ _ => False)
      rfl rfl hN rfl hln ⟨hgl, hde, .inl hme⟩ LamX.takes0 (fun W pn xe tk _ => ?_) (fun ax oe cls d pn hz hf => pss_one (ps_ret (pe_op op_add_str pe_str (pe_xf T hno hz hf (pe_var (i := 1) rfl (Or.inl hln) hd hcd)))))), ?_⟩
  · refine ⟨fun pins s' σ H' D I h' => ?_⟩
    obtain ⟨Ech, hW, h1, h2, h3⟩ := h'
    have hp := act (fun cls d σ' H'' => σ'.length = 2 → W cls d σ' H'') pn xe Ech p1 p2 (takes_len tk) (fun cls d σ' H'' hE hl => hW cls d σ' H'' hl hE)
    exact (pss_one (ps_ret (pos := p3) hp)).run pins s' σ H' D I ⟨by rw [h1]; rfl, h2, h3⟩
  · refine ⟨_, fun cls d σ' H' hl hE => ⟨true, ?_, fun _ a0 _ => ?_, fun z => by cases z⟩, rfl, hc, h⟩
    · rw [hE.1]; exact te
    · obtain ⟨e1, dx, z, e2, e3, hz, hq⟩ := hE
      exact ⟨.ref a0, by rw [List.getElem?_set_self (by omega)], rfl, e1, dx, [(prm, .str z)], .str z, e2, e3, by simp [List.lookup], pre, z, rfl, rfl, hz, hq⟩
/-- x(lambda: e), x answering with e's value, or with a word ahead of the field of an error of the class c0 -/
def eAsk (c0 : Nat) (pre : Str) (fb : FE D) : FE D := fun ρ μ => match fb ρ μ with
  | .ok d μ1 => .ok d μ1
  | .ex c d μ1 => if c = c0 then (match d with | .str z => if pre.length + z.length ≤ SZ then .ok (.str (pre ++ z)) μ1 else .bad | _ => .bad) else .bad
  | .bad => .bad
section
variable {X : Cx} {C : Cc} {W : WX}
theorem ask_read {c0 : Nat} {pre : Str} {fb : FE D} {σ H Q} (h : tD C W (eAsk c0 pre fb) σ H Q) : LamX.tLam C.T (TAsk (C.xc c0) (C.xf c0) pre) (fun E => tD C (fun cls d _ H => E cls d H) fb) σ H Q := by
  obtain ⟨η, ρ, μ, s, ok, p⟩ := h
  refine ⟨ok.tab, fun H1 x t => ?_⟩
  have nx : Nxt C η H η H1 := extN_nxt x
  refine ⟨η, ρ, μ, s.mono nx, extN_ok ok x t, ?_⟩
  unfold eAsk at p
  cases hf : fb ρ μ with
  | ok d μ1 =>
    simp only [hf] at p
    exact fun η' H' n' o' v rv => p η' H' (nx.trans n') o' v rv
  | ex c d μ1 =>
    simp only [hf] at p
    by_cases hc : c = c0
    · subst hc
      rw [if_pos rfl] at p
      cases d with
      | str z =>
        simp only at p
        by_cases hz : pre.length + z.length ≤ SZ
        · rw [if_pos hz] at p
          intro η' H' cls dd n' o' xr
          obtain ⟨e1, a, v, e2, e3, rv⟩ := xr
          cases rv
          exact ⟨e1, a, z, e2, e3, by rw [← sz_eq]; exact hz, p η' H' (nx.trans n') o' _ (.str _)⟩
        · rw [if_neg hz] at p
          exact p.elim
      | _ => exact p.elim
    · rw [if_neg hc] at p
      exact p.elim
  | bad => simp only [hf] at p; exact p.elim
/-- what the top has written of the def that asks -/
structure Asks (K : PySem.W.Frag) (mg : Str → Option Value) (C : Cc) (c0 : Nat) (pre x a e be : Str) (g : Addr) (sg : Scope) (bg : List Stmt) : Prop where
  gm : mg x = some (.ref g)
  kp : PySem.W.keepIn K (.ref g) = true
  fn : ∃ (oc : Value) (od : Option Addr) (pg : Arguments) (dV kV doc pm cdv ct : Value) (an : Option Addr) (osl : Array (Option Value)), K.lookup g = some ⟨oc, od, .func (PySem.W.fnOf x x pg bg sg dV kV doc pm an cdv ct), osl⟩ ∧ PySem.W.codeIn K cdv x = true ∧ L2.Binds K (PySem.W.fnOf x x pg bg sg dV kV doc pm an cdv ct) [a] []
  sc : FnScope [a, e] [a] sg
  va : Vis sg a
  tx : ∃ (p1 p2 p3 p4 p5 p6 p7 p8 p9 p10 p11 : Pos) (j : Nat), bg = [.Try [.Return (some (.Call (.Name a p1) [] [] p2)) p3] [.ExceptHandler (some (.Name be p4)) (some e) [.Return (some (.BinOp (.Constant (.str pre) j p5) .Add (.Attribute (.Name e p6) (C.xf c0) p7) p8)) p9] p10] [] [] p11]
  hbe : sg.names.lookup be = some .globalImplicit
  hme : mg be = some (.ref (C.xc c0))
  hde : (be == ("__debug__" : Str)) = false
  xf : XfC K (C.xc c0)
  hno : PySem.W.findIn K (.ref (C.xc c0)) (C.xf c0) = some none
  te : PySem.W.exmOne K (.ref (C.xc c0)) (.ref (C.xc c0)) = some true
  hln : sg.names.lookup e = some .local
  hd : (e == ("__debug__" : Str)) = false
  hcd : (e == ("__classdict__" : Str)) = false
  had : (a == ("__debug__" : Str)) = false
  hacd : (a == ("__classdict__" : Str)) = false
theorem de_askd {c0 : Nat} {pre x a e be : Str} {g cA PA : Addr} {sg : Scope} {bg : List Stmt} {k : Nat} {params : Arguments} {body : Expr} {scope : Scope} {fb : FE D} {p lpos pos : Pos} (T : Asks X.K X.mg C c0 pre x a e be g sg bg) (TB : LamX.TabB X.base X.mg cA PA) (hmT : (PA, X.env.qual ++ "<lambda>") ∈ C.T) (hu : ∀ p ∈ C.T, p.1 = PA → p.2 = X.env.qual ++ "<lambda>")
    (hr : Room (k + 2) X.A) (hbody : ∀ (A : Around) (outer : List Env) (s : Shared) (H : Hp) (E : XK) (f c' : Addr), Room k (A.deeper (LamX.lamEnv X scope s.heap.objs.size f c')) → DE (LamX.lamCx X A outer s H E scope f c') C (fun cls d _ H => E cls d H) body fb)
    (hcode : X.env.code = .ref cA := by rfl) (hg : Gl X x := by rfl) (L : LamX.LamS X.env.scope scope := by exact LamX.lamS_by rfl) (hdef : defaultsOf params X.env = ([], []) := by rfl)
    (hbind : ∀ (q : Str) (cl : List (Str × Addr)) (pm cv ctv : Value), bindArgs (PySem.W.kla_fn "<lambda>" q params body scope cl pm cv ctv) ⟨[], []⟩ = pure [] := by intros; rfl)
    (hdb : (x == ("__debug__" : Str)) = false := by decide) : DE X C W (.Call (.Name x p) [.Lambda params body scope lpos] [] pos) (eAsk c0 pre fb) := by
  obtain ⟨oc, od, pg, dV, kV, doc, pm, cdv, ct, an, osl, lk, hcg, hb⟩ := T.fn
  obtain ⟨p1, p2, p3, p4, p5, p6, p7, p8, p9, p10, p11, j, etx⟩ := T.tx
  have hG := ask_gives (X := X) (x := x) (g := g) (cdg := cdv) (q := X.env.qual ++ "<lambda>") (j := j) (p1 := p1) (p2 := p2) (p3 := p3) (p4 := p4) (p5 := p5) (p6 := p6) (p7 := p7) (p8 := p8) (p9 := p9) (p10 := p10) (p11 := p11) (pre := pre) T.hbe T.hme T.hde T.xf T.hno T.te T.sc.nd T.hln T.hd T.hcd
  rw [← etx] at hG
  exact ⟨pe_imp (LamX.pe_lamcall (T := C.T) hg T.gm T.kp lk hcg hb T.sc rfl T.va hG TB hcode hmT hu hr L hdef hbind (fun A outer s H E f c' hr2 => (hbody A outer s H E f c' hr2).pe) hdb T.had T.hacd) fun σ H Q h => ask_read h⟩
end
end DL
/-! enumerate(zip(s, t)), s and t tuples: zip's own pair may be out or not at each turn. -/
namespace DL
open PySem PySem.Spec PyProof.Rows L2
abbrev ZO (h : Heap) (z TI TO : Addr) (v : Value) (f : Bool) : Prop :=
  h.get? z = some { cls := .type "zip", dict := none, data := .fields #[v, .bool f, .bool false, .ref TI, .ref TO], slots := #[] }
def First (v : Value) : Prop := v = .none ∨ ∃ T : Addr, v = rawInt T
section
variable {prog : Program} {w : World} {A : Around} {E : Value → Shared → Prop} {s : Shared}
theorem aliveAt {a : Addr} {Q : Option Obj → Shared → Prop} (h : Q (s.heap.get? a) s) : wpAny (model prog w) A (loadIfAlive a) Q E s := fun _ _ _ => h
theorem zo_free {z TI TO : Addr} {v : Value} {f : Bool} {Q : Bool → Shared → Prop} (hz : ZO s.heap z TI TO v f) (hv : First v) (ht : Q true s)
    (hf : ∀ h', ZO h' z TI TO v true → Heap.SameBut z s.heap h' → Q false { s with heap := h' }) : wpAny (model prog w) A (Builtin.SmallTypes.ownedTupleIsFree (.ref z)) Q E s := by
  unfold Builtin.SmallTypes.ownedTupleIsFree
  refine wpAny_bind (wpAny_field hz rfl (x := v) rfl ?_)
  rcases hv with e | ⟨T, e⟩
  · subst e
    exact wpAny_pure ht
  · subst e
    show wpAny _ _ (loadIfAlive ((T : Int).toNat) >>= _) _ _ _
    rw [Int.toNat_natCast]
    refine wpAny_bind (aliveAt ?_)
    cases s.heap.get? T with
    | none =>
      simp only [Option.isNone_none, if_true]
      exact wpAny_pure ht
    | some o =>
      simp only [Option.isNone_some, Bool.false_eq_true, if_false]
      refine wpAny_bind (wpAny_field hz rfl (x := .bool f) rfl ?_)
      cases f with
      | true =>
        rw [if_neg (by exact Bool.false_ne_true)]
        exact wpAny_pure (hf s.heap hz (Heap.SameBut.refl _ _))
      | false =>
        rw [if_pos (by rfl)]
        exact wpAny_bind (wpAny_setField_rec hz (by simp) fun h1 g1 k1 => wpAny_pure (hf h1 g1 k1))
theorem zo_item {z TI TO i1 i2 l1 l2 : Addr} {k1 k2 : Nat} {xs ys : Array Value} {x y a b v : Value} {f : Bool} {Q : Value → Shared → Prop} (D : ZipApart z TI TO i1 i2 l1 l2)
    (hz : ZO s.heap z TI TO v f) (hv : First v) (hTI : IsPair s.heap TI (.ref i1) (.ref i2)) (hTO : IsPair s.heap TO a b)
    (h1 : s.heap.IsTupleIter i1 l1 k1) (h2 : s.heap.IsTupleIter i2 l2 k2) (hl1 : s.heap.IsTuple l1 xs) (hl2 : s.heap.IsTuple l2 ys) (hx : xs[k1]? = some x) (hy : ys[k2]? = some y)
    (hQ : ∀ h' v' f' a' b', ZO h' z TI TO v' f' → First v' → IsPair h' TO a' b' → h'.IsTupleIter i1 l1 (k1 + 1) → h'.IsTupleIter i2 l2 (k2 + 1) → IsPair h' s.heap.objs.size x y → h'.objs.size = s.heap.objs.size + 1 →
      (∀ c o, c ≠ z → c ≠ TO → c ≠ i1 → c ≠ i2 → s.heap.get? c = some o → h'.get? c = some o) → Q (.ref s.heap.objs.size) { s with heap := h' }) :
    wpAny (model prog w) A (Builtin.«zip.__next__» ⟨[.ref z], []⟩) (fun fin s' => ∃ v, fin = .done (.ret v) ∧ Q v s') E s := by
  show wpAny _ _ (field (.ref z) 2 >>= _) _ _ _
  refine wpAny_bind (wpAny_field hz rfl (x := .bool false) rfl ?_)
  show wpAny _ _ (field (.ref z) 3 >>= _) _ _ _
  refine wpAny_bind (wpAny_field hz rfl (x := .ref TI) rfl ?_)
  refine wpAny_bind (wpAny_seqItems hTI rfl ?_)
  show wpAny _ _ (Builtin.SmallTypes.ownedTupleIsFree (.ref z) >>= _) _ _ _
  refine wpAny_bind (zo_free hz hv ?_ fun g1 z1 b1 => ?_)
  · simp only [if_true]
    refine wpAny_bind (wpAny_rule ?_)
    refine wpAny_bind (wpAny_field hz rfl (x := .ref TO) rfl ?_)
    refine wpAny_bind (wpAny_setField_rec hz (by simp) fun g1 z1 b1 => ?_)
    replace z1 : ZO g1 z TI TO .ellipsis f := z1
    refine wpAny_bind ?_
    simp only [List.zipIdx_cons, List.zipIdx_nil, List.forIn_cons, List.forIn_nil]
    refine wpAny_bind (wpAny_bind (wpAny_onRaise ?_))
    show wpAny _ _ (Builtin.SmallTypes.nextOf (.ref i1) >>= _) _ _ _
    refine wpAny_bind (RZ.nextOf_tuple_item (h1.extBut b1.extBut D.i1z) (hl1.extBut b1.extBut D.l1z) hx fun g2 r2 b2 => wpAny_pure ?_)
    have t2 : IsPair g2 TO a b := b2.extBut _ _ D.TOi1 (b1.extBut _ _ D.TOz hTO)
    refine wpAny_bind (wpAny_seqItems t2 rfl ?_)
    refine wpAny_bind (wpAny_updateSeq_pair t2 fun g3 t3 b3 => ?_)
    replace t3 : IsPair g3 TO x b := t3
    refine wpAny_bind (wpAny_letGo (wpAny_pure ?_))
    refine wpAny_bind (wpAny_bind (wpAny_onRaise ?_))
    show wpAny _ _ (Builtin.SmallTypes.nextOf (.ref i2) >>= _) _ _ _
    refine wpAny_bind (RZ.nextOf_tuple_item (((h2.extBut b1.extBut D.i2z).extBut b2.extBut D.i12.symm).extBut b3.extBut D.TOi2.symm)
      (((hl2.extBut b1.extBut D.l2z).extBut b2.extBut D.l2i1).extBut b3.extBut D.l2TO) hy fun g4 r4 b4 => wpAny_pure ?_)
    have t4 : IsPair g4 TO x b := b4.extBut _ _ D.TOi2 t3
    refine wpAny_bind (wpAny_seqItems t4 rfl ?_)
    refine wpAny_bind (wpAny_updateSeq_pair t4 fun g5 t5 b5 => ?_)
    replace t5 : IsPair g5 TO x y := t5
    refine wpAny_bind (wpAny_letGo (wpAny_pure (wpAny_pure ?_)))
    refine wpAny_bind (wpAny_seqItems t5 rfl ?_)
    refine wpAny_bind (wpAny_newTuple ?_)
    have hsz : g5.objs.size = s.heap.objs.size := by rw [b5.1, b4.1, b3.1, b2.1, b1.1]
    have z5 : ZO g5 z TI TO .ellipsis f := b5.extBut _ _ D.TOz.symm (b4.extBut _ _ D.i2z.symm (b3.extBut _ _ D.TOz.symm (b2.extBut _ _ D.i1z.symm z1)))
    have k5 : ∀ c o, c ≠ z → c ≠ TO → c ≠ i1 → c ≠ i2 → s.heap.get? c = some o → g5.get? c = some o := fun c o c1 c2 c3 c4 e =>
      b5.extBut _ _ c2 (b4.extBut _ _ c4 (b3.extBut _ _ c2 (b2.extBut _ _ c3 (b1.extBut _ _ c1 e))))
    have r5 : g5.IsTupleIter i1 l1 (k1 + 1) := ((r2.extBut b3.extBut D.TOi1.symm).extBut b4.extBut D.i12).extBut b5.extBut D.TOi1.symm
    have q5 : g5.IsTupleIter i2 l2 (k2 + 1) := r4.extBut b5.extBut D.TOi2.symm
    have zlt : z < g5.objs.size := Heap.lt_size z5
    show wpAny _ _ (Builtin.SmallTypes.ownedTupleHandOut (.ref z) (.ref g5.objs.size) >>= _) _ _ _
    refine wpAny_bind ?_
    unfold Builtin.SmallTypes.ownedTupleHandOut
    have z6 : ZO (g5.push { cls := .type "tuple", data := .seq #[x, y] }) z TI TO .ellipsis f := Heap.get?_push_of_some _ z5
    refine wpAny_bind (wpAny_setField_rec z6 (by simp) fun g7 z7 b7 => ?_)
    replace z7 : ZO g7 z TI TO (rawInt g5.objs.size) f := z7
    refine wpAny_setField_rec z7 (by simp) fun g8 z8 b8 => ?_
    replace z8 : ZO g8 z TI TO (rawInt g5.objs.size) false := z8
    have up : ∀ c o, c ≠ z → g5.get? c = some o → g8.get? c = some o := fun c o c1 e => b8.extBut _ _ c1 (b7.extBut _ _ c1 (Heap.get?_push_of_some _ e))
    have T8 : IsPair g8 g5.objs.size x y := b8.extBut _ _ (Nat.ne_of_gt zlt) (b7.extBut _ _ (Nat.ne_of_gt zlt) (Heap.get?_push_size _ rfl))
    have s8 : g8.objs.size = g5.objs.size + 1 := by rw [b8.1, b7.1, Heap.size_push]
    rw [hsz] at z8 T8 s8
    refine wpAny_pure ⟨_, rfl, ?_⟩
    show Q (.ref g5.objs.size) _
    rw [hsz]
    exact hQ g8 _ _ _ _ z8 (.inr ⟨_, rfl⟩) (up _ _ D.TOz t5) (r5.at fun o e => up _ o D.i1z e) (q5.at fun o e => up _ o D.i2z e) T8 s8 fun c o c1 c2 c3 c4 e => up c o c1 (k5 c o c1 c2 c3 c4 e)
  · simp only [Bool.false_eq_true, if_false]
    refine wpAny_bind ?_
    rw [← Array.forIn_toList]
    simp only [List.forIn_cons, List.forIn_nil]
    refine wpAny_bind (wpAny_bind (wpAny_holding ?_))
    show wpAny _ _ (Builtin.SmallTypes.nextOf (.ref i1) >>= _) _ _ _
    refine wpAny_bind (RZ.nextOf_tuple_item (s := { s with heap := g1 }) (h1.extBut b1.extBut D.i1z) (hl1.extBut b1.extBut D.l1z) hx fun g2 r2 b2 => wpAny_pure ?_)
    refine wpAny_pure ?_
    refine wpAny_bind (wpAny_bind (wpAny_holding ?_))
    show wpAny _ _ (Builtin.SmallTypes.nextOf (.ref i2) >>= _) _ _ _
    refine wpAny_bind (RZ.nextOf_tuple_item (s := { s with heap := g2 }) ((h2.extBut b1.extBut D.i2z).extBut b2.extBut D.i12.symm) ((hl2.extBut b1.extBut D.l2z).extBut b2.extBut D.l2i1) hy fun g3 r3 b3 => wpAny_pure ?_)
    refine wpAny_pure (wpAny_pure ?_)
    show wpAny _ _ (newTuple [x, y] >>= _) _ _ _
    refine wpAny_bind (wpAny_newTuple ?_)
    have hsz : g3.objs.size = s.heap.objs.size := by rw [b3.1, b2.1, b1.1]
    have z3 : ZO g3 z TI TO v true := b3.extBut _ _ D.i2z.symm (b2.extBut _ _ D.i1z.symm z1)
    have k3 : ∀ c o, c ≠ z → c ≠ i1 → c ≠ i2 → s.heap.get? c = some o → g3.get? c = some o := fun c o c1 c2 c3 e => b3.extBut _ _ c3 (b2.extBut _ _ c2 (b1.extBut _ _ c1 e))
    have r3' : g3.IsTupleIter i1 l1 (k1 + 1) := r2.extBut b3.extBut D.i12
    refine wpAny_pure ⟨_, rfl, ?_⟩
    show Q (.ref g3.objs.size) _
    have hp : IsPair (g3.push { cls := .type "tuple", data := .seq #[x, y] }) g3.objs.size x y := Heap.get?_push_size _ rfl
    have z4 : (g3.push { cls := .type "tuple", data := .seq #[x, y] }).objs.size = g3.objs.size + 1 := Heap.size_push ..
    rw [hsz] at hp z4 ⊢
    exact hQ _ _ _ _ _ (Heap.get?_push_of_some _ z3) hv (Heap.get?_push_of_some _ (k3 _ _ D.TOz D.TOi1 D.TOi2 hTO)) (r3'.at fun o e => Heap.get?_push_of_some _ e) (r3.at fun o e => Heap.get?_push_of_some _ e) hp z4 fun c o c1 c2 c3 c4 e => Heap.get?_push_of_some _ (k3 c o c1 c3 c4 e)
theorem zo_end {z TI TO i1 i2 l1 l2 : Addr} {k1 k2 : Nat} {xs ys : Array Value} {a b v : Value} {f : Bool} {Q : PySem.Fin → Shared → Prop} (hh : A.handled = none) (D : ZipApart z TI TO i1 i2 l1 l2)
    (hz : ZO s.heap z TI TO v f) (hv : First v) (hTI : IsPair s.heap TI (.ref i1) (.ref i2)) (hTO : IsPair s.heap TO a b)
    (h1 : s.heap.IsTupleIter i1 l1 k1) (h2 : s.heap.IsTupleIter i2 l2 k2) (hl1 : s.heap.IsTuple l1 xs) (hl2 : s.heap.IsTuple l2 ys) (hend : xs[k1]? = none ∨ ys[k2]? = none)
    (hE : ∀ h' e, (∀ c o, c ≠ z → c ≠ TO → c ≠ i1 → c ≠ i2 → s.heap.get? c = some o → h'.get? c = some o) → (∃ o, h'.get? e = some o ∧ o.cls = .type "StopIteration") → E (.ref e) { s with heap := h' }) :
    wpAny (model prog w) A (Builtin.«zip.__next__» ⟨[.ref z], []⟩) Q E s := by
  show wpAny _ _ (field (.ref z) 2 >>= _) _ _ _
  refine wpAny_bind (wpAny_field hz rfl (x := .bool false) rfl ?_)
  show wpAny _ _ (field (.ref z) 3 >>= _) _ _ _
  refine wpAny_bind (wpAny_field hz rfl (x := .ref TI) rfl ?_)
  refine wpAny_bind (wpAny_seqItems hTI rfl ?_)
  show wpAny _ _ (Builtin.SmallTypes.ownedTupleIsFree (.ref z) >>= _) _ _ _
  refine wpAny_bind (zo_free hz hv ?_ fun g1 z1 b1 => ?_)
  · simp only [if_true]
    refine wpAny_bind (wpAny_rule ?_)
    refine wpAny_bind (wpAny_field hz rfl (x := .ref TO) rfl ?_)
    refine wpAny_bind (wpAny_setField_rec hz (by simp) fun g1 z1 b1 => ?_)
    replace z1 : ZO g1 z TI TO .ellipsis f := z1
    refine wpAny_bind ?_
    simp only [List.zipIdx_cons, List.zipIdx_nil, List.forIn_cons, List.forIn_nil]
    refine wpAny_bind (wpAny_bind (wpAny_onRaise ?_))
    show wpAny _ _ (Builtin.SmallTypes.nextOf (.ref i1) >>= _) _ _ _
    cases hx : xs[k1]? with
    | none =>
      refine wpAny_bind (RZ.nextOf_tuple_end hh (h1.extBut b1.extBut D.i1z) (hl1.extBut b1.extBut D.l1z) hx fun g2 e b2 he => ?_)
      obtain ⟨oe, hoe, hce⟩ := he
      have z2 : ZO g2 z TI TO .ellipsis f := b2 _ _ D.i1z.symm z1
      have ez : e ≠ z := fun q => by subst q; rw [z2] at hoe; cases hoe; simp at hce
      refine wpAny_setField_rec z2 (by simp) fun g3 _ b3 => hE g3 e (fun c o c1 _ c3 _ q => b3.extBut _ _ c1 (b2 _ _ c3 (b1.extBut _ _ c1 q))) ⟨oe, b3.extBut _ _ ez hoe, hce⟩
    | some x =>
      have hy : ys[k2]? = none := by rcases hend with h | h; rw [hx] at h; cases h; exact h
      refine wpAny_bind (RZ.nextOf_tuple_item (h1.extBut b1.extBut D.i1z) (hl1.extBut b1.extBut D.l1z) hx fun g2 r2 b2 => wpAny_pure ?_)
      have t2 : IsPair g2 TO a b := b2.extBut _ _ D.TOi1 (b1.extBut _ _ D.TOz hTO)
      refine wpAny_bind (wpAny_seqItems t2 rfl ?_)
      refine wpAny_bind (wpAny_updateSeq_pair t2 fun g3 t3 b3 => ?_)
      refine wpAny_bind (wpAny_letGo (wpAny_pure ?_))
      refine wpAny_bind (wpAny_bind (wpAny_onRaise ?_))
      show wpAny _ _ (Builtin.SmallTypes.nextOf (.ref i2) >>= _) _ _ _
      refine wpAny_bind (RZ.nextOf_tuple_end hh (((h2.extBut b1.extBut D.i2z).extBut b2.extBut D.i12.symm).extBut b3.extBut D.TOi2.symm)
        (((hl2.extBut b1.extBut D.l2z).extBut b2.extBut D.l2i1).extBut b3.extBut D.l2TO) hy fun g4 e b4 he => ?_)
      obtain ⟨oe, hoe, hce⟩ := he
      have z4 : ZO g4 z TI TO .ellipsis f := b4 _ _ D.i2z.symm (b3.extBut _ _ D.TOz.symm (b2.extBut _ _ D.i1z.symm z1))
      have ez : e ≠ z := fun q => by subst q; rw [z4] at hoe; cases hoe; simp at hce
      refine wpAny_setField_rec z4 (by simp) fun g5 _ b5 => hE g5 e (fun c o c1 c2 c3 c4 q => b5.extBut _ _ c1 (b4 _ _ c4 (b3.extBut _ _ c2 (b2.extBut _ _ c3 (b1.extBut _ _ c1 q))))) ⟨oe, b5.extBut _ _ ez hoe, hce⟩
  · simp only [Bool.false_eq_true, if_false]
    refine wpAny_bind ?_
    rw [← Array.forIn_toList]
    simp only [List.forIn_cons, List.forIn_nil]
    refine wpAny_bind (wpAny_bind (wpAny_holding ?_))
    show wpAny _ _ (Builtin.SmallTypes.nextOf (.ref i1) >>= _) _ _ _
    cases hx : xs[k1]? with
    | none =>
      refine wpAny_bind (RZ.nextOf_tuple_end (s := { s with heap := g1 }) hh (h1.extBut b1.extBut D.i1z) (hl1.extBut b1.extBut D.l1z) hx fun g2 e b2 he => ?_)
      exact hE g2 e (fun c o c1 _ c3 _ q => b2 _ _ c3 (b1.extBut _ _ c1 q)) he
    | some x =>
      have hy : ys[k2]? = none := by rcases hend with h | h; rw [hx] at h; cases h; exact h
      refine wpAny_bind (RZ.nextOf_tuple_item (s := { s with heap := g1 }) (h1.extBut b1.extBut D.i1z) (hl1.extBut b1.extBut D.l1z) hx fun g2 r2 b2 => wpAny_pure ?_)
      refine wpAny_pure ?_
      refine wpAny_bind (wpAny_bind (wpAny_holding ?_))
      show wpAny _ _ (Builtin.SmallTypes.nextOf (.ref i2) >>= _) _ _ _
      refine wpAny_bind (RZ.nextOf_tuple_end (s := { s with heap := g2 }) hh ((h2.extBut b1.extBut D.i2z).extBut b2.extBut D.i12.symm) ((hl2.extBut b1.extBut D.l2z).extBut b2.extBut D.l2i1) hy fun g3 e b3 he => ?_)
      exact hE g3 e (fun c o c1 _ c3 c4 q => b3 _ _ c4 (b2.extBut _ _ c3 (b1.extBut _ _ c1 q))) he
/-- next(z) -/
theorem zo_next {z TI TO : Addr} {v : Value} {f : Bool} {Q : Value → Shared → Prop} (hz : ZO s.heap z TI TO v f)
    (h : wpAny (model prog w) A.in1 (Builtin.«zip.__next__» ⟨[.ref z], []⟩) (fun fin s' => ∃ v, fin = .done (.ret v) ∧ Q v s') E s) : wpAny (model prog w) A (Builtin.SmallTypes.nextOf (.ref z)) Q E s := by
  have hT : s.TypeIs (.ref z) "zip" := ⟨_, hz, rfl⟩
  unfold Builtin.SmallTypes.nextOf
  refine wpAny_bind (wpAny_callSpecial?_slot (name := Str.ofString "__next__") hT F.slot_zip_next (wpAny_call_entry F.slot_zip_next hT F.entry_zip_next (wpAny_mono h (fun fin s' ⟨v, e, q⟩ => ⟨v, e, wpAny_pure q⟩) fun _ _ q => q) (F.args_zip_next_1 _)))
/-- enumerate's next over what next gives -/
theorem en_next {e it : Addr} {i : Nat} {old : Value} {Q : Value → Shared → Prop} {St : Value → Heap → Prop} (he : IsEnum s.heap e it i old)
    (hin : ∀ (Q1 : Value → Shared → Prop), (∀ x h1, St x h1 → IsEnum h1 e it i old → Q1 x { s with heap := h1 }) → wpAny (model prog w) A (Builtin.SmallTypes.nextOf (.ref it)) Q1 E s)
    (hQ : ∀ x h1 h', St x h1 → IsEnumOut h' e it ((i : Int) + 1) x h1.objs.size → h'.get? h1.objs.size = some { cls := .type "tuple", data := .seq #[.int i s.toks, x] } →
      (∀ b o, b ≠ e → h1.get? b = some o → h'.get? b = some o) → Q (.ref h1.objs.size) { s with heap := h', toks := s.toks + 1 }) :
    wpAny (model prog w) A (Builtin.«enumerate.__next__» ⟨[.ref e], []⟩) (fun fin s' => ∃ v, fin = .done (.ret v) ∧ Q v s') E s := by
  obtain ⟨hp, g, d, tk, os⟩ := s
  show wpAny _ _ (field (.ref e) 2 >>= _) _ _ _
  refine wpAny_bind (wpAny_field he rfl (x := .ref it) rfl ?_)
  refine wpAny_bind (hin _ fun x h1 hst e1 => ?_)
  show wpAny _ _ (field (.ref e) 3 >>= _) _ _ ⟨h1, g, d, tk, os⟩
  refine wpAny_bind (wpAny_field e1 rfl (x := rawInt i) rfl ?_)
  show wpAny _ _ (field (.ref e) 4 >>= _) _ _ ⟨h1, g, d, tk, os⟩
  refine wpAny_bind (wpAny_field e1 rfl (x := .none) rfl ?_)
  show wpAny _ _ (mkInt i >>= _) _ _ ⟨h1, g, d, tk, os⟩
  refine wpAny_bind (wpAny_mkInt ?_)
  show wpAny _ _ (setField (.ref e) 3 (rawInt ((i : Int) + 1)) >>= _) _ _ ⟨h1, g, d, tk + 1, os⟩
  refine wpAny_bind (wpAny_setField_rec e1 (by simp) fun h2 e2 b2 => ?_)
  replace b2 : Heap.SameBut e h1 h2 := b2
  replace e2 : IsEnum h2 e it ((i : Int) + 1) old := e2
  show wpAny _ _ (setField (.ref e) 4 .none >>= _) _ _ ⟨h2, g, d, tk + 1, os⟩
  refine wpAny_bind (wpAny_setField_rec e2 (by simp) fun h3 e3 b3 => ?_)
  replace b3 : Heap.SameBut e h2 h3 := b3
  replace e3 : IsEnum h3 e it ((i : Int) + 1) old := e3
  show wpAny _ _ (newTuple [.int i tk, x] >>= _) _ _ ⟨h3, g, d, tk + 1, os⟩
  refine wpAny_bind (wpAny_newTuple ?_)
  have e4 : IsEnum (h3.push { cls := .type "tuple", data := .seq #[.int i tk, x] }) e it ((i : Int) + 1) old := Heap.get?_push_of_some _ e3
  generalize hh4 : h3.push { cls := .type "tuple", data := .seq #[.int i tk, x] } = h4 at e4
  have hsz : h3.objs.size = h1.objs.size := by rw [b3.1, b2.1]
  have hel : e < h1.objs.size := Heap.lt_size e1
  have t4 : h4.get? h1.objs.size = some { cls := .type "tuple", data := .seq #[.int i tk, x] } := by rw [← hh4, ← hsz]; exact Heap.get?_push_size _ rfl
  have k4 : ∀ b o, b ≠ e → h1.get? b = some o → h4.get? b = some o := fun b o be hb => by
    rw [← hh4]; exact Heap.get?_push_of_some _ (b3.extBut b o be (b2.extBut b o be hb))
  show wpAny _ _ (Builtin.SmallTypes.ownedTupleIsFree (.ref e) >>= _) _ _ ⟨h4, g, d, tk + 1, os⟩
  rw [hsz]
  refine wpAny_bind ?_
  unfold Builtin.SmallTypes.ownedTupleIsFree
  refine wpAny_bind (wpAny_field e4 rfl (x := .none) rfl (wpAny_pure ?_))
  simp only [if_true]
  refine wpAny_bind (wpAny_rule ?_)
  refine wpAny_bind (wpAny_field e4 rfl (x := old) rfl ?_)
  refine wpAny_bind (wpAny_setField_rec e4 (by simp) fun h5 e5 b5 => ?_)
  replace b5 : Heap.SameBut e h4 h5 := b5
  replace e5 : IsEnum h5 e it ((i : Int) + 1) x := e5
  show wpAny _ _ (Builtin.SmallTypes.ownedTupleHandOut (.ref e) (.ref h1.objs.size) >>= _) _ _ ⟨h5, g, d, tk + 1, os⟩
  refine wpAny_bind ?_
  unfold Builtin.SmallTypes.ownedTupleHandOut
  refine wpAny_bind (wpAny_setField_rec e5 (by simp) fun h6 e6 b6 => ?_)
  replace b6 : Heap.SameBut e h5 h6 := b6
  replace e6 : IsEnumOut h6 e it ((i : Int) + 1) x h1.objs.size := e6
  refine wpAny_setField_rec e6 (by simp) fun h7 e7 b7 => ?_
  replace b7 : Heap.SameBut e h6 h7 := b7
  replace e7 : IsEnumOut h7 e it ((i : Int) + 1) x h1.objs.size := e7
  refine wpAny_bind (wpAny_letGo (wpAny_pure ⟨_, rfl, hQ x h1 h7 hst e7 ?_ fun b o be hb => ?_⟩))
  · exact b7.extBut _ _ (Nat.ne_of_gt hel) (b6.extBut _ _ (Nat.ne_of_gt hel) (b5.extBut _ _ (Nat.ne_of_gt hel) t4))
  · exact b7.extBut b o be (b6.extBut b o be (b5.extBut b o be (k4 b o be hb)))
/-- enumerate(z) -/
theorem call_enumZ {z TI TO : Addr} {v : Value} {Q : Value → Shared → Prop} (hz : IsZip s.heap z TI TO v)
    (k : ∀ h', IsEnum h' s.heap.objs.size z 0 .none → (∀ b ob, s.heap.get? b = some ob → h'.get? b = some ob) → Q (.ref s.heap.objs.size) { s with heap := h' }) :
    wpAny (model prog w) A (call (.type "enumerate") [.ref z]) Q E s := by
  have M : Meets (Builtin.«enumerate.__new__» ⟨[.type "enumerate", .ref z], []⟩) (fun _ R s => IsZip s.heap z TI TO v ∧
      R (.ok (.ret (.ref s.heap.objs.size))) { s with heap := s.heap.push { cls := .type "enumerate", data := .fields #[.none, .bool false, .ref z, rawInt 0, .none, .none] } }) :=
    .of_wp fun prog w A R s hs => by
      obtain ⟨hp, gs, dr, tok, os⟩ := s
      obtain ⟨hh1, hR⟩ := hs
      have h_sub := sub_enumerate
      have step : ∀ {A' : Around} {E : Value → Shared → Prop} {Q : Value → Shared → Prop}, Q (.ref z) ⟨hp, gs, dr, tok, os⟩ → wpAny (model prog w) A' (pyIter (.ref z)) Q E ⟨hp, gs, dr, tok, os⟩ :=
        fun q => wpAny_pyIter_zip hh1 q
      wp_walk using step
      refine wpAny_stack_any fun stk => wpAny_pure ?_
      split
      · rename_i c _ _ _ _ _
        cases (c == Value.type "enumerate") <;> (wp_walk using step; exact ⟨_, rfl, hR⟩)
      · wp_walk using step
        exact ⟨_, rfl, hR⟩
  refine callType_new F.called_enumerate (by decide) (F.typeCall_enumerate_1 _) (F.newCall_enumerate_1 _) (fun obj => F.args_object_init_2 obj _) F.entry_enumerate_new M ⟨hz, ?_⟩
  have he : IsEnum (s.heap.push { cls := .type "enumerate", data := .fields #[.none, .bool false, .ref z, rawInt 0, .none, .none] }) s.heap.objs.size z 0 .none := Heap.get?_push_size _ rfl
  exact ⟨⟨_, he, rfl⟩, k _ he fun b ob q => Heap.get?_push_of_some _ q⟩
end
end DL
namespace DL
open PySem PySem.Spec PyProof.Rows L2
/-- the tuples at a and b, pairs of their items, each with its number -/
def IteZ (K : PySem.W.Frag) (a b : Addr) : It :=
  ⟨fun i H => ∃ (xs ys : List V) (x y : V), SqT K H a xs ∧ SqT K H b ys ∧ xs[i]? = some x ∧ ys[i]? = some y,
    fun i H v H' => ∃ T U x y, v = .ref U ∧ H T = none ∧ (upd H T (.tup [x, y])) U = none ∧ H' = upd (upd H T (.tup [x, y])) U (.tup [.int (i : Nat), .ref T]) ∧ (∀ xs, SqT K H a xs → xs[i]? = some x) ∧ ∀ ys, SqT K H b ys → ys[i]? = some y,
    fun i H => ∃ xs ys : List V, SqT K H a xs ∧ SqT K H b ys ∧ (xs.length ≤ i ∨ ys.length ≤ i)⟩
theorem turn_enumZ {P : Program} {w : World} {K : PySem.W.Frag} {elts : List Expr} {kk : Nat} {tpos : Pos} {a b e z TI TO i1 i2 : Addr} (D : ZipApart z TI TO i1 i2 a b) (ne : e ≠ z ∧ e ≠ TI ∧ e ≠ TO ∧ e ≠ i1 ∧ e ≠ i2) :
    Turn P w K (.Tuple elts kk tpos) (IteZ K a b) [e, z, TI, TO, i1, i2] e (fun i h => (∃ old, IsEnum h e z ((i : Nat) : Int) old) ∧ (∃ v f, ZO h z TI TO v f ∧ First v) ∧ IsPair h TI (.ref i1) (.ref i2) ∧ (∃ x y, IsPair h TO x y) ∧ h.IsTupleIter i1 a i ∧ h.IsTupleIter i2 b i) where
  mem := by simp
  obj := fun i h st c hc => by
    obtain ⟨⟨old, he⟩, ⟨v, f, hz, _⟩, hTI, ⟨x, y, hTO⟩, ⟨o1, e1, _, d1⟩, ⟨o2, e2, _, d2⟩⟩ := st
    have e' : c = e ∨ c = z ∨ c = TI ∨ c = TO ∨ c = i1 ∨ c = i2 := by simpa using hc
    rcases e' with q | q | q | q | q | q
    · rw [q]; exact ⟨_, he, fun v q => nomatch q⟩
    · rw [q]; exact ⟨_, hz, fun v q => nomatch q⟩
    · rw [q]; exact ⟨_, hTI, fun v q => nomatch q⟩
    · rw [q]; exact ⟨_, hTO, fun v q => nomatch q⟩
    · rw [q]; exact ⟨o1, e1, fun v q => by rw [d1] at q; cases q⟩
    · rw [q]; exact ⟨o2, e2, fun v q => by rw [d2] at q; cases q⟩
  keep := fun i h h' st k => by
    obtain ⟨⟨old, he⟩, ⟨v, f, hz, hv⟩, hTI, ⟨x, y, hTO⟩, h1, h2⟩ := st
    exact ⟨⟨old, k e (by simp) _ he⟩, ⟨v, f, k z (by simp) _ hz, hv⟩, k TI (by simp) _ hTI, ⟨x, y, k TO (by simp) _ hTO⟩, h1.at fun o q => k i1 (by simp) o q, h2.at fun o q => k i2 (by simp) o q⟩
  item := by
    intro X hP hw hK hc i pins s σ H E I hf st hg
    subst hP hw hK
    obtain ⟨⟨old, he⟩, ⟨v, f, hz, hv⟩, hTI, ⟨x0, y0, hTO⟩, h1, h2⟩ := st
    obtain ⟨xs, ys, x, y, hqx, hqy, hx, hy⟩ := hg
    obtain ⟨its, rv, p, _⟩ := I.tuple hqx
    obtain ⟨its2, rv2, p2, _⟩ := I.tuple hqy
    obtain ⟨u, hu, ru⟩ := rv.get hx
    obtain ⟨u2, hu2, ru2⟩ := rv2.get hy
    have hel : e < s.heap.objs.size := Heap.lt_size he
    have hlt : ∀ c ∈ [e, z, TI, TO, i1, i2], c < s.heap.objs.size := fun c hcm => by
      have e' : c = e ∨ c = z ∨ c = TI ∨ c = TO ∨ c = i1 ∨ c = i2 := by simpa using hcm
      rcases e' with q | q | q | q | q | q
      · rw [q]; exact hel
      · rw [q]; exact Heap.lt_size hz
      · rw [q]; exact Heap.lt_size hTI
      · rw [q]; exact Heap.lt_size hTO
      · rw [q]; obtain ⟨_, e1, _⟩ := h1; exact Heap.lt_size e1
      · rw [q]; obtain ⟨_, e2, _⟩ := h2; exact Heap.lt_size e2
    have hTy : s.TypeIs (.ref e) "enumerate" := ⟨_, he, rfl⟩
    unfold pyNext
    refine wpAny_bind (wpAny_attempt (wpAny_callSpecial?_slot (name := Str.ofString "__next__") hTy F.slot_enumerate_next (wpAny_call_entry F.slot_enumerate_next hTy F.entry_enumerate_next
      (en_next (St := fun x' g1 => x' = .ref s.heap.objs.size ∧ (∃ v f, ZO g1 z TI TO v f ∧ First v) ∧ (∃ x y, IsPair g1 TO x y) ∧ g1.IsTupleIter i1 a (i + 1) ∧ g1.IsTupleIter i2 b (i + 1) ∧ IsPair g1 s.heap.objs.size u u2 ∧ g1.objs.size = s.heap.objs.size + 1 ∧
          ∀ c o, c ≠ z → c ≠ TO → c ≠ i1 → c ≠ i2 → s.heap.get? c = some o → g1.get? c = some o) he (fun Q1 hQ1 => ?_) fun x' g1 g2 hst he2 hP2 hk2 => ?_) (F.args_enumerate_next_1 _))))
    · refine zo_next hz (zo_item D hz hv hTI hTO h1 h2 (show s.heap.IsTuple a its.toArray from p) (show s.heap.IsTuple b its2.toArray from p2) (x := u) (y := u2) (by simpa using hu) (by simpa using hu2) fun g v' f' a' b' z1 fv t1 r1 q1 T1 s1 k1 => ?_)
      exact hQ1 _ g ⟨rfl, ⟨v', f', z1, fv⟩, ⟨a', b', t1⟩, r1, q1, T1, s1, k1⟩ (k1 _ _ ne.1 ne.2.2.1 ne.2.2.2.1 ne.2.2.2.2 he)
    · obtain ⟨rfl, ⟨v', f', z1, fv⟩, ⟨a', b', t1⟩, r1, q1, T1, s1, k1⟩ := hst
      refine wpAny_pure ?_
      refine ⟨_, rfl, wpAny_letOwnedTupleGo_enum (s := { s with heap := g2, toks := s.toks + 1 }) he2 fun g3 he3 sb => ?_⟩
      have sz2 : e < g1.objs.size := by rw [s1]; exact Nat.lt_succ_of_lt hel
      have up : ∀ c o, c ≠ e → g1.get? c = some o → g3.get? c = some o := fun c o hce q => sb.extBut c o hce (hk2 c o hce q)
      have new1 : ObjOk X.prog X.w (upd H s.heap.objs.size (.tup [x, y])) g1 s.heap.objs.size (.tup [x, y]) :=
        ⟨by show 2 ≤ sizeLine; decide, [u, u2], .cons ru (.cons ru2 .nil), ⟨_, T1, rfl, _, rfl⟩⟩
      have I1 : Inv X pins σ (upd H s.heap.objs.size (.tup [x, y])) { s with heap := g1, toks := s.toks } :=
        I.turnedNew (t' := s.toks) (ch := [e, z, TI, TO, i1, i2]) (fun c o hb q => k1 c o (fun q' => hb (by simp [q'])) (fun q' => hb (by simp [q'])) (fun q' => hb (by simp [q'])) (fun q' => hb (by simp [q'])) q) hf (Nat.le_refl _) new1
      have P3 : g3.get? g1.objs.size = some { cls := .type "tuple", data := .seq #[.int i s.toks, .ref s.heap.objs.size] } := sb.extBut _ _ (Nat.ne_of_gt sz2) hP2
      have hn1 : H s.heap.objs.size = none := I.hok.fresh (Nat.le_refl _)
      have hn2 : (upd H s.heap.objs.size (.tup [x, y])) g1.objs.size = none := I1.hok.fresh (Nat.le_refl _)
      have new2 : ObjOk X.prog X.w (upd (upd H s.heap.objs.size (.tup [x, y])) g1.objs.size (.tup [.int (i : Nat), .ref s.heap.objs.size])) g3 g1.objs.size (.tup [.int (i : Nat), .ref s.heap.objs.size]) :=
        ⟨by show 2 ≤ sizeLine; decide, [.int i s.toks, .ref s.heap.objs.size], .cons ⟨_, rfl⟩ (.cons rfl .nil), ⟨_, P3, rfl, _, rfl⟩⟩
      have hf1 : ∀ c ∈ [e], FpOk X pins (upd H s.heap.objs.size (.tup [x, y])) c := fun c hcm => by
        have := hf c (by rw [List.mem_singleton.mp hcm]; simp)
        refine ⟨?_, this.2⟩
        rw [upd_ne (Nat.ne_of_lt (hlt c (by rw [List.mem_singleton.mp hcm]; simp)))]
        exact this.1
      have I2 := I1.turnedNew (t' := s.toks + 1) (ch := [e]) (h' := g3) (fun c o hb q => up c o (fun q' => hb (by simp [q'])) q) hf1 (Nat.le_refl _) new2
      refine ⟨.ref g1.objs.size, _, I2, rfl, ⟨_, _, x, y, rfl, hn1, hn2, rfl, fun l hl => by rw [I.tuple_inj hl hqx]; exact hx, fun l hl => by rw [I.tuple_inj hl hqy]; exact hy⟩, ⟨⟨.ref s.heap.objs.size, ?_⟩, ⟨v', f', up _ _ ne.1.symm z1, fv⟩, up _ _ ne.2.1.symm (k1 _ _ D.TIz D.TITO D.TIi1 D.TIi2 hTI), ⟨a', b', up _ _ ne.2.2.1.symm t1⟩, r1.at fun o q => up _ _ ne.2.2.2.1.symm q, q1.at fun o q => up _ _ ne.2.2.2.2.symm q⟩, fun c hcm => ?_⟩
      · rw [show ((i + 1 : Nat) : Int) = (i : Int) + 1 by omega]
        exact he3
      · have l1 := hlt c hcm
        rw [upd_ne (Nat.ne_of_lt (by rw [s1]; exact Nat.lt_succ_of_lt l1)), upd_ne (Nat.ne_of_lt l1)]
        exact (hf c hcm).1
  done := by
    intro X hP hw hK hc i pins s σ H E I hf st hg
    subst hP hw hK
    obtain ⟨⟨old, he⟩, ⟨v, f, hz, hv⟩, hTI, ⟨x0, y0, hTO⟩, h1, h2⟩ := st
    obtain ⟨xs, ys, hqx, hqy, hend⟩ := hg
    obtain ⟨its, rv, p, _⟩ := I.tuple hqx
    obtain ⟨its2, rv2, p2, _⟩ := I.tuple hqy
    have l1 := rv.length
    have l2 := rv2.length
    have hN : its.toArray[i]? = none ∨ its2.toArray[i]? = none := by
      rcases hend with q | q
      · exact .inl (by simp; omega)
      · exact .inr (by simp; omega)
    have hTy : s.TypeIs (.ref e) "enumerate" := ⟨_, he, rfl⟩
    unfold pyNext
    refine wpAny_bind (wpAny_attempt (wpAny_callSpecial?_slot (name := Str.ofString "__next__") hTy F.slot_enumerate_next (wpAny_call_entry F.slot_enumerate_next hTy F.entry_enumerate_next ?_ (F.args_enumerate_next_1 _))))
    show wpAny _ _ (field (.ref e) 2 >>= _) _ _ _
    refine wpAny_bind (wpAny_field he rfl (x := .ref z) rfl ?_)
    refine wpAny_bind (zo_next hz (zo_end (by exact I.ok.hd hc) D hz hv hTI hTO h1 h2 (show s.heap.IsTuple a its.toArray from p) (show s.heap.IsTuple b its2.toArray from p2) hN fun g x' kp hx' => ?_))
    obtain ⟨ob, hob, hcl⟩ := hx'
    refine wpAny_bind (wpAny_isInstance (T := "StopIteration") (b := true) ⟨ob, hob, hcl⟩ isSubtype_stop ?_)
    exact wpAny_pure ⟨rfl, I.turnedL (t' := s.toks) (ch := [e, z, TI, TO, i1, i2]) (fun c o hb q =>
      kp c o (fun q' => hb (by simp [q'])) (fun q' => hb (by simp [q'])) (fun q' => hb (by simp [q'])) (fun q' => hb (by simp [q'])) q) hf⟩
  self := fun A i s Q E st hq => let ⟨⟨_, he⟩, _⟩ := st; wpAny_pyIter_enum he hq
theorem walkD_enumZ {C : Cc} {η1 : Nm} {H1 : Hp} {p q : Addr} {ds es : List D} {gd : List (Nat × DO)} (h : WalkD C (RZ.ItzT C.K p q) (zipD ds es) gd η1 H1) : WalkD C (IteZ C.K p q) (enumD (zipD ds es)) gd η1 H1 := by
  intro η1' hr ho η H μ n o hc
  obtain ⟨w1, w2⟩ := h η1' hr ho η H μ n o hc
  have hl : (enumD (zipD ds es)).length = (zipD ds es).length := by simp [enumD]
  rw [hl]
  refine ⟨fun i hi => ?_, w2⟩
  obtain ⟨go, yl⟩ := w1 i hi
  refine ⟨go, ?_⟩
  rintro v H' ⟨T, U, x, y, rfl, hT, hU, hH, hx, hy⟩
  obtain ⟨d, e1, sm, r⟩ := yl (.ref T) (upd H T (.tup [x, y])) ⟨T, x, y, rfl, hT, rfl, hx, hy⟩
  subst hH
  obtain ⟨sm2, rp⟩ := rep_pair hU rfl (.int (i : Nat)) r
  exact ⟨_, by simp [enumD, List.getElem?_mapIdx, e1], fun b o k => sm2 b o (sm b o k), rp⟩
section
variable {X : Cx} {C : Cc} {W : WX} {a b : Expr} {pos tpos zpos : Pos} {fs : FE (List D)}
def tEnumZ (K : PySem.W.Frag) (ta : TA) : TI := fun σ H R => ta σ H fun vs H1 => ∃ a b xs ys, vs = [.ref a, .ref b] ∧ SqT K H1 a xs ∧ SqT K H1 b ys ∧ R (IteZ K a b) H1
theorem pi_enumZ {e e2 : Expr} {ta : TA} {p p2 pos zpos tpos : Pos} {elts : List Expr} {kk : Nat} (hg : Gl X "enumerate") (hm : X.mg "enumerate" = none) (hg2 : Gl X "zip") (hm2 : X.mg "zip" = none) (ha : PA X [e, e2] ta)
    (hs : starEach [e, e2] X.env = (false, eval e X.env) :: starEach [e2] X.env := by rfl) (hpl : (backTo zpos (starEach [e2] X.env)).any (·.1) = false := by rfl)
    (hz : starEach [.Call (.Name "zip" p2) [e, e2] [] zpos] X.env = (false, eval (.Call (.Name "zip" p2) [e, e2] [] zpos) X.env) :: starEach [] X.env := by rfl) :
    PI X (.Tuple elts kk tpos) (.Call (.Name "enumerate" p) [.Call (.Name "zip" p2) [e, e2] [] zpos] [] pos) (tEnumZ X.K ta) := by
  refine ⟨fun pins s σ H R I h => ?_⟩
  refine Call_ (ld_blt I hg hm boot_enumerate ?_)
  refine PyProof.Rows.callWith_type1 (PyProof.Rows.args_cons ?_ hz) hz rfl
  refine Call_ (ld_blt I hg2 hm2 PyProof.Rows.boot_zip (PyProof.Rows.callWith_type1 (thn (ha.run zpos pins s σ H _ I h) fun us s1 ⟨vs, H1, I1, r1, q1⟩ => ?_) hs hpl))
  obtain ⟨a, b, xs, ys, ex, hqx, hqy, q⟩ := q1
  subst ex
  cases r1 with
  | cons r rr =>
    cases rr with
    | cons r' rr =>
      cases rr
      cases r
      cases r'
      obtain ⟨its, rv, p1, _⟩ := I1.tuple hqx
      obtain ⟨its2, rv2, p2, _⟩ := I1.tuple hqy
      obtain ⟨o1, ho1, _⟩ := id p1
      obtain ⟨o2, ho2, _⟩ := id p2
      refine RZ.call_zipT (show s1.heap.IsTuple a its.toArray from p1) (show s1.heap.IsTuple b its2.toArray from p2) fun h' hz' hTI hTO h1 h2 hsz hk => ?_
      refine PyProof.Rows.args_nil ?_
      refine call_enumZ (s := { s1 with heap := h' }) hz' fun h2' he hk2 => wpAny_pyIter_enum he ?_
      have hsz : h'.objs.size = s1.heap.objs.size + 5 := hsz
      have I2 : Inv X pins σ H1 { s1 with heap := h2' } := I1.kept (t' := s1.toks) fun b o e => hk2 b o (hk b o e)
      refine ⟨h'.objs.size, [h'.objs.size, s1.heap.objs.size + 4, s1.heap.objs.size + 2, s1.heap.objs.size + 3, s1.heap.objs.size, s1.heap.objs.size + 1], _, _, H1, rfl, I2, turn_enumZ (PySem.W.ktu_apart s1.heap.objs.size a b (Heap.lt_size ho1) (Heap.lt_size ho2)) (by rw [hsz]; refine ⟨?_, ?_, ?_, ?_, ?_⟩ <;> exact Nat.ne_of_gt (by omega)),
        ⟨⟨_, he⟩, ⟨_, _, hk2 _ _ hz', .inl rfl⟩, hk2 _ _ hTI, ⟨_, _, hk2 _ _ hTO⟩, h1.at fun o e => hk2 _ _ e, h2.at fun o e => hk2 _ _ e⟩, fun c hcm => ?_, q⟩
      have hle : s1.heap.objs.size ≤ c := by
        have e' : c = h'.objs.size ∨ c = s1.heap.objs.size + 4 ∨ c = s1.heap.objs.size + 2 ∨ c = s1.heap.objs.size + 3 ∨ c = s1.heap.objs.size ∨ c = s1.heap.objs.size + 1 := by simpa using hcm
        rcases e' with z | z | z | z | z | z
        · rw [z, hsz]; exact Nat.le_add_right _ _
        · rw [z]; exact Nat.le_add_right _ _
        · rw [z]; exact Nat.le_add_right _ _
        · rw [z]; exact Nat.le_add_right _ _
        · rw [z]; exact Nat.le_refl _
        · rw [z]; exact Nat.le_add_right _ _
      exact I1.fpOk hle (I1.hok.fresh hle)
def iEnZ (fs : FE (List D)) : FE ItD := fun ρ μ => (fs ρ μ).bind fun ds μ1 => match ds with
  | [.tup xs, .tup ys] => .ok (enumD (zipD xs ys), []) μ1
  | _ => .bad
theorem di_enumZ {p p2 : Pos} {elts : List Expr} {kk : Nat} (hm : X.mg "enumerate" = none) (hm2 : X.mg "zip" = none) (ha : DA X C W [a, b] fs) (hK : X.K = C.K := by rfl) (hg : Gl X "enumerate" := by rfl) (hg2 : Gl X "zip" := by rfl)
    (hs : starEach [a, b] X.env = (false, eval a X.env) :: starEach [b] X.env := by rfl) (hpl : (backTo zpos (starEach [b] X.env)).any (·.1) = false := by rfl)
    (hz : starEach [.Call (.Name "zip" p2) [a, b] [] zpos] X.env = (false, eval (.Call (.Name "zip" p2) [a, b] [] zpos) X.env) :: starEach [] X.env := by rfl) :
    DI X C W (.Tuple elts kk tpos) (.Call (.Name "enumerate" p) [.Call (.Name "zip" p2) [a, b] [] zpos] [] pos) (iEnZ fs) := by
  refine ⟨pi_imp (pi_enumZ hg hm hg2 hm2 ha.pa hs hpl hz) fun σ H Q => ?_⟩
  rintro ⟨η, ρ, μ, s, o, pp⟩
  refine ⟨η, ρ, μ, s, o, Post.bind pp fun ds η1 H1 μ1 n1 o1 p1 vs rv => ?_⟩
  split at p1
  · rename_i xs ys
    obtain ⟨v, w, rfl, r1, r2⟩ := rv.two
    cases r1 with
    | tup g1 g2 =>
      cases r2 with
      | tup k1 k2 =>
        refine ⟨_, _, _, _, rfl, by rw [hK]; exact g1, by rw [hK]; exact k1, ?_⟩
        rw [hK]
        exact p1.now o1 _ (walkD_enumZ (walkD_zipT (walkD_tup g1 g2) (walkD_tup k1 k2)))
  · exact p1.elim
@[simp] theorem x_iEnZ {ρ : En} {μ : Sto} : iEnZ fs ρ μ = (fs ρ μ).bind fun ds μ1 => match ds with
  | [.tup xs, .tup ys] => .ok (enumD (zipD xs ys), []) μ1
  | _ => .bad := rfl
end
end DL
namespace Lw_k22
open PySem PySem.Spec PyProof.Rows L2 DL
noncomputable section
def top (i : Nat) : Stmt := PySem.Challenge.pw_loadturns_k22_whole_numbers_on_tags.main.body.getD i (.Pass ⟨0, 0, 0, 0⟩)
abbrev st__law_dice : Stmt := top 23
abbrev st__law_rest : Stmt := top 27
abbrev st__law_missed_digit : Stmt := top 28
abbrev st__law_missed_swap : Stmt := top 29
abbrev st__law_finds : Stmt := top 31
abbrev st__law_first : Stmt := top 32
abbrev st_demand : Stmt := top 5
abbrev st_is_in : Stmt := top 6
abbrev st_is_tuple : Stmt := top 7
abbrev st_demand_weights : Stmt := top 12
abbrev st_missed_digit : Stmt := top 16
abbrev st_missed_swap : Stmt := top 17
abbrev st_finds_all : Stmt := top 18
abbrev st__law_roll : Stmt := top 24
abbrev st__law_pick : Stmt := top 25
abbrev st_are_in : Stmt := top 8
abbrev st_demand_digits : Stmt := top 13
abbrev st_rest_of : Stmt := top 15
abbrev st_check : Stmt := top 14
abbrev st_lost_digit : Stmt := top 19
abbrev st_near_tags : Stmt := top 20
abbrev st__law_near : Stmt := top 30
abbrev st_first_weights : Stmt := top 21
abbrev st_law : Stmt := top 34
abbrev st__law_refused : Stmt := top 26
abbrev st__law_asked : Stmt := top 33
/-- what the top has written -/
structure Tx (prog : Program) (w : World) (C : Cc) (mg : Str → Option Value) : Prop where
  hw : w = C.w
  g_MOST_DIGITS : ∃ t, mg "MOST_DIGITS" = some (.int (8) t)
  g_MOST_MODULUS : ∃ t, mg "MOST_MODULUS" = some (.int (97) t)
  z_abs : mg "abs" = none
  z_all : mg "all" = none
  z_any : mg "any" = none
  z_bool : mg "bool" = none
  z_enumerate : mg "enumerate" = none
  z_int : mg "int" = none
  z_isinstance : mg "isinstance" = none
  z_len : mg "len" = none
  z_max : mg "max" = none
  z_min : mg "min" = none
  z_range : mg "range" = none
  z_set : mg "set" = none
  z_sorted : mg "sorted" = none
  z_sum : mg "sum" = none
  z_tuple : mg "tuple" = none
  z_zip : mg "zip" = none
  e_BadArgument : ∃ fI, SupX.SupTxt prog C.K mg "BadArgument" (C.xf 0) (C.xc 0) fI
  e_NotPossible : ∃ fI, SupX.SupTxt prog C.K mg "NotPossible" (C.xf 1) (C.xc 1) fI
  tells__law_refused : ∃ g, Tells C.K mg C 0 "" "_law_refused" "call" "e" "BadArgument" g (defScope st__law_refused) (defBody st__law_refused)
  tells__law_asked : ∃ g, Asks C.K mg C 1 "not " "_law_asked" "call" "e" "NotPossible" g (defScope st__law_asked) (defBody st__law_asked)
theorem kb_check_0 {K : PySem.W.Frag} {f : Addr} {fd : FuncData} (F : Fun K "check" "check" st_check f fd) : KB K fd ["modulus", "weights", "digits"] ["digits", "weights", "modulus"] [2, 1, 0] := by
  obtain ⟨oc, od, kV, doc, pm, an, cdv, ct, osl, rfl, lk, hcd⟩ := F.ex
  intro s ws _ hl
  match ws, hl with
  | [_, _, _], _ => exact .of_eq rfl
theorem kb_missed_digit_0 {K : PySem.W.Frag} {f : Addr} {fd : FuncData} (F : Fun K "missed_digit" "missed_digit" st_missed_digit f fd) : KB K fd ["modulus", "weights"] ["weights", "modulus"] [1, 0] := by
  obtain ⟨oc, od, kV, doc, pm, an, cdv, ct, osl, rfl, lk, hcd⟩ := F.ex
  intro s ws _ hl
  match ws, hl with
  | [_, _], _ => exact .of_eq rfl
theorem kb_missed_swap_0 {K : PySem.W.Frag} {f : Addr} {fd : FuncData} (F : Fun K "missed_swap" "missed_swap" st_missed_swap f fd) : KB K fd ["modulus", "weights"] ["weights", "modulus"] [1, 0] := by
  obtain ⟨oc, od, kV, doc, pm, an, cdv, ct, osl, rfl, lk, hcd⟩ := F.ex
  intro s ws _ hl
  match ws, hl with
  | [_, _], _ => exact .of_eq rfl
theorem kb_finds_all_0 {K : PySem.W.Frag} {f : Addr} {fd : FuncData} (F : Fun K "finds_all" "finds_all" st_finds_all f fd) : KB K fd ["modulus", "weights"] ["weights", "modulus"] [1, 0] := by
  obtain ⟨oc, od, kV, doc, pm, an, cdv, ct, osl, rfl, lk, hcd⟩ := F.ex
  intro s ws _ hl
  match ws, hl with
  | [_, _], _ => exact .of_eq rfl
theorem kb_lost_digit_0 {K : PySem.W.Frag} {f : Addr} {fd : FuncData} (F : Fun K "lost_digit" "lost_digit" st_lost_digit f fd) : KB K fd ["modulus", "weights", "digits", "place", "rest"] ["rest", "place", "digits", "weights", "modulus"] [4, 3, 2, 1, 0] := by
  obtain ⟨oc, od, kV, doc, pm, an, cdv, ct, osl, rfl, lk, hcd⟩ := F.ex
  intro s ws _ hl
  match ws, hl with
  | [_, _, _, _, _], _ => exact .of_eq rfl
theorem kb_near_tags_0 {K : PySem.W.Frag} {f : Addr} {fd : FuncData} (F : Fun K "near_tags" "near_tags" st_near_tags f fd) : KB K fd ["modulus", "weights", "digits", "rest"] ["rest", "digits", "weights", "modulus"] [3, 2, 1, 0] := by
  obtain ⟨oc, od, kV, doc, pm, an, cdv, ct, osl, rfl, lk, hcd⟩ := F.ex
  intro s ws _ hl
  match ws, hl with
  | [_, _, _, _], _ => exact .of_eq rfl
theorem kb_first_weights_0 {K : PySem.W.Frag} {f : Addr} {fd : FuncData} (F : Fun K "first_weights" "first_weights" st_first_weights f fd) : KB K fd ["modulus", "many"] ["many", "modulus"] [1, 0] := by
  obtain ⟨oc, od, kV, doc, pm, an, cdv, ct, osl, rfl, lk, hcd⟩ := F.ex
  intro s ws _ hl
  match ws, hl with
  | [_, _], _ => exact .of_eq rfl
/-! ### _law_dice, slots 0 script 1 spot 2 own 3 mixed 4 cell -/
def B__law_dice_1 : FS := (sSet 3 (eMod (eCall gIntOf (eCons (eAdd (eMul (eVar 3) (eC (.int 69621))) (eMod (eCall gIntOf (eCons (eVar 4) eNil)) (eC (.int 2147480009)))) eNil)) (eC (.int 2147480009))))
def F__law_dice : FS :=
 (sSeq (sSet 2 (eIf (tCmp gLt (eVar 1) (eCall gLen (eCons (eVar 0) eNil))) (eIx (eVar 0) (eVar 1)) (eAdd (eMul (eC (.int 811)) (eVar 1)) (eC (.int 37)))))
 (sSeq (sSet 3 (eAdd (eC (.int 700001)) (eMul (eC (.int 6947)) (eVar 1))))
 (sSeq (sFor (iSeq (eFz (eCatL (eFz (eCutL (eVar 0) oNone (oSome (eC (.int 6))))) (eFz (eLst (eCons (eVar 2) eNil)))))) (tgN 4)
 B__law_dice_1)
 (sRet (eMu (eLst (eCons (eIf (tOr (tCmp gLt (eVar 2) (eC (.int 0))) (tCmp gGe (eVar 2) (ePow (eC (.int 10)) (eC (.int 16))))) (eCall gAbs (eCons (eVar 2) eNil)) (eC (.int 0))) (eCons (eVar 3) (eCons (eC (.int 0)) eNil)))))))))
theorem sc__law_dice : FnScope ["script", "spot", "own", "mixed", "cell"] ["script", "spot"] (defScope st__law_dice) := ⟨rfl, rfl, rfl, by decide +kernel, rfl, by decide +kernel, by decide +kernel⟩
def R__law_dice : FD := runF 5 F__law_dice
theorem y__law_dice {prog : Program} {w : World} {C : Cc} {mg : Str → Option Value} {base : Heap} {f : Addr} {fd : FuncData} (T : Tx prog w C mg) (Fu : Fun C.K "_law_dice" "_law_dice" st__law_dice f fd) : FnOk prog w C.K mg base (L2.CX prog w) 1 f fd ["script", "spot"] (spD C 2 R__law_dice) := by
  have hN := sc__law_dice.nd
  refine df_of (k := 0) Fu sc__law_dice fun cdv A outer s H E hr => ?_
  exact (ds_cons (ds_set 2 hN (de_if (dt_c1 oc_lt (de_var 1) (de_cb cc_len T.z_len bb_len (da_cons (de_var 0) da_nil))) (de_ix (de_var 0) (de_var 1)) (de_add (de_mul de_int (de_var 1)) de_int)))
 (ds_cons (ds_set 3 hN (de_add de_int (de_mul de_int (de_var 1))))
 (ds_cons (ds_for (passes_of rfl) (di_seq (DEL.fz (de_catL (DEL.fz (de_cutL (de_var 0) do_none (do_some de_int))) (DEL.fz (de_lst (da_cons (de_var 2) da_nil)))))) (dg_name 4 hN)
 (ds_one (ds_set 3 hN (de_mod (de_ct cc_int T.z_int bb_int (da_cons (de_add (de_mul (de_var 3) de_int) (de_mod (de_ct cc_int T.z_int bb_int (da_cons (de_var 4) da_nil)) de_int)) da_nil)) de_int))))
 (ds_one (ds_ret (DEL.mu (de_lst (da_cons (de_if (DW.dt (dw_or (dt_c1 oc_lt (de_var 2) de_int) (dw_or1 (dt_c1 oc_ge (de_var 2) (de_pow de_int de_int))))) (de_cb cc_abs T.z_abs bb_abs (da_cons (de_var 2) da_nil)) de_int) (da_cons (de_var 3) (da_cons de_int da_nil))))))))))
theorem dice_ok {d : D} {ns : List Int} (hd : ScrD d ns) (hl : ns.length ≤ 63) (j : Nat) (μ : Sto) : ∃ o, R__law_dice [d, .int j] μ = .ok (.obj μ.length) (μ ++ [o]) ∧ Dice 0 (μ ++ [o]) μ.length := by
  obtain ⟨own, ho⟩ : ∃ own : Int, ∀ (ρ : En) (μ : Sto), ρ[0]? = some (some d) → ρ[1]? = some (some (.int j)) → (eIf (tCmp gLt (eVar 1) (eCall gLen (eCons (eVar 0) eNil))) (eIx (eVar 0) (eVar 1)) (eAdd (eMul (eC (.int 811)) (eVar 1)) (eC (.int 37)))) ρ μ = .ok (.int own) μ := by
    by_cases c : j < ns.length
    · have e : L2.atI (ns.map D.int) (j : Int) = some (.int ns[j]) := atI_nat (by simp [c])
      refine ⟨ns[j], fun ρ μ h0 h1 => ?_⟩
      rcases hd with rfl | rfl <;> simp [h0, h1, c, e]
    · refine ⟨811 * j + 37, fun ρ μ h0 h1 => ?_⟩
      rcases hd with rfl | rfl <;> simp [h0, h1, c, cMul_l _ (show -18446744073709551616 < (811 : Int) ∧ (811 : Int) < 18446744073709551616 by decide)]
  have hcut : ∃ items : List Int, items.length ≤ 63 ∧ DL.cutD (ns.map D.int) none (some 6) = items.map .int := ⟨(ns.drop (HT.sIx ns.length 0 none)).take (HT.sIx ns.length ns.length (some 6) - HT.sIx ns.length 0 none), by simp; omega, by simp [DL.cutD, List.map_take, List.map_drop]⟩
  obtain ⟨items, hi, hc⟩ := hcut
  have loop : ∀ (m : Int), 0 ≤ m → ∃ m' c', 0 ≤ m' ∧ forD [] (tgN 4) B__law_dice_1 (items.map .int ++ [.int own]) [some d, some (.int j), some (.int own), some (.int m), none] μ = .nx [some d, some (.int j), some (.int own), some (.int m'), c'] μ := by
    intro m hm
    refine forD_inv (fun k ρ μ' => ∃ m' c', 0 ≤ m' ∧ ρ = [some d, some (.int j), some (.int own), some (.int m'), c'] ∧ μ' = μ) (fun r => ∃ m' c', 0 ≤ m' ∧ r = .nx [some d, some (.int j), some (.int own), some (.int m'), c'] μ) _ 0 _ _ ⟨m, none, hm, rfl, rfl⟩ ?_ ?_
    · rintro i x ρ μ' hx ⟨m', c', h1, rfl, rfl⟩
      obtain ⟨z, rfl⟩ : ∃ z, x = .int z := by
        have := List.mem_of_getElem? hx
        simp at this
        rcases this with ⟨z, _, rfl⟩ | rfl
        · exact ⟨z, rfl⟩
        · exact ⟨_, rfl⟩
      refine ⟨by simp, _, rfl, ?_⟩
      simp [B__law_dice_1, cMul_r _ (show -18446744073709551616 < (69621 : Int) ∧ (69621 : Int) < 18446744073709551616 by decide), cMod_ok _ (show (0 : Int) < 2147480009 by decide)]
      omega
    · rintro ρ μ' ⟨m', c', h1, rfl, rfl⟩
      exact ⟨by simp, m', c', h1, rfl⟩
  obtain ⟨m', c', hm', hloop⟩ := loop (700001 + 6947 * j) (by omega)
  have hown := ho [some d, some (.int j), none, none, none] μ rfl rfl
  have h16 : cPow 10 16 = true := cPow_ok (by decide)
  have hm0 : cMul 6947 j = true := cMul_l _ (by decide)
  have hlen : items.length + 1 ≤ 16777216 := by omega
  have hlist : listOf μ d = some (ns.map .int) := by rcases hd with rfl | rfl <;> rfl
  obtain ⟨a, ha, hres⟩ : ∃ a : Int, 0 ≤ a ∧ (eIf (DL.tOr (DL.tCmp gLt (eVar 2) (eC (.int 0))) (DL.tCmp gGe (eVar 2) (ePow (eC (.int 10)) (eC (.int 16))))) (eCall gAbs (eCons (eVar 2) eNil)) (eC (.int 0))) [some d, some (.int j), some (.int own), some (.int m'), c'] μ = .ok (.int a) μ := by
    by_cases c : own < 0
    · exact ⟨-own, by omega, by simp [c]⟩
    · by_cases c2 : (10 : Int) ^ 16 ≤ own
      · exact ⟨own, by omega, by simp [c, h16]; intro q; omega⟩
      · exact ⟨0, by omega, by simp [c, h16]; intro q; omega⟩
  refine ⟨.lst [.int a, .int m', .int 0], ?_, ⟨a, m', 0, by simp, ha, hm', by omega, by omega⟩⟩
  simp [-x_eIf, R__law_dice, x_runF, F__law_dice, hown, hm0, hlist, hc, hlen, hloop, hres, SZ_eq]
theorem dice_W {d : D} {ns : List Int} {P : D → Sto → Prop} (hd : ScrD d ns) (hl : ns.length ≤ 63) (j : Nat) (μ : Sto) (hP : ∀ o, Dice 0 (μ ++ [o]) μ.length → P (.obj μ.length) (μ ++ [o])) : (R__law_dice [d, .int j] μ).W P := by
  obtain ⟨o, e, h⟩ := dice_ok hd hl j μ
  exact .of e (hP o h)

abbrev G__law_dice : FD := R__law_dice
theorem le__law_dice (ds : List D) (μ : Sto) (_ : Scoped μ) (_ : unders μ.length ds = true) : LeG μ (R__law_dice ds μ) (G__law_dice ds μ) := .inr (.inl rfl)
/-! ### _law_rest, slots 0 modulus 1 weights 2 digits 3 total 4 weight 5 digit -/
def B__law_rest_1 : FS := (sSet 3 (eAdd (eVar 3) (eMul (eVar 4) (eVar 5))))
def F__law_rest : FS :=
 (sSeq (sSet 3 (eC (.int 0)))
 (sSeq (sFor (eCall gZip (eCons (eVar 1) (eCons (eVar 2) eNil))) (tgT (tgsCons (tgN 4) (tgsCons (tgN 5) tgsNil)))
 B__law_rest_1)
 (sRet (eMod (eCall gIntOf (eCons (eVar 3) eNil)) (eVar 0)))))
theorem sc__law_rest : FnScope ["modulus", "weights", "digits", "total", "weight", "digit"] ["modulus", "weights", "digits"] (defScope st__law_rest) := ⟨rfl, rfl, rfl, by decide +kernel, rfl, by decide +kernel, by decide +kernel⟩
def R__law_rest : FD := runF 6 F__law_rest
theorem y__law_rest {prog : Program} {w : World} {C : Cc} {mg : Str → Option Value} {base : Heap} {f : Addr} {fd : FuncData} (T : Tx prog w C mg) (Fu : Fun C.K "_law_rest" "_law_rest" st__law_rest f fd) : FnOk prog w C.K mg base (L2.CX prog w) 1 f fd ["modulus", "weights", "digits"] (spD C 3 R__law_rest) := by
  have hN := sc__law_rest.nd
  refine df_of (k := 0) Fu sc__law_rest fun cdv A outer s H E hr => ?_
  exact (ds_cons (ds_set 3 hN de_int)
 (ds_cons (ds_for (passes_of rfl) (di_zip T.z_zip (da_cons (de_var 1) (da_cons (de_var 2) da_nil))) (dg_tup (dgs_cons (dg_name 4 hN) (dgs_cons (dg_name 5 hN) dgs_nil)) (tgs_len_cons (tgs_len_cons tgs_len_nil)))
 (ds_one (ds_set 3 hN (de_add (de_var 3) (de_mul (de_var 4) (de_var 5))))))
 (ds_one (ds_ret (de_mod (de_ct cc_int T.z_int bb_int (da_cons (de_var 3) da_nil)) (de_var 0))))))
abbrev G__law_rest : FD := R__law_rest
theorem le__law_rest (ds : List D) (μ : Sto) (_ : Scoped μ) (_ : unders μ.length ds = true) : LeG μ (R__law_rest ds μ) (G__law_rest ds μ) := .inr (.inl rfl)
/-! ### _law_missed_digit, slots 0 modulus 1 weights 2 place 3 off 4 zeros 5 other -/
def B__law_missed_digit_1 : FS := (sSeq (sSet 4 (eOp gRepA (eTup (eCons (eC (.int 0)) eNil)) (eCall gLen (eCons (eVar 1) eNil))))
 (sSeq (sSet 5 (eCatT (eCatT (eCutT (eVar 4) oNone (oSome (eVar 2))) (eTup (eCons (eVar 3) eNil))) (eCutT (eVar 4) (oSome (eAdd (eVar 2) (eC (.int 1)))) oNone)))
 (sIf (tCmp gEq (eCall G__law_rest (eCons (eVar 0) (eCons (eVar 1) (eCons (eVar 4) eNil)))) (eCall G__law_rest (eCons (eVar 0) (eCons (eVar 1) (eCons (eVar 5) eNil)))))
 (sRet (eTup (eCons (eVar 2) (eCons (eVar 3) eNil))))
 sNext)))
def B__law_missed_digit_2 : FS := (sFor (eCall gRange2 (eCons (eC (.int 1)) (eCons (eC (.int 10)) eNil))) (tgN 3)
 B__law_missed_digit_1)
def F__law_missed_digit : FS :=
 (sSeq (sFor (eCall gRange1 (eCons (eCall gLen (eCons (eVar 1) eNil)) eNil)) (tgN 2)
 B__law_missed_digit_2)
 (sRet (eC .non)))
theorem sc__law_missed_digit : FnScope ["modulus", "weights", "place", "off", "zeros", "other"] ["modulus", "weights"] (defScope st__law_missed_digit) := ⟨rfl, rfl, rfl, by decide +kernel, rfl, by decide +kernel, by decide +kernel⟩
def R__law_missed_digit : FD := runF 6 F__law_missed_digit
theorem y__law_missed_digit {prog : Program} {w : World} {C : Cc} {mg : Str → Option Value} {base : Heap} {f : Addr} {fd : FuncData} (T : Tx prog w C mg) (Fu : Fun C.K "_law_missed_digit" "_law_missed_digit" st__law_missed_digit f fd) {f__law_rest : Addr} {fd__law_rest : FuncData} (c__law_rest : Cal C.K mg "_law_rest" f__law_rest fd__law_rest ["modulus", "weights", "digits"]) (x__law_rest : FnOk prog w C.K mg base (L2.CX prog w) 1 f__law_rest fd__law_rest ["modulus", "weights", "digits"] (spD C 3 G__law_rest)) : FnOk prog w C.K mg base (L2.CX prog w) 2 f fd ["modulus", "weights"] (spD C 2 R__law_missed_digit) := by
  have hN := sc__law_missed_digit.nd
  refine df_of (k := 1) Fu sc__law_missed_digit fun cdv A outer s H E hr => ?_
  exact (ds_cons (ds_for (passes_of rfl) (di_range1 T.z_range (da_cons (de_cb cc_len T.z_len bb_len (da_cons (de_var 1) da_nil)) da_nil)) (dg_name 2 hN)
 (ds_one (ds_for (passes_of rfl) (di_range2 T.z_range (da_cons de_int (da_cons de_int da_nil))) (dg_name 3 hN)
 (ds_cons (ds_set 4 hN (de_repA (de_tup (da_cons de_int da_nil)) (de_cb cc_len T.z_len bb_len (da_cons (de_var 1) da_nil))))
 (ds_cons (ds_set 5 hN (de_catT (de_catT (de_cutT (de_var 4) do_none (do_some (de_var 2))) (de_tup (da_cons (de_var 3) da_nil))) (de_cutT (de_var 4) (do_some (de_add (de_var 2) de_int)) do_none)))
 (ds_one (ds_if (dt_c1 (oc_eq hr.units) (de_call c__law_rest x__law_rest (hr.mono (by decide)) (takes_of rfl rfl rfl rfl) (da_cons (de_var 0) (da_cons (de_var 1) (da_cons (de_var 4) da_nil)))) (de_call c__law_rest x__law_rest (hr.mono (by decide)) (takes_of rfl rfl rfl rfl) (da_cons (de_var 0) (da_cons (de_var 1) (da_cons (de_var 5) da_nil)))))
 (ds_one (ds_ret (de_tup (da_cons (de_var 2) (da_cons (de_var 3) da_nil)))))
 ds_nil)))))))
 (ds_one (ds_ret de_non)))
abbrev G__law_missed_digit : FD := R__law_missed_digit
theorem le__law_missed_digit (ds : List D) (μ : Sto) (_ : Scoped μ) (_ : unders μ.length ds = true) : LeG μ (R__law_missed_digit ds μ) (G__law_missed_digit ds μ) := .inr (.inl rfl)
/-! ### _law_missed_swap, slots 0 modulus 1 weights 2 place 3 off 4 zeros 5 one 6 other -/
def B__law_missed_swap_1 : FS := (sSeq (sSet 4 (eOp gRepA (eTup (eCons (eC (.int 0)) eNil)) (eCall gLen (eCons (eVar 1) eNil))))
 (sSeq (sSet 5 (eCatT (eCatT (eCutT (eVar 4) oNone (oSome (eVar 2))) (eTup (eCons (eVar 3) (eCons (eC (.int 0)) eNil)))) (eCutT (eVar 4) (oSome (eAdd (eVar 2) (eC (.int 2)))) oNone)))
 (sSeq (sSet 6 (eCatT (eCatT (eCutT (eVar 4) oNone (oSome (eVar 2))) (eTup (eCons (eC (.int 0)) (eCons (eVar 3) eNil)))) (eCutT (eVar 4) (oSome (eAdd (eVar 2) (eC (.int 2)))) oNone)))
 (sIf (tCmp gEq (eCall G__law_rest (eCons (eVar 0) (eCons (eVar 1) (eCons (eVar 5) eNil)))) (eCall G__law_rest (eCons (eVar 0) (eCons (eVar 1) (eCons (eVar 6) eNil)))))
 (sRet (eTup (eCons (eVar 2) (eCons (eVar 3) eNil))))
 sNext))))
def B__law_missed_swap_2 : FS := (sFor (eCall gRange2 (eCons (eC (.int 1)) (eCons (eC (.int 10)) eNil))) (tgN 3)
 B__law_missed_swap_1)
def F__law_missed_swap : FS :=
 (sSeq (sFor (eCall gRange1 (eCons (eSub (eCall gLen (eCons (eVar 1) eNil)) (eC (.int 1))) eNil)) (tgN 2)
 B__law_missed_swap_2)
 (sRet (eC .non)))
theorem sc__law_missed_swap : FnScope ["modulus", "weights", "place", "off", "zeros", "one", "other"] ["modulus", "weights"] (defScope st__law_missed_swap) := ⟨rfl, rfl, rfl, by decide +kernel, rfl, by decide +kernel, by decide +kernel⟩
def R__law_missed_swap : FD := runF 7 F__law_missed_swap
theorem y__law_missed_swap {prog : Program} {w : World} {C : Cc} {mg : Str → Option Value} {base : Heap} {f : Addr} {fd : FuncData} (T : Tx prog w C mg) (Fu : Fun C.K "_law_missed_swap" "_law_missed_swap" st__law_missed_swap f fd) {f__law_rest : Addr} {fd__law_rest : FuncData} (c__law_rest : Cal C.K mg "_law_rest" f__law_rest fd__law_rest ["modulus", "weights", "digits"]) (x__law_rest : FnOk prog w C.K mg base (L2.CX prog w) 1 f__law_rest fd__law_rest ["modulus", "weights", "digits"] (spD C 3 G__law_rest)) : FnOk prog w C.K mg base (L2.CX prog w) 2 f fd ["modulus", "weights"] (spD C 2 R__law_missed_swap) := by
  have hN := sc__law_missed_swap.nd
  refine df_of (k := 1) Fu sc__law_missed_swap fun cdv A outer s H E hr => ?_
  exact (ds_cons (ds_for (passes_of rfl) (di_range1 T.z_range (da_cons (de_sub (de_cb cc_len T.z_len bb_len (da_cons (de_var 1) da_nil)) de_int) da_nil)) (dg_name 2 hN)
 (ds_one (ds_for (passes_of rfl) (di_range2 T.z_range (da_cons de_int (da_cons de_int da_nil))) (dg_name 3 hN)
 (ds_cons (ds_set 4 hN (de_repA (de_tup (da_cons de_int da_nil)) (de_cb cc_len T.z_len bb_len (da_cons (de_var 1) da_nil))))
 (ds_cons (ds_set 5 hN (de_catT (de_catT (de_cutT (de_var 4) do_none (do_some (de_var 2))) (de_tup (da_cons (de_var 3) (da_cons de_int da_nil)))) (de_cutT (de_var 4) (do_some (de_add (de_var 2) de_int)) do_none)))
 (ds_cons (ds_set 6 hN (de_catT (de_catT (de_cutT (de_var 4) do_none (do_some (de_var 2))) (de_tup (da_cons de_int (da_cons (de_var 3) da_nil)))) (de_cutT (de_var 4) (do_some (de_add (de_var 2) de_int)) do_none)))
 (ds_one (ds_if (dt_c1 (oc_eq hr.units) (de_call c__law_rest x__law_rest (hr.mono (by decide)) (takes_of rfl rfl rfl rfl) (da_cons (de_var 0) (da_cons (de_var 1) (da_cons (de_var 5) da_nil)))) (de_call c__law_rest x__law_rest (hr.mono (by decide)) (takes_of rfl rfl rfl rfl) (da_cons (de_var 0) (da_cons (de_var 1) (da_cons (de_var 6) da_nil)))))
 (ds_one (ds_ret (de_tup (da_cons (de_var 2) (da_cons (de_var 3) da_nil)))))
 ds_nil))))))))
 (ds_one (ds_ret de_non)))
abbrev G__law_missed_swap : FD := R__law_missed_swap
theorem le__law_missed_swap (ds : List D) (μ : Sto) (_ : Scoped μ) (_ : unders μ.length ds = true) : LeG μ (R__law_missed_swap ds μ) (G__law_missed_swap ds μ) := .inr (.inl rfl)
/-! ### _law_finds, slots 0 modulus 1 weights -/
def F__law_finds : FS :=
 (sRet (eAnd (eCmp gIs (eCall G__law_missed_digit (eCons (eVar 0) (eCons (eVar 1) eNil))) (eC .non)) (eCmp gIs (eCall G__law_missed_swap (eCons (eVar 0) (eCons (eVar 1) eNil))) (eC .non))))
theorem sc__law_finds : FnScope ["modulus", "weights"] ["modulus", "weights"] (defScope st__law_finds) := ⟨rfl, rfl, rfl, by decide +kernel, rfl, by decide +kernel, by decide +kernel⟩
def R__law_finds : FD := runF 2 F__law_finds
theorem y__law_finds {prog : Program} {w : World} {C : Cc} {mg : Str → Option Value} {base : Heap} {f : Addr} {fd : FuncData} (T : Tx prog w C mg) (Fu : Fun C.K "_law_finds" "_law_finds" st__law_finds f fd) {f__law_missed_swap : Addr} {fd__law_missed_swap : FuncData} (c__law_missed_swap : Cal C.K mg "_law_missed_swap" f__law_missed_swap fd__law_missed_swap ["modulus", "weights"]) (x__law_missed_swap : FnOk prog w C.K mg base (L2.CX prog w) 2 f__law_missed_swap fd__law_missed_swap ["modulus", "weights"] (spD C 2 G__law_missed_swap)) {f__law_missed_digit : Addr} {fd__law_missed_digit : FuncData} (c__law_missed_digit : Cal C.K mg "_law_missed_digit" f__law_missed_digit fd__law_missed_digit ["modulus", "weights"]) (x__law_missed_digit : FnOk prog w C.K mg base (L2.CX prog w) 2 f__law_missed_digit fd__law_missed_digit ["modulus", "weights"] (spD C 2 G__law_missed_digit)) : FnOk prog w C.K mg base (L2.CX prog w) 3 f fd ["modulus", "weights"] (spD C 2 R__law_finds) := by
  have hN := sc__law_finds.nd
  refine df_of (k := 2) Fu sc__law_finds fun cdv A outer s H E hr => ?_
  exact (ds_one (ds_ret (de_and (de_c1 oc_is (de_call c__law_missed_digit x__law_missed_digit (hr.mono (by decide)) (takes_of rfl rfl rfl rfl) (da_cons (de_var 0) (da_cons (de_var 1) da_nil))) de_non) (de_one (de_c1 oc_is (de_call c__law_missed_swap x__law_missed_swap (hr.mono (by decide)) (takes_of rfl rfl rfl rfl) (da_cons (de_var 0) (da_cons (de_var 1) da_nil))) de_non)))))
abbrev G__law_finds : FD := R__law_finds
theorem le__law_finds (ds : List D) (μ : Sto) (_ : Scoped μ) (_ : unders μ.length ds = true) : LeG μ (R__law_finds ds μ) (G__law_finds ds μ) := .inr (.inl rfl)
/-! ### _law_first, slots 0 modulus 1 many 2 level 3 turn 4 longer 5 own 6 one -/
def E__law_first_1 : FE D := (eCatT (eVar 5) (eTup (eCons (eVar 6) eNil)))
def U__law_first_1 : FE Bool := (tTru (eCall G__law_finds (eCons (eVar 0) (eCons (eCatT (eCutT (eVar 5) (oSome (eNeg (eC (.int 1)))) oNone) (eTup (eCons (eVar 6) eNil))) eNil))))
def B__law_first_1 : FS := (sSet 4 (eFz (eCatL (eVar 4) (eFz (eLc (eCall gRange1 (eCons (eVar 0) eNil)) [6] (tgN 6) U__law_first_1 E__law_first_1)))))
def B__law_first_2 : FS := (sSeq (sSet 4 (eFz (eLst eNil)))
 (sSeq (sFor (iSeq (eVar 2)) (tgN 5)
 B__law_first_1)
 (sSet 2 (eVar 4))))
def F__law_first : FS :=
 (sSeq (sSet 2 (eFz (eLst (eCons (eTup eNil) eNil))))
 (sSeq (sFor (eCall gRange1 (eCons (eVar 1) eNil)) (tgN 3)
 B__law_first_2)
 (sRet (eIf (tCmp gGt (eCall gLen (eCons (eVar 2) eNil)) (eC (.int 0))) (eIx (eVar 2) (eC (.int 0))) (eC .non)))))
theorem sc__law_first : FnScope ["modulus", "many", "level", "turn", "longer", "own", "one"] ["modulus", "many"] (defScope st__law_first) := ⟨rfl, rfl, rfl, by decide +kernel, rfl, by decide +kernel, by decide +kernel⟩
def R__law_first : FD := runF 7 F__law_first
theorem y__law_first {prog : Program} {w : World} {C : Cc} {mg : Str → Option Value} {base : Heap} {f : Addr} {fd : FuncData} (T : Tx prog w C mg) (Fu : Fun C.K "_law_first" "_law_first" st__law_first f fd) {f__law_finds : Addr} {fd__law_finds : FuncData} (c__law_finds : Cal C.K mg "_law_finds" f__law_finds fd__law_finds ["modulus", "weights"]) (x__law_finds : FnOk prog w C.K mg base (L2.CX prog w) 3 f__law_finds fd__law_finds ["modulus", "weights"] (spD C 2 G__law_finds)) : FnOk prog w C.K mg base (L2.CX prog w) 4 f fd ["modulus", "many"] (spD C 2 R__law_first) := by
  have hN := sc__law_first.nd
  refine df_of (k := 3) Fu sc__law_first fun cdv A outer s H E hr => ?_
  exact (ds_cons (ds_set 2 hN (DEL.fz (de_lst (da_cons (de_tup da_nil) da_nil))))
 (ds_cons (ds_for (passes_of rfl) (di_range1 T.z_range (da_cons (de_var 1) da_nil)) (dg_name 3 hN)
 (ds_cons (ds_set 4 hN (DEL.fz (de_lst da_nil)))
 (ds_cons (ds_for (passes_of rfl) (di_seq (de_var 2)) (dg_name 5 hN)
 (ds_one (ds_set 4 hN (DEL.fz (de_catL (de_var 4) (DEL.fz (de_lc [("one", 6)] hN (di_range1 T.z_range (da_cons (de_var 0) da_nil)) (blkOk_by (by rfl)) ⟨fun _ _ _ _ _ => (dg_name 6 hN), fun _ _ _ _ _ => (dts_one (dt_tru (de_call c__law_finds x__law_finds (hr.mono (by decide)) LamX.takes0 (da_cons (de_var 0) (da_cons (de_catT (de_cutT (de_var 5) (do_some (de_neg de_int)) do_none) (de_tup (da_cons (de_var 6) da_nil))) da_nil))))), fun _ _ _ _ _ => (de_catT (de_var 5) (de_tup (da_cons (de_var 6) da_nil)))⟩)))))))
 (ds_one (ds_set 2 hN (de_var 4))))))
 (ds_one (ds_ret (de_if (dt_c1 oc_gt (de_cb cc_len T.z_len bb_len (da_cons (de_var 2) da_nil)) de_int) (de_ix (de_var 2) de_int) de_non)))))
abbrev G__law_first : FD := R__law_first
theorem le__law_first (ds : List D) (μ : Sto) (_ : Scoped μ) (_ : unders μ.length ds = true) : LeG μ (R__law_first ds μ) (G__law_first ds μ) := .inr (.inl rfl)
/-! ### demand, slots 0 is_good 1 name -/
def F_demand : FS :=
 (sIf (tNot (tTru (eVar 0)))
 (sRaise 0 (eVar 1))
 sNext)
theorem sc_demand : FnScope ["is_good", "name"] ["is_good", "name"] (defScope st_demand) := ⟨rfl, rfl, rfl, by decide +kernel, rfl, by decide +kernel, by decide +kernel⟩
def R_demand : FD := runF 2 F_demand
theorem y_demand {prog : Program} {w : World} {C : Cc} {mg : Str → Option Value} {base : Heap} {f : Addr} {fd : FuncData} (T : Tx prog w C mg) (Fu : Fun C.K "demand" "demand" st_demand f fd) : FnOk prog w C.K mg base (L2.CX prog w) 3 f fd ["is_good", "name"] (spD C 2 R_demand) := by
  obtain ⟨fI_BadArgument, e_BadArgument⟩ := T.e_BadArgument
  have hN := sc_demand.nd
  refine df_of (k := 2) Fu sc_demand fun cdv A outer s H E hr => ?_
  exact (ds_one (ds_if (dt_not (dt_tru (de_var 0)))
 (ds_one (ds_raise e_BadArgument hr (takes_of rfl rfl rfl rfl) (de_var 1)))
 ds_nil))
def G_demand : FD := fun ds μ => match ds with
  | [.bl b, n] => if b = true then .ok .non μ else .ex 0 n μ
  | _ => .bad
theorem le_demand (ds : List D) (μ : Sto) (_ : Scoped μ) (_ : unders μ.length ds = true) : LeG μ (R_demand ds μ) (G_demand ds μ) := by
  unfold G_demand
  split
  · rename_i b n _
    refine .inr (.inl ?_)
    cases b <;> simp [R_demand, x_runF, F_demand]
  · exact .inl rfl

/-! ### is_in, slots 0 value 1 low 2 high -/
def F_is_in : FS :=
 (sRet (eAnd (eIsi "int" (eVar 0)) (eAnd (eNot (eIsi "bool" (eVar 0))) (eOfT (eChain gLe gLe (eVar 1) (eVar 0) (eVar 2))))))
theorem sc_is_in : FnScope ["value", "low", "high"] ["value", "low", "high"] (defScope st_is_in) := ⟨rfl, rfl, rfl, by decide +kernel, rfl, by decide +kernel, by decide +kernel⟩
def R_is_in : FD := runF 3 F_is_in
theorem y_is_in {prog : Program} {w : World} {C : Cc} {mg : Str → Option Value} {base : Heap} {f : Addr} {fd : FuncData} (T : Tx prog w C mg) (Fu : Fun C.K "is_in" "is_in" st_is_in f fd) : FnOk prog w C.K mg base (L2.CX prog w) 1 f fd ["value", "low", "high"] (spD C 3 R_is_in) := by
  have hN := sc_is_in.nd
  refine df_of (k := 0) Fu sc_is_in fun cdv A outer s H E hr => ?_
  exact (ds_one (ds_ret (de_and (de_isi isi_int T.z_isinstance T.z_int bb_int (de_var 0)) (de_and (de_not (de_isi isi_bool T.z_isinstance T.z_bool bb_bool (de_var 0))) (de_one (de_chain oc_le oc_le (de_var 1) (de_var 0) (de_var 2)))))))
def G_is_in : FD := fun ds μ => match ds with
  | [d, .int lo, .int hi] => if (tyD μ d).isSome = true then .ok (.bl (isInD d lo hi)) μ else .bad
  | _ => .bad
theorem le_is_in (ds : List D) (μ : Sto) (_ : Scoped μ) (_ : unders μ.length ds = true) : LeG μ (R_is_in ds μ) (G_is_in ds μ) := by
  unfold G_is_in
  split
  · rename_i d lo hi _
    split
    · rename_i h
      refine .inr (.inl ?_)
      obtain ⟨t, ht⟩ := Option.isSome_iff_exists.mp h
      cases d with
      | int i => by_cases c : lo ≤ i <;> simp [R_is_in, x_runF, F_is_in, isInD, tyD, isiB, c]
      | obj n =>
        have hm := tyD_in ht
        rw [tyD_obj] at ht
        split at ht <;> cases ht <;> rename_i hn <;> simp [R_is_in, x_runF, F_is_in, isInD, tyD_obj, isiB, hn]
      | _ => simp [R_is_in, x_runF, F_is_in, isInD, tyD, isiB]
    · exact .inl rfl
  · exact .inl rfl

/-! ### is_tuple, slots 0 value 1 least 2 most -/
def F_is_tuple : FS :=
 (sRet (eAnd (eIsi "tuple" (eVar 0)) (eOfT (eChain gLe gLe (eVar 1) (eCall gLen (eCons (eVar 0) eNil)) (eVar 2)))))
theorem sc_is_tuple : FnScope ["value", "least", "most"] ["value", "least", "most"] (defScope st_is_tuple) := ⟨rfl, rfl, rfl, by decide +kernel, rfl, by decide +kernel, by decide +kernel⟩
def R_is_tuple : FD := runF 3 F_is_tuple
theorem y_is_tuple {prog : Program} {w : World} {C : Cc} {mg : Str → Option Value} {base : Heap} {f : Addr} {fd : FuncData} (T : Tx prog w C mg) (Fu : Fun C.K "is_tuple" "is_tuple" st_is_tuple f fd) : FnOk prog w C.K mg base (L2.CX prog w) 1 f fd ["value", "least", "most"] (spD C 3 R_is_tuple) := by
  have hN := sc_is_tuple.nd
  refine df_of (k := 0) Fu sc_is_tuple fun cdv A outer s H E hr => ?_
  exact (ds_one (ds_ret (de_and (de_isi isi_tuple T.z_isinstance T.z_tuple bb_tuple (de_var 0)) (de_one (de_chain oc_le oc_le (de_var 1) (de_cb cc_len T.z_len bb_len (da_cons (de_var 0) da_nil)) (de_var 2))))))
def G_is_tuple : FD := fun ds μ => match ds with
  | [d, .int a, .int b] => if (tyD μ d).isSome = true then .ok (.bl (isTupleD d a b)) μ else .bad
  | _ => .bad
theorem le_is_tuple (ds : List D) (μ : Sto) (_ : Scoped μ) (_ : unders μ.length ds = true) : LeG μ (R_is_tuple ds μ) (G_is_tuple ds μ) := by
  unfold G_is_tuple
  split
  · rename_i d a b _
    split
    · rename_i h
      refine .inr (.inl ?_)
      obtain ⟨t, ht⟩ := Option.isSome_iff_exists.mp h
      cases d with
      | tup ds => by_cases c : a ≤ ds.length <;> simp [R_is_tuple, x_runF, F_is_tuple, isTupleD, tyD, isiB, c]
      | obj n =>
        rw [tyD_obj] at ht
        split at ht <;> cases ht <;> rename_i hn <;> simp [R_is_tuple, x_runF, F_is_tuple, isTupleD, tyD_obj, isiB, hn]
      | _ => simp [R_is_tuple, x_runF, F_is_tuple, isTupleD, tyD, isiB]
    · exact .inl rfl
  · exact .inl rfl

/-! ### demand_weights, slots 0 weights 1 modulus 2 one -/
def E_demand_weights_1 : FE D := (eCall G_is_in (eCons (eVar 2) (eCons (eC (.int 0)) (eCons (eSub (eVar 1) (eC (.int 1))) eNil))))
def F_demand_weights : FS :=
 (sSeq (sExpr (eCall G_demand (eCons (eCall G_is_in (eCons (eVar 1) (eCons (eC (.int 2)) (eCons (eC (.int (97))) eNil)))) (eCons (eC (.str "modulus")) eNil))))
 (sExpr (eCall G_demand (eCons (eAnd (eCall G_is_tuple (eCons (eVar 0) (eCons (eC (.int 1)) (eCons (eC (.int (8))) eNil)))) (eCall gAll (eCons (eFz (eLc (iSeq (eVar 0)) [2] (tgN 2) tYesD E_demand_weights_1)) eNil))) (eCons (eC (.str "weights")) eNil)))))
theorem sc_demand_weights : FnScope ["weights", "modulus", "one"] ["weights", "modulus"] (defScope st_demand_weights) := ⟨rfl, rfl, rfl, by decide +kernel, rfl, by decide +kernel, by decide +kernel⟩
def R_demand_weights : FD := runF 3 F_demand_weights
theorem y_demand_weights {prog : Program} {w : World} {C : Cc} {mg : Str → Option Value} {base : Heap} {f : Addr} {fd : FuncData} (T : Tx prog w C mg) (Fu : Fun C.K "demand_weights" "demand_weights" st_demand_weights f fd) {f_demand : Addr} {fd_demand : FuncData} (c_demand : Cal C.K mg "demand" f_demand fd_demand ["is_good", "name"]) (x_demand : FnOk prog w C.K mg base (L2.CX prog w) 3 f_demand fd_demand ["is_good", "name"] (spD C 2 G_demand)) {f_is_in : Addr} {fd_is_in : FuncData} (c_is_in : Cal C.K mg "is_in" f_is_in fd_is_in ["value", "low", "high"]) (x_is_in : FnOk prog w C.K mg base (L2.CX prog w) 1 f_is_in fd_is_in ["value", "low", "high"] (spD C 3 G_is_in)) {f_is_tuple : Addr} {fd_is_tuple : FuncData} (c_is_tuple : Cal C.K mg "is_tuple" f_is_tuple fd_is_tuple ["value", "least", "most"]) (x_is_tuple : FnOk prog w C.K mg base (L2.CX prog w) 1 f_is_tuple fd_is_tuple ["value", "least", "most"] (spD C 3 G_is_tuple)) : FnOk prog w C.K mg base (L2.CX prog w) 4 f fd ["weights", "modulus"] (spD C 2 R_demand_weights) := by
  have hN := sc_demand_weights.nd
  refine df_of (k := 3) Fu sc_demand_weights fun cdv A outer s H E hr => ?_
  exact (ds_cons (ds_expr (de_call c_demand x_demand (hr.mono (by decide)) (takes_of rfl rfl rfl rfl) (da_cons (de_call c_is_in x_is_in (hr.mono (by decide)) (takes_of rfl rfl rfl rfl) (da_cons (de_var 1) (da_cons de_int (da_cons (de_gintE T.g_MOST_MODULUS) da_nil)))) (da_cons de_str da_nil))))
 (ds_one (ds_expr (de_call c_demand x_demand (hr.mono (by decide)) (takes_of rfl rfl rfl rfl) (da_cons (de_and (de_call c_is_tuple x_is_tuple (hr.mono (by decide)) (takes_of rfl rfl rfl rfl) (da_cons (de_var 0) (da_cons de_int (da_cons (de_gintE T.g_MOST_DIGITS) da_nil)))) (de_one (de_cb cc_all T.z_all bb_all (da_cons (DEL.fz (de_lc [("one", 2)] hN (di_seq (de_var 0)) (blkOk_by (by rfl)) ⟨fun _ _ _ _ _ => (dg_name 2 hN), fun _ _ _ _ _ => dts_nil, fun _ _ _ _ _ => (de_call c_is_in x_is_in (hr.mono (by decide)) LamX.takes0 (da_cons (de_var 2) (da_cons de_int (da_cons (de_sub (de_var 1) de_int) da_nil))))⟩)) da_nil)))) (da_cons de_str da_nil))))))
abbrev G_demand_weights : FD := R_demand_weights
theorem le_demand_weights (ds : List D) (μ : Sto) (_ : Scoped μ) (_ : unders μ.length ds = true) : LeG μ (R_demand_weights ds μ) (G_demand_weights ds μ) := .inr (.inl rfl)
/-! ### missed_digit, slots 0 modulus 1 weights 2 place 3 weight 4 off -/
def B_missed_digit_1 : FS := (sIf (tCmp gEq (eMod (eMul (eVar 3) (eVar 4)) (eVar 0)) (eC (.int 0)))
 (sRet (eTup (eCons (eVar 2) (eCons (eVar 4) eNil))))
 sNext)
def B_missed_digit_2 : FS := (sFor (eCall gRange2 (eCons (eC (.int 1)) (eCons (eC (.int 10)) eNil))) (tgN 4)
 B_missed_digit_1)
def F_missed_digit : FS :=
 (sSeq (sExpr (eCall G_demand_weights (eCons (eVar 1) (eCons (eVar 0) eNil))))
 (sSeq (sFor (iEn (eVar 1)) (tgT (tgsCons (tgN 2) (tgsCons (tgN 3) tgsNil)))
 B_missed_digit_2)
 (sRet (eC .non))))
theorem sc_missed_digit : FnScope ["modulus", "weights", "place", "weight", "off"] ["modulus", "weights"] (defScope st_missed_digit) := ⟨rfl, rfl, rfl, by decide +kernel, rfl, by decide +kernel, by decide +kernel⟩
def R_missed_digit : FD := runF 5 F_missed_digit
theorem y_missed_digit {prog : Program} {w : World} {C : Cc} {mg : Str → Option Value} {base : Heap} {f : Addr} {fd : FuncData} (T : Tx prog w C mg) (Fu : Fun C.K "missed_digit" "missed_digit" st_missed_digit f fd) {f_demand_weights : Addr} {fd_demand_weights : FuncData} (c_demand_weights : Cal C.K mg "demand_weights" f_demand_weights fd_demand_weights ["weights", "modulus"]) (x_demand_weights : FnOk prog w C.K mg base (L2.CX prog w) 4 f_demand_weights fd_demand_weights ["weights", "modulus"] (spD C 2 G_demand_weights)) : FnOk prog w C.K mg base (L2.CX prog w) 5 f fd ["modulus", "weights"] (spD C 2 R_missed_digit) := by
  have hN := sc_missed_digit.nd
  refine df_of (k := 4) Fu sc_missed_digit fun cdv A outer s H E hr => ?_
  exact (ds_cons (ds_expr (de_call c_demand_weights x_demand_weights (hr.mono (by decide)) (takes_of rfl rfl rfl rfl) (da_cons (de_var 1) (da_cons (de_var 0) da_nil))))
 (ds_cons (ds_for (passes_of rfl) (di_enum T.z_enumerate (de_var 1)) (dg_tup (dgs_cons (dg_name 2 hN) (dgs_cons (dg_name 3 hN) dgs_nil)) (tgs_len_cons (tgs_len_cons tgs_len_nil)))
 (ds_one (ds_for (passes_of rfl) (di_range2 T.z_range (da_cons de_int (da_cons de_int da_nil))) (dg_name 4 hN)
 (ds_one (ds_if (dt_c1 (oc_eq hr.units) (de_mod (de_mul (de_var 3) (de_var 4)) (de_var 0)) de_int)
 (ds_one (ds_ret (de_tup (da_cons (de_var 2) (da_cons (de_var 4) da_nil)))))
 ds_nil)))))
 (ds_one (ds_ret de_non))))
abbrev G_missed_digit : FD := R_missed_digit
theorem le_missed_digit (ds : List D) (μ : Sto) (_ : Scoped μ) (_ : unders μ.length ds = true) : LeG μ (R_missed_digit ds μ) (G_missed_digit ds μ) := .inr (.inl rfl)
/-! ### missed_swap, slots 0 modulus 1 weights 2 place 3 off 4 one 5 two -/
def B_missed_swap_1 : FS := (sIf (tCmp gEq (eMod (eMul (eSub (eVar 4) (eVar 5)) (eVar 3)) (eVar 0)) (eC (.int 0)))
 (sRet (eTup (eCons (eVar 2) (eCons (eVar 3) eNil))))
 sNext)
def B_missed_swap_2 : FS := (sFor (eCall gRange2 (eCons (eC (.int 1)) (eCons (eC (.int 10)) eNil))) (tgN 3)
 B_missed_swap_1)
def F_missed_swap : FS :=
 (sSeq (sExpr (eCall G_demand_weights (eCons (eVar 1) (eCons (eVar 0) eNil))))
 (sSeq (sFor (iEnZ (eCons (eVar 1) (eCons (eCutT (eVar 1) (oSome (eC (.int 1))) oNone) eNil))) (tgT (tgsCons (tgN 2) (tgsCons (tgT (tgsCons (tgN 4) (tgsCons (tgN 5) tgsNil))) tgsNil)))
 B_missed_swap_2)
 (sRet (eC .non))))
theorem sc_missed_swap : FnScope ["modulus", "weights", "place", "off", "one", "two"] ["modulus", "weights"] (defScope st_missed_swap) := ⟨rfl, rfl, rfl, by decide +kernel, rfl, by decide +kernel, by decide +kernel⟩
def R_missed_swap : FD := runF 6 F_missed_swap
theorem y_missed_swap {prog : Program} {w : World} {C : Cc} {mg : Str → Option Value} {base : Heap} {f : Addr} {fd : FuncData} (T : Tx prog w C mg) (Fu : Fun C.K "missed_swap" "missed_swap" st_missed_swap f fd) {f_demand_weights : Addr} {fd_demand_weights : FuncData} (c_demand_weights : Cal C.K mg "demand_weights" f_demand_weights fd_demand_weights ["weights", "modulus"]) (x_demand_weights : FnOk prog w C.K mg base (L2.CX prog w) 4 f_demand_weights fd_demand_weights ["weights", "modulus"] (spD C 2 G_demand_weights)) : FnOk prog w C.K mg base (L2.CX prog w) 5 f fd ["modulus", "weights"] (spD C 2 R_missed_swap) := by
  have hN := sc_missed_swap.nd
  refine df_of (k := 4) Fu sc_missed_swap fun cdv A outer s H E hr => ?_
  exact (ds_cons (ds_expr (de_call c_demand_weights x_demand_weights (hr.mono (by decide)) (takes_of rfl rfl rfl rfl) (da_cons (de_var 1) (da_cons (de_var 0) da_nil))))
 (ds_cons (ds_for (passes_of rfl) (di_enumZ T.z_enumerate T.z_zip (da_cons (de_var 1) (da_cons (de_cutT (de_var 1) (do_some de_int) do_none) da_nil))) (dg_tup (dgs_cons (dg_name 2 hN) (dgs_cons (dg_tup (dgs_cons (dg_name 4 hN) (dgs_cons (dg_name 5 hN) dgs_nil)) (tgs_len_cons (tgs_len_cons tgs_len_nil))) dgs_nil)) (tgs_len_cons (tgs_len_cons tgs_len_nil)))
 (ds_one (ds_for (passes_of rfl) (di_range2 T.z_range (da_cons de_int (da_cons de_int da_nil))) (dg_name 3 hN)
 (ds_one (ds_if (dt_c1 (oc_eq hr.units) (de_mod (de_mul (de_sub (de_var 4) (de_var 5)) (de_var 3)) (de_var 0)) de_int)
 (ds_one (ds_ret (de_tup (da_cons (de_var 2) (da_cons (de_var 3) da_nil)))))
 ds_nil)))))
 (ds_one (ds_ret de_non))))
abbrev G_missed_swap : FD := R_missed_swap
theorem le_missed_swap (ds : List D) (μ : Sto) (_ : Scoped μ) (_ : unders μ.length ds = true) : LeG μ (R_missed_swap ds μ) (G_missed_swap ds μ) := .inr (.inl rfl)
/-! ### finds_all, slots 0 modulus 1 weights -/
def F_finds_all : FS :=
 (sRet (eAnd (eCmp gIs (eCall G_missed_digit (eCons (eVar 0) (eCons (eVar 1) eNil))) (eC .non)) (eCmp gIs (eCall G_missed_swap (eCons (eVar 0) (eCons (eVar 1) eNil))) (eC .non))))
theorem sc_finds_all : FnScope ["modulus", "weights"] ["modulus", "weights"] (defScope st_finds_all) := ⟨rfl, rfl, rfl, by decide +kernel, rfl, by decide +kernel, by decide +kernel⟩
def R_finds_all : FD := runF 2 F_finds_all
theorem y_finds_all {prog : Program} {w : World} {C : Cc} {mg : Str → Option Value} {base : Heap} {f : Addr} {fd : FuncData} (T : Tx prog w C mg) (Fu : Fun C.K "finds_all" "finds_all" st_finds_all f fd) {f_missed_swap : Addr} {fd_missed_swap : FuncData} (c_missed_swap : Cal C.K mg "missed_swap" f_missed_swap fd_missed_swap ["modulus", "weights"]) (x_missed_swap : FnOk prog w C.K mg base (L2.CX prog w) 5 f_missed_swap fd_missed_swap ["modulus", "weights"] (spD C 2 G_missed_swap)) (kb_missed_swap_0 : KB C.K fd_missed_swap ["modulus", "weights"] ["weights", "modulus"] [1, 0]) {f_missed_digit : Addr} {fd_missed_digit : FuncData} (c_missed_digit : Cal C.K mg "missed_digit" f_missed_digit fd_missed_digit ["modulus", "weights"]) (x_missed_digit : FnOk prog w C.K mg base (L2.CX prog w) 5 f_missed_digit fd_missed_digit ["modulus", "weights"] (spD C 2 G_missed_digit)) (kb_missed_digit_0 : KB C.K fd_missed_digit ["modulus", "weights"] ["weights", "modulus"] [1, 0]) : FnOk prog w C.K mg base (L2.CX prog w) 6 f fd ["modulus", "weights"] (spD C 2 R_finds_all) := by
  have hN := sc_finds_all.nd
  refine df_of (k := 5) Fu sc_finds_all fun cdv A outer s H E hr => ?_
  exact (ds_one (ds_ret (de_and (de_c1 oc_is (de_call c_missed_digit x_missed_digit (hr.mono (by decide)) (takes_of rfl rfl rfl rfl) (da_cons (de_var 0) (da_cons (de_var 1) da_nil))) de_non) (de_one (de_c1 oc_is (de_call c_missed_swap x_missed_swap (hr.mono (by decide)) (takes_of rfl rfl rfl rfl) (da_cons (de_var 0) (da_cons (de_var 1) da_nil))) de_non)))))
abbrev G_finds_all : FD := R_finds_all
theorem le_finds_all (ds : List D) (μ : Sto) (_ : Scoped μ) (_ : unders μ.length ds = true) : LeG μ (R_finds_all ds μ) (G_finds_all ds μ) := .inr (.inl rfl)
/-! ### _law_roll, slots 0 dice 1 total 2 found -/
def F__law_roll : FS :=
 (sSeq (sIf (tCmp gGt (eIx (eVar 0) (eC (.int 0))) (eC (.int 0)))
 (sSeq (sSet 2 (eMod (eCall gIntOf (eCons (eIx (eVar 0) (eC (.int 0))) eNil)) (eVar 1)))
 (sSeq (sPut (eDiv (eIx (eVar 0) (eC (.int 0))) (eVar 1)) (eVar 0) (eC (.int 0)))
 (sRet (eVar 2))))
 sNext)
 (sSeq (sPut (eAdd (eIx (eVar 0) (eC (.int 2))) (eC (.int 1))) (eVar 0) (eC (.int 2)))
 (sSeq (sPut (eMod (eCall gIntOf (eCons (eAdd (eAdd (eMul (eIx (eVar 0) (eC (.int 1))) (eC (.int 48271))) (eMul (eMul (eIx (eVar 0) (eC (.int 2))) (eIx (eVar 0) (eC (.int 2)))) (eC (.int 2003)))) (eC (.int 91))) eNil)) (eC (.int 2147480009))) (eVar 0) (eC (.int 1)))
 (sRet (eMod (eCall gIntOf (eCons (eDiv (eIx (eVar 0) (eC (.int 1))) (eC (.int 197))) eNil)) (eVar 1))))))
theorem sc__law_roll : FnScope ["dice", "total", "found"] ["dice", "total"] (defScope st__law_roll) := ⟨rfl, rfl, rfl, by decide +kernel, rfl, by decide +kernel, by decide +kernel⟩
def R__law_roll : FD := runF 3 F__law_roll
theorem y__law_roll {prog : Program} {w : World} {C : Cc} {mg : Str → Option Value} {base : Heap} {f : Addr} {fd : FuncData} (T : Tx prog w C mg) (Fu : Fun C.K "_law_roll" "_law_roll" st__law_roll f fd) : FnOk prog w C.K mg base (L2.CX prog w) 1 f fd ["dice", "total"] (spD C 2 R__law_roll) := by
  have hN := sc__law_roll.nd
  refine df_of (k := 0) Fu sc__law_roll fun cdv A outer s H E hr => ?_
  exact (ds_cons (ds_if (dt_c1 oc_gt (de_ix (de_var 0) de_int) de_int)
 (ds_cons (ds_set 2 hN (de_mod (de_ct cc_int T.z_int bb_int (da_cons (de_ix (de_var 0) de_int) da_nil)) (de_var 1)))
 (ds_cons (ds_put hr.units (de_div (de_ix (de_var 0) de_int) (de_var 1)) (de_var 0) de_int)
 (ds_one (ds_ret (de_var 2)))))
 ds_nil)
 (ds_cons (ds_put hr.units (de_add (de_ix (de_var 0) de_int) de_int) (de_var 0) de_int)
 (ds_cons (ds_put hr.units (de_mod (de_ct cc_int T.z_int bb_int (da_cons (de_add (de_add (de_mul (de_ix (de_var 0) de_int) de_int) (de_mul (de_mul (de_ix (de_var 0) de_int) (de_ix (de_var 0) de_int)) de_int)) de_int) da_nil)) de_int) (de_var 0) de_int)
 (ds_one (ds_ret (de_mod (de_ct cc_int T.z_int bb_int (da_cons (de_div (de_ix (de_var 0) de_int) de_int) da_nil)) (de_var 1)))))))
theorem roll_ok {k : Nat} {μ : Sto} {n : Nat} {t : Int} (hk : k < 1000000) (h : Dice k μ n) (ht : 0 < t ∧ t < 1073741824) :
    ∃ (v : Int) (o : DO), R__law_roll [.obj n, .int t] μ = .ok (.int v) (μ.set n o) ∧ 0 ≤ v ∧ v < t ∧ Dice (k + 1) (μ.set n o) n := by
  obtain ⟨a, m, c, hn, ha, hm, hc, hck⟩ := h.ex
  have hl := (List.getElem?_eq_some_iff.mp hn).1
  have e0 : lstAt μ n = some [.int a, .int m, .int c] := lstAt_iff.mpr hn
  by_cases h0 : 0 < a
  · refine ⟨a % t, .lst [.int (a / t), .int m, .int c], ?_, Int.emod_nonneg _ (by omega), Int.emod_lt_of_pos _ ht.1, ⟨a / t, m, c, by rw [List.getElem?_set_self hl], Int.ediv_nonneg ha (by omega), hm, hc, by omega⟩⟩
    have h1 : L2.atI [D.int a, .int m, .int c] 0 = some (.int a) := rfl
    have h2 : ixN 3 0 = some 0 := rfl
    simp [R__law_roll, x_runF, F__law_roll, e0, h1, h2, h0, cMod_ok a ht.1, cDiv_ok a ht, gSet, hn]
  · have a0 : a = 0 := by omega
    subst a0
    have h1 : L2.atI [D.int 0, .int m, .int c] 0 = some (.int 0) := rfl
    have h2 : L2.atI [D.int 0, .int m, .int c] 2 = some (.int c) := rfl
    have h3 : ixN 3 2 = some 2 := rfl
    have h4 : ixN 3 1 = some 1 := rfl
    have h5 : L2.atI [D.int 0, .int m, .int (c + 1)] 2 = some (.int (c + 1)) := rfl
    have h6 : L2.atI [D.int 0, .int m, .int (c + 1)] 1 = some (.int m) := rfl
    have h7 : ∀ z : Int, L2.atI [D.int 0, .int z, .int (c + 1)] 1 = some (.int z) := fun z => rfl
    have g1 : ∀ o : DO, (μ.set n o)[n]? = some o := fun o => List.getElem?_set_self hl
    have e1 : ∀ ds, lstAt (μ.set n (.lst ds)) n = some ds := fun ds => lstAt_iff.mpr (g1 _)
    let m' := (m * 48271 + (c + 1) * (c + 1) * 2003 + 91) % 2147480009
    have hm' : 0 ≤ m' := Int.emod_nonneg _ (by decide)
    refine ⟨(m' / 197) % t, .lst [.int 0, .int m', .int (c + 1)], ?_, Int.emod_nonneg _ (by omega), Int.emod_lt_of_pos _ ht.1, ⟨0, m', c + 1, g1 _, by omega, hm', by omega, by omega⟩⟩
    simp [R__law_roll, x_runF, F__law_roll, e0, h1, h2, h3, h4, h5, h6, h7, gSet, hn, g1, e1, cMul_r _ (show -18446744073709551616 < (48271 : Int) ∧ (48271 : Int) < 18446744073709551616 by decide), cMul_r _ (show -18446744073709551616 < (2003 : Int) ∧ (2003 : Int) < 18446744073709551616 by decide), cMul_r (c + 1) (show -18446744073709551616 < c + 1 ∧ c + 1 < 18446744073709551616 by omega), cMod_ok _ (show (0 : Int) < 2147480009 by decide), cDiv_ok _ (show (0 : Int) < 197 ∧ (197 : Int) < 1073741824 by decide), cMod_ok _ ht.1, m']
theorem roll_W {k : Nat} {μ : Sto} {n : Nat} {t : Int} {P : D → Sto → Prop} (hk : k < 1000000) (h : Dice k μ n) (ht : 0 < t ∧ t < 1073741824)
    (hP : ∀ (v : Int) (μ' : Sto), 0 ≤ v → v < t → Dice (k + 1) μ' n → Frm n μ μ' → P (.int v) μ') : (R__law_roll [.obj n, .int t] μ).W P := by
  obtain ⟨v, o, e, h0, h1, hd⟩ := roll_ok hk h ht
  exact .of e (hP v _ h0 h1 hd (Frm.set n μ o))

abbrev G__law_roll : FD := R__law_roll
theorem le__law_roll (ds : List D) (μ : Sto) (_ : Scoped μ) (_ : unders μ.length ds = true) : LeG μ (R__law_roll ds μ) (G__law_roll ds μ) := .inr (.inl rfl)
/-! ### _law_pick, slots 0 dice 1 things -/
def F__law_pick : FS :=
 (sRet (eIx (eVar 1) (eCall G__law_roll (eCons (eVar 0) (eCons (eCall gLen (eCons (eVar 1) eNil)) eNil)))))
theorem sc__law_pick : FnScope ["dice", "things"] ["dice", "things"] (defScope st__law_pick) := ⟨rfl, rfl, rfl, by decide +kernel, rfl, by decide +kernel, by decide +kernel⟩
def R__law_pick : FD := runF 2 F__law_pick
theorem y__law_pick {prog : Program} {w : World} {C : Cc} {mg : Str → Option Value} {base : Heap} {f : Addr} {fd : FuncData} (T : Tx prog w C mg) (Fu : Fun C.K "_law_pick" "_law_pick" st__law_pick f fd) {f__law_roll : Addr} {fd__law_roll : FuncData} (c__law_roll : Cal C.K mg "_law_roll" f__law_roll fd__law_roll ["dice", "total"]) (x__law_roll : FnOk prog w C.K mg base (L2.CX prog w) 1 f__law_roll fd__law_roll ["dice", "total"] (spD C 2 G__law_roll)) : FnOk prog w C.K mg base (L2.CX prog w) 2 f fd ["dice", "things"] (spD C 2 R__law_pick) := by
  have hN := sc__law_pick.nd
  refine df_of (k := 1) Fu sc__law_pick fun cdv A outer s H E hr => ?_
  exact (ds_one (ds_ret (de_ix (de_var 1) (de_call c__law_roll x__law_roll (hr.mono (by decide)) (takes_of rfl rfl rfl rfl) (da_cons (de_var 0) (da_cons (de_cb cc_len T.z_len bb_len (da_cons (de_var 1) da_nil)) da_nil))))))
theorem pick_ok {k : Nat} {μ : Sto} {n : Nat} {t : D} {ds : List D} (hk : k < 1000000) (h : Dice k μ n) (hds : (∀ μ, seqOf μ t = some ds) ∧ ((t = .tup ds) ∨ (t = .lst ds))) (hl : 0 < ds.length ∧ ds.length < 1000000) :
    ∃ (d : D) (o : DO), R__law_pick [.obj n, t] μ = .ok d (μ.set n o) ∧ d ∈ ds ∧ Dice (k + 1) (μ.set n o) n := by
  obtain ⟨v, o, e, h0, h1, hd⟩ := roll_ok hk h (t := ds.length) (by omega)
  obtain ⟨j, rfl⟩ : ∃ j : Nat, v = j := ⟨v.toNat, by omega⟩
  have hj : j < ds.length := by omega
  refine ⟨ds[j], o, ?_, List.getElem_mem hj, hd⟩
  have ix := atD hj

  rcases hds.2 with rfl | rfl <;> simp [R__law_pick, x_runF, F__law_pick, e, ix]
theorem pick_W {k : Nat} {μ : Sto} {n : Nat} {ds : List D} {P : D → Sto → Prop} (hk : k < 1000000) (h : Dice k μ n) (hl : 0 < ds.length ∧ ds.length < 1000000)
    (hP : ∀ d ∈ ds, ∀ μ', Dice (k + 1) μ' n → Frm n μ μ' → P d μ') : (R__law_pick [.obj n, .lst ds] μ).W P := by
  obtain ⟨d, o, e, hm, hd⟩ := pick_ok hk h (t := .lst ds) (ds := ds) ⟨fun _ => rfl, .inr rfl⟩ hl
  exact .of e (hP d hm _ hd (Frm.set n μ o))

abbrev G__law_pick : FD := R__law_pick
theorem le__law_pick (ds : List D) (μ : Sto) (_ : Scoped μ) (_ : unders μ.length ds = true) : LeG μ (R__law_pick ds μ) (G__law_pick ds μ) := .inr (.inl rfl)
/-! ### are_in, slots 0 value 1 least 2 most 3 low 4 high 5 one -/
def E_are_in_1 : FE D := (eCall G_is_in (eCons (eVar 5) (eCons (eVar 3) (eCons (eVar 4) eNil))))
def F_are_in : FS :=
 (sRet (eAnd (eCall G_is_tuple (eCons (eVar 0) (eCons (eVar 1) (eCons (eVar 2) eNil)))) (eCall gAll (eCons (eFz (eLc (iSeq (eVar 0)) [5] (tgN 5) tYesD E_are_in_1)) eNil))))
theorem sc_are_in : FnScope ["value", "least", "most", "low", "high", "one"] ["value", "least", "most", "low", "high"] (defScope st_are_in) := ⟨rfl, rfl, rfl, by decide +kernel, rfl, by decide +kernel, by decide +kernel⟩
def R_are_in : FD := runF 6 F_are_in
theorem y_are_in {prog : Program} {w : World} {C : Cc} {mg : Str → Option Value} {base : Heap} {f : Addr} {fd : FuncData} (T : Tx prog w C mg) (Fu : Fun C.K "are_in" "are_in" st_are_in f fd) {f_is_in : Addr} {fd_is_in : FuncData} (c_is_in : Cal C.K mg "is_in" f_is_in fd_is_in ["value", "low", "high"]) (x_is_in : FnOk prog w C.K mg base (L2.CX prog w) 1 f_is_in fd_is_in ["value", "low", "high"] (spD C 3 G_is_in)) {f_is_tuple : Addr} {fd_is_tuple : FuncData} (c_is_tuple : Cal C.K mg "is_tuple" f_is_tuple fd_is_tuple ["value", "least", "most"]) (x_is_tuple : FnOk prog w C.K mg base (L2.CX prog w) 1 f_is_tuple fd_is_tuple ["value", "least", "most"] (spD C 3 G_is_tuple)) : FnOk prog w C.K mg base (L2.CX prog w) 2 f fd ["value", "least", "most", "low", "high"] (spD C 5 R_are_in) := by
  have hN := sc_are_in.nd
  refine df_of (k := 1) Fu sc_are_in fun cdv A outer s H E hr => ?_
  exact (ds_one (ds_ret (de_and (de_call c_is_tuple x_is_tuple (hr.mono (by decide)) (takes_of rfl rfl rfl rfl) (da_cons (de_var 0) (da_cons (de_var 1) (da_cons (de_var 2) da_nil)))) (de_one (de_cb cc_all T.z_all bb_all (da_cons (DEL.fz (de_lc [("one", 5)] hN (di_seq (de_var 0)) (blkOk_by (by rfl)) ⟨fun _ _ _ _ _ => (dg_name 5 hN), fun _ _ _ _ _ => dts_nil, fun _ _ _ _ _ => (de_call c_is_in x_is_in (hr.mono (by decide)) LamX.takes0 (da_cons (de_var 5) (da_cons (de_var 3) (da_cons (de_var 4) da_nil))))⟩)) da_nil))))))
def G_are_in : FD := fun ds μ => match ds with
  | [d, .int a, .int b, .int lo, .int hi] => if okD μ d = true then .ok (.bl (areInD d a b lo hi)) μ else .bad
  | _ => .bad
theorem le_are_in (ds : List D) (μ : Sto) (_ : Scoped μ) (_ : unders μ.length ds = true) : LeG μ (R_are_in ds μ) (G_are_in ds μ) := by
  unfold G_are_in
  split
  · rename_i d a b lo hi _
    split
    · rename_i h
      refine .inr (.inl ?_)
      cases d with
      | tup ds =>
        unfold okD at h
        rw [Bool.and_eq_true, decide_eq_true_eq, List.all_eq_true] at h
        have e := lcD_map (gd := []) (g := tgN 5) (te := E_are_in_1) (fun d => .bl (isInD d lo hi)) [some (.tup ds), some (.int a), some (.int b), some (.int lo), some (.int hi), none] μ (by simp) ds (fun d hd => ⟨_, rfl, by simp [E_are_in_1, G_is_in, h.2 d hd]⟩)
        have e2 : ds.map (fun d => D.bl (isInD d lo hi)) = (ds.map fun d => isInD d lo hi).map .bl := by simp
        have e3 : ((ds.map fun d => isInD d lo hi).any fun b => !b) = !(ds.all fun d => isInD d lo hi) := by
          rw [List.any_map, List.not_all_eq_any_not]
          rfl
        have e4 : (ds.map fun d => isInD d lo hi).all id = ds.all fun d => isInD d lo hi := by rw [List.all_map]; rfl
        cases c : isTupleD (.tup ds) a b with
        | false => simp [R_are_in, x_runF, F_are_in, G_is_tuple, tyD, areInD, c]
        | true =>
          simp only [areInD, c, Bool.true_and]
          simp only [R_are_in, x_runF, F_are_in, G_is_tuple, tyD, c, x_sRet, x_eAnd, x_eCall, x_eCons, x_eVar, x_eNil, x_eFz, x_eLc, x_iSeq, x_seqItT, h.1, List.map_cons, List.map_nil, List.length_cons, List.length_nil, List.cons_append, List.nil_append, Nat.reduceAdd, Nat.reduceSub, List.replicate, List.getElem?_cons_zero, List.getElem?_cons_succ, R.bind_ok, if_true, Option.isSome_some, x_truBl, x_wipe1, x_wipe0, List.set, e, e2, x_gAll, e4, R.st_ok]
      | obj n =>
        unfold okD at h
        obtain ⟨t, ht⟩ := Option.isSome_iff_exists.mp h
        rw [tyD_obj] at ht
        split at ht <;> cases ht <;> rename_i hn <;> simp [R_are_in, x_runF, F_are_in, G_is_tuple, isTupleD, areInD, tyD_obj, hn]
      | _ => simp [R_are_in, x_runF, F_are_in, G_is_tuple, isTupleD, areInD, tyD]
    · exact .inl rfl
  · exact .inl rfl

/-! ### demand_digits, slots 0 digits 1 weights -/
def F_demand_digits : FS :=
 (sExpr (eCall G_demand (eCons (eCall G_are_in (eCons (eVar 0) (eCons (eCall gLen (eCons (eVar 1) eNil)) (eCons (eCall gLen (eCons (eVar 1) eNil)) (eCons (eC (.int 0)) (eCons (eC (.int 9)) eNil)))))) (eCons (eC (.str "digits")) eNil))))
theorem sc_demand_digits : FnScope ["digits", "weights"] ["digits", "weights"] (defScope st_demand_digits) := ⟨rfl, rfl, rfl, by decide +kernel, rfl, by decide +kernel, by decide +kernel⟩
def R_demand_digits : FD := runF 2 F_demand_digits
theorem y_demand_digits {prog : Program} {w : World} {C : Cc} {mg : Str → Option Value} {base : Heap} {f : Addr} {fd : FuncData} (T : Tx prog w C mg) (Fu : Fun C.K "demand_digits" "demand_digits" st_demand_digits f fd) {f_demand : Addr} {fd_demand : FuncData} (c_demand : Cal C.K mg "demand" f_demand fd_demand ["is_good", "name"]) (x_demand : FnOk prog w C.K mg base (L2.CX prog w) 3 f_demand fd_demand ["is_good", "name"] (spD C 2 G_demand)) {f_are_in : Addr} {fd_are_in : FuncData} (c_are_in : Cal C.K mg "are_in" f_are_in fd_are_in ["value", "least", "most", "low", "high"]) (x_are_in : FnOk prog w C.K mg base (L2.CX prog w) 2 f_are_in fd_are_in ["value", "least", "most", "low", "high"] (spD C 5 G_are_in)) : FnOk prog w C.K mg base (L2.CX prog w) 4 f fd ["digits", "weights"] (spD C 2 R_demand_digits) := by
  have hN := sc_demand_digits.nd
  refine df_of (k := 3) Fu sc_demand_digits fun cdv A outer s H E hr => ?_
  exact (ds_one (ds_expr (de_call c_demand x_demand (hr.mono (by decide)) (takes_of rfl rfl rfl rfl) (da_cons (de_call c_are_in x_are_in (hr.mono (by decide)) (takes_of rfl rfl rfl rfl) (da_cons (de_var 0) (da_cons (de_cb cc_len T.z_len bb_len (da_cons (de_var 1) da_nil)) (da_cons (de_cb cc_len T.z_len bb_len (da_cons (de_var 1) da_nil)) (da_cons de_int (da_cons de_int da_nil)))))) (da_cons de_str da_nil)))))
abbrev G_demand_digits : FD := R_demand_digits
theorem le_demand_digits (ds : List D) (μ : Sto) (_ : Scoped μ) (_ : unders μ.length ds = true) : LeG μ (R_demand_digits ds μ) (G_demand_digits ds μ) := .inr (.inl rfl)
/-! ### rest_of, slots 0 modulus 1 weights 2 digits 3 weight 4 digit -/
def E_rest_of_1 : FE D := (eMul (eVar 3) (eVar 4))
def F_rest_of : FS :=
 (sRet (eMod (eCall gSumT (eCons (eFz (eLc (eCall gZip (eCons (eVar 1) (eCons (eVar 2) eNil))) [3, 4] (tgT (tgsCons (tgN 3) (tgsCons (tgN 4) tgsNil))) tYesD E_rest_of_1)) eNil)) (eVar 0)))
theorem sc_rest_of : FnScope ["modulus", "weights", "digits", "weight", "digit"] ["modulus", "weights", "digits"] (defScope st_rest_of) := ⟨rfl, rfl, rfl, by decide +kernel, rfl, by decide +kernel, by decide +kernel⟩
def R_rest_of : FD := runF 5 F_rest_of
theorem y_rest_of {prog : Program} {w : World} {C : Cc} {mg : Str → Option Value} {base : Heap} {f : Addr} {fd : FuncData} (T : Tx prog w C mg) (Fu : Fun C.K "rest_of" "rest_of" st_rest_of f fd) : FnOk prog w C.K mg base (L2.CX prog w) 1 f fd ["modulus", "weights", "digits"] (spD C 3 R_rest_of) := by
  have hN := sc_rest_of.nd
  refine df_of (k := 0) Fu sc_rest_of fun cdv A outer s H E hr => ?_
  exact (ds_one (ds_ret (de_mod (de_cb cc_sumT T.z_sum bb_sum (da_cons (DEL.fz (de_lc [("weight", 3), ("digit", 4)] hN (di_zip T.z_zip (da_cons (de_var 1) (da_cons (de_var 2) da_nil))) (blkOk_by (by rfl)) ⟨fun _ _ _ _ _ => (dg_tup (dgs_cons (dg_name 3 hN) (dgs_cons (dg_name 4 hN) dgs_nil)) (tgs_len_cons (tgs_len_cons tgs_len_nil))), fun _ _ _ _ _ => dts_nil, fun _ _ _ _ _ => (de_mul (de_var 3) (de_var 4))⟩)) da_nil)) (de_var 0))))
abbrev G_rest_of : FD := R_rest_of
theorem le_rest_of (ds : List D) (μ : Sto) (_ : Scoped μ) (_ : unders μ.length ds = true) : LeG μ (R_rest_of ds μ) (G_rest_of ds μ) := .inr (.inl rfl)
/-! ### check, slots 0 modulus 1 weights 2 digits -/
def F_check : FS :=
 (sSeq (sExpr (eCall G_demand_weights (eCons (eVar 1) (eCons (eVar 0) eNil))))
 (sSeq (sExpr (eCall G_demand_digits (eCons (eVar 2) (eCons (eVar 1) eNil))))
 (sRet (eCall G_rest_of (eCons (eVar 0) (eCons (eVar 1) (eCons (eVar 2) eNil)))))))
theorem sc_check : FnScope ["modulus", "weights", "digits"] ["modulus", "weights", "digits"] (defScope st_check) := ⟨rfl, rfl, rfl, by decide +kernel, rfl, by decide +kernel, by decide +kernel⟩
def R_check : FD := runF 3 F_check
theorem y_check {prog : Program} {w : World} {C : Cc} {mg : Str → Option Value} {base : Heap} {f : Addr} {fd : FuncData} (T : Tx prog w C mg) (Fu : Fun C.K "check" "check" st_check f fd) {f_demand_weights : Addr} {fd_demand_weights : FuncData} (c_demand_weights : Cal C.K mg "demand_weights" f_demand_weights fd_demand_weights ["weights", "modulus"]) (x_demand_weights : FnOk prog w C.K mg base (L2.CX prog w) 4 f_demand_weights fd_demand_weights ["weights", "modulus"] (spD C 2 G_demand_weights)) {f_demand_digits : Addr} {fd_demand_digits : FuncData} (c_demand_digits : Cal C.K mg "demand_digits" f_demand_digits fd_demand_digits ["digits", "weights"]) (x_demand_digits : FnOk prog w C.K mg base (L2.CX prog w) 4 f_demand_digits fd_demand_digits ["digits", "weights"] (spD C 2 G_demand_digits)) {f_rest_of : Addr} {fd_rest_of : FuncData} (c_rest_of : Cal C.K mg "rest_of" f_rest_of fd_rest_of ["modulus", "weights", "digits"]) (x_rest_of : FnOk prog w C.K mg base (L2.CX prog w) 1 f_rest_of fd_rest_of ["modulus", "weights", "digits"] (spD C 3 G_rest_of)) : FnOk prog w C.K mg base (L2.CX prog w) 5 f fd ["modulus", "weights", "digits"] (spD C 3 R_check) := by
  have hN := sc_check.nd
  refine df_of (k := 4) Fu sc_check fun cdv A outer s H E hr => ?_
  exact (ds_cons (ds_expr (de_call c_demand_weights x_demand_weights (hr.mono (by decide)) (takes_of rfl rfl rfl rfl) (da_cons (de_var 1) (da_cons (de_var 0) da_nil))))
 (ds_cons (ds_expr (de_call c_demand_digits x_demand_digits (hr.mono (by decide)) (takes_of rfl rfl rfl rfl) (da_cons (de_var 2) (da_cons (de_var 1) da_nil))))
 (ds_one (ds_ret (de_call c_rest_of x_rest_of (hr.mono (by decide)) (takes_of rfl rfl rfl rfl) (da_cons (de_var 0) (da_cons (de_var 1) (da_cons (de_var 2) da_nil))))))))
abbrev G_check : FD := R_check
theorem le_check (ds : List D) (μ : Sto) (_ : Scoped μ) (_ : unders μ.length ds = true) : LeG μ (R_check ds μ) (G_check ds μ) := .inr (.inl rfl)
/-! ### lost_digit, slots 0 modulus 1 weights 2 digits 3 place 4 rest 5 found 6 digit -/
def B_lost_digit_1 : FS := (sIf (tCmp gEq (eCall G_rest_of (eCons (eVar 0) (eCons (eVar 1) (eCons (eCatT (eCatT (eCutT (eVar 2) oNone (oSome (eVar 3))) (eTup (eCons (eVar 6) eNil))) (eCutT (eVar 2) (oSome (eAdd (eVar 3) (eC (.int 1)))) oNone)) eNil)))) (eVar 4))
 (sExpr (eMeth "list" gAppend (eVar 5) (eCons (eVar 6) eNil)))
 sNext)
def F_lost_digit : FS :=
 (sSeq (sExpr (eCall G_demand_weights (eCons (eVar 1) (eCons (eVar 0) eNil))))
 (sSeq (sExpr (eCall G_demand_digits (eCons (eVar 2) (eCons (eVar 1) eNil))))
 (sSeq (sExpr (eCall G_demand (eCons (eCall G_is_in (eCons (eVar 3) (eCons (eC (.int 0)) (eCons (eSub (eCall gLen (eCons (eVar 1) eNil)) (eC (.int 1))) eNil)))) (eCons (eC (.str "place")) eNil))))
 (sSeq (sExpr (eCall G_demand (eCons (eCall G_is_in (eCons (eVar 4) (eCons (eC (.int 0)) (eCons (eSub (eVar 0) (eC (.int 1))) eNil)))) (eCons (eC (.str "rest")) eNil))))
 (sSeq (sSet 5 (eMu (eLst eNil)))
 (sSeq (sFor (eCall gRange1 (eCons (eC (.int 10)) eNil)) (tgN 6)
 B_lost_digit_1)
 (sRet (eCall gTupOf (eCons (eVar 5) eNil)))))))))
theorem sc_lost_digit : FnScope ["modulus", "weights", "digits", "place", "rest", "found", "digit"] ["modulus", "weights", "digits", "place", "rest"] (defScope st_lost_digit) := ⟨rfl, rfl, rfl, by decide +kernel, rfl, by decide +kernel, by decide +kernel⟩
def R_lost_digit : FD := runF 7 F_lost_digit
theorem y_lost_digit {prog : Program} {w : World} {C : Cc} {mg : Str → Option Value} {base : Heap} {f : Addr} {fd : FuncData} (T : Tx prog w C mg) (Fu : Fun C.K "lost_digit" "lost_digit" st_lost_digit f fd) {f_demand_weights : Addr} {fd_demand_weights : FuncData} (c_demand_weights : Cal C.K mg "demand_weights" f_demand_weights fd_demand_weights ["weights", "modulus"]) (x_demand_weights : FnOk prog w C.K mg base (L2.CX prog w) 4 f_demand_weights fd_demand_weights ["weights", "modulus"] (spD C 2 G_demand_weights)) {f_demand_digits : Addr} {fd_demand_digits : FuncData} (c_demand_digits : Cal C.K mg "demand_digits" f_demand_digits fd_demand_digits ["digits", "weights"]) (x_demand_digits : FnOk prog w C.K mg base (L2.CX prog w) 4 f_demand_digits fd_demand_digits ["digits", "weights"] (spD C 2 G_demand_digits)) {f_demand : Addr} {fd_demand : FuncData} (c_demand : Cal C.K mg "demand" f_demand fd_demand ["is_good", "name"]) (x_demand : FnOk prog w C.K mg base (L2.CX prog w) 3 f_demand fd_demand ["is_good", "name"] (spD C 2 G_demand)) {f_is_in : Addr} {fd_is_in : FuncData} (c_is_in : Cal C.K mg "is_in" f_is_in fd_is_in ["value", "low", "high"]) (x_is_in : FnOk prog w C.K mg base (L2.CX prog w) 1 f_is_in fd_is_in ["value", "low", "high"] (spD C 3 G_is_in)) {f_rest_of : Addr} {fd_rest_of : FuncData} (c_rest_of : Cal C.K mg "rest_of" f_rest_of fd_rest_of ["modulus", "weights", "digits"]) (x_rest_of : FnOk prog w C.K mg base (L2.CX prog w) 1 f_rest_of fd_rest_of ["modulus", "weights", "digits"] (spD C 3 G_rest_of)) : FnOk prog w C.K mg base (L2.CX prog w) 5 f fd ["modulus", "weights", "digits", "place", "rest"] (spD C 5 R_lost_digit) := by
  have hN := sc_lost_digit.nd
  refine df_of (k := 4) Fu sc_lost_digit fun cdv A outer s H E hr => ?_
  exact (ds_cons (ds_expr (de_call c_demand_weights x_demand_weights (hr.mono (by decide)) (takes_of rfl rfl rfl rfl) (da_cons (de_var 1) (da_cons (de_var 0) da_nil))))
 (ds_cons (ds_expr (de_call c_demand_digits x_demand_digits (hr.mono (by decide)) (takes_of rfl rfl rfl rfl) (da_cons (de_var 2) (da_cons (de_var 1) da_nil))))
 (ds_cons (ds_expr (de_call c_demand x_demand (hr.mono (by decide)) (takes_of rfl rfl rfl rfl) (da_cons (de_call c_is_in x_is_in (hr.mono (by decide)) (takes_of rfl rfl rfl rfl) (da_cons (de_var 3) (da_cons de_int (da_cons (de_sub (de_cb cc_len T.z_len bb_len (da_cons (de_var 1) da_nil)) de_int) da_nil)))) (da_cons de_str da_nil))))
 (ds_cons (ds_expr (de_call c_demand x_demand (hr.mono (by decide)) (takes_of rfl rfl rfl rfl) (da_cons (de_call c_is_in x_is_in (hr.mono (by decide)) (takes_of rfl rfl rfl rfl) (da_cons (de_var 4) (da_cons de_int (da_cons (de_sub (de_var 0) de_int) da_nil)))) (da_cons de_str da_nil))))
 (ds_cons (ds_set 5 hN (DEL.mu (de_lst da_nil)))
 (ds_cons (ds_for (passes_of rfl) (di_range1 T.z_range (da_cons de_int da_nil)) (dg_name 6 hN)
 (ds_one (ds_if (dt_c1 (oc_eq hr.units) (de_call c_rest_of x_rest_of (hr.mono (by decide)) (takes_of rfl rfl rfl rfl) (da_cons (de_var 0) (da_cons (de_var 1) (da_cons (de_catT (de_catT (de_cutT (de_var 2) do_none (do_some (de_var 3))) (de_tup (da_cons (de_var 6) da_nil))) (de_cutT (de_var 2) (do_some (de_add (de_var 3) de_int)) do_none)) da_nil)))) (de_var 4))
 (ds_one (ds_expr (de_meth mc_append F.plainAttrs_list F.slot_list_append F.type_list_append (de_var 5) (da_cons (de_var 6) da_nil))))
 ds_nil)))
 (ds_one (ds_ret (de_ct cc_tup T.z_tuple bb_tuple (da_cons (de_var 5) da_nil))))))))))
abbrev G_lost_digit : FD := R_lost_digit
theorem le_lost_digit (ds : List D) (μ : Sto) (_ : Scoped μ) (_ : unders μ.length ds = true) : LeG μ (R_lost_digit ds μ) (G_lost_digit ds μ) := .inr (.inl rfl)
/-! ### near_tags, slots 0 modulus 1 weights 2 digits 3 rest 4 found 5 place 6 good 7 one 8 digit -/
def E_near_tags_1 : FE D := (eCatT (eCatT (eCutT (eVar 2) oNone (oSome (eVar 5))) (eTup (eCons (eVar 8) eNil))) (eCutT (eVar 2) (oSome (eAdd (eVar 5) (eC (.int 1)))) oNone))
def B_near_tags_1 : FS := (sSeq (sExpr (eMeth "list" gExtend (eVar 4) (eCons (eFz (eLc (eCall gRange1 (eCons (eC (.int 10)) eNil)) [8] (tgN 8) tYesD E_near_tags_1)) eNil)))
 (sExpr (eMeth "list" gAppend (eVar 4) (eCons (eCatT (eCatT (eCutT (eVar 2) oNone (oSome (eVar 5))) (eRevT (eCutT (eVar 2) (oSome (eVar 5)) (oSome (eAdd (eVar 5) (eC (.int 2))))) (oSome (eNeg (eC (.int 1)))))) (eCutT (eVar 2) (oSome (eAdd (eVar 5) (eC (.int 2)))) oNone)) eNil))))
def E_near_tags_2 : FE D := (eVar 7)
def U_near_tags_1 : FE Bool := (tAnd (tCmp gNe (eVar 7) (eVar 2)) (tCmp gEq (eCall G_rest_of (eCons (eVar 0) (eCons (eVar 1) (eCons (eVar 7) eNil)))) (eVar 3)))
def F_near_tags : FS :=
 (sSeq (sExpr (eCall G_demand_weights (eCons (eVar 1) (eCons (eVar 0) eNil))))
 (sSeq (sExpr (eCall G_demand_digits (eCons (eVar 2) (eCons (eVar 1) eNil))))
 (sSeq (sExpr (eCall G_demand (eCons (eCall G_is_in (eCons (eVar 3) (eCons (eC (.int 0)) (eCons (eSub (eVar 0) (eC (.int 1))) eNil)))) (eCons (eC (.str "rest")) eNil))))
 (sSeq (sSet 4 (eMu (eLst eNil)))
 (sSeq (sFor (eCall gRange1 (eCons (eCall gLen (eCons (eVar 2) eNil)) eNil)) (tgN 5)
 B_near_tags_1)
 (sSeq (sSet 6 (eFz (eLc (iSeq (eVar 4)) [7] (tgN 7) U_near_tags_1 E_near_tags_2)))
 (sRet (eCall gTupOf (eCons (eFz (eSortSet (eVar 6))) eNil)))))))))
theorem sc_near_tags : FnScope ["modulus", "weights", "digits", "rest", "found", "place", "good", "one", "digit"] ["modulus", "weights", "digits", "rest"] (defScope st_near_tags) := ⟨rfl, rfl, rfl, by decide +kernel, rfl, by decide +kernel, by decide +kernel⟩
def R_near_tags : FD := runF 9 F_near_tags
theorem y_near_tags {prog : Program} {w : World} {C : Cc} {mg : Str → Option Value} {base : Heap} {f : Addr} {fd : FuncData} (T : Tx prog w C mg) (Fu : Fun C.K "near_tags" "near_tags" st_near_tags f fd) {f_demand_weights : Addr} {fd_demand_weights : FuncData} (c_demand_weights : Cal C.K mg "demand_weights" f_demand_weights fd_demand_weights ["weights", "modulus"]) (x_demand_weights : FnOk prog w C.K mg base (L2.CX prog w) 4 f_demand_weights fd_demand_weights ["weights", "modulus"] (spD C 2 G_demand_weights)) {f_demand_digits : Addr} {fd_demand_digits : FuncData} (c_demand_digits : Cal C.K mg "demand_digits" f_demand_digits fd_demand_digits ["digits", "weights"]) (x_demand_digits : FnOk prog w C.K mg base (L2.CX prog w) 4 f_demand_digits fd_demand_digits ["digits", "weights"] (spD C 2 G_demand_digits)) {f_demand : Addr} {fd_demand : FuncData} (c_demand : Cal C.K mg "demand" f_demand fd_demand ["is_good", "name"]) (x_demand : FnOk prog w C.K mg base (L2.CX prog w) 3 f_demand fd_demand ["is_good", "name"] (spD C 2 G_demand)) {f_is_in : Addr} {fd_is_in : FuncData} (c_is_in : Cal C.K mg "is_in" f_is_in fd_is_in ["value", "low", "high"]) (x_is_in : FnOk prog w C.K mg base (L2.CX prog w) 1 f_is_in fd_is_in ["value", "low", "high"] (spD C 3 G_is_in)) {f_rest_of : Addr} {fd_rest_of : FuncData} (c_rest_of : Cal C.K mg "rest_of" f_rest_of fd_rest_of ["modulus", "weights", "digits"]) (x_rest_of : FnOk prog w C.K mg base (L2.CX prog w) 1 f_rest_of fd_rest_of ["modulus", "weights", "digits"] (spD C 3 G_rest_of)) : FnOk prog w C.K mg base (L2.CX prog w) 5 f fd ["modulus", "weights", "digits", "rest"] (spD C 4 R_near_tags) := by
  have hN := sc_near_tags.nd
  refine df_of (k := 4) Fu sc_near_tags fun cdv A outer s H E hr => ?_
  exact (ds_cons (ds_expr (de_call c_demand_weights x_demand_weights (hr.mono (by decide)) (takes_of rfl rfl rfl rfl) (da_cons (de_var 1) (da_cons (de_var 0) da_nil))))
 (ds_cons (ds_expr (de_call c_demand_digits x_demand_digits (hr.mono (by decide)) (takes_of rfl rfl rfl rfl) (da_cons (de_var 2) (da_cons (de_var 1) da_nil))))
 (ds_cons (ds_expr (de_call c_demand x_demand (hr.mono (by decide)) (takes_of rfl rfl rfl rfl) (da_cons (de_call c_is_in x_is_in (hr.mono (by decide)) (takes_of rfl rfl rfl rfl) (da_cons (de_var 3) (da_cons de_int (da_cons (de_sub (de_var 0) de_int) da_nil)))) (da_cons de_str da_nil))))
 (ds_cons (ds_set 4 hN (DEL.mu (de_lst da_nil)))
 (ds_cons (ds_for (passes_of rfl) (di_range1 T.z_range (da_cons (de_cb cc_len T.z_len bb_len (da_cons (de_var 2) da_nil)) da_nil)) (dg_name 5 hN)
 (ds_cons (ds_expr (de_meth mc_extend F.plainAttrs_list F.slot_list_extend F.type_list_extend (de_var 4) (da_cons (DEL.fz (de_lc [("digit", 8)] hN (di_range1 T.z_range (da_cons de_int da_nil)) (blkOk_by (by rfl)) ⟨fun _ _ _ _ _ => (dg_name 8 hN), fun _ _ _ _ _ => dts_nil, fun _ _ _ _ _ => (de_catT (de_catT (de_cutT (de_var 2) do_none (do_some (de_var 5))) (de_tup (da_cons (de_var 8) da_nil))) (de_cutT (de_var 2) (do_some (de_add (de_var 5) de_int)) do_none))⟩)) da_nil)))
 (ds_one (ds_expr (de_meth mc_append F.plainAttrs_list F.slot_list_append F.type_list_append (de_var 4) (da_cons (de_catT (de_catT (de_cutT (de_var 2) do_none (do_some (de_var 5))) (de_revT (de_cutT (de_var 2) (do_some (de_var 5)) (do_some (de_add (de_var 5) de_int))) (do_some (de_neg de_int)))) (de_cutT (de_var 2) (do_some (de_add (de_var 5) de_int)) do_none)) da_nil))))))
 (ds_cons (ds_setLc 6 [("one", 7)] (fun _ _ _ => fz_read) hN (di_seq (de_var 4)) (blkOk_by (by rfl)) ⟨fun _ _ _ _ _ => (dg_name 7 hN), fun _ _ _ _ _ => (dts_one (DW.dt (dw_and (dt_c1 (oc_ne hr.units) (de_var 7) (de_var 2)) (dw_and1 (dt_c1 (oc_eq hr.units) (de_call c_rest_of x_rest_of (hr.mono (by decide)) LamX.takes0 (da_cons (de_var 0) (da_cons (de_var 1) (da_cons (de_var 7) da_nil)))) (de_var 3)))))), fun _ _ _ _ _ => (de_var 7)⟩)
 (ds_one (ds_ret (de_ct cc_tup T.z_tuple bb_tuple (da_cons (DEL.fz (de_sortSet hr.units T.z_sorted T.z_set (de_var 6))) da_nil))))))))))
abbrev G_near_tags : FD := R_near_tags
theorem le_near_tags (ds : List D) (μ : Sto) (_ : Scoped μ) (_ : unders μ.length ds = true) : LeG μ (R_near_tags ds μ) (G_near_tags ds μ) := .inr (.inl rfl)
/-! ### _law_near, slots 0 modulus 1 weights 2 digits 3 rest 4 found 5 place 6 others 7 other 8 digit -/
def E__law_near_1 : FE D := (eCatT (eCatT (eCutT (eVar 2) oNone (oSome (eVar 5))) (eTup (eCons (eVar 8) eNil))) (eCutT (eVar 2) (oSome (eAdd (eVar 5) (eC (.int 1)))) oNone))
def B__law_near_1 : FS := (sIf (tAnd (tCmp gNe (eVar 7) (eVar 2)) (tAnd (tCmp gNotIn (eVar 7) (eVar 4)) (tCmp gEq (eCall G__law_rest (eCons (eVar 0) (eCons (eVar 1) (eCons (eVar 7) eNil)))) (eVar 3))))
 (sExpr (eMeth "list" gAppend (eVar 4) (eCons (eVar 7) eNil)))
 sNext)
def B__law_near_2 : FS := (sSeq (sSet 6 (eMu (eLc (eCall gRange1 (eCons (eC (.int 10)) eNil)) [8] (tgN 8) tYesD E__law_near_1)))
 (sSeq (sIf (tCmp gLt (eAdd (eVar 5) (eC (.int 1))) (eCall gLen (eCons (eVar 2) eNil)))
 (sExpr (eMeth "list" gAppend (eVar 6) (eCons (eCatT (eCatT (eCutT (eVar 2) oNone (oSome (eVar 5))) (eTup (eCons (eIx (eVar 2) (eAdd (eVar 5) (eC (.int 1)))) (eCons (eIx (eVar 2) (eVar 5)) eNil)))) (eCutT (eVar 2) (oSome (eAdd (eVar 5) (eC (.int 2)))) oNone)) eNil)))
 sNext)
 (sFor (iSeq (eVar 6)) (tgN 7)
 B__law_near_1)))
def F__law_near : FS :=
 (sSeq (sSet 4 (eMu (eLst eNil)))
 (sSeq (sFor (eCall gRange1 (eCons (eCall gLen (eCons (eVar 2) eNil)) eNil)) (tgN 5)
 B__law_near_2)
 (sRet (eCall gTupOf (eCons (eFz (eCall gSortP (eCons (eVar 4) eNil))) eNil)))))
theorem sc__law_near : FnScope ["modulus", "weights", "digits", "rest", "found", "place", "others", "other", "digit"] ["modulus", "weights", "digits", "rest"] (defScope st__law_near) := ⟨rfl, rfl, rfl, by decide +kernel, rfl, by decide +kernel, by decide +kernel⟩
def R__law_near : FD := runF 9 F__law_near
theorem y__law_near {prog : Program} {w : World} {C : Cc} {mg : Str → Option Value} {base : Heap} {f : Addr} {fd : FuncData} (T : Tx prog w C mg) (Fu : Fun C.K "_law_near" "_law_near" st__law_near f fd) {f__law_rest : Addr} {fd__law_rest : FuncData} (c__law_rest : Cal C.K mg "_law_rest" f__law_rest fd__law_rest ["modulus", "weights", "digits"]) (x__law_rest : FnOk prog w C.K mg base (L2.CX prog w) 1 f__law_rest fd__law_rest ["modulus", "weights", "digits"] (spD C 3 G__law_rest)) : FnOk prog w C.K mg base (L2.CX prog w) 2 f fd ["modulus", "weights", "digits", "rest"] (spD C 4 R__law_near) := by
  have hN := sc__law_near.nd
  refine df_of (k := 1) Fu sc__law_near fun cdv A outer s H E hr => ?_
  exact (ds_cons (ds_set 4 hN (DEL.mu (de_lst da_nil)))
 (ds_cons (ds_for (passes_of rfl) (di_range1 T.z_range (da_cons (de_cb cc_len T.z_len bb_len (da_cons (de_var 2) da_nil)) da_nil)) (dg_name 5 hN)
 (ds_cons (ds_setLc 6 [("digit", 8)] (fun _ _ _ => mu_read) hN (di_range1 T.z_range (da_cons de_int da_nil)) (blkOk_by (by rfl)) ⟨fun _ _ _ _ _ => (dg_name 8 hN), fun _ _ _ _ _ => dts_nil, fun _ _ _ _ _ => (de_catT (de_catT (de_cutT (de_var 2) do_none (do_some (de_var 5))) (de_tup (da_cons (de_var 8) da_nil))) (de_cutT (de_var 2) (do_some (de_add (de_var 5) de_int)) do_none))⟩)
 (ds_cons (ds_if (dt_c1 oc_lt (de_add (de_var 5) de_int) (de_cb cc_len T.z_len bb_len (da_cons (de_var 2) da_nil)))
 (ds_one (ds_expr (de_meth mc_append F.plainAttrs_list F.slot_list_append F.type_list_append (de_var 6) (da_cons (de_catT (de_catT (de_cutT (de_var 2) do_none (do_some (de_var 5))) (de_tup (da_cons (de_ix (de_var 2) (de_add (de_var 5) de_int)) (da_cons (de_ix (de_var 2) (de_var 5)) da_nil)))) (de_cutT (de_var 2) (do_some (de_add (de_var 5) de_int)) do_none)) da_nil))))
 ds_nil)
 (ds_one (ds_for (passes_of rfl) (di_seq (de_var 6)) (dg_name 7 hN)
 (ds_one (ds_if (DW.dt (dw_and (dt_c1 (oc_ne hr.units) (de_var 7) (de_var 2)) (dw_and (dt_c1 (oc_notIn hr.un65) (de_var 7) (de_var 4)) (dw_and1 (dt_c1 (oc_eq hr.units) (de_call c__law_rest x__law_rest (hr.mono (by decide)) (takes_of rfl rfl rfl rfl) (da_cons (de_var 0) (da_cons (de_var 1) (da_cons (de_var 7) da_nil)))) (de_var 3))))))
 (ds_one (ds_expr (de_meth mc_append F.plainAttrs_list F.slot_list_append F.type_list_append (de_var 4) (da_cons (de_var 7) da_nil))))
 ds_nil)))))))
 (ds_one (ds_ret (de_ct cc_tup T.z_tuple bb_tuple (da_cons (DEL.fz (de_cbl (cc_sortP hr.units) T.z_sorted bb_sorted (da_cons (de_var 4) da_nil))) da_nil))))))
abbrev G__law_near : FD := R__law_near
theorem le__law_near (ds : List D) (μ : Sto) (_ : Scoped μ) (_ : unders μ.length ds = true) : LeG μ (R__law_near ds μ) (G__law_near ds μ) := .inr (.inl rfl)
/-! ### first_weights, slots 0 modulus 1 many 2 found 3 own 4 one 5 two -/
def E_first_weights_1 : FE D := (eVar 4)
def U_first_weights_1 : FE Bool := (tTru (eCall G_finds_all (eCons (eVar 0) (eCons (eCatT (eCutT (eVar 2) (oSome (eNeg (eC (.int 1)))) oNone) (eTup (eCons (eVar 4) eNil))) eNil))))
def E_first_weights_2 : FE D := (eCall G_finds_all (eCons (eVar 0) (eCons (eTup (eCons (eVar 4) (eCons (eVar 5) eNil))) eNil)))
def E_first_weights_3 : FE D := (eVar 4)
def U_first_weights_2 : FE Bool := (tTru (eCall gAny (eCons (eFz (eLc (eCall gRange1 (eCons (eVar 0) eNil)) [5] (tgN 5) tYesD E_first_weights_2)) eNil)))
def B_first_weights_1 : FS := (sSeq (sSet 3 (eFz (eLc (eCall gRange1 (eCons (eVar 0) eNil)) [4] (tgN 4) U_first_weights_1 E_first_weights_1)))
 (sSeq (sIf (tCmp gLt (eAdd (eCall gLen (eCons (eVar 2) eNil)) (eC (.int 1))) (eVar 1))
 (sSet 3 (eFz (eLc (iSeq (eVar 3)) [4] (tgN 4) U_first_weights_2 E_first_weights_3)))
 sNext)
 (sSeq (sIf (tCmp gEq (eCall gLen (eCons (eVar 3) eNil)) (eC (.int 0)))
 (sRaise 1 (eC (.str "weights")))
 sNext)
 (sSet 2 (eCatT (eVar 2) (eTup (eCons (eIx (eVar 3) (eC (.int 0))) eNil)))))))
def U_first_weights_3 : FE Bool := (tCmp gLt (eCall gLen (eCons (eVar 2) eNil)) (eVar 1))
def F_first_weights : FS :=
 (sSeq (sExpr (eCall G_demand (eCons (eCall G_is_in (eCons (eVar 0) (eCons (eC (.int 2)) (eCons (eC (.int (97))) eNil)))) (eCons (eC (.str "modulus")) eNil))))
 (sSeq (sExpr (eCall G_demand (eCons (eCall G_is_in (eCons (eVar 1) (eCons (eC (.int 1)) (eCons (eC (.int (8))) eNil)))) (eCons (eC (.str "many")) eNil))))
 (sSeq (sSet 2 (eTup eNil))
 (sSeq (whileD U_first_weights_3
 B_first_weights_1 1000)
 (sRet (eVar 2))))))
theorem sc_first_weights : FnScope ["modulus", "many", "found", "own", "one", "two"] ["modulus", "many"] (defScope st_first_weights) := ⟨rfl, rfl, rfl, by decide +kernel, rfl, by decide +kernel, by decide +kernel⟩
def R_first_weights : FD := runF 6 F_first_weights
theorem y_first_weights {prog : Program} {w : World} {C : Cc} {mg : Str → Option Value} {base : Heap} {f : Addr} {fd : FuncData} (T : Tx prog w C mg) (Fu : Fun C.K "first_weights" "first_weights" st_first_weights f fd) {f_demand : Addr} {fd_demand : FuncData} (c_demand : Cal C.K mg "demand" f_demand fd_demand ["is_good", "name"]) (x_demand : FnOk prog w C.K mg base (L2.CX prog w) 3 f_demand fd_demand ["is_good", "name"] (spD C 2 G_demand)) {f_is_in : Addr} {fd_is_in : FuncData} (c_is_in : Cal C.K mg "is_in" f_is_in fd_is_in ["value", "low", "high"]) (x_is_in : FnOk prog w C.K mg base (L2.CX prog w) 1 f_is_in fd_is_in ["value", "low", "high"] (spD C 3 G_is_in)) {f_finds_all : Addr} {fd_finds_all : FuncData} (c_finds_all : Cal C.K mg "finds_all" f_finds_all fd_finds_all ["modulus", "weights"]) (x_finds_all : FnOk prog w C.K mg base (L2.CX prog w) 6 f_finds_all fd_finds_all ["modulus", "weights"] (spD C 2 G_finds_all)) (kb_finds_all_0 : KB C.K fd_finds_all ["modulus", "weights"] ["weights", "modulus"] [1, 0]) : FnOk prog w C.K mg base (L2.CX prog w) 7 f fd ["modulus", "many"] (spD C 2 R_first_weights) := by
  obtain ⟨fI_NotPossible, e_NotPossible⟩ := T.e_NotPossible
  have hN := sc_first_weights.nd
  refine df_of (k := 6) Fu sc_first_weights fun cdv A outer s H E hr => ?_
  exact (ds_cons (ds_expr (de_call c_demand x_demand (hr.mono (by decide)) (takes_of rfl rfl rfl rfl) (da_cons (de_call c_is_in x_is_in (hr.mono (by decide)) (takes_of rfl rfl rfl rfl) (da_cons (de_var 0) (da_cons de_int (da_cons (de_gintE T.g_MOST_MODULUS) da_nil)))) (da_cons de_str da_nil))))
 (ds_cons (ds_expr (de_call c_demand x_demand (hr.mono (by decide)) (takes_of rfl rfl rfl rfl) (da_cons (de_call c_is_in x_is_in (hr.mono (by decide)) (takes_of rfl rfl rfl rfl) (da_cons (de_var 1) (da_cons de_int (da_cons (de_gintE T.g_MOST_DIGITS) da_nil)))) (da_cons de_str da_nil))))
 (ds_cons (ds_set 2 hN (de_tup da_nil))
 (ds_cons (ds_while 1000 (passes_of rfl) (dt_c1 oc_lt (de_cb cc_len T.z_len bb_len (da_cons (de_var 2) da_nil)) (de_var 1))
 (ds_cons (ds_setLc 3 [("one", 4)] (fun _ _ _ => fz_read) hN (di_range1 T.z_range (da_cons (de_var 0) da_nil)) (blkOk_by (by rfl)) ⟨fun _ _ _ _ _ => (dg_name 4 hN), fun _ _ _ _ _ => (dts_one (dt_tru (de_call c_finds_all x_finds_all (hr.mono (by decide)) LamX.takes0 (da_cons (de_var 0) (da_cons (de_catT (de_cutT (de_var 2) (do_some (de_neg de_int)) do_none) (de_tup (da_cons (de_var 4) da_nil))) da_nil))))), fun _ _ _ _ _ => (de_var 4)⟩)
 (ds_cons (ds_if (dt_c1 oc_lt (de_add (de_cb cc_len T.z_len bb_len (da_cons (de_var 2) da_nil)) de_int) (de_var 1))
 (ds_one (ds_setLc 3 [("one", 4)] (fun _ _ _ => fz_read) hN (di_seq (de_var 3)) (blkOk_by (by rfl)) ⟨fun _ _ _ _ _ => (dg_name 4 hN), fun _ _ _ _ _ => (dts_one (dt_tru (de_cb cc_any T.z_any bb_any (da_cons (DEL.fz (de_lc [("two", 5)] hN (di_range1 T.z_range (da_cons (de_var 0) da_nil)) (blkOk_by (by rfl)) ⟨fun _ _ _ _ _ => (dg_name 5 hN), fun _ _ _ _ _ => dts_nil, fun _ _ _ _ _ => (de_call c_finds_all x_finds_all (hr.mono (by decide)) LamX.takes0 (da_cons (de_var 0) (da_cons (de_tup (da_cons (de_var 4) (da_cons (de_var 5) da_nil))) da_nil)))⟩)) da_nil)))), fun _ _ _ _ _ => (de_var 4)⟩))
 ds_nil)
 (ds_cons (ds_if (dt_c1 (oc_eq hr.units) (de_cb cc_len T.z_len bb_len (da_cons (de_var 3) da_nil)) de_int)
 (ds_one (ds_raise e_NotPossible hr (takes_of rfl rfl rfl rfl) de_str))
 ds_nil)
 (ds_one (ds_set 2 hN (de_catT (de_var 2) (de_tup (da_cons (de_ix (de_var 3) de_int) da_nil)))))))))
 (ds_one (ds_ret (de_var 2)))))))
abbrev G_first_weights : FD := R_first_weights
theorem le_first_weights (ds : List D) (μ : Sto) (_ : Scoped μ) (_ : unders μ.length ds = true) : LeG μ (R_first_weights ds μ) (G_first_weights ds μ) := .inr (.inl rfl)
/-! ### law, slots 0 script 1 spot 2 dice 3 weights 4 digits 5 rest 6 due 7 first 8 told 9 modulus 10 many 11 place 12 wanted 13 small 14 few 15 digit -/
def E_law_1 : FE D := (eCall G__law_roll (eCons (eVar 2) (eCons (eVar 9) eNil)))
def E_law_2 : FE D := (eCall G__law_roll (eCons (eVar 2) (eCons (eC (.int 10)) eNil)))
def E_law_3 : FE D := (eVar 15)
def U_law_1 : FE Bool := (tCmp gEq (eCall G__law_rest (eCons (eVar 9) (eCons (eVar 3) (eCons (eCatT (eCatT (eCutT (eVar 4) oNone (oSome (eVar 11))) (eTup (eCons (eVar 15) eNil))) (eCutT (eVar 4) (oSome (eAdd (eVar 11) (eC (.int 1)))) oNone)) eNil)))) (eVar 12))
def S_law_1 : FS := (sSet 2 (eCall G__law_dice (eCons (eVar 0) (eCons (eVar 1) eNil))))
def S_law_2 : FS := (sAsg (eTup (eCons (eCall G__law_pick (eCons (eVar 2) (eCons (eFz (eLst (eCons (eC (.int 2)) (eCons (eC (.int 7)) (eCons (eC (.int 9)) (eCons (eC (.int 10)) (eCons (eC (.int 11)) (eCons (eC (.int 13)) (eCons (eC (.int 26)) (eCons (eC (.int 97)) (eCons (eAdd (eC (.int 2)) (eCall G__law_roll (eCons (eVar 2) (eCons (eC (.int 96)) eNil)))) eNil))))))))))) eNil))) (eCons (eAdd (eC (.int 1)) (eCall G__law_roll (eCons (eVar 2) (eCons (eC (.int 5)) eNil)))) eNil))) (tgT (tgsCons (tgN 9) (tgsCons (tgN 10) tgsNil))))
def S_law_3 : FS := (sSet 3 (eCall gTupOf (eCons (eFz (eLc (eCall gRange1 (eCons (eVar 10) eNil)) [11] (tgN 11) tYesD E_law_1)) eNil)))
def S_law_4 : FS := (sSet 4 (eCall gTupOf (eCons (eFz (eLc (eCall gRange1 (eCons (eVar 10) eNil)) [11] (tgN 11) tYesD E_law_2)) eNil)))
def S_law_5 : FS := (sSet 5 (eCall G__law_rest (eCons (eVar 9) (eCons (eVar 3) (eCons (eVar 4) eNil)))))
def S_law_6 : FS := (sIf (tCmp gNe (eCallK G_check [2, 1, 0] (eCons (eVar 4) (eCons (eVar 3) (eCons (eVar 9) eNil)))) (eVar 5))
 (sRet (eC (.bl false)))
 sNext)
def S_law_7 : FS := (sIf (tCmp gNe (eCallK G_missed_digit [1, 0] (eCons (eVar 3) (eCons (eVar 9) eNil))) (eCall G__law_missed_digit (eCons (eVar 9) (eCons (eVar 3) eNil))))
 (sRet (eC (.bl false)))
 sNext)
def S_law_8 : FS := (sIf (tCmp gNe (eCallK G_missed_swap [1, 0] (eCons (eVar 3) (eCons (eVar 9) eNil))) (eCall G__law_missed_swap (eCons (eVar 9) (eCons (eVar 3) eNil))))
 (sRet (eC (.bl false)))
 sNext)
def S_law_9 : FS := (sIf (tCmp gNe (eCallK G_finds_all [1, 0] (eCons (eVar 3) (eCons (eVar 9) eNil))) (eCall G__law_finds (eCons (eVar 9) (eCons (eVar 3) eNil))))
 (sRet (eC (.bl false)))
 sNext)
def S_law_10 : FS := (sAsg (eTup (eCons (eCall G__law_roll (eCons (eVar 2) (eCons (eVar 10) eNil))) (eCons (eCall G__law_pick (eCons (eVar 2) (eCons (eFz (eLst (eCons (eVar 5) (eCons (eCall G__law_roll (eCons (eVar 2) (eCons (eVar 9) eNil))) eNil)))) eNil))) eNil))) (tgT (tgsCons (tgN 11) (tgsCons (tgN 12) tgsNil))))
def S_law_11 : FS := (sSet 6 (eFz (eLc (eCall gRange1 (eCons (eC (.int 10)) eNil)) [15] (tgN 15) U_law_1 E_law_3)))
def S_law_12 : FS := (sIf (tCmp gNe (eCallK G_lost_digit [4, 3, 2, 1, 0] (eCons (eVar 12) (eCons (eVar 11) (eCons (eVar 4) (eCons (eVar 3) (eCons (eVar 9) eNil)))))) (eCall gTupOf (eCons (eVar 6) eNil)))
 (sRet (eC (.bl false)))
 sNext)
def S_law_13 : FS := (sIf (tCmp gNe (eCallK G_near_tags [3, 2, 1, 0] (eCons (eVar 12) (eCons (eVar 4) (eCons (eVar 3) (eCons (eVar 9) eNil))))) (eCall G__law_near (eCons (eVar 9) (eCons (eVar 3) (eCons (eVar 4) (eCons (eVar 12) eNil))))))
 (sRet (eC (.bl false)))
 sNext)
def S_law_14 : FS := (sAsg (eTup (eCons (eAdd (eC (.int 2)) (eCall G__law_roll (eCons (eVar 2) (eCons (eC (.int 12)) eNil)))) (eCons (eAdd (eC (.int 1)) (eCall G__law_roll (eCons (eVar 2) (eCons (eC (.int 3)) eNil)))) eNil))) (tgT (tgsCons (tgN 13) (tgsCons (tgN 14) tgsNil))))
def S_law_15 : FS := (sSet 7 (eCall G__law_first (eCons (eVar 13) (eCons (eVar 14) eNil))))
def S_law_16 : FS := (sIf (tCmp gNe (eAsk 1 "not " (eCallK G_first_weights [1, 0] (eCons (eVar 14) (eCons (eVar 13) eNil)))) (eIf (tCmp gIs (eVar 7) (eC .non)) (eC (.str "not weights")) (eVar 7)))
 (sRet (eC (.bl false)))
 sNext)
def S_law_17 : FS := (sSet 8 (eFz (eLst (eCons (eRef 0 "" (eCall G_check (eCons (eC (.int 1)) (eCons (eVar 3) (eCons (eVar 4) eNil))))) (eCons (eRef 0 "" (eCall G_check (eCons (eVar 9) (eCons (eCatT (eVar 3) (eTup (eCons (eVar 9) eNil))) (eCons (eC .non) eNil))))) (eCons (eRef 0 "" (eCall G_check (eCons (eVar 9) (eCons (eVar 3) (eCons (eCatT (eVar 4) (eTup (eCons (eC (.int 0)) eNil))) eNil))))) (eCons (eRef 0 "" (eCall G_missed_digit (eCons (eC (.int 98)) (eCons (eTup eNil) eNil)))) (eCons (eRef 0 "" (eCall G_missed_swap (eCons (eVar 9) (eCons (eTup eNil) eNil)))) (eCons (eRef 0 "" (eCall G_finds_all (eCons (eVar 9) (eCons (eOp gRepA (eTup (eCons (eC (.int 0)) eNil)) (eC (.int 9))) eNil)))) (eCons (eRef 0 "" (eCall G_lost_digit (eCons (eVar 9) (eCons (eVar 3) (eCons (eVar 4) (eCons (eVar 10) (eCons (eVar 9) eNil))))))) (eCons (eRef 0 "" (eCall G_lost_digit (eCons (eVar 9) (eCons (eVar 3) (eCons (eVar 4) (eCons (eC (.int 0)) (eCons (eVar 9) eNil))))))) (eCons (eRef 0 "" (eCall G_near_tags (eCons (eVar 9) (eCons (eVar 3) (eCons (eOp gRepA (eTup (eCons (eC (.int 10)) eNil)) (eVar 10)) (eCons (eC (.int 0)) eNil)))))) (eCons (eRef 0 "" (eCall G_near_tags (eCons (eVar 9) (eCons (eVar 3) (eCons (eVar 4) (eCons (eNeg (eC (.int 1))) eNil)))))) (eCons (eRef 0 "" (eCall G_first_weights (eCons (eC (.int 1)) (eCons (eC (.int 0)) eNil)))) (eCons (eRef 0 "" (eCall G_first_weights (eCons (eC (.int 2)) (eCons (eC (.int 9)) eNil)))) eNil)))))))))))))))
def S_law_18 : FS := (sIf (tCmp gNe (eVar 8) (eFz (eLst (eCons (eC (.str "modulus")) (eCons (eC (.str "weights")) (eCons (eC (.str "digits")) (eCons (eC (.str "modulus")) (eCons (eC (.str "weights")) (eCons (eC (.str "weights")) (eCons (eC (.str "place")) (eCons (eC (.str "rest")) (eCons (eC (.str "digits")) (eCons (eC (.str "rest")) (eCons (eC (.str "modulus")) (eCons (eC (.str "many")) eNil)))))))))))))))
 (sRet (eC (.bl false)))
 sNext)
def B_law_1 : FS := (sSeq S_law_1
 (sSeq S_law_2
 (sSeq S_law_3
 (sSeq S_law_4
 (sSeq S_law_5
 (sSeq S_law_6
 (sSeq S_law_7
 (sSeq S_law_8
 (sSeq S_law_9
 (sSeq S_law_10
 (sSeq S_law_11
 (sSeq S_law_12
 (sSeq S_law_13
 (sSeq S_law_14
 (sSeq S_law_15
 (sSeq S_law_16
 (sSeq S_law_17
 S_law_18)))))))))))))))))
def S_law_19 : FS := (sFor (eCall gRange1 (eCons (eCall gMax2 (eCons (eC (.int 1)) (eCons (eCall gMin2 (eCons (eC (.int 6)) (eCons (eCall gLen (eCons (eVar 0) eNil)) eNil))) eNil))) eNil)) (tgN 1)
 B_law_1)
def S_law_20 : FS := (sRet (eAnd (eCmp gEq (eCall G_missed_digit (eCons (eC (.int 10)) (eCons (eTup (eCons (eC (.int 1)) (eCons (eC (.int 5)) eNil))) eNil))) (eTup (eCons (eC (.int 1)) (eCons (eC (.int 2)) eNil)))) (eAnd (eCmp gEq (eCall G_missed_swap (eCons (eC (.int 10)) (eCons (eTup (eCons (eC (.int 1)) (eCons (eC (.int 3)) eNil))) eNil))) (eTup (eCons (eC (.int 0)) (eCons (eC (.int 5)) eNil)))) (eAnd (eCall G_finds_all (eCons (eC (.int 11)) (eCons (eTup (eCons (eC (.int 1)) (eCons (eC (.int 2)) (eCons (eC (.int 3)) eNil)))) eNil))) (eCmp gEq (eCall G_first_weights (eCons (eC (.int 11)) (eCons (eC (.int 3)) eNil))) (eTup (eCons (eC (.int 1)) (eCons (eC (.int 2)) (eCons (eC (.int 1)) eNil)))))))))
def F_law : FS :=
 (sSeq S_law_19
 S_law_20)
theorem sc_law : FnScope ["script", "spot", "dice", "weights", "digits", "rest", "due", "first", "told", "modulus", "many", "place", "wanted", "small", "few", "digit"] ["script"] (defScope st_law) := ⟨rfl, rfl, rfl, by decide +kernel, rfl, by decide +kernel, by decide +kernel⟩
def R_law : FD := runF 16 F_law
theorem y_law {prog : Program} {w : World} {C : Cc} {mg : Str → Option Value} {base : Heap} {f cA PA : Addr} {oc kV doc pm ct : Value} {od an : Option Addr} {osl : Array (Option Value)} (T : Tx prog w C mg) (lk : C.K.lookup f = some ⟨oc, od, .func (PySem.W.fnOf "law" "law" (defArgs st_law) (defBody st_law) (defScope st_law) .none kV doc pm an (.ref cA) ct), osl⟩) (hcd : PySem.W.codeIn C.K (.ref cA) "law" = true) (TB : LamX.TabB base mg cA PA) (hmT : (PA, ("law.<locals>.<lambda>" : Str)) ∈ C.T) (huT : ∀ p ∈ C.T, p.1 = PA → p.2 = ("law.<locals>.<lambda>" : Str)) {f__law_dice : Addr} {fd__law_dice : FuncData} (c__law_dice : Cal C.K mg "_law_dice" f__law_dice fd__law_dice ["script", "spot"]) (x__law_dice : FnOk prog w C.K mg base (L2.CX prog w) 1 f__law_dice fd__law_dice ["script", "spot"] (spD C 2 G__law_dice)) {f__law_roll : Addr} {fd__law_roll : FuncData} (c__law_roll : Cal C.K mg "_law_roll" f__law_roll fd__law_roll ["dice", "total"]) (x__law_roll : FnOk prog w C.K mg base (L2.CX prog w) 1 f__law_roll fd__law_roll ["dice", "total"] (spD C 2 G__law_roll)) {f__law_pick : Addr} {fd__law_pick : FuncData} (c__law_pick : Cal C.K mg "_law_pick" f__law_pick fd__law_pick ["dice", "things"]) (x__law_pick : FnOk prog w C.K mg base (L2.CX prog w) 2 f__law_pick fd__law_pick ["dice", "things"] (spD C 2 G__law_pick)) {f__law_rest : Addr} {fd__law_rest : FuncData} (c__law_rest : Cal C.K mg "_law_rest" f__law_rest fd__law_rest ["modulus", "weights", "digits"]) (x__law_rest : FnOk prog w C.K mg base (L2.CX prog w) 1 f__law_rest fd__law_rest ["modulus", "weights", "digits"] (spD C 3 G__law_rest)) {f_check : Addr} {fd_check : FuncData} (c_check : Cal C.K mg "check" f_check fd_check ["modulus", "weights", "digits"]) (x_check : FnOk prog w C.K mg base (L2.CX prog w) 5 f_check fd_check ["modulus", "weights", "digits"] (spD C 3 G_check)) (kb_check_0 : KB C.K fd_check ["modulus", "weights", "digits"] ["digits", "weights", "modulus"] [2, 1, 0]) {f_missed_digit : Addr} {fd_missed_digit : FuncData} (c_missed_digit : Cal C.K mg "missed_digit" f_missed_digit fd_missed_digit ["modulus", "weights"]) (x_missed_digit : FnOk prog w C.K mg base (L2.CX prog w) 5 f_missed_digit fd_missed_digit ["modulus", "weights"] (spD C 2 G_missed_digit)) (kb_missed_digit_0 : KB C.K fd_missed_digit ["modulus", "weights"] ["weights", "modulus"] [1, 0]) {f__law_missed_digit : Addr} {fd__law_missed_digit : FuncData} (c__law_missed_digit : Cal C.K mg "_law_missed_digit" f__law_missed_digit fd__law_missed_digit ["modulus", "weights"]) (x__law_missed_digit : FnOk prog w C.K mg base (L2.CX prog w) 2 f__law_missed_digit fd__law_missed_digit ["modulus", "weights"] (spD C 2 G__law_missed_digit)) {f_missed_swap : Addr} {fd_missed_swap : FuncData} (c_missed_swap : Cal C.K mg "missed_swap" f_missed_swap fd_missed_swap ["modulus", "weights"]) (x_missed_swap : FnOk prog w C.K mg base (L2.CX prog w) 5 f_missed_swap fd_missed_swap ["modulus", "weights"] (spD C 2 G_missed_swap)) (kb_missed_swap_0 : KB C.K fd_missed_swap ["modulus", "weights"] ["weights", "modulus"] [1, 0]) {f__law_missed_swap : Addr} {fd__law_missed_swap : FuncData} (c__law_missed_swap : Cal C.K mg "_law_missed_swap" f__law_missed_swap fd__law_missed_swap ["modulus", "weights"]) (x__law_missed_swap : FnOk prog w C.K mg base (L2.CX prog w) 2 f__law_missed_swap fd__law_missed_swap ["modulus", "weights"] (spD C 2 G__law_missed_swap)) {f_finds_all : Addr} {fd_finds_all : FuncData} (c_finds_all : Cal C.K mg "finds_all" f_finds_all fd_finds_all ["modulus", "weights"]) (x_finds_all : FnOk prog w C.K mg base (L2.CX prog w) 6 f_finds_all fd_finds_all ["modulus", "weights"] (spD C 2 G_finds_all)) (kb_finds_all_0 : KB C.K fd_finds_all ["modulus", "weights"] ["weights", "modulus"] [1, 0]) {f__law_finds : Addr} {fd__law_finds : FuncData} (c__law_finds : Cal C.K mg "_law_finds" f__law_finds fd__law_finds ["modulus", "weights"]) (x__law_finds : FnOk prog w C.K mg base (L2.CX prog w) 3 f__law_finds fd__law_finds ["modulus", "weights"] (spD C 2 G__law_finds)) {f_lost_digit : Addr} {fd_lost_digit : FuncData} (c_lost_digit : Cal C.K mg "lost_digit" f_lost_digit fd_lost_digit ["modulus", "weights", "digits", "place", "rest"]) (x_lost_digit : FnOk prog w C.K mg base (L2.CX prog w) 5 f_lost_digit fd_lost_digit ["modulus", "weights", "digits", "place", "rest"] (spD C 5 G_lost_digit)) (kb_lost_digit_0 : KB C.K fd_lost_digit ["modulus", "weights", "digits", "place", "rest"] ["rest", "place", "digits", "weights", "modulus"] [4, 3, 2, 1, 0]) {f_near_tags : Addr} {fd_near_tags : FuncData} (c_near_tags : Cal C.K mg "near_tags" f_near_tags fd_near_tags ["modulus", "weights", "digits", "rest"]) (x_near_tags : FnOk prog w C.K mg base (L2.CX prog w) 5 f_near_tags fd_near_tags ["modulus", "weights", "digits", "rest"] (spD C 4 G_near_tags)) (kb_near_tags_0 : KB C.K fd_near_tags ["modulus", "weights", "digits", "rest"] ["rest", "digits", "weights", "modulus"] [3, 2, 1, 0]) {f__law_near : Addr} {fd__law_near : FuncData} (c__law_near : Cal C.K mg "_law_near" f__law_near fd__law_near ["modulus", "weights", "digits", "rest"]) (x__law_near : FnOk prog w C.K mg base (L2.CX prog w) 2 f__law_near fd__law_near ["modulus", "weights", "digits", "rest"] (spD C 4 G__law_near)) {f__law_first : Addr} {fd__law_first : FuncData} (c__law_first : Cal C.K mg "_law_first" f__law_first fd__law_first ["modulus", "many"]) (x__law_first : FnOk prog w C.K mg base (L2.CX prog w) 4 f__law_first fd__law_first ["modulus", "many"] (spD C 2 G__law_first)) {f_first_weights : Addr} {fd_first_weights : FuncData} (c_first_weights : Cal C.K mg "first_weights" f_first_weights fd_first_weights ["modulus", "many"]) (x_first_weights : FnOk prog w C.K mg base (L2.CX prog w) 7 f_first_weights fd_first_weights ["modulus", "many"] (spD C 2 G_first_weights)) (kb_first_weights_0 : KB C.K fd_first_weights ["modulus", "many"] ["many", "modulus"] [1, 0]) :
    FnOk prog w C.K mg base (L2.CX prog w) 10 f (PySem.W.fnOf "law" "law" (defArgs st_law) (defBody st_law) (defScope st_law) .none kV doc pm an (.ref cA) ct) ["script"] (spD C 1 R_law) := by
  obtain ⟨gT__law_refused, tells__law_refused⟩ := T.tells__law_refused
  obtain ⟨gT__law_asked, tells__law_asked⟩ := T.tells__law_asked
  have hN := sc_law.nd
  refine df_ofC (k := 9) lk hcd sc_law fun A outer s H E hr => ?_
  have hrl : Room (7 + 2) _ := hr
  exact (ds_cons (ds_for (passes_of rfl) (di_range1 T.z_range (da_cons (de_cb cc_max2 T.z_max bb_max (da_cons de_int (da_cons (de_cb cc_min2 T.z_min bb_min (da_cons de_int (da_cons (de_cb cc_len T.z_len bb_len (da_cons (de_var 0) da_nil)) da_nil))) da_nil))) da_nil)) (dg_name 1 hN)
 (ds_cons (ds_set 2 hN (de_call c__law_dice x__law_dice (hr.mono (by decide)) (takes_of rfl rfl rfl rfl) (da_cons (de_var 0) (da_cons (de_var 1) da_nil))))
 (ds_cons (ds_asg (de_tup (da_cons (de_call c__law_pick x__law_pick (hr.mono (by decide)) (takes_of rfl rfl rfl rfl) (da_cons (de_var 2) (da_cons (DEL.fz (de_lst (da_cons de_int (da_cons de_int (da_cons de_int (da_cons de_int (da_cons de_int (da_cons de_int (da_cons de_int (da_cons de_int (da_cons (de_add de_int (de_call c__law_roll x__law_roll (hr.mono (by decide)) (takes_of rfl rfl rfl rfl) (da_cons (de_var 2) (da_cons de_int da_nil)))) da_nil))))))))))) da_nil))) (da_cons (de_add de_int (de_call c__law_roll x__law_roll (hr.mono (by decide)) (takes_of rfl rfl rfl rfl) (da_cons (de_var 2) (da_cons de_int da_nil)))) da_nil))) (dg_tup (dgs_cons (dg_name 9 hN) (dgs_cons (dg_name 10 hN) dgs_nil)) (tgs_len_cons (tgs_len_cons tgs_len_nil))))
 (ds_cons (ds_set 3 hN (de_ct cc_tup T.z_tuple bb_tuple (da_cons (DEL.fz (de_lc [("place", 11)] hN (di_range1 T.z_range (da_cons (de_var 10) da_nil)) (blkOk_by (by rfl)) ⟨fun _ _ _ _ _ => (dg_name 11 hN), fun _ _ _ _ _ => dts_nil, fun _ _ _ _ _ => (de_call c__law_roll x__law_roll (hr.mono (by decide)) LamX.takes0 (da_cons (de_var 2) (da_cons (de_var 9) da_nil)))⟩)) da_nil)))
 (ds_cons (ds_set 4 hN (de_ct cc_tup T.z_tuple bb_tuple (da_cons (DEL.fz (de_lc [("place", 11)] hN (di_range1 T.z_range (da_cons (de_var 10) da_nil)) (blkOk_by (by rfl)) ⟨fun _ _ _ _ _ => (dg_name 11 hN), fun _ _ _ _ _ => dts_nil, fun _ _ _ _ _ => (de_call c__law_roll x__law_roll (hr.mono (by decide)) LamX.takes0 (da_cons (de_var 2) (da_cons de_int da_nil)))⟩)) da_nil)))
 (ds_cons (ds_set 5 hN (de_call c__law_rest x__law_rest (hr.mono (by decide)) (takes_of rfl rfl rfl rfl) (da_cons (de_var 9) (da_cons (de_var 3) (da_cons (de_var 4) da_nil)))))
 (ds_cons (ds_if (dt_c1 (oc_ne hr.units) (de_callK (ks := ["digits", "weights", "modulus"]) [2, 1, 0] c_check kb_check_0 x_check (hr.mono (by decide)) (takes_of rfl rfl rfl rfl) (dk_cons (de_var 4) (dk_cons (de_var 3) (dk_cons (de_var 9) dk_nil)))) (de_var 5))
 (ds_one (ds_ret de_bl))
 ds_nil)
 (ds_cons (ds_if (dt_c1 (oc_ne hr.units) (de_callK (ks := ["weights", "modulus"]) [1, 0] c_missed_digit kb_missed_digit_0 x_missed_digit (hr.mono (by decide)) (takes_of rfl rfl rfl rfl) (dk_cons (de_var 3) (dk_cons (de_var 9) dk_nil))) (de_call c__law_missed_digit x__law_missed_digit (hr.mono (by decide)) (takes_of rfl rfl rfl rfl) (da_cons (de_var 9) (da_cons (de_var 3) da_nil))))
 (ds_one (ds_ret de_bl))
 ds_nil)
 (ds_cons (ds_if (dt_c1 (oc_ne hr.units) (de_callK (ks := ["weights", "modulus"]) [1, 0] c_missed_swap kb_missed_swap_0 x_missed_swap (hr.mono (by decide)) (takes_of rfl rfl rfl rfl) (dk_cons (de_var 3) (dk_cons (de_var 9) dk_nil))) (de_call c__law_missed_swap x__law_missed_swap (hr.mono (by decide)) (takes_of rfl rfl rfl rfl) (da_cons (de_var 9) (da_cons (de_var 3) da_nil))))
 (ds_one (ds_ret de_bl))
 ds_nil)
 (ds_cons (ds_if (dt_c1 (oc_ne hr.units) (de_callK (ks := ["weights", "modulus"]) [1, 0] c_finds_all kb_finds_all_0 x_finds_all (hr.mono (by decide)) (takes_of rfl rfl rfl rfl) (dk_cons (de_var 3) (dk_cons (de_var 9) dk_nil))) (de_call c__law_finds x__law_finds (hr.mono (by decide)) (takes_of rfl rfl rfl rfl) (da_cons (de_var 9) (da_cons (de_var 3) da_nil))))
 (ds_one (ds_ret de_bl))
 ds_nil)
 (ds_cons (ds_asg (de_tup (da_cons (de_call c__law_roll x__law_roll (hr.mono (by decide)) (takes_of rfl rfl rfl rfl) (da_cons (de_var 2) (da_cons (de_var 10) da_nil))) (da_cons (de_call c__law_pick x__law_pick (hr.mono (by decide)) (takes_of rfl rfl rfl rfl) (da_cons (de_var 2) (da_cons (DEL.fz (de_lst (da_cons (de_var 5) (da_cons (de_call c__law_roll x__law_roll (hr.mono (by decide)) (takes_of rfl rfl rfl rfl) (da_cons (de_var 2) (da_cons (de_var 9) da_nil))) da_nil)))) da_nil))) da_nil))) (dg_tup (dgs_cons (dg_name 11 hN) (dgs_cons (dg_name 12 hN) dgs_nil)) (tgs_len_cons (tgs_len_cons tgs_len_nil))))
 (ds_cons (ds_setLc 6 [("digit", 15)] (fun _ _ _ => fz_read) hN (di_range1 T.z_range (da_cons de_int da_nil)) (blkOk_by (by rfl)) ⟨fun _ _ _ _ _ => (dg_name 15 hN), fun _ _ _ _ _ => (dts_one (dt_c1 (oc_eq hr.units) (de_call c__law_rest x__law_rest (hr.mono (by decide)) LamX.takes0 (da_cons (de_var 9) (da_cons (de_var 3) (da_cons (de_catT (de_catT (de_cutT (de_var 4) do_none (do_some (de_var 11))) (de_tup (da_cons (de_var 15) da_nil))) (de_cutT (de_var 4) (do_some (de_add (de_var 11) de_int)) do_none)) da_nil)))) (de_var 12))), fun _ _ _ _ _ => (de_var 15)⟩)
 (ds_cons (ds_if (dt_c1 (oc_ne hr.units) (de_callK (ks := ["rest", "place", "digits", "weights", "modulus"]) [4, 3, 2, 1, 0] c_lost_digit kb_lost_digit_0 x_lost_digit (hr.mono (by decide)) (takes_of rfl rfl rfl rfl) (dk_cons (de_var 12) (dk_cons (de_var 11) (dk_cons (de_var 4) (dk_cons (de_var 3) (dk_cons (de_var 9) dk_nil)))))) (de_ct cc_tup T.z_tuple bb_tuple (da_cons (de_var 6) da_nil)))
 (ds_one (ds_ret de_bl))
 ds_nil)
 (ds_cons (ds_if (dt_c1 (oc_ne hr.units) (de_callK (ks := ["rest", "digits", "weights", "modulus"]) [3, 2, 1, 0] c_near_tags kb_near_tags_0 x_near_tags (hr.mono (by decide)) (takes_of rfl rfl rfl rfl) (dk_cons (de_var 12) (dk_cons (de_var 4) (dk_cons (de_var 3) (dk_cons (de_var 9) dk_nil))))) (de_call c__law_near x__law_near (hr.mono (by decide)) (takes_of rfl rfl rfl rfl) (da_cons (de_var 9) (da_cons (de_var 3) (da_cons (de_var 4) (da_cons (de_var 12) da_nil))))))
 (ds_one (ds_ret de_bl))
 ds_nil)
 (ds_cons (ds_asg (de_tup (da_cons (de_add de_int (de_call c__law_roll x__law_roll (hr.mono (by decide)) (takes_of rfl rfl rfl rfl) (da_cons (de_var 2) (da_cons de_int da_nil)))) (da_cons (de_add de_int (de_call c__law_roll x__law_roll (hr.mono (by decide)) (takes_of rfl rfl rfl rfl) (da_cons (de_var 2) (da_cons de_int da_nil)))) da_nil))) (dg_tup (dgs_cons (dg_name 13 hN) (dgs_cons (dg_name 14 hN) dgs_nil)) (tgs_len_cons (tgs_len_cons tgs_len_nil))))
 (ds_cons (ds_set 7 hN (de_call c__law_first x__law_first (hr.mono (by decide)) (takes_of rfl rfl rfl rfl) (da_cons (de_var 13) (da_cons (de_var 14) da_nil))))
 (ds_cons (ds_if (dt_c1 (oc_ne hr.units) (de_askd tells__law_asked TB hmT huT hrl (fun A outer s H E f c' hr => (de_callK (ks := ["many", "modulus"]) [1, 0] c_first_weights kb_first_weights_0 x_first_weights (hr.mono (by decide)) (takes_of rfl rfl rfl rfl) (dk_cons (de_var 14) (dk_cons (de_var 13) dk_nil))))) (de_if (dt_c1 oc_is (de_var 7) de_non) de_str (de_var 7)))
 (ds_one (ds_ret de_bl))
 ds_nil)
 (ds_cons (ds_set 8 hN (DEL.fz (de_lst (da_cons (de_refd tells__law_refused TB hmT huT hrl (fun A outer s H E f c' hr => (de_call c_check x_check (hr.mono (by decide)) (takes_of rfl rfl rfl rfl) (da_cons de_int (da_cons (de_var 3) (da_cons (de_var 4) da_nil)))))) (da_cons (de_refd tells__law_refused TB hmT huT hrl (fun A outer s H E f c' hr => (de_call c_check x_check (hr.mono (by decide)) (takes_of rfl rfl rfl rfl) (da_cons (de_var 9) (da_cons (de_catT (de_var 3) (de_tup (da_cons (de_var 9) da_nil))) (da_cons de_non da_nil)))))) (da_cons (de_refd tells__law_refused TB hmT huT hrl (fun A outer s H E f c' hr => (de_call c_check x_check (hr.mono (by decide)) (takes_of rfl rfl rfl rfl) (da_cons (de_var 9) (da_cons (de_var 3) (da_cons (de_catT (de_var 4) (de_tup (da_cons de_int da_nil))) da_nil)))))) (da_cons (de_refd tells__law_refused TB hmT huT hrl (fun A outer s H E f c' hr => (de_call c_missed_digit x_missed_digit (hr.mono (by decide)) (takes_of rfl rfl rfl rfl) (da_cons de_int (da_cons (de_tup da_nil) da_nil))))) (da_cons (de_refd tells__law_refused TB hmT huT hrl (fun A outer s H E f c' hr => (de_call c_missed_swap x_missed_swap (hr.mono (by decide)) (takes_of rfl rfl rfl rfl) (da_cons (de_var 9) (da_cons (de_tup da_nil) da_nil))))) (da_cons (de_refd tells__law_refused TB hmT huT hrl (fun A outer s H E f c' hr => (de_call c_finds_all x_finds_all (hr.mono (by decide)) (takes_of rfl rfl rfl rfl) (da_cons (de_var 9) (da_cons (de_repA (de_tup (da_cons de_int da_nil)) de_int) da_nil))))) (da_cons (de_refd tells__law_refused TB hmT huT hrl (fun A outer s H E f c' hr => (de_call c_lost_digit x_lost_digit (hr.mono (by decide)) (takes_of rfl rfl rfl rfl) (da_cons (de_var 9) (da_cons (de_var 3) (da_cons (de_var 4) (da_cons (de_var 10) (da_cons (de_var 9) da_nil)))))))) (da_cons (de_refd tells__law_refused TB hmT huT hrl (fun A outer s H E f c' hr => (de_call c_lost_digit x_lost_digit (hr.mono (by decide)) (takes_of rfl rfl rfl rfl) (da_cons (de_var 9) (da_cons (de_var 3) (da_cons (de_var 4) (da_cons de_int (da_cons (de_var 9) da_nil)))))))) (da_cons (de_refd tells__law_refused TB hmT huT hrl (fun A outer s H E f c' hr => (de_call c_near_tags x_near_tags (hr.mono (by decide)) (takes_of rfl rfl rfl rfl) (da_cons (de_var 9) (da_cons (de_var 3) (da_cons (de_repA (de_tup (da_cons de_int da_nil)) (de_var 10)) (da_cons de_int da_nil))))))) (da_cons (de_refd tells__law_refused TB hmT huT hrl (fun A outer s H E f c' hr => (de_call c_near_tags x_near_tags (hr.mono (by decide)) (takes_of rfl rfl rfl rfl) (da_cons (de_var 9) (da_cons (de_var 3) (da_cons (de_var 4) (da_cons (de_neg de_int) da_nil))))))) (da_cons (de_refd tells__law_refused TB hmT huT hrl (fun A outer s H E f c' hr => (de_call c_first_weights x_first_weights (hr.mono (by decide)) (takes_of rfl rfl rfl rfl) (da_cons de_int (da_cons de_int da_nil))))) (da_cons (de_refd tells__law_refused TB hmT huT hrl (fun A outer s H E f c' hr => (de_call c_first_weights x_first_weights (hr.mono (by decide)) (takes_of rfl rfl rfl rfl) (da_cons de_int (da_cons de_int da_nil))))) da_nil)))))))))))))))
 (ds_one (ds_if (dt_c1 (oc_ne hr.units) (de_var 8) (DEL.fz (de_lst (da_cons de_str (da_cons de_str (da_cons de_str (da_cons de_str (da_cons de_str (da_cons de_str (da_cons de_str (da_cons de_str (da_cons de_str (da_cons de_str (da_cons de_str (da_cons de_str da_nil)))))))))))))))
 (ds_one (ds_ret de_bl))
 ds_nil))))))))))))))))))))
 (ds_one (ds_ret (de_and (de_c1 (oc_eq hr.units) (de_call c_missed_digit x_missed_digit (hr.mono (by decide)) (takes_of rfl rfl rfl rfl) (da_cons de_int (da_cons (de_tup (da_cons de_int (da_cons de_int da_nil))) da_nil))) (de_tup (da_cons de_int (da_cons de_int da_nil)))) (de_and (de_c1 (oc_eq hr.units) (de_call c_missed_swap x_missed_swap (hr.mono (by decide)) (takes_of rfl rfl rfl rfl) (da_cons de_int (da_cons (de_tup (da_cons de_int (da_cons de_int da_nil))) da_nil))) (de_tup (da_cons de_int (da_cons de_int da_nil)))) (de_and (de_call c_finds_all x_finds_all (hr.mono (by decide)) (takes_of rfl rfl rfl rfl) (da_cons de_int (da_cons (de_tup (da_cons de_int (da_cons de_int (da_cons de_int da_nil)))) da_nil))) (de_one (de_c1 (oc_eq hr.units) (de_call c_first_weights x_first_weights (hr.mono (by decide)) (takes_of rfl rfl rfl rfl) (da_cons de_int (da_cons de_int da_nil))) (de_tup (da_cons de_int (da_cons de_int (da_cons de_int da_nil))))))))))))
abbrev G_law : FD := R_law
theorem le_law (ds : List D) (μ : Sto) (_ : Scoped μ) (_ : unders μ.length ds = true) : LeG μ (R_law ds μ) (G_law ds μ) := .inr (.inl rfl)
section
theorem zSZ' (n : Nat) (h : n ≤ 1000) : n ≤ SZ := by rw [SZ_eq]; omega
def dotN (w d : List Nat) : Nat := ((w.zip d).map fun p => p.1 * p.2).sum
def rstN (m : Nat) (w d : List Nat) : Nat := dotN w d % m
structure GoodW (m : Nat) (w : List Nat) : Prop where
  lo : 2 ≤ m
  hi : m ≤ 97
  ln : 1 ≤ w.length
  lm : w.length ≤ 8
  bd : ∀ x ∈ w, x < m
structure GoodD (w d : List Nat) : Prop where
  ln : d.length = w.length
  bd : ∀ x ∈ d, x ≤ 9
theorem sum_cast {α : Type} (f : α → Nat) : ∀ l : List α, (l.map fun a => ((f a : Nat) : Int)).sum = (((l.map f).sum : Nat) : Int)
  | [] => rfl
  | a :: l => by
    rw [List.map_cons, List.sum_cons, sum_cast f l, List.map_cons, List.sum_cons]
    push_cast
    rfl
theorem mul_c {a b : Nat} (h : a < 1000) : cMul (a : Int) (b : Int) = true := cMul_l _ (by omega)
theorem gmul {a b : Nat} (h : a < 1000) : gI cMul (fun x1 x2 => x1 * x2) (natD a) (natD b) = some (natD (a * b)) := by
  have hc := mul_c (b := b) h
  show (if cMul (a : Int) (b : Int) = true then some (D.int ((a : Int) * (b : Int))) else none) = some (D.int ((a * b : Nat) : Int))
  rw [if_pos hc]
  push_cast
  rfl
theorem gmod {a m : Nat} (h : 1 ≤ m) : gI cMod (fun x1 x2 => x1 % x2) (natD a) (natD m) = some (natD (a % m)) := by
  have hc : cMod (a : Int) (m : Int) = true := cMod_ok _ (by omega)
  show (if cMod (a : Int) (m : Int) = true then some (D.int ((a : Int) % (m : Int))) else none) = some (D.int ((a % m : Nat) : Int))
  rw [if_pos hc]
  rfl
theorem gadd {a b : Nat} : gI0 (fun x1 x2 => x1 + x2) (natD a) (natD b) = some (natD (a + b)) := rfl
theorem rest_ok {m : Nat} {w d : List Nat} (hm : 1 ≤ m) (hw : ∀ x ∈ w, x < 1000) (hl : w.length ≤ 1000) (μ : Sto) : R_rest_of [natD m, natsD w, natsD d] μ = .ok (natD (rstN m w d)) μ := by
  have e : ∀ a b, lcD [] (tgT (tgsCons (tgN 3) (tgsCons (tgN 4) tgsNil))) tYesD E_rest_of_1 [some (natD m), some (natsD w), some (natsD d), a, b] ((w.zip d).map fun q => .tup [natD q.1, natD q.2]) μ = .ok ((w.zip d).map fun q => natD (q.1 * q.2)) μ := fun a b => by
    refine lcD_mapF _ _ _ (by simp) fun q hq => ⟨_, rfl, ?_⟩
    have hq1 := hw _ (List.of_mem_zip hq).1
    have hc := gmul (b := q.2) hq1
    simp [E_rest_of_1, hc]
  have hz := zip_nats w d
  have hl' : (w.zip d).length ≤ SZ := by rw [List.length_zip, SZ_eq]; omega
  have es := gSum_of (fun q : Nat × Nat => ((q.1 * q.2 : Nat) : Int)) (w.zip d) μ
  rw [sum_cast] at es
  have es : gSumT [.lst ((w.zip d).map fun q => natD (q.1 * q.2))] μ = .ok (natD (dotN w d)) μ := es
  generalize (w.zip d) = zz at *
  have hm' := gmod (a := dotN w d) hm
  simp [R_rest_of, x_runF, F_rest_of, hz, hl', e, es, hm', rstN]
theorem law_rest_ok {m : Nat} {w d : List Nat} (hm : 1 ≤ m) (hw : ∀ x ∈ w, x < 1000) (μ : Sto) : R__law_rest [natD m, natsD w, natsD d] μ = .ok (natD (rstN m w d)) μ := by
  have hz := zip_nats w d
  have loop : ∀ (l : List (Nat × Nat)) (t : Nat) (a b : Option D), (∀ q ∈ l, q.1 < 1000) → ∃ a' b', forD [] (tgT (tgsCons (tgN 4) (tgsCons (tgN 5) tgsNil))) B__law_rest_1 (l.map fun q => .tup [natD q.1, natD q.2]) [some (natD m), some (natsD w), some (natsD d), some (natD t), a, b] μ =
      .nx [some (natD m), some (natsD w), some (natsD d), some (natD (t + (l.map fun q => q.1 * q.2).sum)), a', b'] μ := by
    intro l
    induction l with
    | nil => intro t a b _; exact ⟨a, b, by simp [forD]⟩
    | cons q l ih =>
      intro t a b h
      obtain ⟨a', b', e⟩ := ih (t + q.1 * q.2) (some (natD q.1)) (some (natD q.2)) fun x hx => h x (List.mem_cons_of_mem _ hx)
      refine ⟨a', b', ?_⟩
      have hc := gmul (b := q.2) (h q List.mem_cons_self)
      rw [List.map_cons, forD]
      rw [List.map_cons, List.sum_cons, ← Nat.add_assoc, ← e]
      simp [B__law_rest_1, hc, gadd]
  obtain ⟨a', b', e⟩ := loop (w.zip d) 0 none none fun q hq => hw _ (List.of_mem_zip hq).1
  rw [Nat.zero_add] at e
  have e : forD [] (tgT (tgsCons (tgN 4) (tgsCons (tgN 5) tgsNil))) B__law_rest_1 ((w.zip d).map fun q => .tup [natD q.1, natD q.2]) [some (natD m), some (natsD w), some (natsD d), some (.int 0), none, none] μ = .nx [some (natD m), some (natsD w), some (natsD d), some (natD (dotN w d)), a', b'] μ := e
  generalize (w.zip d) = zz at *
  have hm' := gmod (a := dotN w d) hm
  have hi : gIntOf [natD (dotN w d)] μ = .ok (natD (dotN w d)) μ := rfl
  simp [R__law_rest, x_runF, F__law_rest, hz, e, hi, hm', rstN]
theorem mod_in {m : Nat} {μ : Sto} (h1 : 2 ≤ m) (h2 : m ≤ 97) : G_is_in [natD m, .int 2, .int 97] μ = .ok (.bl true) μ := by
  have hi : isInD (natD m) 2 97 = true := by simp [isInD, natD]; omega
  have hti : tyD μ (natD m) = some "int" := rfl
  simp [G_is_in, hi, hti]
theorem demand_w_ok {m : Nat} {w : List Nat} (h : GoodW m w) (μ : Sto) : R_demand_weights [natsD w, natD m] μ = .ok .non μ := by
  have h1 := h.lo
  have h2 := h.hi
  have h3 := h.ln
  have h4 := h.lm
  have hf : fitD (natsD w) = true := fit_nats (by rw [SZ_eq]; omega)
  have hty := fit_ty μ hf
  have ht : isTupleD (natsD w) 1 8 = true := by simp [isTupleD]; omega
  have hz : w.length ≤ SZ := by rw [SZ_eq]; omega
  have e : ∀ a, lcD [] (tgN 2) tYesD E_demand_weights_1 [some (natsD w), some (natD m), a] (natsL w) μ = .ok (w.map fun _ => .bl true) μ := fun a => by
    refine lcD_mapF natD (fun _ => .bl true) w (by simp) fun x hx => ⟨_, rfl, ?_⟩
    have hx' := h.bd x hx
    have hi : isInD (natD x) 0 ((m : Int) - 1) = true := by simp [isInD, natD]; omega
    have hti : tyD μ (natD x) = some "int" := rfl
    simp [E_demand_weights_1, G_is_in, natD] at hi hti ⊢
    simp [hi, hti]
  have e7 := gAll_of (fun _ : Nat => true) w μ
  have hmi := mod_in (μ := μ) h1 h2
  simp [R_demand_weights, x_runF, F_demand_weights, hmi, G_demand, G_is_tuple, hty, ht, hz, e, e7]
theorem demand_d_ok {w d : List Nat} (hw : w.length ≤ 8) (h : GoodD w d) (μ : Sto) : R_demand_digits [natsD d, natsD w] μ = .ok .non μ := by
  have hl := h.ln
  have hf : fitD (natsD d) = true := fit_nats (by rw [SZ_eq]; omega)
  have hok := fit_ok μ hf
  have ha := areIn_nats (o := d) (n := w.length) (m := 9)
  have h9 : (d.all fun x => decide (x ≤ 9)) = true := List.all_eq_true.mpr fun x hx => decide_eq_true (h.bd x hx)
  rw [h9, decide_eq_true hl, Bool.and_self] at ha
  have hz : w.length ≤ SZ := by rw [SZ_eq]; omega
  have ha' : areInD (natsD d) w.length w.length 0 9 = true := ha
  simp [R_demand_digits, x_runF, F_demand_digits, G_are_in, hok, hz, ha', G_demand]
theorem check_ok {m : Nat} {w d : List Nat} (h : GoodW m w) (hd : GoodD w d) (μ : Sto) : R_check [natD m, natsD w, natsD d] μ = .ok (natD (rstN m w d)) μ := by
  have e1 := demand_w_ok h μ
  have e2 := demand_d_ok h.lm hd μ
  have e3 := rest_ok (m := m) (w := w) (d := d) (by have := h.lo; omega) (fun x hx => by have := h.bd x hx; have := h.hi; omega) (by have := h.lm; omega) μ
  simp [R_check, x_runF, F_check, e1, e2, e3]
end

section
def offs : List Nat := (List.range 9).map (· + 1)
def firstPO (n : Nat) (p : Nat → Nat → Bool) : Option (Nat × Nat) := match (List.range n).find? fun i => offs.any (p i) with
  | none => none
  | some i => (offs.find? (p i)).map fun o => (i, o)
def poD : Option (Nat × Nat) → D
  | none => .non
  | some q => .tup [natD q.1, natD q.2]
theorem offs_rng : rangeD 1 9 = offs.map natD := by rfl
theorem po_loop {enc : Nat → D} {p : Nat → Nat → Bool} {n : Nat} {g gi : FG} {Fo Fi : FS} {Jo : En → Prop} {μ : Sto} {ρ : En} {N : En → Sto → Prop} {T : D → Sto → Prop} (h0 : Jo ρ)
    (hb : ∀ i, i < n → ∀ ρ, Jo ρ → ∃ ρ1, g (enc i) ρ = some ρ1 ∧ Fo ρ1 μ = forD [] gi Fi (offs.map natD) ρ1 μ ∧ ∃ Ji : En → Prop, Ji ρ1 ∧ (∀ ρ', Ji ρ' → Jo ρ') ∧
      ∀ o ∈ offs, ∀ ρ', Ji ρ' → ∃ ρ2, gi (natD o) ρ' = some ρ2 ∧ (p i o = true → Fi ρ2 μ = .rt (.tup [natD i, natD o]) μ) ∧ (p i o = false → ∃ ρ3, Ji ρ3 ∧ Fi ρ2 μ = .nx ρ3 μ))
    (hN : firstPO n p = none → ∀ ρ, Jo ρ → N ρ μ) (hT : ∀ i o, firstPO n p = some (i, o) → T (.tup [natD i, natD o]) μ) :
    (forD [] g Fo ((List.range n).map enc) ρ μ).W N T := by
  refine forD_find enc (fun i => offs.any (p i)) (fun ρ μ' => Jo ρ ∧ μ' = μ) (List.range n) ρ μ ⟨h0, rfl⟩ ?_ ?_
  · rintro i hi ρ μ' ⟨hJ, rfl⟩
    obtain ⟨ρ1, e1, e2, Ji, h1, h2, h3⟩ := hb i (List.mem_range.mp hi) ρ hJ
    refine ⟨ρ1, e1, fun hc hf => SR.W.loop ?_, fun hc X hX => SR.W.loop ?_⟩
    · rw [e2]
      refine forD_find natD (p i) (fun ρ μ'' => Ji ρ ∧ μ'' = μ') offs ρ1 μ' ⟨h1, rfl⟩ ?_ ?_
      · rintro o ho ρ' μ'' ⟨hJi, rfl⟩
        obtain ⟨ρ2, a1, a2, a3⟩ := h3 o ho ρ' hJi
        refine ⟨ρ2, a1, fun hp hf2 => ?_, fun hp Y hY => ?_⟩
        · rw [a2 hp]
          refine hT i o ?_
          unfold firstPO
          rw [hf]
          show (offs.find? (p i)).map _ = _
          rw [hf2]
          rfl
        · obtain ⟨ρ3, b1, b2⟩ := a3 hp
          rw [b2]
          exact hY ρ3 _ ⟨b1, rfl⟩
      · rintro ρ' μ'' _ hn
        rw [List.find?_eq_none] at hn
        obtain ⟨o, ho, hp⟩ := List.any_eq_true.mp hc
        exact absurd hp (hn o ho)
    · rw [e2]
      refine forD_find natD (p i) (fun ρ μ'' => Ji ρ ∧ μ'' = μ') offs ρ1 μ' ⟨h1, rfl⟩ ?_ ?_
      · rintro o ho ρ' μ'' ⟨hJi, rfl⟩
        obtain ⟨ρ2, a1, a2, a3⟩ := h3 o ho ρ' hJi
        refine ⟨ρ2, a1, fun hp hf2 => ?_, fun hp Y hY => ?_⟩
        · have : offs.any (p i) = true := List.any_eq_true.mpr ⟨o, ho, hp⟩
          rw [this] at hc
          cases hc
        · obtain ⟨ρ3, b1, b2⟩ := a3 hp
          rw [b2]
          exact hY ρ3 _ ⟨b1, rfl⟩
      · rintro ρ' μ'' ⟨hJi, rfl⟩ _
        exact hX _ _ ⟨h2 ρ' hJi, rfl⟩
  · rintro ρ μ' ⟨hJ, rfl⟩ hn
    refine hN ?_ ρ hJ
    unfold firstPO
    rw [hn]
theorem of_W {r : R D} {x : D} {μ : Sto} (h : r.W fun d μ' => d = x ∧ μ' = μ) : r = .ok x μ := by
  cases r with
  | ok d μ' =>
    obtain ⟨rfl, rfl⟩ := h
    rfl
  | _ => exact h.elim
theorem enum_at (o : List Nat) : enumD (natsL o) = (List.range o.length).map fun i => D.tup [natD i, natD (atN o i)] := by
  apply List.ext_getElem?
  intro i
  simp [enumD, natsL, List.getElem?_mapIdx]
  by_cases h : i < o.length
  · simp [h, atN_get h]; rfl
  · simp [h, List.getElem?_eq_none (Nat.le_of_not_lt h)]
def mdP (m : Nat) (w : List Nat) (i o : Nat) : Bool := decide (atN w i * o % m = 0)
def msP (m : Nat) (w : List Nat) (i o : Nat) : Bool := decide (atN w i * o % m = atN w (i + 1) * o % m)
variable {m : Nat} {w : List Nat}
theorem mem_offs {o : Nat} (h : o ∈ offs) : 1 ≤ o ∧ o ≤ 9 := by
  unfold offs at h
  obtain ⟨a, ha, rfl⟩ := List.mem_map.mp h
  have := List.mem_range.mp ha
  omega
theorem gEq_natD {a b : Nat} {μ : Sto} : gEq (natD a) (natD b) μ = some (decide (a = b)) := gEq_nn
theorem rg19 (μ : Sto) : gRange2 [.int 1, .int 10] μ = .ok (offs.map natD, []) μ := by
  rw [x_gRange2 (small_ok (by omega)) (small_ok (by omega))]
  rfl
theorem md_ok (h : GoodW m w) (μ : Sto) : R_missed_digit [natD m, natsD w] μ = .ok (poD (firstPO w.length (mdP m w))) μ := by
  have h1 := h.lo
  have h2 := h.hi
  have h3 := h.lm
  have z2 := zSZ' 2 (by omega)
  refine of_W (runF_W ?_)
  have e1 := demand_w_ok h μ
  simp only [F_missed_digit, SR.W_seq]
  simp [e1, enum_at]
  refine po_loop (p := mdP m w) (gi := tgN 4) (Fi := B_missed_digit_1) (Jo := fun ρ => ∃ a b c, ρ = [some (natD m), some (natsD w), a, b, c]) ⟨_, _, _, rfl⟩ ?_ ?_ ?_
  · rintro i hi ρ ⟨a, b, c, rfl⟩
    refine ⟨_, rfl, by simp [B_missed_digit_2, rg19], fun ρ => ∃ c, ρ = [some (natD m), some (natsD w), some (natD i), some (natD (atN w i)), c], ⟨_, rfl⟩, fun ρ' ⟨c, e⟩ => ⟨_, _, _, e⟩, ?_⟩
    rintro o ho ρ' ⟨c, rfl⟩
    have hx := h.bd _ (atN_mem hi)
    have g1 := gmul (a := atN w i) (b := o) (by omega)
    have g2 := gmod (a := atN w i * o) (m := m) (by omega)
    have g3 : gEq (natD (atN w i * o % m)) (.int 0) μ = some (mdP m w i o) := gEq_natD (b := 0)
    refine ⟨_, rfl, fun hp => ?_, fun hp => ⟨[some (natD m), some (natsD w), some (natD i), some (natD (atN w i)), some (natD o)], ⟨_, rfl⟩, ?_⟩⟩
    · rw [hp] at g3
      simp [B_missed_digit_1, g1, g2, g3, z2]
    · rw [hp] at g3
      simp [B_missed_digit_1, g1, g2, g3, z2]
  · rintro hn ρ ⟨a, b, c, rfl⟩
    simp [hn, poD]
  · intro i o ho
    simp [ho, poD]
theorem enum_zip (o : List Nat) : enumD (zipD (natsL o) (natsL (o.drop 1))) = (List.range (o.length - 1)).map fun i => D.tup [natD i, .tup [natD (atN o i), natD (atN o (i + 1))]] := by
  rw [zip_nats]
  apply List.ext_getElem?
  intro i
  simp [enumD, List.getElem?_mapIdx, List.getElem?_zip_eq_some]
  by_cases h : i < o.length - 1
  · have h1 : i < o.length := by omega
    have h2 : i + 1 < o.length := by omega
    have e1 : (o.zip (o.drop 1))[i]? = some (o[i], o[i + 1]) := by
      rw [List.getElem?_zip_eq_some]
      simp [h1, h2, Nat.add_comm]
    simp at e1
    rw [show o.tail = o.drop 1 by simp] at *
    simp [h, e1, atN_get h1, atN_get h2]
    rfl
  · have e1 : (o.zip (o.drop 1))[i]? = none := by
      rw [List.getElem?_eq_none]
      rw [List.length_zip, List.length_drop]
      omega
    simp at e1
    simp [h, e1]
theorem sub_mod {a b o m : Nat} : (((a : Int) - b) * o % m = 0) ↔ a * o % m = b * o % m := by
  rw [Int.sub_mul, ← Int.emod_eq_emod_iff_emod_sub_eq_zero]
  constructor
  · intro h
    have h : ((a * o % m : Nat) : Int) = ((b * o % m : Nat) : Int) := by push_cast; exact h
    omega
  · intro h
    have h : ((a * o % m : Nat) : Int) = ((b * o % m : Nat) : Int) := by rw [h]
    push_cast at h
    exact h
theorem ms_ok (h : GoodW m w) (μ : Sto) : R_missed_swap [natD m, natsD w] μ = .ok (poD (firstPO (w.length - 1) (msP m w))) μ := by
  have h1 := h.lo
  have h2 := h.hi
  have h3 := h.lm
  have z2 := zSZ' 2 (by omega)
  refine of_W (runF_W ?_)
  have e1 := demand_w_ok h μ
  have e2 : cutD (natsL w) (some 1) none = natsL (w.drop 1) := by rw [cutD_from1, drop_natsL]
  have e3 := enum_zip w
  simp only [F_missed_swap, SR.W_seq]
  generalize hd : w.drop 1 = w1 at e2 e3
  simp [e1, e2, -cutD_from1, e3]
  refine po_loop (p := msP m w) (gi := tgN 3) (Fi := B_missed_swap_1) (Jo := fun ρ => ∃ a b c d, ρ = [some (natD m), some (natsD w), a, b, c, d]) ⟨_, _, _, _, rfl⟩ ?_ ?_ ?_
  · rintro i hi ρ ⟨a, b, c, d, rfl⟩
    refine ⟨_, rfl, by simp [B_missed_swap_2, rg19], fun ρ => ∃ c, ρ = [some (natD m), some (natsD w), some (natD i), c, some (natD (atN w i)), some (natD (atN w (i + 1)))], ⟨_, rfl⟩, fun ρ' ⟨c, e⟩ => ⟨_, _, _, _, e⟩, ?_⟩
    rintro o ho ρ' ⟨c, rfl⟩
    have hx := h.bd _ (atN_mem (show i < w.length by omega))
    have hy := h.bd _ (atN_mem (show i + 1 < w.length by omega))
    have ho' := mem_offs ho
    have g1 : cMul ((atN w i : Int) - (atN w (i + 1) : Int)) (o : Int) = true := cMul_l _ (by omega)
    have g2 : cMod (((atN w i : Int) - (atN w (i + 1) : Int)) * (o : Int)) (m : Int) = true := cMod_ok _ (by omega)
    have g3 : gEq (.int (((atN w i : Int) - (atN w (i + 1) : Int)) * (o : Int) % (m : Int))) (.int 0) μ = some (msP m w i o) := by
      rw [gEq_int]
      congr 1
      unfold msP
      rw [Bool.eq_iff_iff, decide_eq_true_eq, decide_eq_true_eq]
      exact sub_mod
    refine ⟨_, rfl, fun hp => ?_, fun hp => ⟨[some (natD m), some (natsD w), some (natD i), some (natD o), some (natD (atN w i)), some (natD (atN w (i + 1)))], ⟨_, rfl⟩, ?_⟩⟩
    · rw [hp] at g3
      simp [B_missed_swap_1, natD, g1, g2, g3, z2]
    · rw [hp] at g3
      simp [B_missed_swap_1, natD, g1, g2, g3, z2]
  · rintro hn ρ ⟨a, b, c, d, rfl⟩
    simp [hn, poD]
  · intro i o ho
    simp [ho, poD]
def finB (m : Nat) (w : List Nat) : Bool := (firstPO w.length (mdP m w)).isNone && (firstPO (w.length - 1) (msP m w)).isNone
theorem is_non (q : Option (Nat × Nat)) (μ : Sto) : gIs (poD q) .non μ = some q.isNone := by cases q <;> rfl
theorem fa_ok (h : GoodW m w) (μ : Sto) : R_finds_all [natD m, natsD w] μ = .ok (.bl (finB m w)) μ := by
  have e1 := md_ok h μ
  have e2 := ms_ok h μ
  have e3 := is_non (firstPO w.length (mdP m w)) μ
  have e4 := is_non (firstPO (w.length - 1) (msP m w)) μ
  unfold finB
  generalize firstPO w.length (mdP m w) = q1 at *
  generalize firstPO (w.length - 1) (msP m w) = q2 at *
  cases q1 <;> simp [R_finds_all, x_runF, F_finds_all, e1, e2, e3, e4]
end

section
variable {m : Nat} {w : List Nat}
def zs (n : Nat) : List Nat := List.replicate n 0
theorem dot_zs : ∀ (w : List Nat) (n : Nat), dotN w (zs n) = 0
  | [], n => by simp [dotN]
  | x :: w, 0 => by simp [dotN, zs]
  | x :: w, n + 1 => by
    have := dot_zs w n
    unfold dotN zs at *
    rw [List.replicate_succ, List.zip_cons_cons, List.map_cons, List.sum_cons, this]
    rfl
theorem dot_cons (x y : Nat) (w d : List Nat) : dotN (x :: w) (y :: d) = x * y + dotN w d := by unfold dotN; rw [List.zip_cons_cons, List.map_cons, List.sum_cons]
theorem dot_one : ∀ (w : List Nat) (i k o : Nat), i < w.length → dotN w (zs i ++ [o] ++ zs k) = atN w i * o
  | x :: w, 0, k, o, _ => by
    show dotN (x :: w) (o :: zs k) = _
    rw [dot_cons, dot_zs]
    rfl
  | x :: w, i + 1, k, o, h => by
    have := dot_one w i k o (by simpa using h)
    show dotN (x :: w) (0 :: (zs i ++ [o] ++ zs k)) = _
    rw [dot_cons, this]
    simp [atN]
theorem dot_fst : ∀ (w : List Nat) (i k o : Nat), i < w.length → dotN w (zs i ++ [o, 0] ++ zs k) = atN w i * o := fun w i k o h => by
  have := dot_one w i (k + 1) o h
  rwa [show zs i ++ [o, 0] ++ zs k = zs i ++ [o] ++ zs (k + 1) by simp [zs, List.replicate_succ]]
theorem dot_snd : ∀ (w : List Nat) (i k o : Nat), i + 1 < w.length → dotN w (zs i ++ [0, o] ++ zs k) = atN w (i + 1) * o := fun w i k o h => by
  have := dot_one w (i + 1) k o h
  rwa [show zs i ++ [0, o] ++ zs k = zs (i + 1) ++ [o] ++ zs k by simp [zs, List.replicate_succ']]
theorem zs_D (n : Nat) : List.replicate n (D.int 0) = natsL (zs n) := by unfold natsL zs; rw [List.map_replicate]; rfl
theorem nats_app (a b : List Nat) : natsL a ++ natsL b = natsL (a ++ b) := by unfold natsL; rw [List.map_append]
theorem take_natsL (o : List Nat) (n : Nat) : (natsL o).take n = natsL (o.take n) := by unfold natsL; rw [List.map_take]
theorem cut_lo (o : List Nat) (i : Nat) : cutD (natsL o) none (some (i : Int)) = natsL (o.take i) := by rw [cutD_to, take_natsL]
theorem cut_hi (o : List Nat) (i : Nat) : cutD (natsL o) (some (i : Int)) none = natsL (o.drop i) := by rw [cutD_from, drop_natsL]
theorem cut_hi1 (o : List Nat) (i : Nat) : cutD (natsL o) (some ((i : Int) + 1)) none = natsL (o.drop (i + 1)) := cut_hi o (i + 1)
theorem cut_hi2 (o : List Nat) (i : Nat) : cutD (natsL o) (some ((i : Int) + 2)) none = natsL (o.drop (i + 2)) := cut_hi o (i + 2)
theorem zs_take {n i : Nat} (h : i ≤ n) : (zs n).take i = zs i := by simp [zs]; omega
theorem zs_drop {n i : Nat} : (zs n).drop i = zs (n - i) := by simp [zs]
theorem wsm (h : GoodW m w) : ∀ x ∈ w, x < 1000 := fun x hx => by have := h.bd x hx; have := h.hi; omega
theorem rep_zs {n : Nat} (h1 : 1 ≤ n) (h2 : n ≤ 8) : gRepA (.tup [.int 0]) (.int (n : Int)) = some (natsD (zs n)) := by
  match n, h1, h2 with
  | 1, _, _ => rfl
  | 2, _, _ => rfl
  | 3, _, _ => rfl
  | 4, _, _ => rfl
  | 5, _, _ => rfl
  | 6, _, _ => rfl
  | 7, _, _ => rfl
  | 8, _, _ => rfl
theorem cat3_ok {fa fb fc : FE D} {ρ : En} {μ : Sto} {a b c : List Nat} (h1 : fa ρ μ = .ok (natsD a) μ) (h2 : fb ρ μ = .ok (natsD b) μ) (h3 : fc ρ μ = .ok (natsD c) μ) (hl : a.length + b.length + c.length ≤ 1000) :
    eCatT (eCatT fa fb) fc ρ μ = .ok (natsD (a ++ b ++ c)) μ := by
  have e1 : (natsL a).length + (natsL b).length ≤ SZ := by rw [SZ_eq]; simp [natsL]; omega
  have e2 : (natsL a ++ natsL b).length + (natsL c).length ≤ SZ := by rw [SZ_eq]; simp [natsL]; omega
  have s1 : eCatT fa fb ρ μ = .ok (natsD (a ++ b)) μ := by
    rw [x_eCatT, h1]
    show ((fb ρ μ).bind _ : R D) = _
    rw [h2]
    show (if (natsL a).length + (natsL b).length ≤ SZ then R.ok (D.tup (natsL a ++ natsL b)) μ else .bad) = _
    rw [if_pos e1, nats_app]
  rw [x_eCatT, s1]
  show ((fc ρ μ).bind _ : R D) = _
  rw [h3]
  show (if (natsL (a ++ b)).length + (natsL c).length ≤ SZ then R.ok (D.tup (natsL (a ++ b) ++ natsL c)) μ else .bad) = _
  rw [if_pos (by rw [← nats_app]; exact e2), nats_app]
theorem lmd_ok (h : GoodW m w) (μ : Sto) : R__law_missed_digit [natD m, natsD w] μ = .ok (poD (firstPO w.length (mdP m w))) μ := by
  have h1 := h.lo
  have h2 := h.hi
  have h3 := h.lm
  have z1 := zSZ' 1 (by omega)
  have z2 := zSZ' 2 (by omega)
  have hz : w.length ≤ SZ := by rw [SZ_eq]; omega
  refine of_W (runF_W ?_)
  simp only [F__law_missed_digit, SR.W_seq]
  simp [x_gRange1 (small_ok (i := (w.length : Int)) (by omega)), range_nats, hz]
  refine po_loop (p := mdP m w) (gi := tgN 3) (Fi := B__law_missed_digit_1) (Jo := fun ρ => ∃ a b c d, ρ = [some (natD m), some (natsD w), a, b, c, d]) ⟨_, _, _, _, rfl⟩ ?_ ?_ ?_
  · rintro i hi ρ ⟨a, b, c, d, rfl⟩
    refine ⟨_, rfl, by simp [B__law_missed_digit_2, rg19], fun ρ => ∃ a b c, ρ = [some (natD m), some (natsD w), some (natD i), a, b, c], ⟨_, _, _, rfl⟩, fun ρ' ⟨_, _, _, e⟩ => ⟨_, _, _, _, e⟩, ?_⟩
    rintro o ho ρ' ⟨b, c, d, rfl⟩
    have q1 : ∀ k, rstN m w (zs k) = 0 := fun k => by unfold rstN; rw [dot_zs, Nat.zero_mod]
    have q2 : ∀ k, rstN m w (zs i ++ [o] ++ zs k) = atN w i * o % m := fun k => by unfold rstN; rw [dot_one w i k o hi]
    have l1 := law_rest_ok (m := m) (w := w) (d := zs w.length) (by omega) (wsm h) μ
    have l2 := law_rest_ok (m := m) (w := w) (d := zs i ++ [o] ++ zs (w.length - (i + 1))) (by omega) (wsm h) μ
    rw [q1] at l1
    rw [q2] at l2
    have g3 : gEq (natD 0) (natD (atN w i * o % m)) μ = some (mdP m w i o) := by
      rw [gEq_natD]
      congr 1
      unfold mdP
      rw [Bool.eq_iff_iff, decide_eq_true_eq, decide_eq_true_eq]
      exact eq_comm
    have c1 := cut_lo (zs w.length) i
    have c2 := cut_hi1 (zs w.length) i
    rw [zs_take (by omega)] at c1
    rw [zs_drop] at c2
    have hr := rep_zs h.ln h3
    have hc : ∀ x, eCatT (eCatT (eCutT (eVar 4) oNone (oSome (eVar 2))) (eTup (eCons (eVar 3) eNil))) (eCutT (eVar 4) (oSome (eAdd (eVar 2) (eC (.int 1)))) oNone) [some (natD m), some (natsD w), some (natD i), some (natD o), some (natsD (zs w.length)), x] μ = .ok (natsD (zs i ++ [o] ++ zs (w.length - (i + 1)))) μ := fun x =>
      cat3_ok (by simp [natD, c1]) (b := [o]) (by simp [z1]; rfl) (by simp [natD, c2]) (by simp [zs]; omega)
    generalize zs i ++ [o] ++ zs (w.length - (i + 1)) = oth at *
    refine ⟨_, rfl, fun hp => ?_, fun hp => ⟨[some (natD m), some (natsD w), some (natD i), some (natD o), some (natsD (zs w.length)), some (natsD oth)], ⟨_, _, _, rfl⟩, ?_⟩⟩
    · rw [hp] at g3
      simp [B__law_missed_digit_1, -x_eCatT, -x_eCutT, z1, z2, hz, hr, hc, l1, l2, g3]
    · rw [hp] at g3
      simp [B__law_missed_digit_1, -x_eCatT, -x_eCutT, z1, z2, hz, hr, hc, l1, l2, g3]
  · rintro hn ρ ⟨a, b, c, d, rfl⟩
    simp [hn, poD]
  · intro i o ho
    simp [ho, poD]
theorem lms_ok (h : GoodW m w) (μ : Sto) : R__law_missed_swap [natD m, natsD w] μ = .ok (poD (firstPO (w.length - 1) (msP m w))) μ := by
  have h1 := h.lo
  have h2 := h.hi
  have h3 := h.lm
  have h4 := h.ln
  have z1 := zSZ' 1 (by omega)
  have z2 := zSZ' 2 (by omega)
  have hz : w.length ≤ SZ := by rw [SZ_eq]; omega
  have hw : (w.length : Int) - 1 = ((w.length - 1 : Nat) : Int) := by omega
  refine of_W (runF_W ?_)
  simp only [F__law_missed_swap, SR.W_seq]
  simp [hz, hw, x_gRange1 (small_ok (i := ((w.length - 1 : Nat) : Int)) (by omega)), range_nats]
  refine po_loop (p := msP m w) (gi := tgN 3) (Fi := B__law_missed_swap_1) (Jo := fun ρ => ∃ a b c d e, ρ = [some (natD m), some (natsD w), a, b, c, d, e]) ⟨_, _, _, _, _, rfl⟩ ?_ ?_ ?_
  · rintro i hi ρ ⟨a, b, c, d, e, rfl⟩
    refine ⟨_, rfl, by simp [B__law_missed_swap_2, rg19], fun ρ => ∃ a b c d, ρ = [some (natD m), some (natsD w), some (natD i), a, b, c, d], ⟨_, _, _, _, rfl⟩, fun ρ' ⟨_, _, _, _, e⟩ => ⟨_, _, _, _, _, e⟩, ?_⟩
    rintro o ho ρ' ⟨b, c, d, e, rfl⟩
    have q1 : ∀ k, rstN m w (zs i ++ [o, 0] ++ zs k) = atN w i * o % m := fun k => by unfold rstN; rw [dot_fst w i k o (by omega)]
    have q2 : ∀ k, rstN m w (zs i ++ [0, o] ++ zs k) = atN w (i + 1) * o % m := fun k => by unfold rstN; rw [dot_snd w i k o (by omega)]
    have l1 := law_rest_ok (m := m) (w := w) (d := zs i ++ [o, 0] ++ zs (w.length - (i + 2))) (by omega) (wsm h) μ
    have l2 := law_rest_ok (m := m) (w := w) (d := zs i ++ [0, o] ++ zs (w.length - (i + 2))) (by omega) (wsm h) μ
    rw [q1] at l1
    rw [q2] at l2
    have g3 : gEq (natD (atN w i * o % m)) (natD (atN w (i + 1) * o % m)) μ = some (msP m w i o) := gEq_natD
    have c1 := cut_lo (zs w.length) i
    have c2 := cut_hi2 (zs w.length) i
    rw [zs_take (by omega)] at c1
    rw [zs_drop] at c2
    have hr := rep_zs h.ln h3
    have hc : ∀ x y, eCatT (eCatT (eCutT (eVar 4) oNone (oSome (eVar 2))) (eTup (eCons (eVar 3) (eCons (eC (.int 0)) eNil)))) (eCutT (eVar 4) (oSome (eAdd (eVar 2) (eC (.int 2)))) oNone) [some (natD m), some (natsD w), some (natD i), some (natD o), some (natsD (zs w.length)), x, y] μ = .ok (natsD (zs i ++ [o, 0] ++ zs (w.length - (i + 2)))) μ := fun x y =>
      cat3_ok (by simp [natD, c1]) (b := [o, 0]) (by simp [z2]; rfl) (by simp [natD, c2]) (by simp [zs]; omega)
    have hd : ∀ x y, eCatT (eCatT (eCutT (eVar 4) oNone (oSome (eVar 2))) (eTup (eCons (eC (.int 0)) (eCons (eVar 3) eNil)))) (eCutT (eVar 4) (oSome (eAdd (eVar 2) (eC (.int 2)))) oNone) [some (natD m), some (natsD w), some (natD i), some (natD o), some (natsD (zs w.length)), x, y] μ = .ok (natsD (zs i ++ [0, o] ++ zs (w.length - (i + 2)))) μ := fun x y =>
      cat3_ok (by simp [natD, c1]) (b := [0, o]) (by simp [z2]; rfl) (by simp [natD, c2]) (by simp [zs]; omega)
    generalize zs i ++ [o, 0] ++ zs (w.length - (i + 2)) = o1 at *
    generalize zs i ++ [0, o] ++ zs (w.length - (i + 2)) = o2 at *
    refine ⟨_, rfl, fun hp => ?_, fun hp => ⟨[some (natD m), some (natsD w), some (natD i), some (natD o), some (natsD (zs w.length)), some (natsD o1), some (natsD o2)], ⟨_, _, _, _, rfl⟩, ?_⟩⟩
    · rw [hp] at g3
      simp [B__law_missed_swap_1, -x_eCatT, -x_eCutT, z1, z2, hz, hr, hc, hd, l1, l2, g3]
    · rw [hp] at g3
      simp [B__law_missed_swap_1, -x_eCatT, -x_eCutT, z1, z2, hz, hr, hc, hd, l1, l2, g3]
  · rintro hn ρ ⟨a, b, c, d, e, rfl⟩
    simp [hn, poD]
  · intro i o ho
    simp [ho, poD]
theorem lfa_ok (h : GoodW m w) (μ : Sto) : R__law_finds [natD m, natsD w] μ = .ok (.bl (finB m w)) μ := by
  have e1 := lmd_ok h μ
  have e2 := lms_ok h μ
  have e3 := is_non (firstPO w.length (mdP m w)) μ
  have e4 := is_non (firstPO (w.length - 1) (msP m w)) μ
  unfold finB
  generalize firstPO w.length (mdP m w) = q1 at *
  generalize firstPO (w.length - 1) (msP m w) = q2 at *
  cases q1 <;> simp [R__law_finds, x_runF, F__law_finds, e1, e2, e3, e4]
end

section
variable {m : Nat} {w d : List Nat}
def repl (d : List Nat) (i x : Nat) : List Nat := d.take i ++ [x] ++ d.drop (i + 1)
theorem repl_len {d : List Nat} {i x : Nat} (h : i < d.length) : (repl d i x).length = d.length := by unfold repl; simp; omega
theorem repl_bd {d : List Nat} {i x : Nat} (hd : ∀ y ∈ d, y ≤ 9) (hx : x ≤ 9) : ∀ y ∈ repl d i x, y ≤ 9 := by
  intro y hy
  unfold repl at hy
  rw [List.mem_append, List.mem_append, List.mem_singleton] at hy
  rcases hy with (h | h) | h
  · exact hd _ (List.mem_of_mem_take h)
  · omega
  · exact hd _ (List.mem_of_mem_drop h)
def lostN (m : Nat) (w d : List Nat) (i r : Nat) : List Nat := (List.range 10).filter fun x => decide (rstN m w (repl d i x) = r)
theorem rest_in {r : Nat} {μ : Sto} (hr : r < m) : G_is_in [natD r, .int 0, .int ((m : Int) - 1)] μ = .ok (.bl true) μ := by
  have hi : isInD (natD r) 0 ((m : Int) - 1) = true := by simp [isInD, natD]; omega
  have hti : tyD μ (natD r) = some "int" := rfl
  simp [G_is_in, hi, hti]
theorem lostB {r i x : Nat} (h : GoodW m w) (hd : GoodD w d) (hi : i < w.length) {acc : List Nat} (ha : acc.length ≤ 10) (μ : Sto) (c : Option D) :
    B_lost_digit_1 [some (natD m), some (natsD w), some (natsD d), some (natD i), some (natD r), some (.obj μ.length), some (natD x)] (μ ++ [.lst (natsL acc)]) =
      .nx [some (natD m), some (natsD w), some (natsD d), some (natD i), some (natD r), some (.obj μ.length), some (natD x)] (μ ++ [.lst (natsL (if decide (rstN m w (repl d i x) = r) = true then acc ++ [x] else acc))]) := by
  have h1 := h.lo
  have h2 := h.hi
  have h3 := h.lm
  have z1 := zSZ' 1 (by omega)
  have hdl := hd.ln
  have hc : ∀ μ, eCatT (eCatT (eCutT (eVar 2) oNone (oSome (eVar 3))) (eTup (eCons (eVar 6) eNil))) (eCutT (eVar 2) (oSome (eAdd (eVar 3) (eC (.int 1)))) oNone) [some (natD m), some (natsD w), some (natsD d), some (natD i), some (natD r), some (.obj μ.length), some (natD x)] μ = .ok (natsD (repl d i x)) μ := fun μ =>
    cat3_ok (by simp [natD, cut_lo]) (b := [x]) (by simp [z1]; rfl) (by simp [natD, cut_hi1]) (by simp; omega)
  have hc2 : ∀ μ', eCatT (eCatT (eCutT (eVar 2) oNone (oSome (eVar 3))) (eTup (eCons (eVar 6) eNil))) (eCutT (eVar 2) (oSome (eAdd (eVar 3) (eC (.int 1)))) oNone) [some (natD m), some (natsD w), some (natsD d), some (natD i), some (natD r), some (.obj μ.length), some (natD x)] μ' = .ok (natsD (repl d i x)) μ' := fun μ' =>
    cat3_ok (by simp [natD, cut_lo]) (b := [x]) (by simp [z1]; rfl) (by simp [natD, cut_hi1]) (by simp; omega)
  have e1 := rest_ok (m := m) (w := w) (d := repl d i x) (by omega) (wsm h) (by omega) (μ ++ [.lst (natsL acc)])
  have e2 : gEq (natD (rstN m w (repl d i x))) (natD r) (μ ++ [.lst (natsL acc)]) = some (decide (rstN m w (repl d i x) = r)) := gEq_natD
  have hl : lstAt (μ ++ [.lst (natsL acc)]) μ.length = some (natsL acc) := lstAt_iff.mpr (by simp)
  have ht : tyvD "list" (μ ++ [DO.lst (natsL acc)]) (.obj μ.length) = true := by simp [tyvD]
  have hz : acc.length < SZ := by rw [SZ_eq]; omega
  have hs : (μ ++ [DO.lst (natsL acc)]).set μ.length (.lst (natsL acc ++ [natD x])) = μ ++ [.lst (natsL (acc ++ [x]))] := by
    simp [List.set_append]
    rw [← nats_app]
    rfl
  generalize repl d i x = q at *
  by_cases hq : rstN m w q = r
  · rw [decide_eq_true hq] at e2 ⊢
    simp [B_lost_digit_1, -x_eCatT, -x_eCutT, hc2, e1, e2, ht, hl, hz, hs]
  · rw [decide_eq_false hq] at e2 ⊢
    simp [B_lost_digit_1, -x_eCatT, -x_eCutT, hc2, e1, e2]
theorem lost_ok {i r : Nat} (h : GoodW m w) (hd : GoodD w d) (hi : i < w.length) (hr : r < m) (μ : Sto) : R_lost_digit [natD m, natsD w, natsD d, natD i, natD r] μ = .ok (natsD (lostN m w d i r)) (μ ++ [.lst (natsL (lostN m w d i r))]) := by
  have h1 := h.lo
  have h2 := h.hi
  have h3 := h.lm
  have e1 := demand_w_ok h μ
  have e2 := demand_d_ok h3 hd μ
  have hz : w.length ≤ SZ := by rw [SZ_eq]; omega
  have e3 : G_is_in [natD i, .int 0, .int ((w.length : Int) - 1)] μ = .ok (.bl true) μ := rest_in (m := w.length) hi
  have e4 := rest_in (μ := μ) hr
  have loop : ∀ (xs acc : List Nat) (c : Option D), acc.length + xs.length ≤ 10 → ∃ c', forD [] (tgN 6) B_lost_digit_1 (natsL xs) [some (natD m), some (natsD w), some (natsD d), some (natD i), some (natD r), some (.obj μ.length), c] (μ ++ [.lst (natsL acc)]) =
      .nx [some (natD m), some (natsD w), some (natsD d), some (natD i), some (natD r), some (.obj μ.length), c'] (μ ++ [.lst (natsL (acc ++ xs.filter fun x => decide (rstN m w (repl d i x) = r)))]) := by
    intro xs
    induction xs with
    | nil => intro acc c _; exact ⟨c, by simp [forD, natsL]⟩
    | cons x xs ih =>
      intro acc c hl
      rw [List.length_cons] at hl
      have hb := lostB (r := r) (x := x) h hd hi (acc := acc) (by omega) μ c
      obtain ⟨c', e⟩ := ih (if decide (rstN m w (repl d i x) = r) = true then acc ++ [x] else acc) (some (natD x)) (by
        split
        · rw [List.length_append, List.length_singleton]; omega
        · omega)
      refine ⟨c', ?_⟩
      show forD [] (tgN 6) B_lost_digit_1 (natD x :: natsL xs) _ _ = _
      rw [forD, if_pos (by simp)]
      simp only [tgN, List.set_cons_succ, List.set_cons_zero]
      rw [hb]
      simp only
      rw [e, List.filter_cons]
      by_cases hq : rstN m w (repl d i x) = r
      · simp [hq]
      · simp [hq]
  obtain ⟨c', e⟩ := loop (List.range 10) [] none (by simp)
  rw [List.nil_append] at e
  have hr10 : ∀ μ, gRange1 [.int 10] μ = .ok (natsL (List.range 10), []) μ := fun μ => by rw [x_gRange1 (small_ok (by omega))]; exact congrArg (fun z => R.ok (z, []) μ) (range_nats 10)
  have hf : lstAt (μ ++ [.lst (natsL (lostN m w d i r))]) μ.length = some (natsL (lostN m w d i r)) := lstAt_iff.mpr (by simp)
  have e : forD [] (tgN 6) B_lost_digit_1 (natsL (List.range 10)) [some (natD m), some (natsD w), some (natsD d), some (natD i), some (natD r), some (.obj μ.length), none] (μ ++ [.lst []]) =
      .nx [some (natD m), some (natsD w), some (natsD d), some (natD i), some (natD r), some (.obj μ.length), c'] (μ ++ [.lst (natsL (lostN m w d i r))]) := e
  have hl10 : (lostN m w d i r).length ≤ 10 := by
    unfold lostN
    exact Nat.le_trans (List.length_filter_le _ _) (by simp)
  generalize lostN m w d i r = L at *
  have e5 : gTupOf [.obj μ.length] (μ ++ [.lst (natsL L)]) = .ok (natsD L) (μ ++ [.lst (natsL L)]) := by
    simp [hf]
  have e6 : gI0 (fun x1 x2 => x1 - x2) (natD m) (.int 1) = some (.int ((m : Int) - 1)) := rfl
  simp [R_lost_digit, x_runF, F_lost_digit, e1, e2, G_demand, hz, e3, e4, e6, hr10, e, e5]
end

section
variable {m : Nat} {w d : List Nat}
def swapN (d : List Nat) (i : Nat) : List Nat := d.take i ++ ((d.take (i + 2)).drop i).reverse ++ d.drop (i + 2)
def allN (d : List Nat) (i : Nat) : List (List Nat) := (List.range 10).map (repl d i) ++ [swapN d i]
def goodB (m : Nat) (w d : List Nat) (r : Nat) (o : List Nat) : Bool := decide (o ≠ d) && decide (rstN m w o = r)
theorem gNe_nats {a b : List Nat} {μ : Sto} : gNe (natsD a) (natsD b) μ = some (decide (a ≠ b)) := by
  rw [gNe_pl (pl_nats 31 _) (pl_nats 31 _)]
  by_cases c : a = b
  · subst c
    rw [bP_true rfl]
    simp
  · rw [bP_false (fun q => c (natsD_inj q))]
    simp [c]
theorem rg10 (μ : Sto) : gRange1 [.int 10] μ = .ok (natsL (List.range 10), []) μ := by
  rw [x_gRange1 (small_ok (by omega))]
  exact congrArg (fun z => R.ok (z, []) μ) (range_nats 10)
theorem cut_mid (o : List Nat) (i : Nat) : cutD (natsL o) (some (i : Int)) (some ((i : Int) + 2)) = natsL ((o.take (i + 2)).drop i) := by
  have := cutD_nat (natsL o) i (i + 2)
  rw [take_natsL, drop_natsL] at this
  exact this
theorem revN (o : List Nat) : (natsL o).reverse = natsL o.reverse := by unfold natsL; rw [List.map_reverse]
theorem nearB {r i : Nat} (hd : d.length ≤ 8) (hi : i < d.length) {acc : List (List Nat)} (ha : acc.length ≤ 100) (μ : Sto) (a b c : Option D) :
    B_near_tags_1 [some (natD m), some (natsD w), some (natsD d), some (natD r), some (.obj μ.length), some (natD i), a, b, c] (μ ++ [.lst (acc.map natsD)]) =
      .nx [some (natD m), some (natsD w), some (natsD d), some (natD r), some (.obj μ.length), some (natD i), a, b, c] (μ ++ [.lst ((acc ++ allN d i).map natsD)]) := by
  have z1 := zSZ' 1 (by omega)
  have z10 := zSZ' 10 (by omega)
  have e1 : ∀ c, lcD [] (tgN 8) tYesD E_near_tags_1 [some (natD m), some (natsD w), some (natsD d), some (natD r), some (.obj μ.length), some (natD i), a, b, c] (natsL (List.range 10)) (μ ++ [.lst (acc.map natsD)]) = .ok ((List.range 10).map fun x => natsD (repl d i x)) (μ ++ [.lst (acc.map natsD)]) := fun c => by
    refine lcD_mapF natD _ _ (by simp) fun x hx => ⟨_, rfl, ?_⟩
    exact cat3_ok (by simp [natD, cut_lo]) (b := [x]) (by simp [z1]; rfl) (by simp [natD, cut_hi1]) (by simp; omega)
  have hl : ∀ L, lstAt (μ ++ [.lst L]) μ.length = some L := fun L => lstAt_iff.mpr (by simp)
  have ht : ∀ L, tyvD "list" (μ ++ [DO.lst L]) (.obj μ.length) = true := fun L => by simp [tyvD]
  have hs : ∀ L L', (μ ++ [DO.lst L]).set μ.length (.lst L') = μ ++ [.lst L'] := fun L L' => by simp [List.set_append]
  have g1 : gExtend (.obj μ.length) [.lst ((List.range 10).map fun x => natsD (repl d i x))] (μ ++ [.lst (acc.map natsD)]) = .ok .non (μ ++ [.lst ((acc ++ (List.range 10).map (repl d i)).map natsD)]) := by
    unfold gExtend
    simp only [hl]
    show (match some (acc.map natsD), some ((List.range 10).map fun x => natsD (repl d i x)) with | some ds, some es => if ds.length + es.length ≤ SZ then R.ok D.non _ else .bad | _, _ => .bad) = _
    simp only
    rw [if_pos (by rw [SZ_eq]; simp; omega), hs]
    simp
  have g2 : gAppend (.obj μ.length) [natsD (swapN d i)] (μ ++ [.lst ((acc ++ (List.range 10).map (repl d i)).map natsD)]) = .ok .non (μ ++ [.lst ((acc ++ allN d i).map natsD)]) := by
    rw [x_gAppend, hl]
    simp only
    rw [if_pos (by rw [SZ_eq]; simp; omega), hs]
    unfold allN
    simp
  have hc : ∀ μ', eCatT (eCatT (eCutT (eVar 2) oNone (oSome (eVar 5))) (eRevT (eCutT (eVar 2) (oSome (eVar 5)) (oSome (eAdd (eVar 5) (eC (.int 2))))) (oSome (eNeg (eC (.int 1)))))) (eCutT (eVar 2) (oSome (eAdd (eVar 5) (eC (.int 2)))) oNone) [some (natD m), some (natsD w), some (natsD d), some (natD r), some (.obj μ.length), some (natD i), a, b, c] μ' = .ok (natsD (swapN d i)) μ' := fun μ' =>
    cat3_ok (by simp [natD, cut_lo]) (by simp [natD, cut_mid]; exact revN _) (by simp [natD, cut_hi2]) (by simp; omega)
  generalize (acc ++ (List.range 10).map (repl d i)).map natsD = A1 at *
  generalize (acc ++ allN d i).map natsD = A2 at *
  generalize acc.map natsD = A0 at *
  simp [B_near_tags_1, -x_eCatT, -x_eCutT, -x_eRevT, -x_gAppend, rg10, z10, e1, g1, g2, hc, ht]
def foundN (d : List Nat) : List (List Nat) := (List.range d.length).flatMap (allN d)
theorem found_len : ∀ (l : List Nat), (l.flatMap (allN d)).length = 11 * l.length
  | [] => rfl
  | i :: l => by
    rw [List.flatMap_cons, List.length_append, found_len l, List.length_cons]
    unfold allN
    simp
    omega
theorem swap_len {i : Nat} (hi : i < d.length) : (swapN d i).length = d.length := by unfold swapN; simp; omega
theorem swap_bd {i : Nat} (hd : ∀ y ∈ d, y ≤ 9) : ∀ y ∈ swapN d i, y ≤ 9 := by
  intro y hy
  unfold swapN at hy
  rw [List.mem_append, List.mem_append, List.mem_reverse] at hy
  rcases hy with (h | h) | h
  · exact hd _ (List.mem_of_mem_take h)
  · exact hd _ (List.mem_of_mem_take (List.mem_of_mem_drop h))
  · exact hd _ (List.mem_of_mem_drop h)
theorem found_good (hd : ∀ y ∈ d, y ≤ 9) {o : List Nat} (ho : o ∈ foundN d) : o.length = d.length ∧ ∀ y ∈ o, y ≤ 9 := by
  unfold foundN at ho
  obtain ⟨i, hi, h⟩ := List.mem_flatMap.mp ho
  have hi := List.mem_range.mp hi
  unfold allN at h
  rw [List.mem_append, List.mem_singleton, List.mem_map] at h
  rcases h with ⟨x, hx, rfl⟩ | rfl
  · exact ⟨repl_len hi, repl_bd hd (by have := List.mem_range.mp hx; omega)⟩
  · exact ⟨swap_len hi, swap_bd hd⟩
def nearN (m : Nat) (w d : List Nat) (r : Nat) : List (List Nat) := srtN (undupA ((foundN d).filter (goodB m w d r)))
theorem near_ok {r : Nat} (h : GoodW m w) (hd : GoodD w d) (h5 : w.length ≤ 5) (hr : r < m) (μ : Sto) : ∃ L, R_near_tags [natD m, natsD w, natsD d, natD r] μ = .ok (.tup ((nearN m w d r).map natsD)) (μ ++ [.lst L]) := by
  have h1 := h.lo
  have h2 := h.hi
  have hdl := hd.ln
  have hl1 := h.ln
  have e1 := demand_w_ok h μ
  have e2 := demand_d_ok h.lm hd μ
  have e4 := rest_in (μ := μ) hr
  have e6 : gI0 (fun x1 x2 => x1 - x2) (natD m) (.int 1) = some (.int ((m : Int) - 1)) := rfl
  have loop : ∀ (is : List Nat) (acc : List (List Nat)) (c a b e : Option D), (∀ i ∈ is, i < d.length) → acc.length + 11 * is.length ≤ 60 → ∃ c', forD [] (tgN 5) B_near_tags_1 (natsL is) [some (natD m), some (natsD w), some (natsD d), some (natD r), some (.obj μ.length), c, a, b, e] (μ ++ [.lst (acc.map natsD)]) =
      .nx [some (natD m), some (natsD w), some (natsD d), some (natD r), some (.obj μ.length), c', a, b, e] (μ ++ [.lst ((acc ++ is.flatMap (allN d)).map natsD)]) := by
    intro is
    induction is with
    | nil => intro acc c a b e _ _; exact ⟨c, by simp [forD, natsL]⟩
    | cons i is ih =>
      intro acc c a b e him hl
      rw [List.length_cons] at hl
      have hb := nearB (m := m) (w := w) (r := r) (d := d) (i := i) (by omega) (him i List.mem_cons_self) (acc := acc) (by omega) μ a b e
      obtain ⟨c', e'⟩ := ih (acc ++ allN d i) (some (natD i)) a b e (fun j hj => him j (List.mem_cons_of_mem _ hj)) (by unfold allN; simp; omega)
      refine ⟨c', ?_⟩
      show forD [] (tgN 5) B_near_tags_1 (natD i :: natsL is) _ _ = _
      rw [forD, if_pos (by simp)]
      simp only [tgN, List.set_cons_succ, List.set_cons_zero]
      rw [hb]
      simp only
      rw [e', List.flatMap_cons, List.append_assoc]
  obtain ⟨c', e⟩ := loop (List.range d.length) [] none none none none (fun i hi => List.mem_range.mp hi) (by simp; omega)
  rw [List.nil_append] at e
  have e : forD [] (tgN 5) B_near_tags_1 (natsL (List.range d.length)) [some (natD m), some (natsD w), some (natsD d), some (natD r), some (.obj μ.length), none, none, none, none] (μ ++ [.lst []]) =
      .nx [some (natD m), some (natsD w), some (natsD d), some (natD r), some (.obj μ.length), c', none, none, none] (μ ++ [.lst ((foundN d).map natsD)]) := e
  have hrg : ∀ μ, gRange1 [.int (d.length : Int)] μ = .ok (natsL (List.range d.length), []) μ := fun μ => by rw [x_gRange1 (small_ok (by omega))]; exact congrArg (fun z => R.ok (z, []) μ) (range_nats _)
  have fl : (foundN d).length ≤ 55 := by unfold foundN; rw [found_len, List.length_range]; omega
  have e7 : ∀ x, lcD [(μ.length, .lst ((foundN d).map natsD))] (tgN 7) U_near_tags_1 E_near_tags_2 [some (natD m), some (natsD w), some (natsD d), some (natD r), some (.obj μ.length), c', none, x, none] ((foundN d).map natsD) (μ ++ [.lst ((foundN d).map natsD)]) = .ok (((foundN d).filter (goodB m w d r)).map natsD) (μ ++ [.lst ((foundN d).map natsD)]) := fun x => by
    refine lcD_filtF natsD natsD (goodB m w d r) (foundN d) (by simp [chk]) fun o ho => ⟨_, rfl, ?_, fun _ => by simp [E_near_tags_2]⟩
    have g1 := gNe_nats (a := o) (b := d) (μ := μ ++ [.lst ((foundN d).map natsD)])
    have g2 := rest_ok (m := m) (w := w) (d := o) (by omega) (wsm h) (by omega) (μ ++ [.lst ((foundN d).map natsD)])
    have g3 : gEq (natD (rstN m w o)) (natD r) (μ ++ [.lst ((foundN d).map natsD)]) = some (decide (rstN m w o = r)) := gEq_natD
    unfold goodB
    by_cases q : o = d
    · rw [decide_eq_false (fun z => z q)] at g1 ⊢
      simp [U_near_tags_1, g1]
    · rw [decide_eq_true q] at g1 ⊢
      simp [U_near_tags_1, g1, g2, g3]
  have hok : okRows ((foundN d).filter (goodB m w d r)) = true := by
    unfold okRows
    rw [Bool.and_eq_true, decide_eq_true_eq, List.all_eq_true]
    refine ⟨by have := List.length_filter_le (goodB m w d r) (foundN d); omega, fun k hk => ?_⟩
    have key : ∀ k ∈ (foundN d).filter (goodB m w d r), k.length = d.length ∧ ∀ y ∈ k, y ≤ 9 := fun k hk => found_good hd.bd (List.mem_filter.mp hk).1
    have hh : (((foundN d).filter (goodB m w d r)).headD []).length = d.length := by
      cases hF : (foundN d).filter (goodB m w d r) with
      | nil => rw [hF] at hk; cases hk
      | cons a l => exact (key a (by rw [hF]; exact List.mem_cons_self)).1
    rw [hh, Bool.and_eq_true, Bool.and_eq_true, decide_eq_true_eq, decide_eq_true_eq, List.all_eq_true]
    refine ⟨⟨(key k hk).1, by rw [(key k hk).1]; omega⟩, fun y hy => decide_eq_true (by have := (key k hk).2 y hy; omega)⟩
  have hmm : (((foundN d).filter (goodB m w d r)).map natsD).mapM natsOf = some ((foundN d).filter (goodB m w d r)) := mapM_of natsOf_nats _
  have hlst : seqIt (μ ++ [.lst ((foundN d).map natsD)]) (.obj μ.length) = some ((foundN d).map natsD, [(μ.length, .lst ((foundN d).map natsD))]) := by
    have q : lstAt (μ ++ [.lst ((foundN d).map natsD)]) μ.length = some ((foundN d).map natsD) := lstAt_iff.mpr (by simp)
    show (lstAt _ _).map _ = _
    rw [q]
    rfl
  refine ⟨(foundN d).map natsD, ?_⟩
  unfold nearN
  have hq : eSortSet (eVar 6) [some (natD m), some (natsD w), some (natsD d), some (natD r), some (.obj μ.length), c', some (.lst (((foundN d).filter (goodB m w d r)).map natsD)), none, none] (μ ++ [.lst ((foundN d).map natsD)]) = .ok ((srtN (undupA ((foundN d).filter (goodB m w d r)))).map natsD) (μ ++ [.lst ((foundN d).map natsD)]) := by
    show (match (((foundN d).filter (goodB m w d r)).map natsD).mapM natsOf with | some ks => if okRows ks = true then R.ok ((srtN (undupA ks)).map natsD) _ else .bad | none => .bad) = _
    rw [hmm]
    simp only [hok, if_true]
  have hfz : ((foundN d).map natsD).length ≤ SZ := by rw [SZ_eq]; simp; omega
  have hdz : d.length ≤ SZ := by rw [SZ_eq]; omega
  generalize srtN (undupA ((foundN d).filter (goodB m w d r))) = S at *
  generalize ((foundN d).filter (goodB m w d r)).map natsD = G at *
  generalize (foundN d).map natsD = FF at *
  simp [R_near_tags, x_runF, F_near_tags, e1, e2, G_demand, e4, e6, hrg, hdz, e, hlst, hfz, e7, hq]
end

section
variable {m : Nat} {w d : List Nat}
theorem gIn_obj {d : D} {es : List D} {μ : Sto} {n : Nat} (h : μ[n]? = some (.lst es)) (h1 : pl 31 d = true) (h2 : pls 31 es = true) : gIn d (.obj n) μ = some (bP (d ∈ es)) := by
  rw [← (gIn_pl (μ := μ) h1 h2).1]
  have e : toPyS μ (.obj n) = toPyS μ (.lst es) := by
    rw [toPyS_obj, lstAt_iff.mpr h, toPyS, toPy]
    all_goals simp
  unfold gIn
  rw [e]
theorem gNotIn_obj {d : D} {es : List D} {μ : Sto} {n : Nat} (h : μ[n]? = some (.lst es)) (h1 : pl 31 d = true) (h2 : pls 31 es = true) : gNotIn d (.obj n) μ = some (!bP (d ∈ es)) := by
  unfold gNotIn
  rw [gIn_obj h h1 h2]; rfl
def swp2 (d : List Nat) (i : Nat) : List Nat := d.take i ++ [atN d (i + 1), atN d i] ++ d.drop (i + 2)
def othN (d : List Nat) (i : Nat) : List (List Nat) := (List.range 10).map (repl d i) ++ if i + 1 < d.length then [swp2 d i] else []
def addN (m : Nat) (w d : List Nat) (r : Nat) (F : List (List Nat)) (o : List Nat) : List (List Nat) := if o ≠ d ∧ o ∉ F ∧ rstN m w o = r then F ++ [o] else F
theorem pls_rows (F : List (List Nat)) : pls 31 (F.map natsD) = true := pls_map fun a _ => pl_nats 30 a
theorem gNotIn_rows {o : List Nat} {F : List (List Nat)} {μ : Sto} {n : Nat} (h : μ[n]? = some (.lst (F.map natsD))) : gNotIn (natsD o) (.obj n) μ = some (decide (o ∉ F)) := by
  rw [gNotIn_obj h (pl_nats 30 o) (pls_rows F)]
  by_cases c : o ∈ F
  · rw [bP_true (List.mem_map.mpr ⟨o, c, rfl⟩)]
    simp [c]
  · rw [bP_false (fun q => by
      obtain ⟨a, ha, e⟩ := List.mem_map.mp q
      rw [natsD_inj e] at ha
      exact c ha)]
    simp [c]
theorem add_len (r : Nat) (F : List (List Nat)) (o : List Nat) : (addN m w d r F o).length ≤ F.length + 1 := by unfold addN; split <;> simp
theorem adds_len (r : Nat) : ∀ (os F : List (List Nat)), (os.foldl (addN m w d r) F).length ≤ F.length + os.length
  | [], F => Nat.le_refl _
  | o :: os, F => by
    have h1 := adds_len r os (addN m w d r F o)
    have h2 := add_len (m := m) (w := w) (d := d) r F o
    rw [List.foldl_cons, List.length_cons]
    omega
theorem oth_len (i : Nat) : (othN d i).length ≤ 11 := by unfold othN; split <;> simp
theorem near1 {r : Nat} (hm : 1 ≤ m) (hw : ∀ x ∈ w, x < 1000) (μ : Sto) (γ : Sto) (O : List D) (i k : Nat) (hk : k = μ.length + 1 + γ.length) (e : Option D) : ∀ (os F : List (List Nat)) (c : Option D), F.length + os.length ≤ 100 →
    ∃ c', forD [(k, .lst O)] (tgN 7) B__law_near_1 (os.map natsD) [some (natD m), some (natsD w), some (natsD d), some (natD r), some (.obj μ.length), some (natD i), some (.obj k), c, e] (μ ++ DO.lst (F.map natsD) :: (γ ++ [.lst O])) =
      .nx [some (natD m), some (natsD w), some (natsD d), some (natD r), some (.obj μ.length), some (natD i), some (.obj k), c', e] (μ ++ DO.lst ((os.foldl (addN m w d r) F).map natsD) :: (γ ++ [.lst O])) := by
  intro os
  have hch : ∀ L, (μ ++ DO.lst L :: (γ ++ [.lst O]))[k]? = some (.lst O) := fun L => by
    subst hk
    rw [List.getElem?_append_right (by omega), show μ.length + 1 + γ.length - μ.length = γ.length + 1 by omega, List.getElem?_cons_succ]
    simp
  induction os with
  | nil => intro F c _; exact ⟨c, by simp [forD, chk, hch]⟩
  | cons o os ih =>
    intro F c hl
    rw [List.length_cons] at hl
    have hal := add_len (m := m) (w := w) (d := d) r F o
    obtain ⟨c', e'⟩ := ih (addN m w d r F o) (some (natsD o)) (by omega)
    refine ⟨c', ?_⟩
    rw [List.map_cons, forD, if_pos (by simp [chk, hch])]
    simp only [tgN, List.set_cons_succ, List.set_cons_zero]
    have g1 := gNe_nats (a := o) (b := d) (μ := μ ++ DO.lst (F.map natsD) :: (γ ++ [.lst O]))
    have g2 := gNotIn_rows (o := o) (F := F) (n := μ.length) (μ := μ ++ DO.lst (F.map natsD) :: (γ ++ [.lst O])) (by simp)
    have g3 := law_rest_ok (d := o) hm hw (μ ++ DO.lst (F.map natsD) :: (γ ++ [.lst O]))
    have g4 : gEq (natD (rstN m w o)) (natD r) (μ ++ DO.lst (F.map natsD) :: (γ ++ [.lst O])) = some (decide (rstN m w o = r)) := gEq_natD
    have hl1 : lstAt (μ ++ DO.lst (F.map natsD) :: (γ ++ [.lst O])) μ.length = some (F.map natsD) := lstAt_iff.mpr (by simp)
    have ht : tyvD "list" (μ ++ DO.lst (F.map natsD) :: (γ ++ [.lst O])) (.obj μ.length) = true := by simp [tyvD]
    have g5 : gAppend (.obj μ.length) [natsD o] (μ ++ DO.lst (F.map natsD) :: (γ ++ [.lst O])) = .ok .non (μ ++ DO.lst ((F ++ [o]).map natsD) :: (γ ++ [.lst O])) := by
      rw [x_gAppend, hl1]
      simp only
      rw [if_pos (by rw [SZ_eq]; simp; omega)]
      simp [List.set_append]
    rw [List.foldl_cons, ← e']
    generalize hS : (μ ++ DO.lst (F.map natsD) :: (γ ++ [.lst O])) = S at *
    unfold addN
    by_cases q1 : o ≠ d
    · rw [decide_eq_true q1] at g1
      by_cases q2 : o ∉ F
      · rw [decide_eq_true q2] at g2
        by_cases q3 : rstN m w o = r
        · rw [decide_eq_true q3] at g4
          rw [if_pos ⟨q1, q2, q3⟩]
          generalize (F ++ [o]).map natsD = F2 at *
          simp [B__law_near_1, -x_gAppend, g1, g2, g3, g4, g5, ht]
        · rw [decide_eq_false q3] at g4
          rw [if_neg (fun z => q3 z.2.2), hS]
          simp [B__law_near_1, -x_gAppend, g1, g2, g3, g4]
      · rw [decide_eq_false q2] at g2
        rw [if_neg (fun z => q2 z.2.1), hS]
        simp [B__law_near_1, -x_gAppend, g1, g2]
    · rw [decide_eq_false q1] at g1
      rw [if_neg (fun z => q1 z.1), hS]
      simp [B__law_near_1, -x_gAppend, g1]
end

section
variable {m : Nat} {w d : List Nat}
theorem near2 {r i : Nat} (hm : 1 ≤ m) (hw : ∀ x ∈ w, x < 1000) (hd : d.length ≤ 5) (hi : i < d.length) (μ γ : Sto) {F : List (List Nat)} (hF : F.length ≤ 60) (a b : Option D) :
    ∃ c' x, B__law_near_2 [some (natD m), some (natsD w), some (natsD d), some (natD r), some (.obj μ.length), some (natD i), a, b, none] (μ ++ DO.lst (F.map natsD) :: γ) =
      .nx [some (natD m), some (natsD w), some (natsD d), some (natD r), some (.obj μ.length), some (natD i), x, c', none] (μ ++ DO.lst (((othN d i).foldl (addN m w d r) F).map natsD) :: (γ ++ [.lst ((othN d i).map natsD)])) := by
  have z1 := zSZ' 1 (by omega)
  have z2 := zSZ' 2 (by omega)
  have z10 := zSZ' 10 (by omega)
  have hdz : d.length ≤ SZ := by rw [SZ_eq]; omega
  have e1 : ∀ μ', lcD [] (tgN 8) tYesD E__law_near_1 [some (natD m), some (natsD w), some (natsD d), some (natD r), some (.obj μ.length), some (natD i), a, b, none] (natsL (List.range 10)) μ' = .ok (((List.range 10).map (repl d i)).map natsD) μ' := fun μ' => by
    rw [List.map_map]
    refine lcD_mapF natD _ _ (by simp) fun x hx => ⟨_, rfl, ?_⟩
    exact cat3_ok (by simp [natD, cut_lo]) (b := [x]) (by simp [z1]; rfl) (by simp [natD, cut_hi1]) (by simp; omega)
  let k := μ.length + 1 + γ.length
  have hkl : (μ ++ DO.lst (F.map natsD) :: γ).length = k := by simp [k]; omega
  have hA : ∀ L : List D, (μ ++ DO.lst (F.map natsD) :: γ) ++ [DO.lst L] = μ ++ DO.lst (F.map natsD) :: (γ ++ [.lst L]) := fun L => by simp
  have hget : ∀ L : List D, lstAt (μ ++ DO.lst (F.map natsD) :: (γ ++ [.lst L])) k = some L := fun L => by
    rw [← hA, ← hkl]
    exact lstAt_iff.mpr (by rw [List.getElem?_append_right (Nat.le_refl _)]; simp)
  have hset : ∀ L L' : List D, (μ ++ DO.lst (F.map natsD) :: (γ ++ [.lst L])).set k (.lst L') = μ ++ DO.lst (F.map natsD) :: (γ ++ [.lst L']) := fun L L' => by
    rw [← hA, ← hA, ← hkl, List.set_append_right _ _ (Nat.le_refl _)]
    simp
  have hty : ∀ L : List D, tyvD "list" (μ ++ DO.lst (F.map natsD) :: (γ ++ [.lst L])) (.obj k) = true := fun L => by
    have h := hget L
    have h := lstAt_iff.mp h
    simp [tyvD, h]
  have hsq : ∀ L : List D, seqIt (μ ++ DO.lst (F.map natsD) :: (γ ++ [.lst L])) (.obj k) = some (L, [(k, .lst L)]) := fun L => by
    show (lstAt _ _).map _ = _
    rw [hget L]
    rfl
  have hlt : ∀ μ, gLt (.int ((i : Int) + 1)) (.int (d.length : Int)) μ = some (decide (i + 1 < d.length)) := fun μ => by
    show some (decide ((i : Int) + 1 < (d.length : Int))) = _
    congr 1
    rw [Bool.eq_iff_iff, decide_eq_true_eq, decide_eq_true_eq]
    omega
  have hadd : gI0 (fun x1 x2 => x1 + x2) (natD i) (.int 1) = some (.int ((i : Int) + 1)) := rfl
  have go : ∀ os : List (List Nat), os.length ≤ 11 → ∃ c', forD [(k, .lst (os.map natsD))] (tgN 7) B__law_near_1 (os.map natsD) [some (natD m), some (natsD w), some (natsD d), some (natD r), some (.obj μ.length), some (natD i), some (.obj k), b, none] (μ ++ DO.lst (F.map natsD) :: (γ ++ [.lst (os.map natsD)])) =
      .nx [some (natD m), some (natsD w), some (natsD d), some (natD r), some (.obj μ.length), some (natD i), some (.obj k), c', none] (μ ++ DO.lst ((os.foldl (addN m w d r) F).map natsD) :: (γ ++ [.lst (os.map natsD)])) := fun os ho =>
    near1 hm hw μ γ (os.map natsD) i k rfl none os F b (by omega)
  have ho := oth_len (d := d) i
  obtain ⟨c', e2⟩ := go (othN d i) ho
  refine ⟨c', some (.obj k), ?_⟩
  rw [← hA] at e2
  by_cases c : i + 1 < d.length
  · have hot : othN d i = (List.range 10).map (repl d i) ++ [swp2 d i] := by unfold othN; rw [if_pos c]
    have i1 : L2.atI (natsL d) ((i : Int) + 1) = some (natD (atN d (i + 1))) := nat_at (p := i + 1) c
    have i2 : L2.atI (natsL d) (i : Int) = some (natD (atN d i)) := nat_at hi
    have hc : ∀ μ', eCatT (eCatT (eCutT (eVar 2) oNone (oSome (eVar 5))) (eTup (eCons (eIx (eVar 2) (eAdd (eVar 5) (eC (.int 1)))) (eCons (eIx (eVar 2) (eVar 5)) eNil)))) (eCutT (eVar 2) (oSome (eAdd (eVar 5) (eC (.int 2)))) oNone) [some (natD m), some (natsD w), some (natsD d), some (natD r), some (.obj μ.length), some (natD i), some (.obj k), b, none] μ' = .ok (natsD (swp2 d i)) μ' := fun μ' =>
      cat3_ok (by simp [natD, cut_lo]) (b := [atN d (i + 1), atN d i]) (by simp [natD, z2, i1, i2]; rfl) (by simp [natD, cut_hi2]) (by simp; omega)
    have g1 : gAppend (.obj k) [natsD (swp2 d i)] (μ ++ DO.lst (F.map natsD) :: (γ ++ [.lst (((List.range 10).map (repl d i)).map natsD)])) = .ok .non (μ ++ DO.lst (F.map natsD) :: (γ ++ [.lst ((othN d i).map natsD)])) := by
      rw [x_gAppend, hget]
      simp only
      rw [if_pos (by rw [SZ_eq]; simp), hset, hot]
      simp
    have ht1 := hty (((List.range 10).map (repl d i)).map natsD)
    have sq1 := hsq ((othN d i).map natsD)
    rw [← hA] at g1 ht1 sq1
    rw [← hA] at g1
    generalize ((List.range 10).map (repl d i)).map natsD = A1 at *
    generalize (((othN d i).foldl (addN m w d r) F).map natsD) = A3 at *
    generalize (othN d i).map natsD = A2 at *
    generalize hS0 : (μ ++ DO.lst (F.map natsD) :: γ) = S0 at *
    simp [B__law_near_2, -x_gAppend, -x_eCatT, -x_eCutT, -x_eIx, rg10, z10, e1, hkl, hadd, hdz, hlt, c, hc, ht1, g1, sq1, e2]
  · have hot : othN d i = (List.range 10).map (repl d i) := by unfold othN; rw [if_neg c, List.append_nil]
    have sq1 := hsq ((othN d i).map natsD)
    rw [← hA] at sq1
    rw [← hot] at e1
    generalize (((othN d i).foldl (addN m w d r) F).map natsD) = A3 at *
    generalize (othN d i).map natsD = A2 at *
    generalize hS0 : (μ ++ DO.lst (F.map natsD) :: γ) = S0 at *
    simp [B__law_near_2, -x_gAppend, -x_eCatT, -x_eCutT, -x_eIx, rg10, z10, e1, hkl, hadd, hdz, hlt, c, sq1, e2]
end

section
variable {m : Nat} {w d : List Nat}
theorem adds_nd (r : Nat) : ∀ (os F : List (List Nat)), F.Nodup → (os.foldl (addN m w d r) F).Nodup
  | [], F, h => h
  | o :: os, F, h => by
    rw [List.foldl_cons]
    refine adds_nd r os _ ?_
    unfold addN
    split
    · rename_i q
      rw [List.nodup_append]
      exact ⟨h, by simp, fun a ha b hb => by rw [List.mem_singleton.mp hb]; exact fun e => q.2.1 (e ▸ ha)⟩
    · exact h
theorem adds_mem (r : Nat) {x : List Nat} : ∀ (os F : List (List Nat)), x ∈ os.foldl (addN m w d r) F ↔ x ∈ F ∨ x ∈ os ∧ x ≠ d ∧ rstN m w x = r
  | [], F => by simp
  | o :: os, F => by
    rw [List.foldl_cons, adds_mem r os, List.mem_cons]
    unfold addN
    constructor
    · rintro (h | h)
      · split at h
        · rename_i q
          rw [List.mem_append, List.mem_singleton] at h
          rcases h with h | h
          · exact .inl h
          · exact .inr ⟨.inl h, by rw [h]; exact ⟨q.1, q.2.2⟩⟩
        · exact .inl h
      · exact .inr ⟨.inr h.1, h.2⟩
    · rintro (h | ⟨h | h, h2⟩)
      · left
        split
        · exact List.mem_append_left _ h
        · exact h
      · left
        by_cases c : x ∈ F
        · split
          · exact List.mem_append_left _ c
          · exact c
        · rw [if_pos (by rw [← h]; exact ⟨h2.1, c, h2.2⟩), h]
          simp
      · exact .inr ⟨h, h2⟩
def lawF (m : Nat) (w d : List Nat) (r : Nat) (is : List Nat) (F : List (List Nat)) : List (List Nat) := is.foldl (fun F i => (othN d i).foldl (addN m w d r) F) F
theorem lawF_nd (r : Nat) : ∀ (is : List Nat) (F : List (List Nat)), F.Nodup → (lawF m w d r is F).Nodup
  | [], F, h => h
  | i :: is, F, h => lawF_nd r is _ (adds_nd r _ _ h)
theorem lawF_mem (r : Nat) {x : List Nat} : ∀ (is : List Nat) (F : List (List Nat)), x ∈ lawF m w d r is F ↔ x ∈ F ∨ (∃ i ∈ is, x ∈ othN d i) ∧ x ≠ d ∧ rstN m w x = r
  | [], F => by simp [lawF]
  | i :: is, F => by
    show x ∈ lawF m w d r is ((othN d i).foldl (addN m w d r) F) ↔ _
    rw [lawF_mem r is, adds_mem]
    constructor
    · rintro ((h | h) | h)
      · exact .inl h
      · exact .inr ⟨⟨i, List.mem_cons_self, h.1⟩, h.2⟩
      · obtain ⟨⟨j, hj, q⟩, h2⟩ := h
        exact .inr ⟨⟨j, List.mem_cons_of_mem _ hj, q⟩, h2⟩
    · rintro (h | ⟨⟨j, hj, q⟩, h2⟩)
      · exact .inl (.inl h)
      · rcases List.mem_cons.mp hj with e | e
        · subst e; exact .inl (.inr ⟨q, h2⟩)
        · exact .inr ⟨⟨j, e, q⟩, h2⟩
theorem lawF_len (r : Nat) : ∀ (is : List Nat) (F : List (List Nat)), (lawF m w d r is F).length ≤ F.length + 11 * is.length
  | [], F => by simp [lawF]
  | i :: is, F => by
    have h1 := lawF_len r is ((othN d i).foldl (addN m w d r) F)
    have h2 := adds_len (m := m) (w := w) (d := d) r (othN d i) F
    have h3 := oth_len (d := d) i
    show (lawF m w d r is ((othN d i).foldl (addN m w d r) F)).length ≤ _
    rw [List.length_cons]
    omega
theorem swap_in {i : Nat} (h : i + 1 < d.length) : swapN d i = swp2 d i := by
  unfold swapN swp2
  have e : (d.take (i + 2)).drop i = [atN d i, atN d (i + 1)] := by
    rw [List.drop_take, show i + 2 - i = 2 by omega, List.drop_eq_getElem_cons (by omega), List.drop_eq_getElem_cons (show i + 1 < d.length by omega), atN_get (by omega), atN_get (by omega)]
    rfl
  rw [e]
  rfl
theorem swap_out {i : Nat} (h : i + 1 = d.length) : swapN d i = d := by
  unfold swapN
  have e : (d.take (i + 2)).drop i = d.drop i := by rw [List.take_of_length_le (by omega)]
  rw [e, List.drop_eq_getElem_cons (show i < d.length by omega), List.drop_of_length_le (show d.length ≤ i + 1 by omega), List.drop_of_length_le (show d.length ≤ i + 2 by omega), List.append_nil, List.reverse_singleton]
  have := List.take_append_drop i d
  rw [List.drop_eq_getElem_cons (show i < d.length by omega), List.drop_of_length_le (show d.length ≤ i + 1 by omega)] at this
  exact this
theorem near_eq (r : Nat) : srtN (lawF m w d r (List.range d.length) []) = nearN m w d r := by
  unfold nearN
  refine srtN_eq ((List.perm_ext_iff_of_nodup (lawF_nd r _ _ List.nodup_nil) (undupA_nd _)).mpr fun o => ?_)
  rw [lawF_mem, mem_undupA, List.mem_filter]
  unfold goodB foundN
  rw [List.mem_flatMap, Bool.and_eq_true, decide_eq_true_eq, decide_eq_true_eq]
  constructor
  · rintro (h | ⟨⟨i, hi, h⟩, h1, h2⟩)
    · cases h
    · refine ⟨⟨i, hi, ?_⟩, h1, h2⟩
      unfold othN at h
      unfold allN
      rw [List.mem_append] at h ⊢
      rcases h with h | h
      · exact .inl h
      · by_cases c : i + 1 < d.length
        · rw [if_pos c] at h
          rw [swap_in c]
          exact .inr h
        · rw [if_neg c] at h
          cases h
  · rintro ⟨⟨i, hi, h⟩, h1, h2⟩
    refine .inr ⟨⟨i, hi, ?_⟩, h1, h2⟩
    have hil := List.mem_range.mp hi
    unfold allN at h
    unfold othN
    rw [List.mem_append] at h ⊢
    rcases h with h | h
    · exact .inl h
    · by_cases c : i + 1 < d.length
      · rw [if_pos c, ← swap_in c]
        exact .inr h
      · rw [swap_out (by omega)] at h
        exact absurd (List.mem_singleton.mp h) h1
theorem lnear_ok {r : Nat} (h : GoodW m w) (hd : GoodD w d) (h5 : w.length ≤ 5) (μ : Sto) : ∃ γ, R__law_near [natD m, natsD w, natsD d, natD r] μ = .ok (.tup ((nearN m w d r).map natsD)) (μ ++ γ) := by
  have h1 := h.lo
  have hdl := hd.ln
  have hl1 := h.ln
  have loop : ∀ (is : List Nat) (F : List (List Nat)) (γ : Sto) (c a b : Option D), (∀ i ∈ is, i < d.length) → F.length + 11 * is.length ≤ 60 → ∃ γ' c' a' b', forD [] (tgN 5) B__law_near_2 (natsL is) [some (natD m), some (natsD w), some (natsD d), some (natD r), some (.obj μ.length), c, a, b, none] (μ ++ DO.lst (F.map natsD) :: γ) =
      .nx [some (natD m), some (natsD w), some (natsD d), some (natD r), some (.obj μ.length), c', a', b', none] (μ ++ DO.lst ((lawF m w d r is F).map natsD) :: γ') := by
    intro is
    induction is with
    | nil => intro F γ c a b _ _; exact ⟨γ, c, a, b, by simp [forD, natsL, lawF]⟩
    | cons i is ih =>
      intro F γ c a b him hl
      rw [List.length_cons] at hl
      obtain ⟨c1, x1, hb⟩ := near2 (m := m) (w := w) (r := r) (d := d) (i := i) (by omega) (wsm h) (by omega) (him i List.mem_cons_self) μ γ (F := F) (by omega) a b
      have h2 := adds_len (m := m) (w := w) (d := d) r (othN d i) F
      have h3 := oth_len (d := d) i
      obtain ⟨γ', c', a', b', e'⟩ := ih ((othN d i).foldl (addN m w d r) F) (γ ++ [.lst ((othN d i).map natsD)]) (some (natD i)) x1 c1 (fun j hj => him j (List.mem_cons_of_mem _ hj)) (by omega)
      refine ⟨γ', c', a', b', ?_⟩
      show forD [] (tgN 5) B__law_near_2 (natD i :: natsL is) _ _ = _
      rw [forD, if_pos (by simp)]
      simp only [tgN, List.set_cons_succ, List.set_cons_zero]
      rw [hb]
      simp only
      rw [e']
      rfl
  obtain ⟨γ', c', a', b', e⟩ := loop (List.range d.length) [] [] none none none (fun i hi => List.mem_range.mp hi) (by simp; omega)
  have e : forD [] (tgN 5) B__law_near_2 (natsL (List.range d.length)) [some (natD m), some (natsD w), some (natsD d), some (natD r), some (.obj μ.length), none, none, none, none] (μ ++ [DO.lst []]) =
      .nx [some (natD m), some (natsD w), some (natsD d), some (natD r), some (.obj μ.length), c', a', b', none] (μ ++ DO.lst ((lawF m w d r (List.range d.length) []).map natsD) :: γ') := e
  have hrg : ∀ μ, gRange1 [.int (d.length : Int)] μ = .ok (natsL (List.range d.length), []) μ := fun μ => by rw [x_gRange1 (small_ok (by omega))]; exact congrArg (fun z => R.ok (z, []) μ) (range_nats _)
  have hdz : d.length ≤ SZ := by rw [SZ_eq]; omega
  have hm : ∀ x ∈ lawF m w d r (List.range d.length) [], x.length = d.length := fun x hx => by
    rw [← mem_undupA, ← (srtN_perm (undupA _)).mem_iff] at hx
    have hx : x ∈ srtN (lawF m w d r (List.range d.length) []) := by
      rw [(srtN_perm _).mem_iff] at hx ⊢
      exact mem_undupA.mp hx
    rw [near_eq] at hx
    unfold nearN at hx
    rw [(srtN_perm _).mem_iff, mem_undupA, List.mem_filter] at hx
    exact (found_good hd.bd hx.1).1
  have es := near_eq (m := m) (w := w) (d := d) r
  generalize lawF m w d r (List.range d.length) [] = F at *
  have hc : cmpAll (F.map natsD) = true := cmpAll_nats F
  have hsr : srtb (F.map natsD) = true := by
    unfold srtb
    rw [Bool.or_eq_true, List.all_eq_true]
    left
    intro x hx
    obtain ⟨a, ha, rfl⟩ := List.mem_map.mp hx
    have := hm a ha
    cases a with
    | nil => simp at this; omega
    | cons y a => rfl
  have hsq : seqOf (μ ++ DO.lst (F.map natsD) :: γ') (.obj μ.length) = some (F.map natsD) := by
    have q : lstAt (μ ++ DO.lst (F.map natsD) :: γ') μ.length = some (F.map natsD) := lstAt_iff.mpr (by simp)
    exact q
  have hsp := sortP_rows F
  rw [es] at hsp
  refine ⟨DO.lst (F.map natsD) :: γ', ?_⟩
  generalize F.map natsD = A at *
  generalize (nearN m w d r).map natsD = B at *
  simp [R__law_near, x_runF, F__law_near, hrg, hdz, e, hsq, hc, hsr, hsp]
end

section
variable {m : Nat}
def lst1 (p : List Nat) : List Nat := p.drop (p.length - 1)
def ext (m : Nat) (p : List Nat) : List Nat := (List.range m).filter fun x => finB m (lst1 p ++ [x])
def lev (m : Nat) : Nat → List (List Nat)
  | 0 => [[]]
  | k + 1 => (lev m k).flatMap fun p => (ext m p).map fun x => p ++ [x]
theorem po_none {n : Nat} {p : Nat → Nat → Bool} : (firstPO n p).isNone = true ↔ ∀ i, i < n → ∀ o ∈ offs, p i o = false := by
  unfold firstPO
  cases h : (List.range n).find? fun i => offs.any (p i) with
  | none =>
    rw [List.find?_eq_none] at h
    refine ⟨fun _ i hi o ho => ?_, fun _ => rfl⟩
    have := h i (List.mem_range.mpr hi)
    cases q : p i o with
    | false => rfl
    | true => exact absurd (List.any_eq_true.mpr ⟨o, ho, q⟩) this
  | some i =>
    have h1 := List.find?_some h
    have h2 := List.mem_range.mp (List.mem_of_find?_eq_some h)
    obtain ⟨o, ho, q⟩ := List.any_eq_true.mp h1
    constructor
    · intro hn
      have hs : (offs.find? (p i)).isSome = true := List.find?_isSome.mpr ⟨o, ho, q⟩
      obtain ⟨y, hy⟩ := Option.isSome_iff_exists.mp hs
      simp [hy] at hn
    · intro hh
      rw [hh i h2 o ho] at q
      cases q
theorem fin2 {a b : Nat} : finB m [a, b] = true ↔ ∀ o ∈ offs, a * o % m ≠ 0 ∧ b * o % m ≠ 0 ∧ a * o % m ≠ b * o % m := by
  unfold finB
  rw [Bool.and_eq_true, po_none, po_none]
  constructor
  · rintro ⟨h1, h2⟩ o ho
    exact ⟨of_decide_eq_false (h1 0 (by simp) o ho), of_decide_eq_false (h1 1 (by simp) o ho), of_decide_eq_false (h2 0 (by simp) o ho)⟩
  · intro h
    refine ⟨fun i hi o ho => decide_eq_false ?_, fun i hi o ho => decide_eq_false ?_⟩
    · have hi : i < 2 := hi
      rcases (show i = 0 ∨ i = 1 by omega) with e | e <;> subst e
      · exact (h o ho).1
      · exact (h o ho).2.1
    · have hi : i < 2 - 1 := hi
      have e : i = 0 := by omega
      subst e
      exact (h o ho).2.2
theorem fin_sym {a b : Nat} : finB m [a, b] = finB m [b, a] := by
  rw [Bool.eq_iff_iff, fin2, fin2]
  exact ⟨fun h o ho => ⟨(h o ho).2.1, (h o ho).1, Ne.symm (h o ho).2.2⟩, fun h o ho => ⟨(h o ho).2.1, (h o ho).1, Ne.symm (h o ho).2.2⟩⟩
def hasB (m a : Nat) : Bool := (List.range m).any fun y => finB m [a, y]
/-- what first_weights looks at behind p, many wanted -/
def nxt (m few : Nat) (p : List Nat) : List Nat := if p.length + 1 < few then (ext m p).filter (hasB m) else ext m p
def gr (m few : Nat) : Nat → List Nat → Option (List Nat)
  | 0, p => some p
  | k + 1, p => match (nxt m few p).head? with
    | none => none
    | some x => gr m few k (p ++ [x])
theorem head_flat {α β : Type} (f : α → List β) : ∀ l : List α, (l.flatMap f).head? = (match l.find? (fun a => !(f a).isEmpty) with | none => none | some a => (f a).head?)
  | [] => rfl
  | a :: l => by
    rw [List.flatMap_cons, List.find?_cons]
    cases h : f a with
    | nil => simpa [h] using head_flat f l
    | cons b bs => simp [h]
theorem cut_last (o : List Nat) : DL.cutD (natsL o) (some (-1)) none = natsL (lst1 o) := by
  unfold DL.cutD lst1
  have e1 : HT.sIx (natsL o).length 0 (some (-1)) = o.length - 1 := by
    show (if (-1 : Int) < 0 then ((-1 : Int) + ((natsL o).length : Int)).toNat else min (-1 : Int).toNat (natsL o).length) = _
    rw [if_pos (by decide), show (natsL o).length = o.length by simp [natsL]]
    omega
  rw [e1, HT.sIx_none, drop_natsL]
  have e2 : (natsL (o.drop (o.length - 1))).length ≤ (natsL o).length - (o.length - 1) := by simp [natsL]
  rw [List.take_of_length_le e2]
theorem cat2_ok {fa fb : FE D} {ρ : En} {μ : Sto} {a b : List Nat} (h1 : fa ρ μ = .ok (natsD a) μ) (h2 : fb ρ μ = .ok (natsD b) μ) (hl : a.length + b.length ≤ 1000) : eCatT fa fb ρ μ = .ok (natsD (a ++ b)) μ := by
  have e1 : (natsL a).length + (natsL b).length ≤ SZ := by rw [SZ_eq]; simp [natsL]; omega
  rw [x_eCatT, h1]
  show ((fb ρ μ).bind _ : R D) = _
  rw [h2]
  show (if (natsL a).length + (natsL b).length ≤ SZ then R.ok (D.tup (natsL a ++ natsL b)) μ else .bad) = _
  rw [if_pos e1, nats_app]
theorem lst1_len (p : List Nat) : (lst1 p).length ≤ 1 := by unfold lst1; simp; omega
theorem lst1_mem {p : List Nat} {x : Nat} (h : x ∈ lst1 p) : x ∈ p := List.mem_of_mem_drop h
theorem goodE {p : List Nat} (h1 : 2 ≤ m) (h2 : m ≤ 97) (hp : ∀ y ∈ p, y < m) {x : Nat} (hx : x < m) : GoodW m (lst1 p ++ [x]) := by
  have := lst1_len p
  refine ⟨h1, h2, by simp, by simp; omega, fun y hy => ?_⟩
  rw [List.mem_append, List.mem_singleton] at hy
  rcases hy with hy | hy
  · exact hp y (lst1_mem hy)
  · omega
theorem good2 (h1 : 2 ≤ m) (h2 : m ≤ 97) {x y : Nat} (hx : x < m) (hy : y < m) : GoodW m [x, y] := by
  refine ⟨h1, h2, by simp, by simp, fun z hz => ?_⟩
  simp at hz
  rcases hz with e | e <;> omega
theorem ext_ok {p : List Nat} (h1 : 2 ≤ m) (h2 : m ≤ 97) (hp : ∀ y ∈ p, y < m) (b3 b5 : Option D) (few : Nat) (μ : Sto) :
    lcD [] (tgN 4) U_first_weights_1 E_first_weights_1 [some (natD m), some (natD few), some (natsD p), b3, none, b5] (natsL (List.range m)) μ = .ok (natsL (ext m p)) μ := by
  refine lcD_filtF natD natD (fun x => finB m (lst1 p ++ [x])) (List.range m) (by simp) fun x hx => ⟨_, rfl, ?_, fun _ => by simp [E_first_weights_1]⟩
  have hx := List.mem_range.mp hx
  have z1 := zSZ' 1 (by omega)
  have e1 := fa_ok (goodE h1 h2 hp hx) μ
  have := lst1_len p
  have hc : ∀ y, eCatT (eCutT (eVar 2) (oSome (eNeg (eC (.int 1)))) oNone) (eTup (eCons (eVar 4) eNil)) [some (natD m), some (natD few), some (natsD p), b3, some (natD x), y] μ = .ok (natsD (lst1 p ++ [x])) μ := fun y =>
    cat2_ok (by simp [cut_last]) (b := [x]) (by simp [z1]; rfl) (by simp; omega)
  simp [U_first_weights_1, -x_eCatT, -x_eCutT, hc, e1]
theorem has_ok {p : List Nat} (h1 : 2 ≤ m) (h2 : m ≤ 97) {l : List Nat} (hl : ∀ y ∈ l, y < m) (b3 b5 : Option D) (few : Nat) (μ : Sto) :
    lcD [] (tgN 4) U_first_weights_2 E_first_weights_3 [some (natD m), some (natD few), some (natsD p), b3, none, b5] (natsL l) μ = .ok (natsL (l.filter (hasB m))) μ := by
  refine lcD_filtF natD natD (hasB m) l (by simp) fun x hx => ⟨_, rfl, ?_, fun _ => by simp [E_first_weights_3]⟩
  have hx := hl x hx
  have hz : m ≤ SZ := by rw [SZ_eq]; omega
  have z2 := zSZ' 2 (by omega)
  have hrg : ∀ μ, gRange1 [natD m] μ = .ok (natsL (List.range m), []) μ := fun μ => by
    show gRange1 [.int (m : Int)] μ = _
    rw [x_gRange1 (small_ok (by omega))]; exact congrArg (fun z => R.ok (z, []) μ) (range_nats _)
  have e : ∀ y, lcD [] (tgN 5) tYesD E_first_weights_2 [some (natD m), some (natD few), some (natsD p), b3, some (natD x), y] (natsL (List.range m)) μ = .ok ((List.range m).map fun y => .bl (finB m [x, y])) μ := fun y => by
    refine lcD_mapF natD _ _ (by simp) fun y hy => ⟨_, rfl, ?_⟩
    have e1 := fa_ok (good2 h1 h2 hx (List.mem_range.mp hy)) μ
    have e1 : R_finds_all [natD m, .tup [natD x, natD y]] μ = .ok (.bl (finB m [x, y])) μ := e1
    simp [E_first_weights_2, z2, e1]
  have ea : gAny [.lst ((List.range m).map fun y => .bl (finB m [x, y]))] μ = .ok (.bl (hasB m x)) μ := gAny_of (fun y => finB m [x, y]) (List.range m) μ
  generalize (List.range m).map (fun y => D.bl (finB m [x, y])) = A at *
  simp [U_first_weights_2, hrg, hz, e, ea]
theorem ext_lt {p : List Nat} {x : Nat} (h : x ∈ ext m p) : x < m := List.mem_range.mp (List.mem_filter.mp h).1
theorem nxt_lt {few : Nat} {p : List Nat} {x : Nat} (h : x ∈ nxt m few p) : x < m := by
  unfold nxt at h
  split at h
  · exact ext_lt (List.mem_filter.mp h).1
  · exact ext_lt h
theorem nxt_len {few : Nat} {p : List Nat} : (nxt m few p).length ≤ m := by
  have h1 : (ext m p).length ≤ m := by
    unfold ext
    have := List.length_filter_le (fun x => finB m (lst1 p ++ [x])) (List.range m)
    rwa [List.length_range] at this
  unfold nxt
  split
  · exact Nat.le_trans (List.length_filter_le _ _) h1
  · exact h1
theorem fwB {p : List Nat} (h1 : 2 ≤ m) (h2 : m ≤ 97) (hp : ∀ y ∈ p, y < m) (hl : p.length ≤ 8) (b3 b4 b5 : Option D) (few : Nat) (μ : Sto) : ∃ ρ, (nxt m few p = [] → B_first_weights_1 [some (natD m), some (natD few), some (natsD p), b3, b4, b5] μ = .ex 1 (.str "weights") ρ μ) ∧
    ∀ x l, nxt m few p = x :: l → ∃ c3 c4 c5, B_first_weights_1 [some (natD m), some (natD few), some (natsD p), b3, b4, b5] μ = .nx [some (natD m), some (natD few), some (natsD (p ++ [x])), c3, c4, c5] μ := by
  have hz : m ≤ SZ := by rw [SZ_eq]; omega
  have z1 := zSZ' 1 (by omega)
  have hpz : p.length ≤ SZ := by rw [SZ_eq]; omega
  have hrg : ∀ μ, gRange1 [natD m] μ = .ok (natsL (List.range m), []) μ := fun μ => by
    show gRange1 [.int (m : Int)] μ = _
    rw [x_gRange1 (small_ok (by omega))]; exact congrArg (fun z => R.ok (z, []) μ) (range_nats _)
  have e1 := fun b3 b5 => ext_ok h1 h2 hp b3 b5 few μ
  have e2 := fun b3 b5 => has_ok (p := p) h1 h2 (l := ext m p) (fun y hy => ext_lt hy) b3 b5 few μ
  have hlt : ∀ μ, gLt (.int ((p.length : Int) + 1)) (natD few) μ = some (decide (p.length + 1 < few)) := fun μ => by
    show some (decide ((p.length : Int) + 1 < (few : Int))) = _
    congr 1
    rw [Bool.eq_iff_iff, decide_eq_true_eq, decide_eq_true_eq]
    omega
  have hnl := nxt_len (m := m) (few := few) (p := p)
  have hel : (ext m p).length ≤ m := by
    unfold ext
    have := List.length_filter_le (fun x => finB m (lst1 p ++ [x])) (List.range m)
    rwa [List.length_range] at this
  have helz : (ext m p).length ≤ SZ := by rw [SZ_eq]; omega
  have hnz : (nxt m few p).length ≤ SZ := by rw [SZ_eq]; omega
  have fin : ∀ (N : List Nat) (c3 c4 c5 : Option D), N.length ≤ SZ → ∃ ρ, (N = [] → (sSeq (sIf (DL.tCmp gEq (eCall gLen (eCons (eVar 3) eNil)) (eC (.int 0))) (sRaise 1 (eC (.str "weights"))) sNext) (sSet 2 (eCatT (eVar 2) (eTup (eCons (eIx (eVar 3) (eC (.int 0))) eNil)))))
        [some (natD m), some (natD few), some (natsD p), some (.lst (natsL N)), c4, c5] μ = .ex 1 (.str "weights") ρ μ) ∧
      ∀ x l, N = x :: l → (sSeq (sIf (DL.tCmp gEq (eCall gLen (eCons (eVar 3) eNil)) (eC (.int 0))) (sRaise 1 (eC (.str "weights"))) sNext) (sSet 2 (eCatT (eVar 2) (eTup (eCons (eIx (eVar 3) (eC (.int 0))) eNil)))))
        [some (natD m), some (natD few), some (natsD p), some (.lst (natsL N)), c4, c5] μ = .nx [some (natD m), some (natD few), some (natsD (p ++ [x])), some (.lst (natsL N)), c4, c5] μ := fun N c3 c4 c5 hN => by
    refine ⟨[some (natD m), some (natD few), some (natsD p), some (.lst (natsL N)), c4, c5], fun e => ?_, fun x l e => ?_⟩
    · subst e
      have g : gEq (.int 0) (.int 0) μ = some true := gEq_nn (a := 0) (b := 0)
      simp [g]
    · subst e
      have g : gEq (.int ((l.length : Int) + 1)) (.int 0) μ = some false := by
        have := gEq_nn (a := l.length + 1) (b := 0) (μ := μ)
        rw [decide_eq_false (by omega)] at this
        exact this
      have hN' : l.length + 1 ≤ SZ := hN
      have i0 : L2.atI (natsL (x :: l)) 0 = some (natD x) := nat_at (p := 0) (by simp)
      have hc : eCatT (eVar 2) (eTup (eCons (eIx (eVar 3) (eC (.int 0))) eNil)) [some (natD m), some (natD few), some (natsD p), some (.lst (natsL (x :: l))), c4, c5] μ = .ok (natsD (p ++ [x])) μ :=
        cat2_ok (by simp) (b := [x]) (by simp [i0, z1]; rfl) (by simp; omega)
      simp [-x_eCatT, hN', g, hc]
  by_cases c : p.length + 1 < few
  · have hn : nxt m few p = (ext m p).filter (hasB m) := by unfold nxt; rw [if_pos c]
    obtain ⟨ρ, f1, f2⟩ := fin (nxt m few p) none b4 b5 hnz
    rw [hn] at f1 f2 ⊢
    refine ⟨ρ, fun e => ?_, fun x l e => ?_⟩
    · rw [← f1 e]
      simp [B_first_weights_1, -x_eCatT, hrg, hz, e1, hpz, hlt, c, helz, e2]
    · refine ⟨some (.lst (natsL ((ext m p).filter (hasB m)))), b4, b5, ?_⟩
      rw [← f2 x l e]
      simp [B_first_weights_1, -x_eCatT, hrg, hz, e1, hpz, hlt, c, helz, e2]
  · have hn : nxt m few p = ext m p := by unfold nxt; rw [if_neg c]
    obtain ⟨ρ, f1, f2⟩ := fin (nxt m few p) none b4 b5 hnz
    rw [hn] at f1 f2 ⊢
    refine ⟨ρ, fun e => ?_, fun x l e => ?_⟩
    · rw [← f1 e]
      simp [B_first_weights_1, -x_eCatT, hrg, hz, e1, hpz, hlt, c]
    · refine ⟨some (.lst (natsL (ext m p))), b4, b5, ?_⟩
      rw [← f2 x l e]
      simp [B_first_weights_1, -x_eCatT, hrg, hz, e1, hpz, hlt, c]
end

section
variable {m : Nat}
theorem wl (h1 : 2 ≤ m) (h2 : m ≤ 97) {few : Nat} (hf : few ≤ 8) (μ : Sto) : ∀ (k fuel : Nat) (p : List Nat) (b3 b4 b5 : Option D), p.length + k = few → (∀ y ∈ p, y < m) → k < fuel →
    (∀ q, gr m few k p = some q → ∃ c3 c4 c5, whileD U_first_weights_3 B_first_weights_1 fuel [some (natD m), some (natD few), some (natsD p), b3, b4, b5] μ = .nx [some (natD m), some (natD few), some (natsD q), c3, c4, c5] μ) ∧
    (gr m few k p = none → ∃ ρ, whileD U_first_weights_3 B_first_weights_1 fuel [some (natD m), some (natD few), some (natsD p), b3, b4, b5] μ = .ex 1 (.str "weights") ρ μ) := by
  intro k
  induction k with
  | zero =>
    intro fuel p b3 b4 b5 hl hp hk
    have hU : ∀ μ, U_first_weights_3 [some (natD m), some (natD few), some (natsD p), b3, b4, b5] μ = .ok (decide (p.length < few)) μ := fun μ => by
      have hpz : p.length ≤ SZ := by rw [SZ_eq]; omega
      have hlt : gLt (.int (p.length : Int)) (natD few) μ = some (decide (p.length < few)) := by
        show some (decide ((p.length : Int) < (few : Int))) = _
        congr 1
        rw [Bool.eq_iff_iff, decide_eq_true_eq, decide_eq_true_eq]
        omega
      simp [U_first_weights_3, hpz, hlt]
    obtain ⟨fuel, rfl⟩ : ∃ f, fuel = f + 1 := ⟨fuel - 1, by omega⟩
    refine ⟨fun q hq => ?_, fun hq => by simp [gr] at hq⟩
    have hq : p = q := by simpa [gr] using hq
    subst hq
    refine ⟨b3, b4, b5, ?_⟩
    rw [whileD, hU, decide_eq_false (by omega)]
    rfl
  | succ k ih =>
    intro fuel p b3 b4 b5 hl hp hk
    have hU : ∀ μ, U_first_weights_3 [some (natD m), some (natD few), some (natsD p), b3, b4, b5] μ = .ok (decide (p.length < few)) μ := fun μ => by
      have hpz : p.length ≤ SZ := by rw [SZ_eq]; omega
      have hlt : gLt (.int (p.length : Int)) (natD few) μ = some (decide (p.length < few)) := by
        show some (decide ((p.length : Int) < (few : Int))) = _
        congr 1
        rw [Bool.eq_iff_iff, decide_eq_true_eq, decide_eq_true_eq]
        omega
      simp [U_first_weights_3, hpz, hlt]
    obtain ⟨fuel, rfl⟩ : ∃ f, fuel = f + 1 := ⟨fuel - 1, by omega⟩
    obtain ⟨ρ, g1, g2⟩ := fwB h1 h2 hp (by omega) b3 b4 b5 few μ
    have hw : whileD U_first_weights_3 B_first_weights_1 (fuel + 1) [some (natD m), some (natD few), some (natsD p), b3, b4, b5] μ = (match B_first_weights_1 [some (natD m), some (natD few), some (natsD p), b3, b4, b5] μ with
      | .nx ρ2 μ2 => whileD U_first_weights_3 B_first_weights_1 fuel ρ2 μ2
      | .ct ρ2 μ2 => whileD U_first_weights_3 B_first_weights_1 fuel ρ2 μ2
      | .bk ρ2 μ2 => .nx ρ2 μ2
      | r => r) := by
      rw [whileD, hU, decide_eq_true (by omega)]
      rfl
    rw [hw]
    cases hn : nxt m few p with
    | nil =>
      rw [g1 hn]
      refine ⟨fun q hq => ?_, fun _ => ⟨ρ, rfl⟩⟩
      simp [gr, hn] at hq
    | cons x l =>
      obtain ⟨c3, c4, c5, e⟩ := g2 x l hn
      rw [e]
      have hx : x < m := nxt_lt (few := few) (p := p) (by rw [hn]; exact List.mem_cons_self)
      have hg : gr m few (k + 1) p = gr m few k (p ++ [x]) := by simp [gr, hn]
      rw [hg]
      exact ih fuel (p ++ [x]) c3 c4 c5 (by rw [List.length_append, List.length_singleton]; omega) (fun y hy => by
        rcases List.mem_append.mp hy with z | z
        · exact hp y z
        · rw [List.mem_singleton.mp z]; exact hx) (by omega)
theorem fw_ok (h1 : 2 ≤ m) (h2 : m ≤ 97) {few : Nat} (hf1 : 1 ≤ few) (hf : few ≤ 8) (μ : Sto) :
    (∀ q, gr m few few [] = some q → R_first_weights [natD m, natD few] μ = .ok (natsD q) μ) ∧ (gr m few few [] = none → R_first_weights [natD m, natD few] μ = .ex 1 (.str "weights") μ) := by
  have e1 := mod_in (μ := μ) h1 h2
  have e2 : G_is_in [natD few, .int 1, .int 8] μ = .ok (.bl true) μ := by
    have hi : isInD (natD few) 1 8 = true := by simp [isInD, natD]; omega
    have hti : tyD μ (natD few) = some "int" := rfl
    simp [G_is_in, hi, hti]
  obtain ⟨w1, w2⟩ := wl h1 h2 hf μ few 1000 [] none none none (by simp) (by simp) (by omega)
  have e0 : (natsD [] : D) = .tup [] := rfl
  rw [e0] at w1 w2
  refine ⟨fun q hq => ?_, fun hq => ?_⟩
  · obtain ⟨c3, c4, c5, e⟩ := w1 q hq
    simp [R_first_weights, x_runF, F_first_weights, e1, e2, G_demand, e]
  · obtain ⟨ρ, e⟩ := w2 hq
    simp [R_first_weights, x_runF, F_first_weights, e1, e2, G_demand, e]
theorem lev_ok (h : ∀ k, ∀ p ∈ lev m k, p.length = k ∧ ∀ y ∈ p, y < m) : True := trivial
theorem lev_good : ∀ k, ∀ p ∈ lev m k, p.length = k ∧ ∀ y ∈ p, y < m
  | 0, p, h => by
    have : p = [] := by simpa [lev] using h
    subst this
    simp
  | k + 1, p, h => by
    unfold lev at h
    obtain ⟨q, hq, h⟩ := List.mem_flatMap.mp h
    obtain ⟨x, hx, rfl⟩ := List.mem_map.mp h
    obtain ⟨h1, h2⟩ := lev_good k q hq
    refine ⟨by rw [List.length_append, h1, List.length_singleton], fun y hy => ?_⟩
    rcases List.mem_append.mp hy with z | z
    · exact h2 y z
    · rw [List.mem_singleton.mp z]; exact ext_lt hx
theorem ext_len {p : List Nat} : (ext m p).length ≤ m := by
  unfold ext
  have := List.length_filter_le (fun x => finB m (lst1 p ++ [x])) (List.range m)
  rwa [List.length_range] at this
theorem flat_len : ∀ l : List (List Nat), (l.flatMap fun p => (ext m p).map fun x => p ++ [x]).length ≤ m * l.length
  | [] => by simp
  | p :: l => by
    have := flat_len l
    have := ext_len (m := m) (p := p)
    rw [List.flatMap_cons, List.length_append, List.length_map, List.length_cons, Nat.mul_succ]
    omega
theorem lev_len (hm : m ≤ 13) : ∀ k, k ≤ 3 → (lev m k).length ≤ 13 ^ k
  | 0, _ => by simp [lev]
  | k + 1, h => by
    have h1 := lev_len hm k (by omega)
    have h2 := flat_len (m := m) (lev m k)
    unfold lev
    refine Nat.le_trans h2 ?_
    rw [Nat.pow_succ, Nat.mul_comm]
    exact Nat.mul_le_mul h1 hm
theorem lfB {p : List Nat} (h1 : 2 ≤ m) (h2 : m ≤ 97) (hp : ∀ y ∈ p, y < m) (hl : p.length ≤ 8) {acc : List (List Nat)} (ha : acc.length ≤ 10000) (a1 a2 a3 a6 : Option D) (μ : Sto) :
    B__law_first_1 [some (natD m), a1, a2, a3, some (.lst (acc.map natsD)), some (natsD p), a6] μ = .nx [some (natD m), a1, a2, a3, some (.lst ((acc ++ (ext m p).map fun x => p ++ [x]).map natsD)), some (natsD p), a6] μ := by
  have hz : m ≤ SZ := by rw [SZ_eq]; omega
  have z1 := zSZ' 1 (by omega)
  have hrg : ∀ μ, gRange1 [natD m] μ = .ok (natsL (List.range m), []) μ := fun μ => by
    show gRange1 [.int (m : Int)] μ = _
    rw [x_gRange1 (small_ok (by omega))]; exact congrArg (fun z => R.ok (z, []) μ) (range_nats _)
  have e : ∀ b, lcD [] (tgN 6) U__law_first_1 E__law_first_1 [some (natD m), a1, a2, a3, some (.lst (acc.map natsD)), some (natsD p), b] (natsL (List.range m)) μ = .ok ((ext m p).map fun x => natsD (p ++ [x])) μ := fun b => by
    refine lcD_filtF natD (fun x => natsD (p ++ [x])) (fun x => finB m (lst1 p ++ [x])) (List.range m) (by simp) fun x hx => ⟨_, rfl, ?_, fun _ => ?_⟩
    · have hx := List.mem_range.mp hx
      have e1 := lfa_ok (goodE h1 h2 hp hx) μ
      have := lst1_len p
      have hc : eCatT (eCutT (eVar 5) (oSome (eNeg (eC (.int 1)))) oNone) (eTup (eCons (eVar 6) eNil)) [some (natD m), a1, a2, a3, some (.lst (acc.map natsD)), some (natsD p), some (natD x)] μ = .ok (natsD (lst1 p ++ [x])) μ :=
        cat2_ok (by simp [cut_last]) (b := [x]) (by simp [z1]; rfl) (by simp; omega)
      simp [U__law_first_1, -x_eCatT, -x_eCutT, hc, e1]
    · have hc : eCatT (eVar 5) (eTup (eCons (eVar 6) eNil)) [some (natD m), a1, a2, a3, some (.lst (acc.map natsD)), some (natsD p), some (natD x)] μ = .ok (natsD (p ++ [x])) μ :=
        cat2_ok (by simp) (b := [x]) (by simp [z1]; rfl) (by simp; omega)
      simp [E__law_first_1, -x_eCatT, hc]
  have hel := ext_len (m := m) (p := p)
  have hs : acc.length + (ext m p).length ≤ SZ := by rw [SZ_eq]; omega
  have hc : acc.map natsD ++ (ext m p).map (fun x => natsD (p ++ [x])) = (acc ++ (ext m p).map fun x => p ++ [x]).map natsD := by
    rw [List.map_append, List.map_map]; rfl
  simp only [B__law_first_1, x_sSet, x_eFz]
  simp [hrg, hz, e, hs, hc]
end

section
variable {m : Nat}
def stepL (m : Nat) (l : List (List Nat)) : List (List Nat) := l.flatMap fun p => (ext m p).map fun x => p ++ [x]
theorem lf_in (h1 : 2 ≤ m) (h2 : m ≤ 97) (a1 a2 a3 : Option D) (μ : Sto) : ∀ (ps acc : List (List Nat)) (b c : Option D), (∀ p ∈ ps, p.length ≤ 8 ∧ ∀ y ∈ p, y < m) → acc.length + m * ps.length ≤ 10000 →
    ∃ b' c', forD [] (tgN 5) B__law_first_1 (ps.map natsD) [some (natD m), a1, a2, a3, some (.lst (acc.map natsD)), b, c] μ = .nx [some (natD m), a1, a2, a3, some (.lst ((acc ++ stepL m ps).map natsD)), b', c'] μ
  | [], acc, b, c, _, _ => ⟨b, c, by simp [forD, stepL]⟩
  | p :: ps, acc, b, c, hp, hl => by
    rw [List.length_cons, Nat.mul_succ] at hl
    have hel := ext_len (m := m) (p := p)
    obtain ⟨b', c', e⟩ := lf_in h1 h2 a1 a2 a3 μ ps (acc ++ (ext m p).map fun x => p ++ [x]) (some (natsD p)) c (fun q hq => hp q (List.mem_cons_of_mem _ hq)) (by rw [List.length_append, List.length_map]; omega)
    have hb := lfB h1 h2 (hp p List.mem_cons_self).2 (hp p List.mem_cons_self).1 (acc := acc) (by omega) a1 a2 a3 c μ
    refine ⟨b', c', ?_⟩
    rw [List.map_cons, forD, if_pos (by simp)]
    simp only [tgN, List.set_cons_succ, List.set_cons_zero]
    rw [hb]
    simp only
    rw [e]
    unfold stepL
    rw [List.flatMap_cons, List.append_assoc]
theorem lfirst_ok (h1 : 2 ≤ m) (h2 : m ≤ 13) {few : Nat} (hf : few ≤ 3) (μ : Sto) : R__law_first [natD m, natD few] μ = .ok (match (lev m few).head? with | some q => natsD q | none => .non) μ := by
  have loop : ∀ (ts : List Nat) (k : Nat) (b3 b4 b5 b6 : Option D), k + ts.length ≤ 3 → ∃ c3 c4 c5 c6, forD [] (tgN 3) B__law_first_2 (natsL ts) [some (natD m), some (natD few), some (.lst ((lev m k).map natsD)), b3, b4, b5, b6] μ =
      .nx [some (natD m), some (natD few), some (.lst ((lev m (k + ts.length)).map natsD)), c3, c4, c5, c6] μ := by
    intro ts
    induction ts with
    | nil => intro k b3 b4 b5 b6 _; exact ⟨b3, b4, b5, b6, by simp [forD, natsL]⟩
    | cons t ts ih =>
      intro k b3 b4 b5 b6 hk
      rw [List.length_cons] at hk
      have hll := lev_len h2 k (by omega)
      have hpow : 13 ^ k ≤ 169 := by
        have : k ≤ 2 := by omega
        calc 13 ^ k ≤ 13 ^ 2 := Nat.pow_le_pow_right (by omega) this
          _ = 169 := by decide
      have hmul : m * (lev m k).length ≤ 13 * 169 := Nat.mul_le_mul h2 (Nat.le_trans hll hpow)
      obtain ⟨b', c', e⟩ := lf_in h1 (by omega) (some (natD few)) (some (.lst ((lev m k).map natsD))) (some (natD t)) μ (lev m k) [] b5 b6 (fun p hp => ⟨by rw [(lev_good k p hp).1]; omega, (lev_good k p hp).2⟩) (by simp; omega)
      rw [List.nil_append] at e
      have e : forD [] (tgN 5) B__law_first_1 ((lev m k).map natsD) [some (natD m), some (natD few), some (.lst ((lev m k).map natsD)), some (natD t), some (.lst []), b5, b6] μ = .nx [some (natD m), some (natD few), some (.lst ((lev m k).map natsD)), some (natD t), some (.lst ((lev m (k + 1)).map natsD)), b', c'] μ := e
      obtain ⟨c3, c4, c5, c6, e2⟩ := ih (k + 1) (some (natD t)) (some (.lst ((lev m (k + 1)).map natsD))) b' c' (by omega)
      refine ⟨c3, c4, c5, c6, ?_⟩
      show forD [] (tgN 3) B__law_first_2 (natD t :: natsL ts) _ _ = _
      rw [forD, if_pos (by simp)]
      simp only [tgN, List.set_cons_succ, List.set_cons_zero]
      rw [show k + (t :: ts).length = k + 1 + ts.length by rw [List.length_cons]; omega, ← e2]
      simp [B__law_first_2, e]
  obtain ⟨c3, c4, c5, c6, e⟩ := loop (List.range few) 0 none none none none (by simp; omega)
  rw [List.length_range, Nat.zero_add] at e
  have e : forD [] (tgN 3) B__law_first_2 (natsL (List.range few)) [some (natD m), some (natD few), some (.lst [.tup []]), none, none, none, none] μ = .nx [some (natD m), some (natD few), some (.lst ((lev m few).map natsD)), c3, c4, c5, c6] μ := e
  have hrg : ∀ μ, gRange1 [natD few] μ = .ok (natsL (List.range few), []) μ := fun μ => by
    show gRange1 [.int (few : Int)] μ = _
    rw [x_gRange1 (small_ok (by omega))]; exact congrArg (fun z => R.ok (z, []) μ) (range_nats _)
  have hll := lev_len h2 few hf
  have hpow : 13 ^ few ≤ 2197 := by
    calc 13 ^ few ≤ 13 ^ 3 := Nat.pow_le_pow_right (by omega) hf
      _ = 2197 := by decide
  have z0 := zSZ' 0 (by omega)
  have z1 := zSZ' 1 (by omega)
  cases hL : lev m few with
  | nil =>
    rw [hL] at e
    simp [R__law_first, x_runF, F__law_first, z0, z1, hrg, e]
  | cons q l =>
    rw [hL] at e hll
    rw [List.length_cons] at hll
    have hz : l.length + 1 ≤ SZ := by rw [SZ_eq]; omega
    have i0 : L2.atI (natsD q :: l.map natsD) 0 = some (natsD q) := by
      show L2.atI _ ((0 : Nat) : Int) = _
      rw [atD (by simp)]
      rfl
    simp [R__law_first, x_runF, F__law_first, z0, z1, hrg, e, hz, i0]
def fE (m : Nat) (p : List Nat) : List (List Nat) := (ext m p).map fun x => p ++ [x]
theorem hasB_ext {x : Nat} : hasB m x = !(ext m [x]).isEmpty := by
  unfold hasB ext lst1
  rw [Bool.eq_iff_iff]
  simp
theorem head_filter {α : Type} (p : α → Bool) (l : List α) : (l.filter p).head? = l.find? p := by rw [List.head?_filter]
theorem lev1 : lev m 1 = (ext m []).map fun x => [x] := by simp [lev]
theorem fE_emp (p : List Nat) : (fE m p).isEmpty = (ext m p).isEmpty := by unfold fE; cases ext m p <;> rfl
theorem lev_step (k : Nat) : (lev m (k + 1)).head? = (match (lev m k).find? (fun p => !(ext m p).isEmpty) with | none => none | some p => (ext m p).head?.map fun x => p ++ [x]) := by
  show ((lev m k).flatMap (fE m)).head? = _
  rw [head_flat]
  simp only [fE_emp]
  cases (lev m k).find? (fun p => !(ext m p).isEmpty) with
  | none => rfl
  | some p =>
    show (fE m p).head? = _
    unfold fE
    rw [List.head?_map]
theorem lev2h : (lev m 2).head? = (match ((ext m []).filter (hasB m)).head? with | none => none | some x => (ext m [x]).head?.map fun y => [x, y]) := by
  rw [lev_step 1, lev1, List.find?_map, head_filter]
  have : ((fun p => !(ext m p).isEmpty) ∘ fun x => [x]) = hasB m := by funext x; exact hasB_ext.symm
  rw [this]
  cases (ext m []).find? (hasB m) with
  | none => rfl
  | some x => rfl
theorem ext_two (x y : Nat) : ext m [x, y] = ext m [y] := rfl
theorem ext_back {x y : Nat} (hx : x < m) (h : y ∈ ext m [x]) : x ∈ ext m [y] := by
  unfold ext lst1 at *
  rw [List.mem_filter] at h ⊢
  refine ⟨List.mem_range.mpr hx, ?_⟩
  have h2 := h.2
  have e : finB m [y, x] = finB m [x, y] := fin_sym
  exact e.trans h2
theorem ne_emp {α : Type} {l : List α} {x : α} (h : x ∈ l) : (!l.isEmpty) = true := by cases l with | nil => cases h | cons => rfl
theorem gr_lev {few : Nat} (hf1 : 1 ≤ few) (hf : few ≤ 3) : gr m few few [] = (lev m few).head? := by
  rcases (show few = 1 ∨ few = 2 ∨ few = 3 by omega) with e | e | e <;> subst e
  · rw [lev1, List.head?_map]
    have hn : nxt m 1 [] = ext m [] := by simp [nxt]
    simp only [gr, hn]
    cases (ext m []).head? <;> rfl
  · rw [lev2h]
    have hn : nxt m 2 [] = (ext m []).filter (hasB m) := by simp [nxt]
    simp only [gr, hn]
    cases h : ((ext m []).filter (hasB m)).head? with
    | none => rfl
    | some x =>
      have hn2 : nxt m 2 ([] ++ [x]) = ext m [x] := by simp [nxt]
      simp only [hn2]
      cases (ext m [x]).head? <;> rfl
  · rw [lev_step 2]
    have hn : nxt m 3 [] = (ext m []).filter (hasB m) := by simp [nxt]
    have hall : ∀ p ∈ lev m 2, (!(ext m p).isEmpty) = true := fun p hp => by
      have hp : p ∈ (lev m 1).flatMap (fE m) := hp
      obtain ⟨q, hq, h⟩ := List.mem_flatMap.mp hp
      rw [lev1] at hq
      obtain ⟨x, hx, rfl⟩ := List.mem_map.mp hq
      obtain ⟨y, hy, rfl⟩ := List.mem_map.mp h
      show (!(ext m [y]).isEmpty) = true
      exact ne_emp (ext_back (ext_lt hx) hy)
    have hfd : (lev m 2).find? (fun p => !(ext m p).isEmpty) = (lev m 2).head? := by
      cases hL : lev m 2 with
      | nil => rfl
      | cons p l =>
        rw [hL] at hall
        rw [List.find?_cons, hall p List.mem_cons_self]
        rfl
    rw [hfd, lev2h]
    simp only [gr, hn]
    cases h : ((ext m []).filter (hasB m)).head? with
    | none => rfl
    | some x =>
      have hxm := List.mem_of_mem_head? h
      have hx : x < m := ext_lt (List.mem_filter.mp hxm).1
      have hn2 : nxt m 3 ([] ++ [x]) = ext m [x] := by
        have : nxt m 3 ([] ++ [x]) = (ext m [x]).filter (hasB m) := by simp [nxt]
        rw [this, List.filter_eq_self]
        intro y hy
        rw [hasB_ext]
        exact ne_emp (ext_back hx hy)
      simp only [hn2]
      cases h2 : (ext m [x]).head? with
      | none => rfl
      | some y =>
        have hn3 : nxt m 3 ([] ++ [x] ++ [y]) = ext m [y] := by simp [nxt]; rfl
        simp only [hn3]
        show _ = Option.map _ (ext m [y]).head?
        cases (ext m [y]).head? <;> rfl
end

section
variable {m : Nat} {w d : List Nat} {μ : Sto} {N : En → Sto → Prop} {T : D → Sto → Prop}
/-! ### what is refused -/
theorem dwM {x : Int} (h : isInD (.int x) 2 97 = false) (e : D) (μ : Sto) : R_demand_weights [e, .int x] μ = .ex 0 (.str "modulus") μ := by
  have hti : tyD μ (.int x) = some "int" := rfl
  simp [R_demand_weights, x_runF, F_demand_weights, G_is_in, hti, h, G_demand]
theorem dwT {e : D} (h1 : 2 ≤ m) (h2 : m ≤ 97) (hf : fitD e = true) (ht : isTupleD e 1 8 = false) (μ : Sto) : R_demand_weights [e, natD m] μ = .ex 0 (.str "weights") μ := by
  have hmi := mod_in (μ := μ) h1 h2
  have hty := fit_ty μ hf
  simp [R_demand_weights, x_runF, F_demand_weights, hmi, G_demand, G_is_tuple, hty, ht]
theorem dwB {v : List Nat} (h1 : 2 ≤ m) (h2 : m ≤ 97) (hl : 1 ≤ v.length ∧ v.length ≤ 8) (hb : (v.all fun x => decide (x < m)) = false) (μ : Sto) : R_demand_weights [natsD v, natD m] μ = .ex 0 (.str "weights") μ := by
  have hf : fitD (natsD v) = true := fit_nats (by rw [SZ_eq]; omega)
  have hty := fit_ty μ hf
  have ht : isTupleD (natsD v) 1 8 = true := by simp [isTupleD]; omega
  have hz : v.length ≤ SZ := by rw [SZ_eq]; omega
  have e : ∀ a, lcD [] (tgN 2) tYesD E_demand_weights_1 [some (natsD v), some (natD m), a] (natsL v) μ = .ok (v.map fun x => .bl (decide (x < m))) μ := fun a => by
    refine lcD_mapF natD (fun x => .bl (decide (x < m))) v (by simp) fun x hx => ⟨_, rfl, ?_⟩
    have hi : isInD (natD x) 0 ((m : Int) - 1) = decide (x < m) := by
      unfold isInD natD
      rw [Bool.eq_iff_iff]
      simp
      omega
    have hti : tyD μ (natD x) = some "int" := rfl
    simp [E_demand_weights_1, G_is_in, natD] at hi hti ⊢
    simp [hi, hti]
  have e7 := gAll_of (fun x : Nat => decide (x < m)) v μ
  rw [hb] at e7
  have hmi := mod_in (μ := μ) h1 h2
  simp [R_demand_weights, x_runF, F_demand_weights, hmi, G_demand, G_is_tuple, hty, ht, hz, e, e7]
theorem ddF {e : D} (hw : w.length ≤ 8) (hf : fitD e = true) (ha : areInD e w.length w.length 0 9 = false) (μ : Sto) : R_demand_digits [e, natsD w] μ = .ex 0 (.str "digits") μ := by
  have hok := fit_ok μ hf
  have hz : w.length ≤ SZ := by rw [SZ_eq]; omega
  simp [R_demand_digits, x_runF, F_demand_digits, G_are_in, hok, hz, ha, G_demand]
theorem inF {r lo hi : Int} (h : isInD (.int r) lo hi = false) (μ : Sto) : G_is_in [.int r, .int lo, .int hi] μ = .ok (.bl false) μ := by
  have hti : tyD μ (.int r) = some "int" := rfl
  simp [G_is_in, h, hti]
theorem r1 (e f : D) (μ : Sto) : R_check [.int 1, e, f] μ = .ex 0 (.str "modulus") μ := by
  have := dwM (x := 1) (by decide) e μ
  simp [R_check, x_runF, F_check, this]
theorem r2 (h : GoodW m w) (h5 : w.length ≤ 5) (f : D) (μ : Sto) : R_check [natD m, natsD (w ++ [m]), f] μ = .ex 0 (.str "weights") μ := by
  have := dwB (v := w ++ [m]) h.lo h.hi (by simp; omega) (by
    rw [List.all_append]
    simp) μ
  simp [R_check, x_runF, F_check, this]
theorem r3 (h : GoodW m w) (hd : GoodD w d) (μ : Sto) : R_check [natD m, natsD w, natsD (d ++ [0])] μ = .ex 0 (.str "digits") μ := by
  have e1 := demand_w_ok h μ
  have h8 := h.lm
  have hl := hd.ln
  have ha := areIn_nats (o := d ++ [0]) (n := w.length) (m := 9)
  rw [decide_eq_false (by simp; omega), Bool.false_and] at ha
  have e2 := ddF (e := natsD (d ++ [0])) h8 (fit_nats (by rw [SZ_eq]; simp; omega)) ha μ
  simp [R_check, x_runF, F_check, e1, e2]
theorem r4 (e : D) (μ : Sto) : R_missed_digit [.int 98, e] μ = .ex 0 (.str "modulus") μ := by
  have := dwM (x := 98) (by decide) e μ
  simp [R_missed_digit, x_runF, F_missed_digit, this]
theorem r5 (h1 : 2 ≤ m) (h2 : m ≤ 97) (μ : Sto) : R_missed_swap [natD m, .tup []] μ = .ex 0 (.str "weights") μ := by
  have := dwT (e := .tup []) h1 h2 (by simp) (by decide) μ
  simp [R_missed_swap, x_runF, F_missed_swap, this]
theorem r6 {e : D} (h1 : 2 ≤ m) (h2 : m ≤ 97) (hf : fitD e = true) (ht : isTupleD e 1 8 = false) (μ : Sto) : R_finds_all [natD m, e] μ = .ex 0 (.str "weights") μ := by
  have := dwT (e := e) h1 h2 hf ht μ
  have : R_missed_digit [natD m, e] μ = .ex 0 (.str "weights") μ := by simp [R_missed_digit, x_runF, F_missed_digit, this]
  simp [R_finds_all, x_runF, F_finds_all, this]
theorem r7 (h : GoodW m w) (hd : GoodD w d) (f : D) (μ : Sto) : R_lost_digit [natD m, natsD w, natsD d, natD w.length, f] μ = .ex 0 (.str "place") μ := by
  have e1 := demand_w_ok h μ
  have e2 := demand_d_ok h.lm hd μ
  have h8 := h.lm
  have hz : w.length ≤ SZ := by rw [SZ_eq]; omega
  have e3 := inF (r := (w.length : Int)) (lo := 0) (hi := (w.length : Int) - 1) (by simp [isInD]; omega) μ
  have e3 : G_is_in [natD w.length, .int 0, .int ((w.length : Int) - 1)] μ = .ok (.bl false) μ := e3
  simp [R_lost_digit, x_runF, F_lost_digit, e1, e2, hz, e3, G_demand]
theorem r8 (h : GoodW m w) (hd : GoodD w d) (μ : Sto) : R_lost_digit [natD m, natsD w, natsD d, .int 0, natD m] μ = .ex 0 (.str "rest") μ := by
  have e1 := demand_w_ok h μ
  have e2 := demand_d_ok h.lm hd μ
  have h8 := h.lm
  have h1 := h.ln
  have hz : w.length ≤ SZ := by rw [SZ_eq]; omega
  have e3 : G_is_in [.int 0, .int 0, .int ((w.length : Int) - 1)] μ = .ok (.bl true) μ := rest_in (m := w.length) (r := 0) (by omega)
  have e4 := inF (r := (m : Int)) (lo := 0) (hi := (m : Int) - 1) (by simp [isInD]; omega) μ
  have e4 : G_is_in [natD m, .int 0, .int ((m : Int) - 1)] μ = .ok (.bl false) μ := e4
  have e6 : gI0 (fun x1 x2 => x1 - x2) (natD m) (.int 1) = some (.int ((m : Int) - 1)) := rfl
  simp [R_lost_digit, x_runF, F_lost_digit, e1, e2, hz, e3, e4, e6, G_demand]
theorem r9 (h : GoodW m w) (f : D) (μ : Sto) : R_near_tags [natD m, natsD w, natsD (List.replicate w.length 10), f] μ = .ex 0 (.str "digits") μ := by
  have e1 := demand_w_ok h μ
  have h8 := h.lm
  have h1 := h.ln
  have ha := areIn_nats (o := List.replicate w.length 10) (n := w.length) (m := 9)
  have hf : ((List.replicate w.length 10).all fun x => decide (x ≤ 9)) = false := by
    rw [← Bool.not_eq_true, List.all_eq_true]
    intro q
    have := q 10 (List.mem_replicate.mpr ⟨by omega, rfl⟩)
    simp at this
  rw [hf, Bool.and_false] at ha
  have e2 := ddF (e := natsD (List.replicate w.length 10)) h8 (fit_nats (by rw [SZ_eq]; simp; omega)) ha μ
  simp [R_near_tags, x_runF, F_near_tags, e1, e2]
theorem r10 (h : GoodW m w) (hd : GoodD w d) (μ : Sto) : R_near_tags [natD m, natsD w, natsD d, .int (-1)] μ = .ex 0 (.str "rest") μ := by
  have e1 := demand_w_ok h μ
  have e2 := demand_d_ok h.lm hd μ
  have e4 := inF (r := -1) (lo := 0) (hi := (m : Int) - 1) (by simp [isInD]) μ
  have e6 : gI0 (fun x1 x2 => x1 - x2) (natD m) (.int 1) = some (.int ((m : Int) - 1)) := rfl
  simp [R_near_tags, x_runF, F_near_tags, e1, e2, e4, e6, G_demand]
theorem r11 (e : D) (μ : Sto) : R_first_weights [.int 1, e] μ = .ex 0 (.str "modulus") μ := by
  have := inF (r := 1) (lo := 2) (hi := 97) (by decide) μ
  simp [R_first_weights, x_runF, F_first_weights, this, G_demand]
theorem r12 (μ : Sto) : R_first_weights [.int 2, .int 9] μ = .ex 0 (.str "many") μ := by
  have h1 := inF (r := 9) (lo := 1) (hi := 8) (by decide) μ
  have h2 : G_is_in [.int 2, .int 2, .int 97] μ = .ok (.bl true) μ := mod_in (m := 2) (by omega) (by omega)
  simp [R_first_weights, x_runF, F_first_weights, h1, h2, G_demand]
end

section
variable {m : Nat} {w d : List Nat} {μ : Sto} {N : En → Sto → Prop} {T : D → Sto → Prop}
theorem natsL_app1 (a : List Nat) (v : Int) (h : 0 ≤ v) : natsL a ++ [D.int v] = natsL (a ++ [v.toNat]) := by
  rw [← nats_app]
  congr 1
  show [D.int v] = [D.int (v.toNat : Int)]
  rw [Int.toNat_of_nonneg h]
theorem s3_W {k nd many : Nat} (hk : k < 1000) (hn : many ≤ 8) (hm : 1 ≤ m ∧ m ≤ 1000) (hD : Dice k μ nd) (a0 a1 a3 a4 a5 a6 a7 a8 a11 a12 a13 a14 a15 : Option D)
    (hN : ∀ (w : List Nat) μ', w.length = many → (∀ x ∈ w, x < m) → Dice (k + 10) μ' nd → N [a0, a1, some (.obj nd), some (natsD w), a4, a5, a6, a7, a8, some (natD m), some (natD many), a11, a12, a13, a14, a15] μ') :
    (S_law_3 [a0, a1, some (.obj nd), a3, a4, a5, a6, a7, a8, some (natD m), some (natD many), a11, a12, a13, a14, a15] μ).W N T := by
  have hz : many ≤ SZ := by rw [SZ_eq]; omega
  have hrg : ∀ μ, gRange1 [natD many] μ = .ok (natsL (List.range many), []) μ := fun μ => by
    show gRange1 [.int (many : Int)] μ = _
    rw [x_gRange1 (small_ok (by omega))]; exact congrArg (fun z => R.ok (z, []) μ) (range_nats _)
  simp [S_law_3, hrg, hz]
  refine (lcD_W0 (gd := []) (fun i acc μ' => Dice (k + i) μ' nd ∧ ∃ w : List Nat, acc = natsL w ∧ w.length = i ∧ ∀ x ∈ w, x < m) (natsL (List.range many)) ⟨by simpa using hD, [], rfl, rfl, by simp⟩ ?_ (fun _ _ _ => by simp)).imp ?_
  · rintro i x acc μ2 hx ⟨D2, w, rfl, hl, hg⟩
    have hi : i < many := by
      have := (List.getElem?_eq_some_iff.mp hx).1
      simpa [natsL] using this
    refine ⟨by simp, _, rfl, ?_⟩
    simp [E_law_1]
    refine roll_W (t := (m : Int)) (by omega) D2 (by omega) fun v μ4 v0 v1 D4 f4 => ?_
    try simp
    refine ⟨D4, w ++ [v.toNat], natsL_app1 w v v0, by simp [hl], fun x hx => ?_⟩
    rcases List.mem_append.mp hx with e | e
    · exact hg x e
    · rw [List.mem_singleton.mp e]; omega
  · rintro ys μ2 ⟨D2, w, rfl, hl, hg⟩
    rw [show (natsL (List.range many)).length = many by simp [natsL]] at D2 hl
    exact hN w _ hl hg (D2.mono (by omega))
theorem s4_W {k nd many : Nat} (hk : k < 1000) (hn : many ≤ 8) (hD : Dice k μ nd) (a0 a1 a3 a4 a5 a6 a7 a8 a9 a11 a12 a13 a14 a15 : Option D)
    (hN : ∀ (w : List Nat) μ', w.length = many → (∀ x ∈ w, x ≤ 9) → Dice (k + 10) μ' nd → N [a0, a1, some (.obj nd), a3, some (natsD w), a5, a6, a7, a8, a9, some (natD many), a11, a12, a13, a14, a15] μ') :
    (S_law_4 [a0, a1, some (.obj nd), a3, a4, a5, a6, a7, a8, a9, some (natD many), a11, a12, a13, a14, a15] μ).W N T := by
  have hz : many ≤ SZ := by rw [SZ_eq]; omega
  have hrg : ∀ μ, gRange1 [natD many] μ = .ok (natsL (List.range many), []) μ := fun μ => by
    show gRange1 [.int (many : Int)] μ = _
    rw [x_gRange1 (small_ok (by omega))]; exact congrArg (fun z => R.ok (z, []) μ) (range_nats _)
  simp [S_law_4, hrg, hz]
  refine (lcD_W0 (gd := []) (fun i acc μ' => Dice (k + i) μ' nd ∧ ∃ w : List Nat, acc = natsL w ∧ w.length = i ∧ ∀ x ∈ w, x ≤ 9) (natsL (List.range many)) ⟨by simpa using hD, [], rfl, rfl, by simp⟩ ?_ (fun _ _ _ => by simp)).imp ?_
  · rintro i x acc μ2 hx ⟨D2, w, rfl, hl, hg⟩
    have hi : i < many := by
      have := (List.getElem?_eq_some_iff.mp hx).1
      simpa [natsL] using this
    refine ⟨by simp, _, rfl, ?_⟩
    simp [E_law_2]
    refine roll_W (t := 10) (by omega) D2 (by omega) fun v μ4 v0 v1 D4 f4 => ?_
    try simp
    refine ⟨D4, w ++ [v.toNat], natsL_app1 w v v0, by simp [hl], fun x hx => ?_⟩
    rcases List.mem_append.mp hx with e | e
    · exact hg x e
    · rw [List.mem_singleton.mp e]; omega
  · rintro ys μ2 ⟨D2, w, rfl, hl, hg⟩
    rw [show (natsL (List.range many)).length = many by simp [natsL]] at D2 hl
    exact hN w _ hl hg (D2.mono (by omega))
theorem bl_ne (b : Bool) (μ : Sto) : gNe (.bl b) (.bl b) μ = some false := by
  have : gNe (.bl b) (.bl b) μ = some (!decide (b = b)) := gNe_py b b (Nat.zero_le _)
  rw [this]
  simp
theorem po_ne (q : Option (Nat × Nat)) (μ : Sto) : gNe (poD q) (poD q) μ = some false := by
  cases q with
  | none => exact gNe_self (by simp [poD])
  | some q => exact gNe_self (show pl 32 (natsD [q.1, q.2]) = true from pl_nats 31 _)
theorem rows_ne (l : List (List Nat)) (μ : Sto) : gNe (.tup (l.map natsD)) (.tup (l.map natsD)) μ = some false := gNe_self (by rw [pl_tup]; exact pls_rows l)
theorem s69_W (h : GoodW m w) (hd : GoodD w d) (a0 a1 a2 a6 a7 a8 a10 a11 a12 a13 a14 a15 : Option D) {r : Nat} (hr : rstN m w d = r)
    (ρ : En) (hρ : ρ = [a0, a1, a2, some (natsD w), some (natsD d), some (natD r), a6, a7, a8, some (natD m), a10, a11, a12, a13, a14, a15]) :
    S_law_6 ρ μ = .nx ρ μ ∧ S_law_7 ρ μ = .nx ρ μ ∧ S_law_8 ρ μ = .nx ρ μ ∧ S_law_9 ρ μ = .nx ρ μ := by
  subst hρ
  have e1 := check_ok h hd μ
  rw [hr] at e1
  have g1 : gNe (natD r) (natD r) μ = some false := by rw [gNe_self (pl_nat 32 r)]
  have e2 := md_ok h μ
  have e3 := lmd_ok h μ
  have e4 := ms_ok h μ
  have e5 := lms_ok h μ
  have e6 := fa_ok h μ
  have e7 := lfa_ok h μ
  have g2 := po_ne (firstPO w.length (mdP m w)) μ
  have g3 := po_ne (firstPO (w.length - 1) (msP m w)) μ
  have g4 := bl_ne (finB m w) μ
  generalize firstPO w.length (mdP m w) = q1 at *
  generalize firstPO (w.length - 1) (msP m w) = q2 at *
  refine ⟨?_, ?_, ?_, ?_⟩
  · simp [S_law_6, perm, e1, g1]
  · simp [S_law_7, perm, e2, e3, g2]
  · simp [S_law_8, perm, e4, e5, g3]
  · simp [S_law_9, perm, e6, e7, g4]
theorem s11_W (h : GoodW m w) (hd : GoodD w d) {i r : Nat} (hi : i < w.length) (a0 a1 a2 a5 a6 a7 a8 a10 a13 a14 a15 : Option D) :
    S_law_11 [a0, a1, a2, some (natsD w), some (natsD d), a5, a6, a7, a8, some (natD m), a10, some (natD i), some (natD r), a13, a14, a15] μ =
      .nx [a0, a1, a2, some (natsD w), some (natsD d), a5, some (.lst (natsL (lostN m w d i r))), a7, a8, some (natD m), a10, some (natD i), some (natD r), a13, a14, a15] μ := by
  have h1 := h.lo
  have h3 := h.lm
  have hdl := hd.ln
  have z1 := zSZ' 1 (by omega)
  have z10 := zSZ' 10 (by omega)
  have e : lcD [] (tgN 15) U_law_1 E_law_3 [a0, a1, a2, some (natsD w), some (natsD d), a5, a6, a7, a8, some (natD m), a10, some (natD i), some (natD r), a13, a14, none] (natsL (List.range 10)) μ = .ok (natsL (lostN m w d i r)) μ := by
    refine lcD_filtF natD natD (fun x => decide (rstN m w (repl d i x) = r)) (List.range 10) (by simp) fun x hx => ⟨_, rfl, ?_, fun _ => by simp [E_law_3]⟩
    have hc : eCatT (eCatT (eCutT (eVar 4) oNone (oSome (eVar 11))) (eTup (eCons (eVar 15) eNil))) (eCutT (eVar 4) (oSome (eAdd (eVar 11) (eC (.int 1)))) oNone) [a0, a1, a2, some (natsD w), some (natsD d), a5, a6, a7, a8, some (natD m), a10, some (natD i), some (natD r), a13, a14, some (natD x)] μ = .ok (natsD (repl d i x)) μ :=
      cat3_ok (by simp [natD, cut_lo]) (b := [x]) (by simp [z1]; rfl) (by simp [natD, cut_hi1]) (by simp; omega)
    have e1 := law_rest_ok (m := m) (w := w) (d := repl d i x) (by omega) (wsm h) μ
    have e2 : gEq (natD (rstN m w (repl d i x))) (natD r) μ = some (decide (rstN m w (repl d i x) = r)) := gEq_natD
    simp [U_law_1, -x_eCatT, -x_eCutT, hc, e1, e2]
  simp [S_law_11, rg10, z10, e]
theorem s12_W (h : GoodW m w) (hd : GoodD w d) {i r : Nat} (hi : i < w.length) (hr : r < m) (a0 a1 a2 a5 a7 a8 a10 a13 a14 a15 : Option D) (ρ : En)
    (hρ : ρ = [a0, a1, a2, some (natsD w), some (natsD d), a5, some (.lst (natsL (lostN m w d i r))), a7, a8, some (natD m), a10, some (natD i), some (natD r), a13, a14, a15]) : ∃ γ, S_law_12 ρ μ = .nx ρ (μ ++ γ) := by
  subst hρ
  have e1 := lost_ok h hd hi hr μ
  have g : ∀ μ, gNe (natsD (lostN m w d i r)) (natsD (lostN m w d i r)) μ = some false := fun μ => gNe_self (pl_nats 31 _)
  generalize lostN m w d i r = L at *
  exact ⟨_, by simp [S_law_12, perm, e1, g]; rfl⟩
theorem s13_W (h : GoodW m w) (hd : GoodD w d) (h5 : w.length ≤ 5) {r : Nat} (hr : r < m) (a0 a1 a2 a5 a6 a7 a8 a10 a11 a13 a14 a15 : Option D) (ρ : En)
    (hρ : ρ = [a0, a1, a2, some (natsD w), some (natsD d), a5, a6, a7, a8, some (natD m), a10, a11, some (natD r), a13, a14, a15]) : ∃ γ, S_law_13 ρ μ = .nx ρ (μ ++ γ) := by
  subst hρ
  obtain ⟨L, e1⟩ := near_ok h hd h5 hr μ
  obtain ⟨γ, e2⟩ := lnear_ok (r := r) h hd h5 (μ ++ [.lst L])
  have g := fun μ => rows_ne (nearN m w d r) μ
  generalize (nearN m w d r).map natsD = A at *
  refine ⟨DO.lst L :: γ, ?_⟩
  simp [S_law_13, perm, e1, e2, g]
def levD (sm few : Nat) : D := match (lev sm few).head? with | some q => natsD q | none => .non
theorem s16_W {sm few : Nat} (h1 : 2 ≤ sm) (h2 : sm ≤ 13) (hf1 : 1 ≤ few) (hf : few ≤ 3) (a0 a1 a2 a3 a4 a5 a6 a8 a9 a10 a11 a12 a15 : Option D) (ρ : En)
    (hρ : ρ = [a0, a1, a2, a3, a4, a5, a6, some (levD sm few), a8, a9, a10, a11, a12, some (natD sm), some (natD few), a15]) : S_law_16 ρ μ = .nx ρ μ := by
  subst hρ
  obtain ⟨w1, w2⟩ := fw_ok h1 (by omega) hf1 (by omega) (few := few) μ
  rw [gr_lev hf1 hf] at w1 w2
  unfold levD
  cases hh : (lev sm few).head? with
  | none =>
    have e := w2 hh
    have hs : ("not " : Str) ++ ("weights" : Str) = ("not weights" : Str) := by decide
    have hz : Str.length "not " + Str.length "weights" ≤ SZ := by rw [SZ_eq]; decide
    have hg : gNe (.str "not weights") (.str "not weights") μ = some false := gNe_self (by decide +kernel)
    have hgi : gIs .non .non μ = some true := rfl
    simp [S_law_16, perm, eAsk, e, hs, hz, hg, hgi]
  | some q =>
    have e := w1 q hh
    have hg : gNe (natsD q) (natsD q) μ = some false := gNe_self (pl_nats 31 _)
    have hgi : gIs (natsD q) .non μ = some false := rfl
    simp [S_law_16, perm, eAsk, e, hg, hgi]
end

section
variable {d : D} {ss : List Int}
theorem s17_W {m : Nat} {w dg : List Nat} {μ : Sto} (h : GoodW m w) (hd : GoodD w dg) (h5 : w.length ≤ 5) (a0 a1 a2 a5 a6 a7 a8 a11 a12 a13 a14 a15 : Option D) {N : En → Sto → Prop} {T : D → Sto → Prop}
    (hN : ∀ b8, N [a0, a1, a2, some (natsD w), some (natsD dg), a5, a6, a7, b8, some (natD m), some (natD w.length), a11, a12, a13, a14, a15] μ) :
    ((sSeq S_law_17 S_law_18) [a0, a1, a2, some (natsD w), some (natsD dg), a5, a6, a7, a8, some (natD m), some (natD w.length), a11, a12, a13, a14, a15] μ).W N T := by
  have h1 := h.lo
  have h2 := h.hi
  have h3 := h.ln
  have hdl := hd.ln
  have z : ∀ n, n ≤ 1000 → n ≤ SZ := zSZ'
  have z1 := z 1 (by omega)
  have c2 : eCatT (eVar 3) (eTup (eCons (eVar 9) eNil)) [a0, a1, a2, some (natsD w), some (natsD dg), a5, a6, a7, a8, some (natD m), some (natD w.length), a11, a12, a13, a14, a15] μ = .ok (natsD (w ++ [m])) μ :=
    cat2_ok (by simp) (b := [m]) (by simp [z1]; rfl) (by simp; omega)
  have c3 : eCatT (eVar 4) (eTup (eCons (eC (.int 0)) eNil)) [a0, a1, a2, some (natsD w), some (natsD dg), a5, a6, a7, a8, some (natD m), some (natD w.length), a11, a12, a13, a14, a15] μ = .ok (natsD (dg ++ [0])) μ :=
    cat2_ok (by simp) (b := [0]) (by simp [z1]; rfl) (by simp; omega)
  have q1 := r1 (natsD w) (natsD dg) μ
  have q2 := r2 h h5 .non μ
  have q3 := r3 h hd μ
  have q4 := r4 (.tup []) μ
  have q5 := r5 h1 h2 μ
  have r9' : gRepA (.tup [.int 0]) (.int 9) = some (natsD (zs 9)) := rfl
  have q6 := r6 (e := natsD (zs 9)) h1 h2 (fit_nats (by rw [SZ_eq]; simp [zs])) (by rfl) μ
  have q7 := r7 h hd (natD m) μ
  have q8 := r8 h hd μ
  have r10' : gRepA (.tup [.int 10]) (natD w.length) = some (natsD (List.replicate w.length 10)) := by
    show (if -1000 ≤ (w.length : Int) ∧ (w.length : Int) ≤ 1000 ∧ 1 ≤ 1000 then some (D.tup (List.replicate (w.length : Int).toNat [D.int 10]).flatten) else none) = _
    rw [if_pos (by omega), Int.toNat_natCast]
    congr 2
    have : ∀ n : Nat, (List.replicate n [D.int 10]).flatten = natsL (List.replicate n 10) := fun n => by
      induction n with
      | zero => rfl
      | succ n ih => rw [List.replicate_succ, List.flatten_cons, ih]; rfl
    exact this _
  have q9 := r9 h (.int 0) μ
  have q10 := r10 h hd μ
  have q11 := r11 (.int 0) μ
  have q12 := r12 μ
  rw [SR.W_seq]
  simp only [S_law_17]
  simp [-x_eCatT, z, c2, c3, r9', r10', q1, q2, q3, q4, q5, q6, q7, q8, q9, q10, q11, q12]
  have ok1 : PyData.strOk "modulus" = true := by decide +kernel
  have ok2 : PyData.strOk "weights" = true := by decide +kernel
  have ok3 : PyData.strOk "digits" = true := by decide +kernel
  have ok4 : PyData.strOk "place" = true := by decide +kernel
  have ok5 : PyData.strOk "rest" = true := by decide +kernel
  have ok6 : PyData.strOk "many" = true := by decide +kernel
  have e1 : ∀ μ, gNe (.lst [.str "modulus", .str "weights", .str "digits", .str "modulus", .str "weights", .str "weights", .str "place", .str "rest", .str "digits", .str "rest", .str "modulus", .str "many"]) (.lst [.str "modulus", .str "weights", .str "digits", .str "modulus", .str "weights", .str "weights", .str "place", .str "rest", .str "digits", .str "rest", .str "modulus", .str "many"]) μ = some false := fun μ => gNe_self (by simp [pls, pl_str, ok1, ok2, ok3, ok4, ok5, ok6])
  simp only [S_law_18]
  simp [z, e1]
  exact hN _
section
variable {m : Nat} {w dg : List Nat} {μ : Sto} {N : En → Sto → Prop} {T : D → Sto → Prop}
theorem s12_W' (h : GoodW m w) (hd : GoodD w dg) {i r : Nat} (hi : i < w.length) (hr : r < m) (a0 a1 a2 a5 a7 a8 a10 a13 a14 a15 : Option D)
    (hN : ∀ γ, N [a0, a1, a2, some (natsD w), some (natsD dg), a5, some (.lst (natsL (lostN m w dg i r))), a7, a8, some (natD m), a10, some (natD i), some (natD r), a13, a14, a15] (μ ++ γ)) :
    (S_law_12 [a0, a1, a2, some (natsD w), some (natsD dg), a5, some (.lst (natsL (lostN m w dg i r))), a7, a8, some (natD m), a10, some (natD i), some (natD r), a13, a14, a15] μ).W N T := by
  obtain ⟨γ, e⟩ := s12_W (μ := μ) h hd hi hr a0 a1 a2 a5 a7 a8 a10 a13 a14 a15 _ rfl
  rw [e]
  exact hN γ
theorem s13_W' (h : GoodW m w) (hd : GoodD w dg) (h5 : w.length ≤ 5) {r : Nat} (hr : r < m) (a0 a1 a2 a5 a6 a7 a8 a10 a11 a13 a14 a15 : Option D)
    (hN : ∀ γ, N [a0, a1, a2, some (natsD w), some (natsD dg), a5, a6, a7, a8, some (natD m), a10, a11, some (natD r), a13, a14, a15] (μ ++ γ)) :
    (S_law_13 [a0, a1, a2, some (natsD w), some (natsD dg), a5, a6, a7, a8, some (natD m), a10, a11, some (natD r), a13, a14, a15] μ).W N T := by
  obtain ⟨γ, e⟩ := s13_W (μ := μ) h hd h5 hr a0 a1 a2 a5 a6 a7 a8 a10 a11 a13 a14 a15 _ rfl
  rw [e]
  exact hN γ
theorem s16_W' {sm few : Nat} (h1 : 2 ≤ sm) (h2 : sm ≤ 13) (hf1 : 1 ≤ few) (hf : few ≤ 3) (a0 a1 a2 a3 a4 a5 a6 a8 a9 a10 a11 a12 a15 : Option D)
    (hN : N [a0, a1, a2, a3, a4, a5, a6, some (levD sm few), a8, a9, a10, a11, a12, some (natD sm), some (natD few), a15] μ) :
    (S_law_16 [a0, a1, a2, a3, a4, a5, a6, some (levD sm few), a8, a9, a10, a11, a12, some (natD sm), some (natD few), a15] μ).W N T := by
  rw [s16_W (μ := μ) h1 h2 hf1 hf a0 a1 a2 a3 a4 a5 a6 a8 a9 a10 a11 a12 a15 _ rfl]
  exact hN
end
theorem body_W (hd : ScrD d ss) (hss : ss.length ≤ 63) (i : Nat) (a2 a3 a4 a5 a6 a7 a8 a9 a10 a11 a12 a13 a14 a15 : Option D) (μ : Sto) {N : En → Sto → Prop} {T : D → Sto → Prop}
    (hN : ∀ b2 b3 b4 b5 b6 b7 b8 b9 b10 b11 b12 b13 b14 b15 μ', N [some d, some (.int i), b2, b3, b4, b5, b6, b7, b8, b9, b10, b11, b12, b13, b14, b15] μ') :
    (B_law_1 [some d, some (.int i), a2, a3, a4, a5, a6, a7, a8, a9, a10, a11, a12, a13, a14, a15] μ).W N T := by
  have z : ∀ n, n ≤ 1000 → n ≤ SZ := zSZ'
  simp only [B_law_1, SR.W_seq]
  simp only [S_law_1]
  simp
  refine dice_W hd hss i μ fun o D0 => ?_
  simp only [S_law_2]
  simp
  refine roll_W (t := 96) (by omega) D0 (by omega) fun v μ1 v0 v1 D1 f1 => ?_
  try simp [z]
  refine pick_W (by omega) D1 (by simp) fun x hx μ2 D2 f2 => ?_
  obtain ⟨m, rfl, hm1, hm2⟩ : ∃ m : Nat, x = natD m ∧ 2 ≤ m ∧ m ≤ 97 := by
    simp at hx
    rcases hx with rfl | rfl | rfl | rfl | rfl | rfl | rfl | rfl | rfl
    · exact ⟨2, rfl, by omega, by omega⟩
    · exact ⟨7, rfl, by omega, by omega⟩
    · exact ⟨9, rfl, by omega, by omega⟩
    · exact ⟨10, rfl, by omega, by omega⟩
    · exact ⟨11, rfl, by omega, by omega⟩
    · exact ⟨13, rfl, by omega, by omega⟩
    · exact ⟨26, rfl, by omega, by omega⟩
    · exact ⟨97, rfl, by omega, by omega⟩
    · exact ⟨(2 + v).toNat, by show D.int (2 + v) = D.int ((2 + v).toNat : Int); rw [Int.toNat_of_nonneg (by omega)], by omega, by omega⟩
  try simp
  refine roll_W (t := 5) (by omega) D2 (by omega) fun u μ3 u0 u1 D3 f3 => ?_
  obtain ⟨many, hmany⟩ : ∃ many : Nat, (1 + u) = many := ⟨(1 + u).toNat, by omega⟩
  have hmn1 : 1 ≤ many := by omega
  have hmn2 : many ≤ 5 := by omega
  try simp [z]
  rw [hmany]
  refine s3_W (by omega) (by omega) (by omega) D3 _ _ _ _ _ _ _ _ _ _ _ _ _ fun w μ4 wl wb D4 => ?_
  refine s4_W (by omega) (by omega) D4 _ _ _ _ _ _ _ _ _ _ _ _ _ _ fun dg μ5 dl db D5 => ?_
  have h : GoodW m w := ⟨hm1, hm2, by omega, by omega, wb⟩
  have hg : GoodD w dg := ⟨by omega, db⟩
  subst wl
  have e5 := law_rest_ok (m := m) (w := w) (d := dg) (by omega) (wsm h)
  simp only [S_law_5]
  simp [e5]
  have e6 := fun (b0 b1 b2 b6 b7 b8 b10 b11 b12 b13 b14 b15 : Option D) => (s69_W (μ := μ5) h hg b0 b1 b2 b6 b7 b8 b10 b11 b12 b13 b14 b15 rfl _ rfl).1
  have e7 := fun (b0 b1 b2 b6 b7 b8 b10 b11 b12 b13 b14 b15 : Option D) => (s69_W (μ := μ5) h hg b0 b1 b2 b6 b7 b8 b10 b11 b12 b13 b14 b15 rfl _ rfl).2.1
  have e8 := fun (b0 b1 b2 b6 b7 b8 b10 b11 b12 b13 b14 b15 : Option D) => (s69_W (μ := μ5) h hg b0 b1 b2 b6 b7 b8 b10 b11 b12 b13 b14 b15 rfl _ rfl).2.2.1
  have e9 := fun (b0 b1 b2 b6 b7 b8 b10 b11 b12 b13 b14 b15 : Option D) => (s69_W (μ := μ5) h hg b0 b1 b2 b6 b7 b8 b10 b11 b12 b13 b14 b15 rfl _ rfl).2.2.2
  simp [e6, e7, e8, e9]
  simp only [S_law_10]
  simp
  refine roll_W (t := (w.length : Int)) (by omega) D5 (by omega) fun pl μ6 p0 p1 D6 f6 => ?_
  obtain ⟨pn, epl, hpl⟩ : ∃ n : Nat, D.int pl = natD n ∧ n < w.length := ⟨pl.toNat, by show D.int pl = D.int (pl.toNat : Int); rw [Int.toNat_of_nonneg p0], by omega⟩
  try simp
  refine roll_W (t := (m : Int)) (by omega) D6 (by omega) fun wr μ7 q0 q1 D7 f7 => ?_
  obtain ⟨wr, rfl⟩ : ∃ n : Nat, wr = n := ⟨wr.toNat, by omega⟩
  try simp [z]
  refine pick_W (by omega) D7 (by simp) fun y hy μ8 D8 f8 => ?_
  obtain ⟨r, rfl, hr⟩ : ∃ r : Nat, y = natD r ∧ r < m := by
    simp at hy
    rcases hy with rfl | rfl
    · exact ⟨_, rfl, Nat.mod_lt _ (by omega)⟩
    · exact ⟨wr, rfl, by omega⟩
  try simp [z]
  rw [epl]
  have e11 := fun (b0 b1 b2 b5 b6 b7 b8 b10 b13 b14 b15 : Option D) => s11_W (μ := μ8) (r := r) h hg hpl b0 b1 b2 b5 b6 b7 b8 b10 b13 b14 b15
  rw [e11]
  show (S_law_12 _ _).W _ _
  refine s12_W' h hg hpl hr _ _ _ _ _ _ _ _ _ _ fun γ1 => ?_
  refine s13_W' h hg (by omega) hr _ _ _ _ _ _ _ _ _ _ _ _ fun γ2 => ?_
  have D9 : Dice (0 + 1 + 1 + 1 + 10 + 10 + 1 + 1 + 1) (μ8 ++ γ1 ++ γ2) μ.length := (D8.app γ1).app γ2
  simp only [S_law_14]
  simp only [List.append_assoc] at D9 ⊢
  simp
  refine roll_W (t := 12) (by omega) D9 (by omega) fun s1 μ9 s10 s11 D10 f10 => ?_
  obtain ⟨sm, esm, hs1, hs2⟩ : ∃ n : Nat, D.int (2 + s1) = natD n ∧ 2 ≤ n ∧ n ≤ 13 := ⟨(2 + s1).toNat, by show D.int (2 + s1) = D.int ((2 + s1).toNat : Int); rw [Int.toNat_of_nonneg (by omega)], by omega, by omega⟩
  try simp
  refine roll_W (t := 3) (by omega) D10 (by omega) fun s2 μ10 s20 s21 D11 f11 => ?_
  obtain ⟨few, efew, hf1, hf2⟩ : ∃ n : Nat, D.int (1 + s2) = natD n ∧ 1 ≤ n ∧ n ≤ 3 := ⟨(1 + s2).toNat, by show D.int (1 + s2) = D.int ((1 + s2).toNat : Int); rw [Int.toNat_of_nonneg (by omega)], by omega, by omega⟩
  try simp [z]
  rw [esm, efew]
  simp only [S_law_15]
  have e15 : R__law_first [natD sm, natD few] μ10 = .ok (levD sm few) μ10 := lfirst_ok hs1 hs2 hf2 (few := few) μ10
  simp [e15]
  refine s16_W' hs1 hs2 hf1 hf2 _ _ _ _ _ _ _ _ _ _ _ _ _ ?_
  have key := fun (b0 b1 b2 b5 b6 b7 b8 b11 b12 b13 b14 b15 : Option D) (hN : _) => s17_W (μ := μ10) h hg (by omega) b0 b1 b2 b5 b6 b7 b8 b11 b12 b13 b14 b15 (N := N) (T := T) hN
  simp only [SR.W_seq] at key
  exact key _ _ _ _ _ _ _ _ _ _ _ _ fun _ => hN _ _ _ _ _ _ _ _ _ _ _ _ _ _ _
end

section
variable {d : D} {ss : List Int}
theorem law_ok (hd : ScrD d ss) (hss : ss.length ≤ 63) (μ : Sto) : ∃ μ', R_law [d] μ = .ok (.bl true) μ' := by
  obtain ⟨m, hm, hsp⟩ := spots_ok hd 6 (by decide)
  have z : ∀ n, n ≤ 1000 → n ≤ SZ := zSZ'
  refine runF_ok ?_
  simp only [F_law, SR.W_seq, S_law_19, x_sFor]
  rw [show (([d].map some) ++ List.replicate (16 - [d].length) none : En) = some d :: List.replicate 15 none from rfl, hsp]
  refine forD_W (fun _ ρ _ => ∃ b1 b2 b3 b4 b5 b6 b7 b8 b9 b10 b11 b12 b13 b14 b15, ρ = [some d, b1, b2, b3, b4, b5, b6, b7, b8, b9, b10, b11, b12, b13, b14, b15]) _ ⟨_, _, _, _, _, _, _, _, _, _, _, _, _, _, _, rfl⟩ ?_ ?_
  · rintro i x ρ μ' hx ⟨b1, b2, b3, b4, b5, b6, b7, b8, b9, b10, b11, b12, b13, b14, b15, rfl⟩
    obtain ⟨_, rfl⟩ := range_get hx
    refine ⟨by simp, _, rfl, fun X hX => SR.W.loop ?_⟩
    exact body_W hd hss i _ _ _ _ _ _ _ _ _ _ _ _ _ _ _ fun _ _ _ _ _ _ _ _ _ _ _ _ _ _ _ => hX _ _ ⟨_, _, _, _, _, _, _, _, _, _, _, _, _, _, _, rfl⟩
  · rintro ρ μ' ⟨b1, b2, b3, b4, b5, b6, b7, b8, b9, b10, b11, b12, b13, b14, b15, rfl⟩
    refine ⟨by simp, ?_⟩
    have g1 : GoodW 10 [1, 5] := ⟨by omega, by omega, by simp, by simp, by simp⟩
    have g2 : GoodW 10 [1, 3] := ⟨by omega, by omega, by simp, by simp, by simp⟩
    have g3 : GoodW 11 [1, 2, 3] := ⟨by omega, by omega, by simp, by simp, by simp⟩
    have q1 : ∀ μ, R_missed_digit [.int 10, .tup [.int 1, .int 5]] μ = .ok (.tup [.int 1, .int 2]) μ := fun μ => by
      have := md_ok g1 μ
      rw [show firstPO [1, 5].length (mdP 10 [1, 5]) = some (1, 2) by decide +kernel] at this
      exact this
    have q2 : ∀ μ, R_missed_swap [.int 10, .tup [.int 1, .int 3]] μ = .ok (.tup [.int 0, .int 5]) μ := fun μ => by
      have := ms_ok g2 μ
      rw [show firstPO ([1, 3].length - 1) (msP 10 [1, 3]) = some (0, 5) by decide +kernel] at this
      exact this
    have q3 : ∀ μ, R_finds_all [.int 11, .tup [.int 1, .int 2, .int 3]] μ = .ok (.bl true) μ := fun μ => by
      have := fa_ok g3 μ
      rw [show finB 11 [1, 2, 3] = true by decide +kernel] at this
      exact this
    have q4 : ∀ μ, R_first_weights [.int 11, .int 3] μ = .ok (.tup [.int 1, .int 2, .int 1]) μ := fun μ =>
      (fw_ok (m := 11) (few := 3) (by omega) (by omega) (by omega) (by omega) μ).1 [1, 2, 1] (by decide +kernel)
    have p1 : ∀ μ, gEq (.tup [.int 1, .int 2]) (.tup [.int 1, .int 2]) μ = some true := fun μ => gEq_self (pl_nats 31 [1, 2])
    have p2 : ∀ μ, gEq (.tup [.int 0, .int 5]) (.tup [.int 0, .int 5]) μ = some true := fun μ => gEq_self (pl_nats 31 [0, 5])
    have p3 : ∀ μ, gEq (.tup [.int 1, .int 2, .int 1]) (.tup [.int 1, .int 2, .int 1]) μ = some true := fun μ => gEq_self (pl_nats 31 [1, 2, 1])
    simp only [S_law_20]
    simp [z, q1, q2, q3, q4, p1, p2, p3]
end

/-! ### the end -/
theorem all_mk {w : World} {K : PySem.W.Frag} {h : Heap} {mg : Str → Option Value} {fa : Addr} (X : K.In h) (G : h.Ns mainGlobals mg) (hfa : mg "law" = some (.ref fa))
    {t_MOST_DIGITS : Tok}
    {t_MOST_MODULUS : Tok}
    {aC_BadArgument aI_BadArgument : Addr} {nm_BadArgument q_BadArgument qi_BadArgument : Str} {N_BadArgument : Addr} {bs_BadArgument bm_BadArgument : List Value} {sn_BadArgument : List Str} {sub_BadArgument : List Value} {ab_BadArgument : Bool} {col_BadArgument : Option Bool} {dd_BadArgument : Option Addr} {m0_BadArgument m1_BadArgument m2_BadArgument m3_BadArgument m5_BadArgument : Option Value}
    {ocI_BadArgument kVI_BadArgument dcI_BadArgument pmI_BadArgument ctI_BadArgument o2I_BadArgument o3I_BadArgument : Value} {odI_BadArgument anI_BadArgument d2I_BadArgument d3I_BadArgument : Option Addr} {cdaI_BadArgument ccI_BadArgument : Addr} {oslI_BadArgument s2I_BadArgument s3I_BadArgument : Array (Option Value)} {vsI_BadArgument : Array Value} {fileI_BadArgument : Str} {tfI_BadArgument : Tok}
    {aC_NotPossible aI_NotPossible : Addr} {nm_NotPossible q_NotPossible qi_NotPossible : Str} {N_NotPossible : Addr} {bs_NotPossible bm_NotPossible : List Value} {sn_NotPossible : List Str} {sub_NotPossible : List Value} {ab_NotPossible : Bool} {col_NotPossible : Option Bool} {dd_NotPossible : Option Addr} {m0_NotPossible m1_NotPossible m2_NotPossible m3_NotPossible m5_NotPossible : Option Value}
    {ocI_NotPossible kVI_NotPossible dcI_NotPossible pmI_NotPossible ctI_NotPossible o2I_NotPossible o3I_NotPossible : Value} {odI_NotPossible anI_NotPossible d2I_NotPossible d3I_NotPossible : Option Addr} {cdaI_NotPossible ccI_NotPossible : Addr} {oslI_NotPossible s2I_NotPossible s3I_NotPossible : Array (Option Value)} {vsI_NotPossible : Array Value} {fileI_NotPossible : Str} {tfI_NotPossible : Tok}
    {f__law_dice : Addr} {oc__law_dice kV__law_dice dc__law_dice pm__law_dice cd__law_dice ct__law_dice : Value} {od__law_dice an__law_dice : Option Addr} {sl__law_dice : Array (Option Value)}
    {f__law_rest : Addr} {oc__law_rest kV__law_rest dc__law_rest pm__law_rest cd__law_rest ct__law_rest : Value} {od__law_rest an__law_rest : Option Addr} {sl__law_rest : Array (Option Value)}
    {f__law_missed_digit : Addr} {oc__law_missed_digit kV__law_missed_digit dc__law_missed_digit pm__law_missed_digit cd__law_missed_digit ct__law_missed_digit : Value} {od__law_missed_digit an__law_missed_digit : Option Addr} {sl__law_missed_digit : Array (Option Value)}
    {f__law_missed_swap : Addr} {oc__law_missed_swap kV__law_missed_swap dc__law_missed_swap pm__law_missed_swap cd__law_missed_swap ct__law_missed_swap : Value} {od__law_missed_swap an__law_missed_swap : Option Addr} {sl__law_missed_swap : Array (Option Value)}
    {f__law_finds : Addr} {oc__law_finds kV__law_finds dc__law_finds pm__law_finds cd__law_finds ct__law_finds : Value} {od__law_finds an__law_finds : Option Addr} {sl__law_finds : Array (Option Value)}
    {f__law_first : Addr} {oc__law_first kV__law_first dc__law_first pm__law_first cd__law_first ct__law_first : Value} {od__law_first an__law_first : Option Addr} {sl__law_first : Array (Option Value)}
    {f_demand : Addr} {oc_demand kV_demand dc_demand pm_demand cd_demand ct_demand : Value} {od_demand an_demand : Option Addr} {sl_demand : Array (Option Value)}
    {f_is_in : Addr} {oc_is_in kV_is_in dc_is_in pm_is_in cd_is_in ct_is_in : Value} {od_is_in an_is_in : Option Addr} {sl_is_in : Array (Option Value)}
    {f_is_tuple : Addr} {oc_is_tuple kV_is_tuple dc_is_tuple pm_is_tuple cd_is_tuple ct_is_tuple : Value} {od_is_tuple an_is_tuple : Option Addr} {sl_is_tuple : Array (Option Value)}
    {f_demand_weights : Addr} {oc_demand_weights kV_demand_weights dc_demand_weights pm_demand_weights cd_demand_weights ct_demand_weights : Value} {od_demand_weights an_demand_weights : Option Addr} {sl_demand_weights : Array (Option Value)}
    {f_missed_digit : Addr} {oc_missed_digit kV_missed_digit dc_missed_digit pm_missed_digit cd_missed_digit ct_missed_digit : Value} {od_missed_digit an_missed_digit : Option Addr} {sl_missed_digit : Array (Option Value)}
    {f_missed_swap : Addr} {oc_missed_swap kV_missed_swap dc_missed_swap pm_missed_swap cd_missed_swap ct_missed_swap : Value} {od_missed_swap an_missed_swap : Option Addr} {sl_missed_swap : Array (Option Value)}
    {f_finds_all : Addr} {oc_finds_all kV_finds_all dc_finds_all pm_finds_all cd_finds_all ct_finds_all : Value} {od_finds_all an_finds_all : Option Addr} {sl_finds_all : Array (Option Value)}
    {f__law_roll : Addr} {oc__law_roll kV__law_roll dc__law_roll pm__law_roll cd__law_roll ct__law_roll : Value} {od__law_roll an__law_roll : Option Addr} {sl__law_roll : Array (Option Value)}
    {f__law_pick : Addr} {oc__law_pick kV__law_pick dc__law_pick pm__law_pick cd__law_pick ct__law_pick : Value} {od__law_pick an__law_pick : Option Addr} {sl__law_pick : Array (Option Value)}
    {f_are_in : Addr} {oc_are_in kV_are_in dc_are_in pm_are_in cd_are_in ct_are_in : Value} {od_are_in an_are_in : Option Addr} {sl_are_in : Array (Option Value)}
    {f_demand_digits : Addr} {oc_demand_digits kV_demand_digits dc_demand_digits pm_demand_digits cd_demand_digits ct_demand_digits : Value} {od_demand_digits an_demand_digits : Option Addr} {sl_demand_digits : Array (Option Value)}
    {f_rest_of : Addr} {oc_rest_of kV_rest_of dc_rest_of pm_rest_of cd_rest_of ct_rest_of : Value} {od_rest_of an_rest_of : Option Addr} {sl_rest_of : Array (Option Value)}
    {f_check : Addr} {oc_check kV_check dc_check pm_check cd_check ct_check : Value} {od_check an_check : Option Addr} {sl_check : Array (Option Value)}
    {f_lost_digit : Addr} {oc_lost_digit kV_lost_digit dc_lost_digit pm_lost_digit cd_lost_digit ct_lost_digit : Value} {od_lost_digit an_lost_digit : Option Addr} {sl_lost_digit : Array (Option Value)}
    {f_near_tags : Addr} {oc_near_tags kV_near_tags dc_near_tags pm_near_tags cd_near_tags ct_near_tags : Value} {od_near_tags an_near_tags : Option Addr} {sl_near_tags : Array (Option Value)}
    {f__law_near : Addr} {oc__law_near kV__law_near dc__law_near pm__law_near cd__law_near ct__law_near : Value} {od__law_near an__law_near : Option Addr} {sl__law_near : Array (Option Value)}
    {f_first_weights : Addr} {oc_first_weights kV_first_weights dc_first_weights pm_first_weights cd_first_weights ct_first_weights : Value} {od_first_weights an_first_weights : Option Addr} {sl_first_weights : Array (Option Value)}
    {f__law_refused : Addr} {oc__law_refused kV__law_refused dc__law_refused pm__law_refused cd__law_refused ct__law_refused : Value} {od__law_refused an__law_refused : Option Addr} {sl__law_refused : Array (Option Value)}
    {f__law_asked : Addr} {oc__law_asked kV__law_asked dc__law_asked pm__law_asked cd__law_asked ct__law_asked : Value} {od__law_asked an__law_asked : Option Addr} {sl__law_asked : Array (Option Value)}
    {f_law cA_law PA_law : Addr} {oc_law kV_law dc_law pm_law ct_law : Value} {od_law an_law : Option Addr} {sl_law : Array (Option Value)}
    (hP_law : h.get? PA_law = some (PySem.W.tabObj #[]))
    (i_MOST_DIGITS : PySem.W.nsIn K mainGlobals "MOST_DIGITS" = some (some (.int (8) t_MOST_DIGITS)))
    (i_MOST_MODULUS : PySem.W.nsIn K mainGlobals "MOST_MODULUS" = some (some (.int (97) t_MOST_MODULUS)))
    (z_abs : PySem.W.nsIn K mainGlobals "abs" = some none)
    (z_all : PySem.W.nsIn K mainGlobals "all" = some none)
    (z_any : PySem.W.nsIn K mainGlobals "any" = some none)
    (z_bool : PySem.W.nsIn K mainGlobals "bool" = some none)
    (z_enumerate : PySem.W.nsIn K mainGlobals "enumerate" = some none)
    (z_int : PySem.W.nsIn K mainGlobals "int" = some none)
    (z_isinstance : PySem.W.nsIn K mainGlobals "isinstance" = some none)
    (z_len : PySem.W.nsIn K mainGlobals "len" = some none)
    (z_max : PySem.W.nsIn K mainGlobals "max" = some none)
    (z_min : PySem.W.nsIn K mainGlobals "min" = some none)
    (z_range : PySem.W.nsIn K mainGlobals "range" = some none)
    (z_set : PySem.W.nsIn K mainGlobals "set" = some none)
    (z_sorted : PySem.W.nsIn K mainGlobals "sorted" = some none)
    (z_sum : PySem.W.nsIn K mainGlobals "sum" = some none)
    (z_super : PySem.W.nsIn K mainGlobals "super" = some none)
    (z_tuple : PySem.W.nsIn K mainGlobals "tuple" = some none)
    (z_zip : PySem.W.nsIn K mainGlobals "zip" = some none)
    (aCBadArgument : PySem.W.nsIn K mainGlobals "BadArgument" = some (some (.ref aC_BadArgument)))
    (xLBadArgument : K.lookup aC_BadArgument = some (excClassObj nm_BadArgument q_BadArgument aC_BadArgument N_BadArgument bs_BadArgument bm_BadArgument true sn_BadArgument sub_BadArgument ab_BadArgument col_BadArgument dd_BadArgument m0_BadArgument m1_BadArgument m2_BadArgument m3_BadArgument m5_BadArgument "ValueError.__new__"))
    (bmBadArgument : PySem.HandSPX.refsVE bm_BadArgument = true)
    (saBadArgument : PySem.W.findIn K (.ref aC_BadArgument) "__setattr__" = some (some (.builtin "object.__setattr__")))
    (gaBadArgument : PySem.W.findIn K (.ref aC_BadArgument) "__getattribute__" = some (some (.builtin "BaseException.__getattribute__")))
    (ggBadArgument : PySem.W.findIn K (.ref aC_BadArgument) "__getattr__" = some none)
    (nbBadArgument : PySem.W.findIn K (.ref aC_BadArgument) "name" = some none)
    (iCBadArgument : PySem.W.findIn K (.ref aC_BadArgument) "__init__" = some (some (.ref aI_BadArgument)))
    (tIBadArgument : PySem.W.typeIn K (.ref aI_BadArgument) = some (.type "function"))
    (kCBadArgument : PySem.W.keepIn K (.ref aC_BadArgument) = true)
    (eCBadArgument : PySem.W.subIn K (.ref aC_BadArgument) (.type "BaseException") = some true)
    (tCBadArgument : PySem.W.typeIn K (.ref aC_BadArgument) = some (.type "type"))
    (hCBadArgument : PySem.W.hasDictIn K aC_BadArgument = true)
    (teBadArgument : PySem.W.exmOne K (.ref aC_BadArgument) (.ref aC_BadArgument) = some true)
    (veBadArgument : PySem.W.subIn K (.ref aC_BadArgument) (.type "ValueError") = some true)
    (mCBadArgument : PySem.W.mroIn K aC_BadArgument (.ref aC_BadArgument) = some true)
    (suBadArgument : PySem.W.ks_superIn K aC_BadArgument aC_BadArgument "__init__" = some (some (.builtin "ValueError.__init__")))
    (lIBadArgument : K.lookup aI_BadArgument = some ⟨ocI_BadArgument, odI_BadArgument, .func (PySem.W.ksFn "__init__" qi_BadArgument (SupX.sA "name" ⟨6, 17, 6, 21⟩ ⟨6, 23, 6, 27⟩) (SupX.sB "name" ⟨7, 8, 7, 13⟩ ⟨7, 8, 7, 15⟩ ⟨7, 8, 7, 24⟩ ⟨7, 25, 7, 29⟩ ⟨7, 8, 7, 30⟩ ⟨7, 8, 7, 30⟩ ⟨8, 8, 8, 12⟩ ⟨8, 8, 8, 17⟩ ⟨8, 20, 8, 24⟩ ⟨8, 8, 8, 24⟩) (SupX.sS "name") .none kVI_BadArgument dcI_BadArgument pmI_BadArgument anI_BadArgument (.ref cdaI_BadArgument) ctI_BadArgument ccI_BadArgument), oslI_BadArgument⟩)
    (cIBadArgument : PySem.W.codeIn K (.ref cdaI_BadArgument) qi_BadArgument = true)
    (lkBadArgument : K.lookup cdaI_BadArgument = some ⟨o2I_BadArgument, d2I_BadArgument, .fields vsI_BadArgument, s2I_BadArgument⟩)
    (v2BadArgument : vsI_BadArgument[2]? = some (.str fileI_BadArgument tfI_BadArgument))
    (fiBadArgument : (((PySem.Challenge.rw_loadturns_k22_whole_numbers_on_tags).prog.main.file : Str) == fileI_BadArgument) = true)
    (ceBadArgument : K.lookup ccI_BadArgument = some ⟨o3I_BadArgument, d3I_BadArgument, .cell (some (.ref aC_BadArgument)), s3I_BadArgument⟩)
    (aCNotPossible : PySem.W.nsIn K mainGlobals "NotPossible" = some (some (.ref aC_NotPossible)))
    (xLNotPossible : K.lookup aC_NotPossible = some (excClassObj nm_NotPossible q_NotPossible aC_NotPossible N_NotPossible bs_NotPossible bm_NotPossible true sn_NotPossible sub_NotPossible ab_NotPossible col_NotPossible dd_NotPossible m0_NotPossible m1_NotPossible m2_NotPossible m3_NotPossible m5_NotPossible "ValueError.__new__"))
    (bmNotPossible : PySem.HandSPX.refsVE bm_NotPossible = true)
    (saNotPossible : PySem.W.findIn K (.ref aC_NotPossible) "__setattr__" = some (some (.builtin "object.__setattr__")))
    (gaNotPossible : PySem.W.findIn K (.ref aC_NotPossible) "__getattribute__" = some (some (.builtin "BaseException.__getattribute__")))
    (ggNotPossible : PySem.W.findIn K (.ref aC_NotPossible) "__getattr__" = some none)
    (nbNotPossible : PySem.W.findIn K (.ref aC_NotPossible) "word" = some none)
    (iCNotPossible : PySem.W.findIn K (.ref aC_NotPossible) "__init__" = some (some (.ref aI_NotPossible)))
    (tINotPossible : PySem.W.typeIn K (.ref aI_NotPossible) = some (.type "function"))
    (kCNotPossible : PySem.W.keepIn K (.ref aC_NotPossible) = true)
    (eCNotPossible : PySem.W.subIn K (.ref aC_NotPossible) (.type "BaseException") = some true)
    (tCNotPossible : PySem.W.typeIn K (.ref aC_NotPossible) = some (.type "type"))
    (hCNotPossible : PySem.W.hasDictIn K aC_NotPossible = true)
    (teNotPossible : PySem.W.exmOne K (.ref aC_NotPossible) (.ref aC_NotPossible) = some true)
    (veNotPossible : PySem.W.subIn K (.ref aC_NotPossible) (.type "ValueError") = some true)
    (mCNotPossible : PySem.W.mroIn K aC_NotPossible (.ref aC_NotPossible) = some true)
    (suNotPossible : PySem.W.ks_superIn K aC_NotPossible aC_NotPossible "__init__" = some (some (.builtin "ValueError.__init__")))
    (lINotPossible : K.lookup aI_NotPossible = some ⟨ocI_NotPossible, odI_NotPossible, .func (PySem.W.ksFn "__init__" qi_NotPossible (SupX.sA "word" ⟨11, 17, 11, 21⟩ ⟨11, 23, 11, 27⟩) (SupX.sB "word" ⟨12, 8, 12, 13⟩ ⟨12, 8, 12, 15⟩ ⟨12, 8, 12, 24⟩ ⟨12, 25, 12, 29⟩ ⟨12, 8, 12, 30⟩ ⟨12, 8, 12, 30⟩ ⟨13, 8, 13, 12⟩ ⟨13, 8, 13, 17⟩ ⟨13, 20, 13, 24⟩ ⟨13, 8, 13, 24⟩) (SupX.sS "word") .none kVI_NotPossible dcI_NotPossible pmI_NotPossible anI_NotPossible (.ref cdaI_NotPossible) ctI_NotPossible ccI_NotPossible), oslI_NotPossible⟩)
    (cINotPossible : PySem.W.codeIn K (.ref cdaI_NotPossible) qi_NotPossible = true)
    (lkNotPossible : K.lookup cdaI_NotPossible = some ⟨o2I_NotPossible, d2I_NotPossible, .fields vsI_NotPossible, s2I_NotPossible⟩)
    (v2NotPossible : vsI_NotPossible[2]? = some (.str fileI_NotPossible tfI_NotPossible))
    (fiNotPossible : (((PySem.Challenge.rw_loadturns_k22_whole_numbers_on_tags).prog.main.file : Str) == fileI_NotPossible) = true)
    (ceNotPossible : K.lookup ccI_NotPossible = some ⟨o3I_NotPossible, d3I_NotPossible, .cell (some (.ref aC_NotPossible)), s3I_NotPossible⟩)
    (opq : PySem.W.nsIn K cStatics "thirdparty.any" = some none)
    (a__law_dice : PySem.W.nsIn K mainGlobals "_law_dice" = some (some (.ref f__law_dice)))
    (l__law_dice : K.lookup f__law_dice = some ⟨oc__law_dice, od__law_dice, .func (PySem.W.fnOf "_law_dice" "_law_dice" (defArgs st__law_dice) (defBody st__law_dice) (defScope st__law_dice) .none kV__law_dice dc__law_dice pm__law_dice an__law_dice (cd__law_dice) ct__law_dice), sl__law_dice⟩)
    (c__law_dice : PySem.W.codeIn K (cd__law_dice) "_law_dice" = true)
    (k__law_dice : PySem.W.keepIn K (.ref f__law_dice) = true)
    (a__law_rest : PySem.W.nsIn K mainGlobals "_law_rest" = some (some (.ref f__law_rest)))
    (l__law_rest : K.lookup f__law_rest = some ⟨oc__law_rest, od__law_rest, .func (PySem.W.fnOf "_law_rest" "_law_rest" (defArgs st__law_rest) (defBody st__law_rest) (defScope st__law_rest) .none kV__law_rest dc__law_rest pm__law_rest an__law_rest (cd__law_rest) ct__law_rest), sl__law_rest⟩)
    (c__law_rest : PySem.W.codeIn K (cd__law_rest) "_law_rest" = true)
    (k__law_rest : PySem.W.keepIn K (.ref f__law_rest) = true)
    (a__law_missed_digit : PySem.W.nsIn K mainGlobals "_law_missed_digit" = some (some (.ref f__law_missed_digit)))
    (l__law_missed_digit : K.lookup f__law_missed_digit = some ⟨oc__law_missed_digit, od__law_missed_digit, .func (PySem.W.fnOf "_law_missed_digit" "_law_missed_digit" (defArgs st__law_missed_digit) (defBody st__law_missed_digit) (defScope st__law_missed_digit) .none kV__law_missed_digit dc__law_missed_digit pm__law_missed_digit an__law_missed_digit (cd__law_missed_digit) ct__law_missed_digit), sl__law_missed_digit⟩)
    (c__law_missed_digit : PySem.W.codeIn K (cd__law_missed_digit) "_law_missed_digit" = true)
    (k__law_missed_digit : PySem.W.keepIn K (.ref f__law_missed_digit) = true)
    (a__law_missed_swap : PySem.W.nsIn K mainGlobals "_law_missed_swap" = some (some (.ref f__law_missed_swap)))
    (l__law_missed_swap : K.lookup f__law_missed_swap = some ⟨oc__law_missed_swap, od__law_missed_swap, .func (PySem.W.fnOf "_law_missed_swap" "_law_missed_swap" (defArgs st__law_missed_swap) (defBody st__law_missed_swap) (defScope st__law_missed_swap) .none kV__law_missed_swap dc__law_missed_swap pm__law_missed_swap an__law_missed_swap (cd__law_missed_swap) ct__law_missed_swap), sl__law_missed_swap⟩)
    (c__law_missed_swap : PySem.W.codeIn K (cd__law_missed_swap) "_law_missed_swap" = true)
    (k__law_missed_swap : PySem.W.keepIn K (.ref f__law_missed_swap) = true)
    (a__law_finds : PySem.W.nsIn K mainGlobals "_law_finds" = some (some (.ref f__law_finds)))
    (l__law_finds : K.lookup f__law_finds = some ⟨oc__law_finds, od__law_finds, .func (PySem.W.fnOf "_law_finds" "_law_finds" (defArgs st__law_finds) (defBody st__law_finds) (defScope st__law_finds) .none kV__law_finds dc__law_finds pm__law_finds an__law_finds (cd__law_finds) ct__law_finds), sl__law_finds⟩)
    (c__law_finds : PySem.W.codeIn K (cd__law_finds) "_law_finds" = true)
    (k__law_finds : PySem.W.keepIn K (.ref f__law_finds) = true)
    (a__law_first : PySem.W.nsIn K mainGlobals "_law_first" = some (some (.ref f__law_first)))
    (l__law_first : K.lookup f__law_first = some ⟨oc__law_first, od__law_first, .func (PySem.W.fnOf "_law_first" "_law_first" (defArgs st__law_first) (defBody st__law_first) (defScope st__law_first) .none kV__law_first dc__law_first pm__law_first an__law_first (cd__law_first) ct__law_first), sl__law_first⟩)
    (c__law_first : PySem.W.codeIn K (cd__law_first) "_law_first" = true)
    (k__law_first : PySem.W.keepIn K (.ref f__law_first) = true)
    (a_demand : PySem.W.nsIn K mainGlobals "demand" = some (some (.ref f_demand)))
    (l_demand : K.lookup f_demand = some ⟨oc_demand, od_demand, .func (PySem.W.fnOf "demand" "demand" (defArgs st_demand) (defBody st_demand) (defScope st_demand) .none kV_demand dc_demand pm_demand an_demand (cd_demand) ct_demand), sl_demand⟩)
    (c_demand : PySem.W.codeIn K (cd_demand) "demand" = true)
    (k_demand : PySem.W.keepIn K (.ref f_demand) = true)
    (a_is_in : PySem.W.nsIn K mainGlobals "is_in" = some (some (.ref f_is_in)))
    (l_is_in : K.lookup f_is_in = some ⟨oc_is_in, od_is_in, .func (PySem.W.fnOf "is_in" "is_in" (defArgs st_is_in) (defBody st_is_in) (defScope st_is_in) .none kV_is_in dc_is_in pm_is_in an_is_in (cd_is_in) ct_is_in), sl_is_in⟩)
    (c_is_in : PySem.W.codeIn K (cd_is_in) "is_in" = true)
    (k_is_in : PySem.W.keepIn K (.ref f_is_in) = true)
    (a_is_tuple : PySem.W.nsIn K mainGlobals "is_tuple" = some (some (.ref f_is_tuple)))
    (l_is_tuple : K.lookup f_is_tuple = some ⟨oc_is_tuple, od_is_tuple, .func (PySem.W.fnOf "is_tuple" "is_tuple" (defArgs st_is_tuple) (defBody st_is_tuple) (defScope st_is_tuple) .none kV_is_tuple dc_is_tuple pm_is_tuple an_is_tuple (cd_is_tuple) ct_is_tuple), sl_is_tuple⟩)
    (c_is_tuple : PySem.W.codeIn K (cd_is_tuple) "is_tuple" = true)
    (k_is_tuple : PySem.W.keepIn K (.ref f_is_tuple) = true)
    (a_demand_weights : PySem.W.nsIn K mainGlobals "demand_weights" = some (some (.ref f_demand_weights)))
    (l_demand_weights : K.lookup f_demand_weights = some ⟨oc_demand_weights, od_demand_weights, .func (PySem.W.fnOf "demand_weights" "demand_weights" (defArgs st_demand_weights) (defBody st_demand_weights) (defScope st_demand_weights) .none kV_demand_weights dc_demand_weights pm_demand_weights an_demand_weights (cd_demand_weights) ct_demand_weights), sl_demand_weights⟩)
    (c_demand_weights : PySem.W.codeIn K (cd_demand_weights) "demand_weights" = true)
    (k_demand_weights : PySem.W.keepIn K (.ref f_demand_weights) = true)
    (a_missed_digit : PySem.W.nsIn K mainGlobals "missed_digit" = some (some (.ref f_missed_digit)))
    (l_missed_digit : K.lookup f_missed_digit = some ⟨oc_missed_digit, od_missed_digit, .func (PySem.W.fnOf "missed_digit" "missed_digit" (defArgs st_missed_digit) (defBody st_missed_digit) (defScope st_missed_digit) .none kV_missed_digit dc_missed_digit pm_missed_digit an_missed_digit (cd_missed_digit) ct_missed_digit), sl_missed_digit⟩)
    (c_missed_digit : PySem.W.codeIn K (cd_missed_digit) "missed_digit" = true)
    (k_missed_digit : PySem.W.keepIn K (.ref f_missed_digit) = true)
    (a_missed_swap : PySem.W.nsIn K mainGlobals "missed_swap" = some (some (.ref f_missed_swap)))
    (l_missed_swap : K.lookup f_missed_swap = some ⟨oc_missed_swap, od_missed_swap, .func (PySem.W.fnOf "missed_swap" "missed_swap" (defArgs st_missed_swap) (defBody st_missed_swap) (defScope st_missed_swap) .none kV_missed_swap dc_missed_swap pm_missed_swap an_missed_swap (cd_missed_swap) ct_missed_swap), sl_missed_swap⟩)
    (c_missed_swap : PySem.W.codeIn K (cd_missed_swap) "missed_swap" = true)
    (k_missed_swap : PySem.W.keepIn K (.ref f_missed_swap) = true)
    (a_finds_all : PySem.W.nsIn K mainGlobals "finds_all" = some (some (.ref f_finds_all)))
    (l_finds_all : K.lookup f_finds_all = some ⟨oc_finds_all, od_finds_all, .func (PySem.W.fnOf "finds_all" "finds_all" (defArgs st_finds_all) (defBody st_finds_all) (defScope st_finds_all) .none kV_finds_all dc_finds_all pm_finds_all an_finds_all (cd_finds_all) ct_finds_all), sl_finds_all⟩)
    (c_finds_all : PySem.W.codeIn K (cd_finds_all) "finds_all" = true)
    (k_finds_all : PySem.W.keepIn K (.ref f_finds_all) = true)
    (a__law_roll : PySem.W.nsIn K mainGlobals "_law_roll" = some (some (.ref f__law_roll)))
    (l__law_roll : K.lookup f__law_roll = some ⟨oc__law_roll, od__law_roll, .func (PySem.W.fnOf "_law_roll" "_law_roll" (defArgs st__law_roll) (defBody st__law_roll) (defScope st__law_roll) .none kV__law_roll dc__law_roll pm__law_roll an__law_roll (cd__law_roll) ct__law_roll), sl__law_roll⟩)
    (c__law_roll : PySem.W.codeIn K (cd__law_roll) "_law_roll" = true)
    (k__law_roll : PySem.W.keepIn K (.ref f__law_roll) = true)
    (a__law_pick : PySem.W.nsIn K mainGlobals "_law_pick" = some (some (.ref f__law_pick)))
    (l__law_pick : K.lookup f__law_pick = some ⟨oc__law_pick, od__law_pick, .func (PySem.W.fnOf "_law_pick" "_law_pick" (defArgs st__law_pick) (defBody st__law_pick) (defScope st__law_pick) .none kV__law_pick dc__law_pick pm__law_pick an__law_pick (cd__law_pick) ct__law_pick), sl__law_pick⟩)
    (c__law_pick : PySem.W.codeIn K (cd__law_pick) "_law_pick" = true)
    (k__law_pick : PySem.W.keepIn K (.ref f__law_pick) = true)
    (a_are_in : PySem.W.nsIn K mainGlobals "are_in" = some (some (.ref f_are_in)))
    (l_are_in : K.lookup f_are_in = some ⟨oc_are_in, od_are_in, .func (PySem.W.fnOf "are_in" "are_in" (defArgs st_are_in) (defBody st_are_in) (defScope st_are_in) .none kV_are_in dc_are_in pm_are_in an_are_in (cd_are_in) ct_are_in), sl_are_in⟩)
    (c_are_in : PySem.W.codeIn K (cd_are_in) "are_in" = true)
    (k_are_in : PySem.W.keepIn K (.ref f_are_in) = true)
    (a_demand_digits : PySem.W.nsIn K mainGlobals "demand_digits" = some (some (.ref f_demand_digits)))
    (l_demand_digits : K.lookup f_demand_digits = some ⟨oc_demand_digits, od_demand_digits, .func (PySem.W.fnOf "demand_digits" "demand_digits" (defArgs st_demand_digits) (defBody st_demand_digits) (defScope st_demand_digits) .none kV_demand_digits dc_demand_digits pm_demand_digits an_demand_digits (cd_demand_digits) ct_demand_digits), sl_demand_digits⟩)
    (c_demand_digits : PySem.W.codeIn K (cd_demand_digits) "demand_digits" = true)
    (k_demand_digits : PySem.W.keepIn K (.ref f_demand_digits) = true)
    (a_rest_of : PySem.W.nsIn K mainGlobals "rest_of" = some (some (.ref f_rest_of)))
    (l_rest_of : K.lookup f_rest_of = some ⟨oc_rest_of, od_rest_of, .func (PySem.W.fnOf "rest_of" "rest_of" (defArgs st_rest_of) (defBody st_rest_of) (defScope st_rest_of) .none kV_rest_of dc_rest_of pm_rest_of an_rest_of (cd_rest_of) ct_rest_of), sl_rest_of⟩)
    (c_rest_of : PySem.W.codeIn K (cd_rest_of) "rest_of" = true)
    (k_rest_of : PySem.W.keepIn K (.ref f_rest_of) = true)
    (a_check : PySem.W.nsIn K mainGlobals "check" = some (some (.ref f_check)))
    (l_check : K.lookup f_check = some ⟨oc_check, od_check, .func (PySem.W.fnOf "check" "check" (defArgs st_check) (defBody st_check) (defScope st_check) .none kV_check dc_check pm_check an_check (cd_check) ct_check), sl_check⟩)
    (c_check : PySem.W.codeIn K (cd_check) "check" = true)
    (k_check : PySem.W.keepIn K (.ref f_check) = true)
    (a_lost_digit : PySem.W.nsIn K mainGlobals "lost_digit" = some (some (.ref f_lost_digit)))
    (l_lost_digit : K.lookup f_lost_digit = some ⟨oc_lost_digit, od_lost_digit, .func (PySem.W.fnOf "lost_digit" "lost_digit" (defArgs st_lost_digit) (defBody st_lost_digit) (defScope st_lost_digit) .none kV_lost_digit dc_lost_digit pm_lost_digit an_lost_digit (cd_lost_digit) ct_lost_digit), sl_lost_digit⟩)
    (c_lost_digit : PySem.W.codeIn K (cd_lost_digit) "lost_digit" = true)
    (k_lost_digit : PySem.W.keepIn K (.ref f_lost_digit) = true)
    (a_near_tags : PySem.W.nsIn K mainGlobals "near_tags" = some (some (.ref f_near_tags)))
    (l_near_tags : K.lookup f_near_tags = some ⟨oc_near_tags, od_near_tags, .func (PySem.W.fnOf "near_tags" "near_tags" (defArgs st_near_tags) (defBody st_near_tags) (defScope st_near_tags) .none kV_near_tags dc_near_tags pm_near_tags an_near_tags (cd_near_tags) ct_near_tags), sl_near_tags⟩)
    (c_near_tags : PySem.W.codeIn K (cd_near_tags) "near_tags" = true)
    (k_near_tags : PySem.W.keepIn K (.ref f_near_tags) = true)
    (a__law_near : PySem.W.nsIn K mainGlobals "_law_near" = some (some (.ref f__law_near)))
    (l__law_near : K.lookup f__law_near = some ⟨oc__law_near, od__law_near, .func (PySem.W.fnOf "_law_near" "_law_near" (defArgs st__law_near) (defBody st__law_near) (defScope st__law_near) .none kV__law_near dc__law_near pm__law_near an__law_near (cd__law_near) ct__law_near), sl__law_near⟩)
    (c__law_near : PySem.W.codeIn K (cd__law_near) "_law_near" = true)
    (k__law_near : PySem.W.keepIn K (.ref f__law_near) = true)
    (a_first_weights : PySem.W.nsIn K mainGlobals "first_weights" = some (some (.ref f_first_weights)))
    (l_first_weights : K.lookup f_first_weights = some ⟨oc_first_weights, od_first_weights, .func (PySem.W.fnOf "first_weights" "first_weights" (defArgs st_first_weights) (defBody st_first_weights) (defScope st_first_weights) .none kV_first_weights dc_first_weights pm_first_weights an_first_weights (cd_first_weights) ct_first_weights), sl_first_weights⟩)
    (c_first_weights : PySem.W.codeIn K (cd_first_weights) "first_weights" = true)
    (k_first_weights : PySem.W.keepIn K (.ref f_first_weights) = true)
    (a__law_refused : PySem.W.nsIn K mainGlobals "_law_refused" = some (some (.ref f__law_refused)))
    (l__law_refused : K.lookup f__law_refused = some ⟨oc__law_refused, od__law_refused, .func (PySem.W.fnOf "_law_refused" "_law_refused" (defArgs st__law_refused) (defBody st__law_refused) (defScope st__law_refused) .none kV__law_refused dc__law_refused pm__law_refused an__law_refused (cd__law_refused) ct__law_refused), sl__law_refused⟩)
    (c__law_refused : PySem.W.codeIn K (cd__law_refused) "_law_refused" = true)
    (k__law_refused : PySem.W.keepIn K (.ref f__law_refused) = true)
    (a__law_asked : PySem.W.nsIn K mainGlobals "_law_asked" = some (some (.ref f__law_asked)))
    (l__law_asked : K.lookup f__law_asked = some ⟨oc__law_asked, od__law_asked, .func (PySem.W.fnOf "_law_asked" "_law_asked" (defArgs st__law_asked) (defBody st__law_asked) (defScope st__law_asked) .none kV__law_asked dc__law_asked pm__law_asked an__law_asked (cd__law_asked) ct__law_asked), sl__law_asked⟩)
    (c__law_asked : PySem.W.codeIn K (cd__law_asked) "_law_asked" = true)
    (k__law_asked : PySem.W.keepIn K (.ref f__law_asked) = true)
    (a_law : PySem.W.nsIn K mainGlobals "law" = some (some (.ref f_law)))
    (l_law : K.lookup f_law = some ⟨oc_law, od_law, .func (PySem.W.fnOf "law" "law" (defArgs st_law) (defBody st_law) (defScope st_law) .none kV_law dc_law pm_law an_law (.ref cA_law) ct_law), sl_law⟩)
    (c_law : PySem.W.codeIn K (.ref cA_law) "law" = true)
    (hd_law : PySem.W.codeHdIn K cA_law PA_law = true)
    (nT_law : K.lookup PA_law = none) :
    LamX.LawAtS PySem.Challenge.rw_loadturns_k22_whole_numbers_on_tags w K (L2.CX (PySem.Challenge.rw_loadturns_k22_whole_numbers_on_tags).prog w) 10 63 "script" mg fa h := by
  have e := hfa.symm.trans (PySem.W.mg_of X G a_law)
  cases e
  let C : Cc := ⟨K, [(PA_law, ("law.<locals>.<lambda>" : Str))], fun n => [aC_BadArgument, aC_NotPossible].getD n 0, fun n => (["name", "word"] : List Str).getD n "", fun n => ([] : List Addr).getD n 0, w⟩
  have prm_BadArgument : SupX.Prm "name" := ⟨rfl, rfl, rfl, by decide, by decide, by intros; rfl⟩
  have sup_BadArgument : SupX.SupTxt (PySem.Challenge.rw_loadturns_k22_whole_numbers_on_tags).prog K mg "BadArgument" "name" aC_BadArgument aI_BadArgument :=
    { pr := prm_BadArgument, gC := PySem.W.mg_of X G aCBadArgument, cls := ⟨_, _, _, _, _, _, _, _, _, _, _, _, _, _, _, xLBadArgument, bmBadArgument⟩, sa := saBadArgument, ga := gaBadArgument, gg := ggBadArgument, noN := nbBadArgument, iC := iCBadArgument, tC := tIBadArgument, kC := kCBadArgument, exC := eCBadArgument, tyC := tCBadArgument, hdC := hCBadArgument, te := teBadArgument, veC := veBadArgument, mC := mCBadArgument, suC := suBadArgument, gsup := PySem.W.mg_none_of X G z_super, opq := opq, top := rfl,
      fn := ⟨_, _, _, _, _, _, _, _, _, _, _, _, _, _, _, _, _, _, _, _, _, _, _, _, _, _, _, _, _, _, _, _, fun env => rfl, lIBadArgument, cIBadArgument, lkBadArgument, v2BadArgument, fiBadArgument, ceBadArgument⟩ }
  have prm_NotPossible : SupX.Prm "word" := ⟨rfl, rfl, rfl, by decide, by decide, by intros; rfl⟩
  have sup_NotPossible : SupX.SupTxt (PySem.Challenge.rw_loadturns_k22_whole_numbers_on_tags).prog K mg "NotPossible" "word" aC_NotPossible aI_NotPossible :=
    { pr := prm_NotPossible, gC := PySem.W.mg_of X G aCNotPossible, cls := ⟨_, _, _, _, _, _, _, _, _, _, _, _, _, _, _, xLNotPossible, bmNotPossible⟩, sa := saNotPossible, ga := gaNotPossible, gg := ggNotPossible, noN := nbNotPossible, iC := iCNotPossible, tC := tINotPossible, kC := kCNotPossible, exC := eCNotPossible, tyC := tCNotPossible, hdC := hCNotPossible, te := teNotPossible, veC := veNotPossible, mC := mCNotPossible, suC := suNotPossible, gsup := PySem.W.mg_none_of X G z_super, opq := opq, top := rfl,
      fn := ⟨_, _, _, _, _, _, _, _, _, _, _, _, _, _, _, _, _, _, _, _, _, _, _, _, _, _, _, _, _, _, _, _, fun env => rfl, lINotPossible, cINotPossible, lkNotPossible, v2NotPossible, fiNotPossible, ceNotPossible⟩ }
  have Fu__law_dice := fun_mk (st := st__law_dice) l__law_dice c__law_dice k__law_dice
  have bd__law_dice := Fu__law_dice.binds (ps := ["script", "spot"]) fun _ _ _ _ _ _ us hl => match us, hl with | [_, _], _ => rfl
  have cal__law_dice : Cal K mg "_law_dice" f__law_dice _ ["script", "spot"] := ⟨PySem.W.mg_of X G a__law_dice, k__law_dice, bd__law_dice⟩
  have Fu__law_rest := fun_mk (st := st__law_rest) l__law_rest c__law_rest k__law_rest
  have bd__law_rest := Fu__law_rest.binds (ps := ["modulus", "weights", "digits"]) fun _ _ _ _ _ _ us hl => match us, hl with | [_, _, _], _ => rfl
  have cal__law_rest : Cal K mg "_law_rest" f__law_rest _ ["modulus", "weights", "digits"] := ⟨PySem.W.mg_of X G a__law_rest, k__law_rest, bd__law_rest⟩
  have Fu__law_missed_digit := fun_mk (st := st__law_missed_digit) l__law_missed_digit c__law_missed_digit k__law_missed_digit
  have bd__law_missed_digit := Fu__law_missed_digit.binds (ps := ["modulus", "weights"]) fun _ _ _ _ _ _ us hl => match us, hl with | [_, _], _ => rfl
  have cal__law_missed_digit : Cal K mg "_law_missed_digit" f__law_missed_digit _ ["modulus", "weights"] := ⟨PySem.W.mg_of X G a__law_missed_digit, k__law_missed_digit, bd__law_missed_digit⟩
  have Fu__law_missed_swap := fun_mk (st := st__law_missed_swap) l__law_missed_swap c__law_missed_swap k__law_missed_swap
  have bd__law_missed_swap := Fu__law_missed_swap.binds (ps := ["modulus", "weights"]) fun _ _ _ _ _ _ us hl => match us, hl with | [_, _], _ => rfl
  have cal__law_missed_swap : Cal K mg "_law_missed_swap" f__law_missed_swap _ ["modulus", "weights"] := ⟨PySem.W.mg_of X G a__law_missed_swap, k__law_missed_swap, bd__law_missed_swap⟩
  have Fu__law_finds := fun_mk (st := st__law_finds) l__law_finds c__law_finds k__law_finds
  have bd__law_finds := Fu__law_finds.binds (ps := ["modulus", "weights"]) fun _ _ _ _ _ _ us hl => match us, hl with | [_, _], _ => rfl
  have cal__law_finds : Cal K mg "_law_finds" f__law_finds _ ["modulus", "weights"] := ⟨PySem.W.mg_of X G a__law_finds, k__law_finds, bd__law_finds⟩
  have Fu__law_first := fun_mk (st := st__law_first) l__law_first c__law_first k__law_first
  have bd__law_first := Fu__law_first.binds (ps := ["modulus", "many"]) fun _ _ _ _ _ _ us hl => match us, hl with | [_, _], _ => rfl
  have cal__law_first : Cal K mg "_law_first" f__law_first _ ["modulus", "many"] := ⟨PySem.W.mg_of X G a__law_first, k__law_first, bd__law_first⟩
  have Fu_demand := fun_mk (st := st_demand) l_demand c_demand k_demand
  have bd_demand := Fu_demand.binds (ps := ["is_good", "name"]) fun _ _ _ _ _ _ us hl => match us, hl with | [_, _], _ => rfl
  have cal_demand : Cal K mg "demand" f_demand _ ["is_good", "name"] := ⟨PySem.W.mg_of X G a_demand, k_demand, bd_demand⟩
  have Fu_is_in := fun_mk (st := st_is_in) l_is_in c_is_in k_is_in
  have bd_is_in := Fu_is_in.binds (ps := ["value", "low", "high"]) fun _ _ _ _ _ _ us hl => match us, hl with | [_, _, _], _ => rfl
  have cal_is_in : Cal K mg "is_in" f_is_in _ ["value", "low", "high"] := ⟨PySem.W.mg_of X G a_is_in, k_is_in, bd_is_in⟩
  have Fu_is_tuple := fun_mk (st := st_is_tuple) l_is_tuple c_is_tuple k_is_tuple
  have bd_is_tuple := Fu_is_tuple.binds (ps := ["value", "least", "most"]) fun _ _ _ _ _ _ us hl => match us, hl with | [_, _, _], _ => rfl
  have cal_is_tuple : Cal K mg "is_tuple" f_is_tuple _ ["value", "least", "most"] := ⟨PySem.W.mg_of X G a_is_tuple, k_is_tuple, bd_is_tuple⟩
  have Fu_demand_weights := fun_mk (st := st_demand_weights) l_demand_weights c_demand_weights k_demand_weights
  have bd_demand_weights := Fu_demand_weights.binds (ps := ["weights", "modulus"]) fun _ _ _ _ _ _ us hl => match us, hl with | [_, _], _ => rfl
  have cal_demand_weights : Cal K mg "demand_weights" f_demand_weights _ ["weights", "modulus"] := ⟨PySem.W.mg_of X G a_demand_weights, k_demand_weights, bd_demand_weights⟩
  have Fu_missed_digit := fun_mk (st := st_missed_digit) l_missed_digit c_missed_digit k_missed_digit
  have bd_missed_digit := Fu_missed_digit.binds (ps := ["modulus", "weights"]) fun _ _ _ _ _ _ us hl => match us, hl with | [_, _], _ => rfl
  have cal_missed_digit : Cal K mg "missed_digit" f_missed_digit _ ["modulus", "weights"] := ⟨PySem.W.mg_of X G a_missed_digit, k_missed_digit, bd_missed_digit⟩
  have Fu_missed_swap := fun_mk (st := st_missed_swap) l_missed_swap c_missed_swap k_missed_swap
  have bd_missed_swap := Fu_missed_swap.binds (ps := ["modulus", "weights"]) fun _ _ _ _ _ _ us hl => match us, hl with | [_, _], _ => rfl
  have cal_missed_swap : Cal K mg "missed_swap" f_missed_swap _ ["modulus", "weights"] := ⟨PySem.W.mg_of X G a_missed_swap, k_missed_swap, bd_missed_swap⟩
  have Fu_finds_all := fun_mk (st := st_finds_all) l_finds_all c_finds_all k_finds_all
  have bd_finds_all := Fu_finds_all.binds (ps := ["modulus", "weights"]) fun _ _ _ _ _ _ us hl => match us, hl with | [_, _], _ => rfl
  have cal_finds_all : Cal K mg "finds_all" f_finds_all _ ["modulus", "weights"] := ⟨PySem.W.mg_of X G a_finds_all, k_finds_all, bd_finds_all⟩
  have Fu__law_roll := fun_mk (st := st__law_roll) l__law_roll c__law_roll k__law_roll
  have bd__law_roll := Fu__law_roll.binds (ps := ["dice", "total"]) fun _ _ _ _ _ _ us hl => match us, hl with | [_, _], _ => rfl
  have cal__law_roll : Cal K mg "_law_roll" f__law_roll _ ["dice", "total"] := ⟨PySem.W.mg_of X G a__law_roll, k__law_roll, bd__law_roll⟩
  have Fu__law_pick := fun_mk (st := st__law_pick) l__law_pick c__law_pick k__law_pick
  have bd__law_pick := Fu__law_pick.binds (ps := ["dice", "things"]) fun _ _ _ _ _ _ us hl => match us, hl with | [_, _], _ => rfl
  have cal__law_pick : Cal K mg "_law_pick" f__law_pick _ ["dice", "things"] := ⟨PySem.W.mg_of X G a__law_pick, k__law_pick, bd__law_pick⟩
  have Fu_are_in := fun_mk (st := st_are_in) l_are_in c_are_in k_are_in
  have bd_are_in := Fu_are_in.binds (ps := ["value", "least", "most", "low", "high"]) fun _ _ _ _ _ _ us hl => match us, hl with | [_, _, _, _, _], _ => rfl
  have cal_are_in : Cal K mg "are_in" f_are_in _ ["value", "least", "most", "low", "high"] := ⟨PySem.W.mg_of X G a_are_in, k_are_in, bd_are_in⟩
  have Fu_demand_digits := fun_mk (st := st_demand_digits) l_demand_digits c_demand_digits k_demand_digits
  have bd_demand_digits := Fu_demand_digits.binds (ps := ["digits", "weights"]) fun _ _ _ _ _ _ us hl => match us, hl with | [_, _], _ => rfl
  have cal_demand_digits : Cal K mg "demand_digits" f_demand_digits _ ["digits", "weights"] := ⟨PySem.W.mg_of X G a_demand_digits, k_demand_digits, bd_demand_digits⟩
  have Fu_rest_of := fun_mk (st := st_rest_of) l_rest_of c_rest_of k_rest_of
  have bd_rest_of := Fu_rest_of.binds (ps := ["modulus", "weights", "digits"]) fun _ _ _ _ _ _ us hl => match us, hl with | [_, _, _], _ => rfl
  have cal_rest_of : Cal K mg "rest_of" f_rest_of _ ["modulus", "weights", "digits"] := ⟨PySem.W.mg_of X G a_rest_of, k_rest_of, bd_rest_of⟩
  have Fu_check := fun_mk (st := st_check) l_check c_check k_check
  have bd_check := Fu_check.binds (ps := ["modulus", "weights", "digits"]) fun _ _ _ _ _ _ us hl => match us, hl with | [_, _, _], _ => rfl
  have cal_check : Cal K mg "check" f_check _ ["modulus", "weights", "digits"] := ⟨PySem.W.mg_of X G a_check, k_check, bd_check⟩
  have Fu_lost_digit := fun_mk (st := st_lost_digit) l_lost_digit c_lost_digit k_lost_digit
  have bd_lost_digit := Fu_lost_digit.binds (ps := ["modulus", "weights", "digits", "place", "rest"]) fun _ _ _ _ _ _ us hl => match us, hl with | [_, _, _, _, _], _ => rfl
  have cal_lost_digit : Cal K mg "lost_digit" f_lost_digit _ ["modulus", "weights", "digits", "place", "rest"] := ⟨PySem.W.mg_of X G a_lost_digit, k_lost_digit, bd_lost_digit⟩
  have Fu_near_tags := fun_mk (st := st_near_tags) l_near_tags c_near_tags k_near_tags
  have bd_near_tags := Fu_near_tags.binds (ps := ["modulus", "weights", "digits", "rest"]) fun _ _ _ _ _ _ us hl => match us, hl with | [_, _, _, _], _ => rfl
  have cal_near_tags : Cal K mg "near_tags" f_near_tags _ ["modulus", "weights", "digits", "rest"] := ⟨PySem.W.mg_of X G a_near_tags, k_near_tags, bd_near_tags⟩
  have Fu__law_near := fun_mk (st := st__law_near) l__law_near c__law_near k__law_near
  have bd__law_near := Fu__law_near.binds (ps := ["modulus", "weights", "digits", "rest"]) fun _ _ _ _ _ _ us hl => match us, hl with | [_, _, _, _], _ => rfl
  have cal__law_near : Cal K mg "_law_near" f__law_near _ ["modulus", "weights", "digits", "rest"] := ⟨PySem.W.mg_of X G a__law_near, k__law_near, bd__law_near⟩
  have Fu_first_weights := fun_mk (st := st_first_weights) l_first_weights c_first_weights k_first_weights
  have bd_first_weights := Fu_first_weights.binds (ps := ["modulus", "many"]) fun _ _ _ _ _ _ us hl => match us, hl with | [_, _], _ => rfl
  have cal_first_weights : Cal K mg "first_weights" f_first_weights _ ["modulus", "many"] := ⟨PySem.W.mg_of X G a_first_weights, k_first_weights, bd_first_weights⟩
  have Fu__law_refused := fun_mk (st := st__law_refused) l__law_refused c__law_refused k__law_refused
  have bd__law_refused := Fu__law_refused.binds (ps := ["call"]) fun _ _ _ _ _ _ us hl => match us, hl with | [_], _ => rfl
  have cal__law_refused : Cal K mg "_law_refused" f__law_refused _ ["call"] := ⟨PySem.W.mg_of X G a__law_refused, k__law_refused, bd__law_refused⟩
  have Fu__law_asked := fun_mk (st := st__law_asked) l__law_asked c__law_asked k__law_asked
  have bd__law_asked := Fu__law_asked.binds (ps := ["call"]) fun _ _ _ _ _ _ us hl => match us, hl with | [_], _ => rfl
  have cal__law_asked : Cal K mg "_law_asked" f__law_asked _ ["call"] := ⟨PySem.W.mg_of X G a__law_asked, k__law_asked, bd__law_asked⟩
  have kkb_check_0 := kb_check_0 Fu_check
  have kkb_missed_digit_0 := kb_missed_digit_0 Fu_missed_digit
  have kkb_missed_swap_0 := kb_missed_swap_0 Fu_missed_swap
  have kkb_finds_all_0 := kb_finds_all_0 Fu_finds_all
  have kkb_lost_digit_0 := kb_lost_digit_0 Fu_lost_digit
  have kkb_near_tags_0 := kb_near_tags_0 Fu_near_tags
  have kkb_first_weights_0 := kb_first_weights_0 Fu_first_weights
  have tl__law_refused : Tells K mg C 0 "" "_law_refused" "call" "e" "BadArgument" f__law_refused (defScope st__law_refused) (defBody st__law_refused) :=
    { gm := PySem.W.mg_of X G a__law_refused, kp := k__law_refused, fn := ⟨_, _, _, _, _, _, _, _, _, _, _, l__law_refused, c__law_refused, bd__law_refused⟩, sc := ⟨rfl, rfl, rfl, by decide +kernel, rfl, by decide +kernel, by decide +kernel⟩, va := Or.inl rfl, tx := ⟨_, _, _, _, _, _, _, _, _, _, _, _, rfl, fun _ => rfl⟩, hbe := rfl, hme := PySem.W.mg_of X G aCBadArgument, hde := by decide, xf := ⟨gaBadArgument, ggBadArgument, eCBadArgument, hCBadArgument⟩, hno := nbBadArgument, te := teBadArgument, hln := rfl, hd := by decide, hcd := by decide, had := by decide, hacd := by decide }
  have tl__law_asked : Asks K mg C 1 "not " "_law_asked" "call" "e" "NotPossible" f__law_asked (defScope st__law_asked) (defBody st__law_asked) :=
    { gm := PySem.W.mg_of X G a__law_asked, kp := k__law_asked, fn := ⟨_, _, _, _, _, _, _, _, _, _, _, l__law_asked, c__law_asked, bd__law_asked⟩, sc := ⟨rfl, rfl, rfl, by decide +kernel, rfl, by decide +kernel, by decide +kernel⟩, va := Or.inl rfl, tx := ⟨_, _, _, _, _, _, _, _, _, _, _, _, rfl⟩, hbe := rfl, hme := PySem.W.mg_of X G aCNotPossible, hde := by decide, xf := ⟨gaNotPossible, ggNotPossible, eCNotPossible, hCNotPossible⟩, hno := nbNotPossible, te := teNotPossible, hln := rfl, hd := by decide, hcd := by decide, had := by decide, hacd := by decide }
  have T : Tx (PySem.Challenge.rw_loadturns_k22_whole_numbers_on_tags).prog w C mg := { hw := rfl, g_MOST_DIGITS := ⟨_, PySem.W.mg_of X G i_MOST_DIGITS⟩, g_MOST_MODULUS := ⟨_, PySem.W.mg_of X G i_MOST_MODULUS⟩, z_abs := PySem.W.mg_none_of X G z_abs, z_all := PySem.W.mg_none_of X G z_all, z_any := PySem.W.mg_none_of X G z_any, z_bool := PySem.W.mg_none_of X G z_bool, z_enumerate := PySem.W.mg_none_of X G z_enumerate, z_int := PySem.W.mg_none_of X G z_int, z_isinstance := PySem.W.mg_none_of X G z_isinstance, z_len := PySem.W.mg_none_of X G z_len, z_max := PySem.W.mg_none_of X G z_max, z_min := PySem.W.mg_none_of X G z_min, z_range := PySem.W.mg_none_of X G z_range, z_set := PySem.W.mg_none_of X G z_set, z_sorted := PySem.W.mg_none_of X G z_sorted, z_sum := PySem.W.mg_none_of X G z_sum, z_tuple := PySem.W.mg_none_of X G z_tuple, z_zip := PySem.W.mg_none_of X G z_zip, e_BadArgument := ⟨_, sup_BadArgument⟩, e_NotPossible := ⟨_, sup_NotPossible⟩, tells__law_refused := ⟨_, tl__law_refused⟩, tells__law_asked := ⟨_, tl__law_asked⟩ }
  refine ⟨PySem.W.fnOf "law" "law" (defArgs st_law) (defBody st_law) (defScope st_law) .none kV_law dc_law pm_law an_law (.ref cA_law) ct_law, [(cA_law, PA_law)], spD C 1 R_law, ?_, ?_, ?_, fun s u => .of_eq rfl, ?_, fun base hKb hNs hTB => ?_⟩
  · intro p hp; simp only [List.mem_cons, List.not_mem_nil, or_false] at hp; rcases hp with rfl
    · exact hP_law
  · intro p hp; simp only [List.mem_cons, List.not_mem_nil, or_false] at hp; rcases hp with rfl
    · exact nT_law
  · intro p hp; simp only [List.mem_cons, List.not_mem_nil, or_false] at hp; rcases hp with rfl
    · exact PySem.W.codeHd_of_K X hd_law
  · intro H a ns hl _ hT hS
    refine law_sp (C := C) (fun d ss hd hs => law_ok hd hs []) hl (tabs_all ?_) hS
    intro p hp; simp only [C, List.mem_cons, List.not_mem_nil, or_false] at hp; rcases hp with rfl
    · exact hT _ List.mem_cons_self
  · have hne : ∀ x ∈ C.T, ∀ y ∈ C.T, x.1 = y.1 → x.2 = y.2 := by
      intro x hx y hy e; simp only [C, List.mem_cons, List.not_mem_nil, or_false] at hx hy; rcases hx with rfl <;> rcases hy with rfl <;> first | rfl | (exfalso; revert e; first | exact fun e => e)
    have TB_law := hTB _ List.mem_cons_self
    have mT_law : (PA_law, ("law.<locals>.<lambda>" : Str)) ∈ C.T := List.mem_cons_self
    have uT_law : ∀ p ∈ C.T, p.1 = PA_law → p.2 = ("law.<locals>.<lambda>" : Str) := fun p hp e => hne p hp _ mT_law e
    have x__law_dice := df_leG (y__law_dice (w := w) (C := C) (base := base) T Fu__law_dice) le__law_dice
    have x__law_rest := df_leG (y__law_rest (w := w) (C := C) (base := base) T Fu__law_rest) le__law_rest
    have x__law_missed_digit := df_leG (y__law_missed_digit (w := w) (C := C) (base := base) T Fu__law_missed_digit cal__law_rest x__law_rest) le__law_missed_digit
    have x__law_missed_swap := df_leG (y__law_missed_swap (w := w) (C := C) (base := base) T Fu__law_missed_swap cal__law_rest x__law_rest) le__law_missed_swap
    have x__law_finds := df_leG (y__law_finds (w := w) (C := C) (base := base) T Fu__law_finds cal__law_missed_swap x__law_missed_swap cal__law_missed_digit x__law_missed_digit) le__law_finds
    have x__law_first := df_leG (y__law_first (w := w) (C := C) (base := base) T Fu__law_first cal__law_finds x__law_finds) le__law_first
    have x_demand := df_leG (y_demand (w := w) (C := C) (base := base) T Fu_demand) le_demand
    have x_is_in := df_leG (y_is_in (w := w) (C := C) (base := base) T Fu_is_in) le_is_in
    have x_is_tuple := df_leG (y_is_tuple (w := w) (C := C) (base := base) T Fu_is_tuple) le_is_tuple
    have x_demand_weights := df_leG (y_demand_weights (w := w) (C := C) (base := base) T Fu_demand_weights cal_demand x_demand cal_is_in x_is_in cal_is_tuple x_is_tuple) le_demand_weights
    have x_missed_digit := df_leG (y_missed_digit (w := w) (C := C) (base := base) T Fu_missed_digit cal_demand_weights x_demand_weights) le_missed_digit
    have x_missed_swap := df_leG (y_missed_swap (w := w) (C := C) (base := base) T Fu_missed_swap cal_demand_weights x_demand_weights) le_missed_swap
    have x_finds_all := df_leG (y_finds_all (w := w) (C := C) (base := base) T Fu_finds_all cal_missed_swap x_missed_swap kkb_missed_swap_0 cal_missed_digit x_missed_digit kkb_missed_digit_0) le_finds_all
    have x__law_roll := df_leG (y__law_roll (w := w) (C := C) (base := base) T Fu__law_roll) le__law_roll
    have x__law_pick := df_leG (y__law_pick (w := w) (C := C) (base := base) T Fu__law_pick cal__law_roll x__law_roll) le__law_pick
    have x_are_in := df_leG (y_are_in (w := w) (C := C) (base := base) T Fu_are_in cal_is_in x_is_in cal_is_tuple x_is_tuple) le_are_in
    have x_demand_digits := df_leG (y_demand_digits (w := w) (C := C) (base := base) T Fu_demand_digits cal_demand x_demand cal_are_in x_are_in) le_demand_digits
    have x_rest_of := df_leG (y_rest_of (w := w) (C := C) (base := base) T Fu_rest_of) le_rest_of
    have x_check := df_leG (y_check (w := w) (C := C) (base := base) T Fu_check cal_demand_weights x_demand_weights cal_demand_digits x_demand_digits cal_rest_of x_rest_of) le_check
    have x_lost_digit := df_leG (y_lost_digit (w := w) (C := C) (base := base) T Fu_lost_digit cal_demand_weights x_demand_weights cal_demand_digits x_demand_digits cal_demand x_demand cal_is_in x_is_in cal_rest_of x_rest_of) le_lost_digit
    have x_near_tags := df_leG (y_near_tags (w := w) (C := C) (base := base) T Fu_near_tags cal_demand_weights x_demand_weights cal_demand_digits x_demand_digits cal_demand x_demand cal_is_in x_is_in cal_rest_of x_rest_of) le_near_tags
    have x__law_near := df_leG (y__law_near (w := w) (C := C) (base := base) T Fu__law_near cal__law_rest x__law_rest) le__law_near
    have x_first_weights := df_leG (y_first_weights (w := w) (C := C) (base := base) T Fu_first_weights cal_demand x_demand cal_is_in x_is_in cal_finds_all x_finds_all kkb_finds_all_0) le_first_weights
    exact y_law (C := C) (base := base) T l_law c_law TB_law mT_law uT_law cal__law_dice x__law_dice cal__law_roll x__law_roll cal__law_pick x__law_pick cal__law_rest x__law_rest cal_check x_check kkb_check_0 cal_missed_digit x_missed_digit kkb_missed_digit_0 cal__law_missed_digit x__law_missed_digit cal_missed_swap x_missed_swap kkb_missed_swap_0 cal__law_missed_swap x__law_missed_swap cal_finds_all x_finds_all kkb_finds_all_0 cal__law_finds x__law_finds cal_lost_digit x_lost_digit kkb_lost_digit_0 cal_near_tags x_near_tags kkb_near_tags_0 cal__law_near x__law_near cal__law_first x__law_first cal_first_weights x_first_weights kkb_first_weights_0
end
end Lw_k22
open PySem PySem.W PyProof.Rows
set_option maxRecDepth 100000 in
set_option maxHeartbeats 0 in
theorem PySem.Challenge.cw_loadturns_k22_whole_numbers_on_tags_holds : PySem.Challenge.rw_loadturns_k22_whole_numbers_on_tags.Holds := by
  w_on; o_law; k_head; (case hw => w_witness2)
  k_fill
  refine LamX.walk_ofTs (l := PySem.Challenge.rw_loadturns_k22_whole_numbers_on_tags) (n := 63) (k := 10) (x := "script") (CX := fun w => L2.CX (PySem.Challenge.rw_loadturns_k22_whole_numbers_on_tags).prog w) rfl (by decide) rfl ⟨rfl, by decide, by decide⟩ (fun w h Y => PySem.W.km_in_of Y) ?F (fun w H s e s' hx => DL.cx_no hx)
  case F =>
    intro w mg fa h Y KX G hmg
    refine' Lw_k22.all_mk KX G hmg (PySem.W.km_tabs_of Y _ List.mem_cons_self) ?i_MOST_DIGITS ?i_MOST_MODULUS ?z_abs ?z_all ?z_any ?z_bool ?z_enumerate ?z_int ?z_isinstance ?z_len ?z_max ?z_min ?z_range ?z_set ?z_sorted ?z_sum ?z_super ?z_tuple ?z_zip ?aCBadArgument ?xLBadArgument ?bmBadArgument ?saBadArgument ?gaBadArgument ?ggBadArgument ?nbBadArgument ?iCBadArgument ?tIBadArgument ?kCBadArgument ?eCBadArgument ?tCBadArgument ?hCBadArgument ?teBadArgument ?veBadArgument ?mCBadArgument ?suBadArgument ?lIBadArgument ?cIBadArgument ?lkBadArgument ?v2BadArgument ?fiBadArgument ?ceBadArgument ?aCNotPossible ?xLNotPossible ?bmNotPossible ?saNotPossible ?gaNotPossible ?ggNotPossible ?nbNotPossible ?iCNotPossible ?tINotPossible ?kCNotPossible ?eCNotPossible ?tCNotPossible ?hCNotPossible ?teNotPossible ?veNotPossible ?mCNotPossible ?suNotPossible ?lINotPossible ?cINotPossible ?lkNotPossible ?v2NotPossible ?fiNotPossible ?ceNotPossible ?opq ?a__law_dice ?l__law_dice ?c__law_dice ?k__law_dice ?a__law_rest ?l__law_rest ?c__law_rest ?k__law_rest ?a__law_missed_digit ?l__law_missed_digit ?c__law_missed_digit ?k__law_missed_digit ?a__law_missed_swap ?l__law_missed_swap ?c__law_missed_swap ?k__law_missed_swap ?a__law_finds ?l__law_finds ?c__law_finds ?k__law_finds ?a__law_first ?l__law_first ?c__law_first ?k__law_first ?a_demand ?l_demand ?c_demand ?k_demand ?a_is_in ?l_is_in ?c_is_in ?k_is_in ?a_is_tuple ?l_is_tuple ?c_is_tuple ?k_is_tuple ?a_demand_weights ?l_demand_weights ?c_demand_weights ?k_demand_weights ?a_missed_digit ?l_missed_digit ?c_missed_digit ?k_missed_digit ?a_missed_swap ?l_missed_swap ?c_missed_swap ?k_missed_swap ?a_finds_all ?l_finds_all ?c_finds_all ?k_finds_all ?a__law_roll ?l__law_roll ?c__law_roll ?k__law_roll ?a__law_pick ?l__law_pick ?c__law_pick ?k__law_pick ?a_are_in ?l_are_in ?c_are_in ?k_are_in ?a_demand_digits ?l_demand_digits ?c_demand_digits ?k_demand_digits ?a_rest_of ?l_rest_of ?c_rest_of ?k_rest_of ?a_check ?l_check ?c_check ?k_check ?a_lost_digit ?l_lost_digit ?c_lost_digit ?k_lost_digit ?a_near_tags ?l_near_tags ?c_near_tags ?k_near_tags ?a__law_near ?l__law_near ?c__law_near ?k__law_near ?a_first_weights ?l_first_weights ?c_first_weights ?k_first_weights ?a__law_refused ?l__law_refused ?c__law_refused ?k__law_refused ?a__law_asked ?l__law_asked ?c__law_asked ?k__law_asked ?a_law ?l_law ?c_law ?hd_law ?nT_law
    (case i_MOST_DIGITS => k_is)
    (case i_MOST_MODULUS => k_is)
    (case z_abs => k_is)
    (case z_all => k_is)
    (case z_any => k_is)
    (case z_bool => k_is)
    (case z_enumerate => k_is)
    (case z_int => k_is)
    (case z_isinstance => k_is)
    (case z_len => k_is)
    (case z_max => k_is)
    (case z_min => k_is)
    (case z_range => k_is)
    (case z_set => k_is)
    (case z_sorted => k_is)
    (case z_sum => k_is)
    (case z_super => k_is)
    (case z_tuple => k_is)
    (case z_zip => k_is)
    (case aCBadArgument => k_is)
    (case xLBadArgument => k_is)
    (case bmBadArgument => first | rfl | decide +kernel)
    (case saBadArgument => k_is)
    (case gaBadArgument => k_is)
    (case ggBadArgument => k_is)
    (case nbBadArgument => k_is)
    (case iCBadArgument => k_is)
    (case tIBadArgument => k_is)
    (case kCBadArgument => k_is)
    (case eCBadArgument => k_is)
    (case tCBadArgument => k_is)
    (case hCBadArgument => k_is)
    (case teBadArgument => kernel_rfl)
    (case veBadArgument => k_is)
    (case mCBadArgument => k_is)
    (case suBadArgument => kernel_rfl)
    (case lIBadArgument => k_is)
    (case cIBadArgument => k_is)
    (case lkBadArgument => k_is)
    (case v2BadArgument => first | rfl | decide +kernel)
    (case fiBadArgument => first | rfl | decide +kernel)
    (case ceBadArgument => k_is)
    (case aCNotPossible => k_is)
    (case xLNotPossible => k_is)
    (case bmNotPossible => first | rfl | decide +kernel)
    (case saNotPossible => k_is)
    (case gaNotPossible => k_is)
    (case ggNotPossible => k_is)
    (case nbNotPossible => k_is)
    (case iCNotPossible => k_is)
    (case tINotPossible => k_is)
    (case kCNotPossible => k_is)
    (case eCNotPossible => k_is)
    (case tCNotPossible => k_is)
    (case hCNotPossible => k_is)
    (case teNotPossible => kernel_rfl)
    (case veNotPossible => k_is)
    (case mCNotPossible => k_is)
    (case suNotPossible => kernel_rfl)
    (case lINotPossible => k_is)
    (case cINotPossible => k_is)
    (case lkNotPossible => k_is)
    (case v2NotPossible => first | rfl | decide +kernel)
    (case fiNotPossible => first | rfl | decide +kernel)
    (case ceNotPossible => k_is)
    (case opq => k_is)
    (case a__law_dice => k_is)
    (case l__law_dice => k_is)
    (case c__law_dice => k_is)
    (case k__law_dice => k_is)
    (case a__law_rest => k_is)
    (case l__law_rest => k_is)
    (case c__law_rest => k_is)
    (case k__law_rest => k_is)
    (case a__law_missed_digit => k_is)
    (case l__law_missed_digit => k_is)
    (case c__law_missed_digit => k_is)
    (case k__law_missed_digit => k_is)
    (case a__law_missed_swap => k_is)
    (case l__law_missed_swap => k_is)
    (case c__law_missed_swap => k_is)
    (case k__law_missed_swap => k_is)
    (case a__law_finds => k_is)
    (case l__law_finds => k_is)
    (case c__law_finds => k_is)
    (case k__law_finds => k_is)
    (case a__law_first => k_is)
    (case l__law_first => k_is)
    (case c__law_first => k_is)
    (case k__law_first => k_is)
    (case a_demand => k_is)
    (case l_demand => k_is)
    (case c_demand => k_is)
    (case k_demand => k_is)
    (case a_is_in => k_is)
    (case l_is_in => k_is)
    (case c_is_in => k_is)
    (case k_is_in => k_is)
    (case a_is_tuple => k_is)
    (case l_is_tuple => k_is)
    (case c_is_tuple => k_is)
    (case k_is_tuple => k_is)
    (case a_demand_weights => k_is)
    (case l_demand_weights => k_is)
    (case c_demand_weights => k_is)
    (case k_demand_weights => k_is)
    (case a_missed_digit => k_is)
    (case l_missed_digit => k_is)
    (case c_missed_digit => k_is)
    (case k_missed_digit => k_is)
    (case a_missed_swap => k_is)
    (case l_missed_swap => k_is)
    (case c_missed_swap => k_is)
    (case k_missed_swap => k_is)
    (case a_finds_all => k_is)
    (case l_finds_all => k_is)
    (case c_finds_all => k_is)
    (case k_finds_all => k_is)
    (case a__law_roll => k_is)
    (case l__law_roll => k_is)
    (case c__law_roll => k_is)
    (case k__law_roll => k_is)
    (case a__law_pick => k_is)
    (case l__law_pick => k_is)
    (case c__law_pick => k_is)
    (case k__law_pick => k_is)
    (case a_are_in => k_is)
    (case l_are_in => k_is)
    (case c_are_in => k_is)
    (case k_are_in => k_is)
    (case a_demand_digits => k_is)
    (case l_demand_digits => k_is)
    (case c_demand_digits => k_is)
    (case k_demand_digits => k_is)
    (case a_rest_of => k_is)
    (case l_rest_of => k_is)
    (case c_rest_of => k_is)
    (case k_rest_of => k_is)
    (case a_check => k_is)
    (case l_check => k_is)
    (case c_check => k_is)
    (case k_check => k_is)
    (case a_lost_digit => k_is)
    (case l_lost_digit => k_is)
    (case c_lost_digit => k_is)
    (case k_lost_digit => k_is)
    (case a_near_tags => k_is)
    (case l_near_tags => k_is)
    (case c_near_tags => k_is)
    (case k_near_tags => k_is)
    (case a__law_near => k_is)
    (case l__law_near => k_is)
    (case c__law_near => k_is)
    (case k__law_near => k_is)
    (case a_first_weights => k_is)
    (case l_first_weights => k_is)
    (case c_first_weights => k_is)
    (case k_first_weights => k_is)
    (case a__law_refused => k_is)
    (case l__law_refused => k_is)
    (case c__law_refused => k_is)
    (case k__law_refused => k_is)
    (case a__law_asked => k_is)
    (case l__law_asked => k_is)
    (case c__law_asked => k_is)
    (case k__law_asked => k_is)
    (case a_law => k_is)
    (case l_law => k_is)
    (case c_law => k_is)
    (case hd_law => kernel_rfl)
    (case nT_law => kernel_rfl)
