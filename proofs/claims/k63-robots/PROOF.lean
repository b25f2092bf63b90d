import PyProof.Rows.All
import Wide.All
import OpenK.AllK
import Wide.FinOn
import HandS.ForMost
import HandS.Flow
import HandS.Walk
import HandS.Lambda
import HandS.Dict
import KE.KDictKeyed
import HandS.TupMul
import HandS.TupAny
import HandS.Rev
import HandS.Conv
import HandS.Deep
import HandS.IsInst
import HandS.SortInts
import HandS.Star
import KE.DataMinMax
import KE.SortKeyHeap
import HandS.SetFor
import KE.GoesEnum
import KE.GoesZip
import HandS.ExcOwn
import HandS.ExcValue
import HandS.Style
import HandS.Zip
import PyProof.TupleOfSeq
import KE.DataCmp
import HandS.Nested
import HandS.SortKw
import HandS.Keys
import HandS.EndOwn
import HandS.NestedK
import HandS.List
import HandS.RevTup
import PyProof.Walks
import HandS.More
import PyProof.ListCopy
import PyProof.Rows.ExtendIn
import HandS.ForDict
import KE.KDictDisplayH
import KE.KDictWalk
import KE.KDictSum
import HandS.DictComp
import PyProof.SeqIndex
import PyProof.FactsAll.tuple
import HandS.Strs
import PySem.Challenge.RW_shoporders_k63_whole_robots
set_option Elab.async false
set_option linter.all false
set_option maxRecDepth 100000
set_option maxHeartbeats 4000000
namespace DV
open PySem L2

abbrev D := PyData
/-- a dict: whether its keys are tuples; its pairs in the order of insertion -/
structure DC where
  t : Bool
  kv : List (D × D)
/-- what an expression gives: data; a list that is read where it stands; a new list; a new dict; the drawing row -/
inductive RV where
  | d (x : D) | b (ds : List D) | n (ds : List D) | gb (c : DC) | gn (c : DC) | row
/-- an error: its class's name, its field -/
structure Ex where
  c : Str
  f : Option (Str × D)
/-- where an error stands: its address, its class, its dict -/
structure Q3 where
  a : Addr
  cls : Value
  d : Option Addr
/-- a container within a container -/
inductive IC where
  | l (ds : List D) | g (c : DC) | f (c : DC)
/-- a list of containers, or a dict of them whose keys are ints -/
structure NC where
  ks : Option (List Int)
  xs : List IC
/-- what a name holds: data; a list of one's own; a list that may be read alone (the caller's, or one that a loop walks); the drawing row -/
inductive SV where
  | d (x : D) | o (ds : List D) | k (ds : List D) | g (c : DC) | un | row | ex (q : Q3) (e : Ex) | fn (x : Str) | lm | m (c : NC)
/-- things of one's own -/
def SV.ow : SV → Prop
  | .o _ => True
  | .g _ => True
  | _ => False
/-- the drawing row: the script, the place, the mixed number, the rest -/
structure RS where
  ns : List Int
  i : Nat
  s : Int
  c : Int
/-- the drawing row's address; the address of a lambda that was handed on -/
structure RA where
  row : Option Addr
  lam : Option Addr
abbrev Env := List (Option SV)

def M (α : Type) : Type := RS → Option (α × RS)
def ret {α : Type} (a : α) : M α := fun rs => some (a, rs)
def fail {α : Type} : M α := fun _ => none
def bnd {α β : Type} (m : M α) (k : α → M β) : M β := fun rs => match m rs with
  | none => none
  | some (a, rs') => k a rs'
def lft {α : Type} (o : Option α) : M α := match o with
  | none => fail
  | some a => ret a
instance : Monad M where
  pure := ret
  bind := bnd
theorem bnd_some {α β : Type} {m : M α} {k : α → M β} {rs : RS} {r : β × RS} (h : bnd m k rs = some r) : ∃ a rs', m rs = some (a, rs') ∧ k a rs' = some r := by
  unfold bnd at h
  cases e : m rs with
  | none => rw [e] at h; cases h
  | some p => rw [e] at h; exact ⟨p.1, p.2, rfl, h⟩
theorem lft_some {α : Type} {o : Option α} {rs : RS} {a : α} {rs' : RS} (h : lft o rs = some (a, rs')) : o = some a ∧ rs' = rs := by
  cases o with
  | none => cases h
  | some x => cases h; exact ⟨rfl, rfl⟩
theorem ret_some {α : Type} {x : α} {rs : RS} {a : α} {rs' : RS} (h : ret x rs = some (a, rs')) : x = a ∧ rs' = rs := by
  cases h; exact ⟨rfl, rfl⟩

end DV
namespace L2
open PySem
section
variable {K : PySem.W.Frag}
theorem ex_rdd {H H' : Hp} {a : Addr} {u : HO} (e : ∀ o, H a = some o → H' a = some o) (h : Rd H a u) : Rd H' a u := by
  rcases h with h | ⟨o, h⟩
  · exact Or.inl (e _ h)
  · exact Or.inr ⟨o, e _ h⟩
theorem ex_l {H H' : Hp} {a : Addr} {xs : List V} (e : ∀ o, H a = some o → H' a = some o) (h : SqL K H a xs) : SqL K H' a xs := by
  rcases h with h | h
  · exact Or.inl (ex_rdd e h)
  · exact Or.inr h
theorem ex_t {H H' : Hp} {a : Addr} {xs : List V} (e : ∀ o, H a = some o → H' a = some o) (h : SqT K H a xs) : SqT K H' a xs := by
  rcases h with h | h
  · exact Or.inl (ex_rdd e h)
  · exact Or.inr h
end
end L2
namespace DV
open PySem L2
/-- a tuple's object that has no dict of its own -/
def Exa (H : Hp) (a : Addr) : Prop := ∃ o u, H a = some (.frz o u) ∧ o.dict = none
theorem Exa.mono {F F' : Hp} {a : Addr} (e : ∀ a o, F a = some o → F' a = some o) (h : Exa F a) : Exa F' a := by
  obtain ⟨o, u, h1, h2⟩ := h
  exact ⟨o, u, e _ _ h1, h2⟩
/-- a new tuple -/
abbrev TupX (ob : Obj) (vs : List V) : HO := .frz ob (.tup vs)
mutual
/-- what stands for data: tuples without a dict of their own -/
inductive Dp (K : PySem.W.Frag) (H : Hp) : V → PyData → Prop
  | non : Dp K H .non .none
  | bl (b : Bool) : Dp K H (.bl b) (.bool b)
  | int (i : Int) : Dp K H (.int i) (.int i)
  | str (x : Str) : Dp K H (.str x) (.str x)
  | lst {a : Addr} {xs : List V} {ds : List PyData} : SqL K H a xs → DpAll K H xs ds → Dp K H (.ref a) (.list ds)
  | tup {a : Addr} {xs : List V} {ds : List PyData} : SqT K H a xs → DpAll K H xs ds → Exa H a → Dp K H (.ref a) (.tuple ds)
inductive DpAll (K : PySem.W.Frag) (H : Hp) : List V → List PyData → Prop
  | nil : DpAll K H [] []
  | cons {v : V} {vs : List V} {d : PyData} {ds : List PyData} : Dp K H v d → DpAll K H vs ds → DpAll K H (v :: vs) (d :: ds)
end
section
variable {K : PySem.W.Frag}
mutual
theorem Dp.kit {F : Hp} : ∀ (d : PyData) (v : V), Dp K F v d → L2.Dp K F v d
  | .none, _, h => by cases h; exact .non
  | .bool _, _, h => by cases h; exact .bl _
  | .int _, _, h => by cases h; exact .int _
  | .str _, _, h => by cases h; exact .str _
  | .list ds, _, h => by
    cases h with
    | lst hs ha => exact .lst hs (DpAll.kit ds _ ha)
  | .tuple ds, _, h => by
    cases h with
    | tup hs ha => exact .tup hs (DpAll.kit ds _ ha)
  | .dict _, _, h => by cases h
theorem DpAll.kit {F : Hp} : ∀ (ds : List PyData) (vs : List V), DpAll K F vs ds → L2.DpAll K F vs ds
  | [], _, h => by cases h; exact .nil
  | d :: ds, _, h => by
    cases h with
    | cons h1 h2 => exact .cons (Dp.kit d _ h1) (DpAll.kit ds _ h2)
end
theorem Dp.reads {X : Cx} {pins : List (Addr × Obj)} {σ : L2.St} {H : Hp} {s : Shared} (I : Inv X pins σ H s) (d : PyData) (v : V) (u : Value) (h : Dp X.K H v d) (r : RelV v u) : ∃ as, Reads s.heap u d as := L2.Dp.reads I d v u (h.kit d v) r
theorem Dp.readsAll {X : Cx} {pins : List (Addr × Obj)} {σ : L2.St} {H : Hp} {s : Shared} (I : Inv X pins σ H s) (ds : List PyData) (vs : List V) (us : List Value) (h : DpAll X.K H vs ds) (r : Vals vs us) : ∃ as, ReadsAll s.heap us ds as := L2.Dp.readsAll I ds vs us (h.kit ds vs) r
mutual
theorem Dp.mono {F F' : Hp} (e : ∀ a o, F a = some o → F' a = some o) : ∀ (d : PyData) (v : V), Dp K F v d → Dp K F' v d
  | .none, _, h => by cases h; exact .non
  | .bool _, _, h => by cases h; exact .bl _
  | .int _, _, h => by cases h; exact .int _
  | .str _, _, h => by cases h; exact .str _
  | .list ds, _, h => by
    cases h with
    | lst hs ha => exact .lst (ex_l (e _) hs) (Dp.monoA e ds _ ha)
  | .tuple ds, _, h => by
    cases h with
    | tup hs ha hx => exact .tup (ex_t (e _) hs) (Dp.monoA e ds _ ha) (hx.mono e)
  | .dict _, _, h => by cases h
theorem Dp.monoA {F F' : Hp} (e : ∀ a o, F a = some o → F' a = some o) : ∀ (ds : List PyData) (vs : List V), DpAll K F vs ds → DpAll K F' vs ds
  | [], _, h => by cases h; exact .nil
  | d :: ds, _, h => by
    cases h with
    | cons h1 h2 => exact .cons (Dp.mono e d _ h1) (Dp.monoA e ds _ h2)
end
theorem DpAll.len {F : Hp} : ∀ {vs : List V} {ds : List PyData}, DpAll K F vs ds → vs.length = ds.length
  | _, _, .nil => rfl
  | _, _, .cons _ h => congrArg (· + 1) (DpAll.len h)
theorem DpAll.get {F : Hp} : ∀ {vs : List V} {ds : List PyData} {i : Nat} {d : PyData}, DpAll K F vs ds → ds[i]? = some d → ∃ v, vs[i]? = some v ∧ Dp K F v d
  | _, _, _, _, .nil, h => by simp at h
  | _, _, 0, _, .cons h1 _, h => by
    simp at h; subst h
    exact ⟨_, rfl, h1⟩
  | _, _, i + 1, _, .cons _ h2, h => by
    simp at h
    obtain ⟨v, e, r⟩ := DpAll.get h2 h
    exact ⟨v, by simpa using e, r⟩
theorem DpAll.append {F : Hp} : ∀ {vs ws : List V} {ds es : List PyData}, DpAll K F vs ds → DpAll K F ws es → DpAll K F (vs ++ ws) (ds ++ es)
  | _, _, _, _, .nil, h => h
  | _, _, _, _, .cons h1 h2, h => .cons h1 (DpAll.append h2 h)
theorem DpAll.set {F : Hp} : ∀ {vs : List V} {ds : List PyData} (i : Nat) {v : V} {d : PyData}, DpAll K F vs ds → Dp K F v d → DpAll K F (vs.set i v) (ds.set i d)
  | _, _, _, _, _, .nil, _ => .nil
  | _, _, 0, _, _, .cons _ h2, h => .cons h h2
  | _, _, i + 1, _, _, .cons h1 h2, h => .cons h1 (DpAll.set i h2 h)
theorem DpAll.take {F : Hp} : ∀ (n : Nat) {vs : List V} {ds : List PyData}, DpAll K F vs ds → DpAll K F (vs.take n) (ds.take n)
  | 0, _, _, _ => .nil
  | n + 1, _, _, .nil => .nil
  | n + 1, _, _, .cons h1 h2 => .cons h1 (DpAll.take n h2)
theorem DpAll.drop {F : Hp} : ∀ (n : Nat) {vs : List V} {ds : List PyData}, DpAll K F vs ds → DpAll K F (vs.drop n) (ds.drop n)
  | 0, _, _, h => h
  | n + 1, _, _, .nil => .nil
  | n + 1, _, _, .cons h1 h2 => DpAll.drop n h2
theorem DpAll.rep {F : Hp} {vs : List V} {ds : List PyData} (h : DpAll K F vs ds) : ∀ n : Nat, DpAll K F (List.replicate n vs).flatten (List.replicate n ds).flatten
  | 0 => .nil
  | n + 1 => by
    rw [List.replicate_succ, List.flatten_cons, List.replicate_succ, List.flatten_cons]
    exact DpAll.append h (DpAll.rep h n)
end
end DV
namespace DV
open PySem L2
/-- ints among data -/
def intsOf : List D → Option (List Int)
  | [] => some []
  | .int i :: r => match intsOf r with
    | some js => some (i :: js)
    | none => none
  | _ => none
theorem ints_map : ∀ js : List Int, intsOf (js.map PyData.int) = some js
  | [] => rfl
  | j :: js => by
    show (match intsOf (js.map PyData.int) with | some js => some (j :: js) | none => none) = _
    rw [ints_map js]

section
variable {K : PySem.W.Frag}
theorem DpAll.intsV {F : Hp} : ∀ {vs : List V} {ds : List PyData} {js : List Int}, DpAll K F vs ds → DV.intsOf ds = some js → vs = js.map V.int
  | _, _, _, .nil, h => by cases h; rfl
  | _, d :: r, js, .cons h1 h2, h => by
    cases d with
    | int i =>
      unfold DV.intsOf at h
      cases e : DV.intsOf r with
      | none => rw [e] at h; cases h
      | some ks =>
        rw [e] at h
        cases h
        cases h1
        rw [DpAll.intsV h2 e]
        rfl
    | none => unfold DV.intsOf at h; cases h
    | bool _ => unfold DV.intsOf at h; cases h
    | str _ => unfold DV.intsOf at h; cases h
    | list _ => unfold DV.intsOf at h; cases h
    | tuple _ => unfold DV.intsOf at h; cases h
    | dict _ => unfold DV.intsOf at h; cases h
theorem DpAll.ofInts {F : Hp} : ∀ (js : List Int), DpAll K F (js.map V.int) (js.map PyData.int)
  | [] => .nil
  | j :: js => .cons (.int j) (DpAll.ofInts js)
end
section
variable {K : PySem.W.Frag}
/-- the defs that hold a lambda -/
def lamNames : List Str := ["due_order_in", "punctual_in", "within", "least_greatest", "plan_by", "due_plan", "short_plan", "unit_order", "longest_first", "short_lists", "unlike_sum", "by_rank", "names_of", "most_apart", "piercing", "heaviest_apart", "most_on", "heaviest_on", "fewest_machines", "johnson_order", "lag_order", "next_job", "by_rule", "free_gaps", "family_sum", "family_lateness", "two_owners", "short_order"]
def tabTo : Option Value → Option Value → Option (Addr × Str)
  | some (.str n _), some (.ref P) => if lamNames.elem n = true then some (P, n ++ ".<locals>.<lambda>") else none
  | _, _ => none
def tabOf (o : Obj) : Option (Addr × Str) := match o.data with
  | .fields vs => tabTo vs[1]? vs[11]?
  | _ => none
/-- the tables of the code objects that K tells, each with the one name that it may tell -/
def tabsOf : PySem.W.Frag → List (Addr × Str)
  | [] => []
  | (_, o) :: r => match tabOf o with
    | some p => p :: tabsOf r
    | none => tabsOf r
/-- what is never written anew: all but those tables -/
def Fx (K : PySem.W.Frag) (a : Addr) (o : HO) : Prop := (∀ ps, o ≠ .tbl ps) ∨ ∀ q, (a, q) ∉ tabsOf K
theorem Fx.lst {a : Addr} {vs : List V} : Fx K a (.lst vs) := .inl fun _ z => nomatch z
theorem Fx.tup {a : Addr} {vs : List V} : Fx K a (.tup vs) := .inl fun _ z => nomatch z
theorem Fx.tupX {a : Addr} {ob : Obj} {vs : List V} : Fx K a (TupX ob vs) := .inl fun _ z => nomatch z
structure RowOk (K : PySem.W.Frag) (R : RA) (rs : RS) (F H : Hp) : Prop where
  at_ : ∀ r, R.row = some r → ∃ a, H r = some (.lst [.ref a, .int (rs.i : Int), .int rs.s, .int rs.c]) ∧ SqL K F a (rs.ns.map V.int) ∧ rs.ns.length ≤ 63
  tab : LamX.Tabs (tabsOf K) H
  fnt : ∀ a o, F a = some o → Fx K a o
theorem RowOk.mono {K : PySem.W.Frag} {R : RA} {rs : RS} {F F' H : Hp} (h : RowOk K R rs F H) (k : ∀ a o, F a = some o → F' a = some o) (n : ∀ a o, F' a = some o → Fx K a o) : RowOk K R rs F' H :=
  ⟨fun r e => by
    obtain ⟨a, e1, h1, h2⟩ := h.at_ r e
    exact ⟨a, e1, ex_l (k _) h1, h2⟩, h.tab, n⟩
theorem tabs_at {T : List (Addr × Str)} {H : Hp} (t : LamX.Tabs T H) {a : Addr} {q : Str} (h : (a, q) ∈ T) : ∃ ps, H a = some (.tbl ps) := by
  obtain ⟨ps, e, _⟩ := t _ h
  exact ⟨ps, e⟩
theorem tabs_upd {T : List (Addr × Str)} {H : Hp} (t : LamX.Tabs T H) {a : Addr} {o : HO} (h : H a = none ∨ ∃ vs, H a = some (.lst vs)) : LamX.Tabs T (upd H a o) := fun p hp => by
  obtain ⟨ps, e, h2, h3⟩ := t p hp
  have ne : ∀ b u, H b = some u → (∀ vs, u ≠ .lst vs) → b ≠ a := fun b u e1 e2 z => by
    subst z
    rcases h with h | ⟨vs, h⟩
    · rw [h] at e1; cases e1
    · rw [h] at e1
      exact e2 vs (Option.some.inj e1).symm
  refine ⟨ps, by rw [upd_ne (ne _ _ e fun vs z => nomatch z)]; exact e, h2, fun pos cv hc => ?_⟩
  obtain ⟨c, e1, e2⟩ := h3 pos cv hc
  exact ⟨c, e1, by rw [upd_ne (ne _ _ e2 fun vs z => by unfold LamX.CodeO at z; cases z)]; exact e2⟩
/-- the heap grows; F is what is never changed any more -/
structure Step (K : PySem.W.Frag) (R : RA) (rs' : RS) (F H F' H' : Hp) : Prop where
  keep : ∀ a o, H a = some o → some a ≠ R.row → (n : Fx K a o := by exact .inl fun _ z => nomatch z) → H' a = some o
  sub : ∀ a o, F a = some o → F' a = some o
  new : ∀ a o, F' a = some o → F a = some o ∨ H a = none
  fin : ∀ a o, F' a = some o → H' a = some o
  row : RowOk K R rs' F' H'
  rF : ∀ r, R.row = some r → F' r = none
theorem Step.refl {R : RA} {rs : RS} {F H : Hp} (h1 : ∀ a o, F a = some o → H a = some o) (h2 : RowOk K R rs F H) (h3 : ∀ r, R.row = some r → F r = none) : Step K R rs F H F H :=
  ⟨fun _ _ h _ _ => h, fun _ _ h => h, fun _ _ h => .inl h, h1, h2, h3⟩
theorem Step.back {R : RA} {rs rs' : RS} {F H F' H' : Hp} (s : Step K R rs' F H F' H') (r0 : RowOk K R rs F H) {a : Addr} (h : H' a = none) : H a = none := by
  cases e : H a with
  | none => rfl
  | some o =>
    by_cases q : some a = R.row
    · obtain ⟨b, hb, _⟩ := s.row.at_ a q.symm
      rw [h] at hb; cases hb
    · by_cases t : ∃ n, (a, n) ∈ tabsOf K
      · obtain ⟨n, t⟩ := t
        obtain ⟨ps, hb⟩ := tabs_at s.row.tab t
        rw [h] at hb; cases hb
      · rw [s.keep a o e q (.inr fun n z => t ⟨n, z⟩)] at h; cases h
theorem Step.trans {R : RA} {rs rs1 rs2 : RS} {F H F1 H1 F2 H2 : Hp} (r0 : RowOk K R rs F H) (a : Step K R rs1 F H F1 H1) (b : Step K R rs2 F1 H1 F2 H2) : Step K R rs2 F H F2 H2 :=
  ⟨fun c o h q n => b.keep c o (a.keep c o h q n) q n, fun c o h => b.sub c o (a.sub c o h), fun c o h => by
    rcases b.new c o h with z | z
    · exact a.new c o z
    · exact .inr (a.back r0 z), b.fin, b.row, b.rF⟩

mutual
/-- data as a key -/
def nk : D → Option NestedKey
  | .none => some .none
  | .int i => some (.num i)
  | .tuple ds => match nkA ds with
    | some ks => some (.tup ks)
    | none => none
  | .bool _ => none
  | .str _ => none
  | .list _ => none
  | .dict _ => none
def nkA : List D → Option (List NestedKey)
  | [] => some []
  | d :: ds => match nk d, nkA ds with
    | some k, some ks => some (k :: ks)
    | _, _ => none
end
/-- a dict's object: its keys' tuples stand at the addresses -/
def dcO (a : Addr) (xs : List (NestedKey × Addr × V)) : HO := .ext fun h => (a == sysModules) = false ∧ xs.length ≤ sizeLine ∧ (xs.map (·.1)).Nodup ∧ ∃ (o : Obj) (es : Array DictEntry) (ep : Nat) (ys : List (NestedKey × Addr × Value)),
  h.get? a = some o ∧ o.ExactDict ∧ o.data = .dict es ep ∧ Paired (fun (p : NestedKey × Addr × V) (q : NestedKey × Addr × Value) => p.1 = q.1 ∧ p.2.1 = q.2.1 ∧ RelV p.2.2 q.2.2) xs ys ∧
  ∀ w : World, es.toList = ys.map fun y => (⟨y.1.hash w, .ref y.2.1, y.2.2⟩ : DictEntry)
def DictR (K : PySem.W.Frag) (F : Hp) (a : Addr) (u : HO) (c : DC) : Prop := match c.t with
  | false => ∃ ks : List (Int × V), u = .dK (ks.map fun p => ((.inl p.1 : Key), p.2)) ∧ (ks.map (·.1)).Nodup ∧ Paired (fun (p : Int × V) (q : D × D) => q.1 = .int p.1 ∧ Dp K F p.2 q.2) ks c.kv
  | true => ∃ xs : List (NestedKey × Addr × V), u = dcO a xs ∧ Paired (fun (x : NestedKey × Addr × V) (q : D × D) => nk q.1 = some x.1 ∧ x.1.depth ≤ 8 ∧ Dp K F (.ref x.2.1) q.1 ∧ Dp K F x.2.2 q.2) xs c.kv
theorem Paired.imp {α β : Type} {f g : α → β → Prop} : ∀ {xs : List α} {ys : List β}, Paired f xs ys → (∀ x y, f x y → g x y) → Paired g xs ys
  | _, _, .nil, _ => .nil
  | _, _, .cons h t, k => .cons (k _ _ h) (Paired.imp t k)
theorem DictR.mono {F F' : Hp} {a : Addr} {u : HO} {c : DC} (e : ∀ a o, F a = some o → F' a = some o) (h : DictR K F a u c) : DictR K F' a u c := by
  unfold DictR at h ⊢
  cases q : c.t with
  | false =>
    rw [q] at h
    obtain ⟨ks, h1, h2, h3⟩ := h
    exact ⟨ks, h1, h2, Paired.imp h3 fun x y z => ⟨z.1, Dp.mono e _ _ z.2⟩⟩
  | true =>
    rw [q] at h
    obtain ⟨xs, h1, h2⟩ := h
    exact ⟨xs, h1, Paired.imp h2 fun x y z => ⟨z.1, z.2.1, Dp.mono e _ _ z.2.2.1, Dp.mono e _ _ z.2.2.2⟩⟩
theorem DictR.fx {F : Hp} {a : Addr} {u : HO} {c : DC} (h : DictR K F a u c) : Fx K a u := by
  unfold DictR at h
  cases q : c.t with
  | false =>
    rw [q] at h
    obtain ⟨ks, h1, _⟩ := h
    exact .inl fun _ z => by rw [h1] at z; cases z
  | true =>
    rw [q] at h
    obtain ⟨xs, h1, _⟩ := h
    exact .inl fun _ z => by rw [h1] at z; unfold dcO at z; cases z

/-- v stands for the result; H0: the heap ahead (a new list is new since it) -/
def VR (K : PySem.W.Frag) (R : RA) (F H0 H : Hp) (v : V) : RV → Prop
  | .d x => Dp K F v x
  | .b ds => ∃ a vs, v = .ref a ∧ H a = some (.lst vs) ∧ some a ≠ R.row ∧ DpAll K F vs ds
  | .n ds => ∃ a vs, v = .ref a ∧ H a = some (.lst vs) ∧ H0 a = none ∧ F a = none ∧ some a ≠ R.row ∧ DpAll K F vs ds
  | .gb c => ∃ a u, v = .ref a ∧ H a = some u ∧ some a ≠ R.row ∧ DictR K F a u c
  | .gn c => ∃ a u, v = .ref a ∧ H a = some u ∧ H0 a = none ∧ F a = none ∧ some a ≠ R.row ∧ DictR K F a u c
  | .row => ∃ r, R.row = some r ∧ v = .ref r
theorem VR.step {R : RA} {rs' : RS} {F F' H0 H H' : Hp} {v : V} {x : RV} (s : Step K R rs' F H F' H') (h : VR K R F H0 H v x) : VR K R F' H0 H' v x := by
  cases x with
  | d x => exact Dp.mono s.sub _ _ h
  | b ds =>
    obtain ⟨a, vs, e, h1, h2, h3⟩ := h
    exact ⟨a, vs, e, s.keep a _ h1 h2, h2, Dp.monoA s.sub _ _ h3⟩
  | n ds =>
    obtain ⟨a, vs, e, h1, h0, h2, h3, h4⟩ := h
    refine ⟨a, vs, e, s.keep _ _ h1 h3, h0, ?_, h3, Dp.monoA s.sub _ _ h4⟩
    cases q : F' a with
    | none => rfl
    | some o =>
      rcases s.new a o q with z | z
      · rw [h2] at z; cases z
      · rw [h1] at z; cases z
  | gb c =>
    obtain ⟨a, u, e, h1, h2, h3⟩ := h
    exact ⟨a, u, e, s.keep a _ h1 h2 h3.fx, h2, h3.mono s.sub⟩
  | gn c =>
    obtain ⟨a, u, e, h1, h0, h2, h3, h4⟩ := h
    refine ⟨a, u, e, s.keep _ _ h1 h3 h4.fx, h0, ?_, h3, h4.mono s.sub⟩
    cases q : F' a with
    | none => rfl
    | some o =>
      rcases s.new a o q with z | z
      · rw [h2] at z; cases z
      · rw [h1] at z; cases z
  | row => exact h
theorem VR.older {R : RA} {F H0 H1 H : Hp} {v : V} {x : RV} (e : ∀ a, H1 a = none → H0 a = none) (h : VR K R F H1 H v x) : VR K R F H0 H v x := by
  cases x with
  | d x => exact h
  | b ds => exact h
  | n ds =>
    obtain ⟨a, vs, e1, h1, h0, h2, h3, h4⟩ := h
    exact ⟨a, vs, e1, h1, e a h0, h2, h3, h4⟩
  | gb c => exact h
  | gn c =>
    obtain ⟨a, u, e1, h1, h0, h2, h3, h4⟩ := h
    exact ⟨a, u, e1, h1, e a h0, h2, h3, h4⟩
  | row => exact h

/-- the error of the class cls, its dict d: its name, its field; the dict is never changed -/
def XF (K : PySem.W.Frag) (F : Hp) (cls : Value) (d : Option Addr) (e : Ex) : Prop := PySem.W.nsIn K mainGlobals e.c = some (some cls) ∧ match e.f with
  | none => d = none
  | some (f, x) => ∃ dd w, d = some dd ∧ F dd = some (.xd [(f, w)]) ∧ Dp K F w x
theorem XF.mono {F F' : Hp} {cls : Value} {d : Option Addr} {e : Ex} (k : ∀ a o, F a = some o → F' a = some o) (h : XF K F cls d e) : XF K F' cls d e := by
  unfold XF at h ⊢
  refine ⟨h.1, ?_⟩
  have h := h.2
  cases z : e.f with
  | none => rw [z] at h; exact h
  | some p =>
    rw [z] at h
    obtain ⟨dd, w, h1, h2, h3⟩ := h
    exact ⟨dd, w, h1, k _ _ h2, Dp.mono k _ _ h3⟩
def outO : Option (List Int) → List Addr → HO
  | none, as => .lst (as.map V.ref)
  | some ks, as => .dK ((ks.zip as).map fun p => ((.inl p.1 : Key), V.ref p.2))
def InR (K : PySem.W.Frag) (F : Hp) (b : Addr) (u : HO) : IC → Prop
  | .l ds => ∃ vs, u = .lst vs ∧ DpAll K F vs ds
  | .g c => DictR K F b u c
  | .f c => ∃ o u', u = .frz o u' ∧ DictR K F b u' c
structure MR (K : PySem.W.Frag) (L : Nat → Option (Addr × HO)) (F : Hp) (a : Addr) (as : List Addr) (c : NC) : Prop where
  out : L 1 = some (a, outO c.ks as)
  len : as.length = c.xs.length
  ks : ∀ k, c.ks = some k → k.length = as.length ∧ k.Nodup
  nd : (a :: as).Nodup
  fa : F a = none
  inn : ∀ (k : Nat) (b : Addr) (x : IC), as[k]? = some b → c.xs[k]? = some x → F b = none ∧ ∃ u, L (2 * k + 3) = some (b, u) ∧ InR K F b u x
theorem InR.mono {F F' : Hp} {b : Addr} {u : HO} {x : IC} (e : ∀ a o, F a = some o → F' a = some o) (h : InR K F b u x) : InR K F' b u x := by
  cases x with
  | l ds =>
    obtain ⟨vs, h1, h2⟩ := h
    exact ⟨vs, h1, Dp.monoA e _ _ h2⟩
  | g c => exact DictR.mono e h
  | f c =>
    obtain ⟨o, u', h1, h2⟩ := h
    exact ⟨o, u', h1, DictR.mono e h2⟩
theorem MR.mono {L : Nat → Option (Addr × HO)} {F F' : Hp} {a : Addr} {as : List Addr} {c : NC} (h : MR K L F a as c) (e : ∀ a o, F a = some o → F' a = some o) (n : ∀ i b u, L i = some (b, u) → F b = none → F' b = none) : MR K L F' a as c :=
  ⟨h.out, h.len, h.ks, h.nd, n _ _ _ h.out h.fa, fun k b x h1 h2 => by
    obtain ⟨h3, u, h4, h5⟩ := h.inn k b x h1 h2
    exact ⟨n _ _ _ h4 h3, u, h4, h5.mono e⟩⟩
theorem MR.cong {L L' : Nat → Option (Addr × HO)} {F : Hp} {a : Addr} {as : List Addr} {c : NC} (h : MR K L F a as c) (e : ∀ i, L' (2 * i + 1) = L (2 * i + 1)) : MR K L' F a as c :=
  ⟨(e 0).trans h.out, h.len, h.ks, h.nd, h.fa, fun k b x h1 h2 => by
    obtain ⟨h3, u, h4, h5⟩ := h.inn k b x h1 h2
    exact ⟨h3, u, (e (k + 1)).trans h4, h5⟩⟩
def SR (K : PySem.W.Frag) (R : RA) (L : Nat → Option (Addr × HO)) (E F H : Hp) (i : Nat) (v : V) : SV → Prop
  | .d x => Dp K F v x
  | .o ds => ∃ a vs, v = .ref a ∧ H a = some (.lst vs) ∧ E a = none ∧ F a = none ∧ some a ≠ R.row ∧ DpAll K F vs ds
  | .k ds => ∃ a vs, L (2 * i) = some (a, .lst vs) ∧ v = .ref a ∧ DpAll K F vs ds
  | .g c => ∃ a u, v = .ref a ∧ H a = some u ∧ E a = none ∧ F a = none ∧ some a ≠ R.row ∧ DictR K F a u c
  | .un => True
  | .row => ∃ r, R.row = some r ∧ v = .ref r
  | .ex q e => v = .ref q.a ∧ XF K F q.cls q.d e
  | .fn x => ∃ a, PySem.W.nsIn K mainGlobals x = some (some (.ref a)) ∧ v = .ref a
  | .lm => ∃ f, R.lam = some f ∧ v = .ref f
  | .m c => ∃ a as, v = .ref a ∧ MR K L F a as c
structure Rel (K : PySem.W.Frag) (R : RA) (L : Nat → Option (Addr × HO)) (E F : Hp) (ρ : Env) (σ : L2.St) (rs : RS) (H : Hp) : Prop where
  len : ρ.length = σ.length
  ex : ∀ a o, E a = some o → H a = some o
  ent : ∀ a o, E a = some o → Fx K a o
  fr : ∀ a o, F a = some o → H a = some o
  row : RowOk K R rs F H
  rE : ∀ r, R.row = some r → E r = none ∧ F r = none
  lk : ∀ i a u, L i = some (a, u) → E a = some u
  sl : ∀ (i : Nat) (sv : SV), ρ[i]? = some (some sv) → ∃ v, σ[i]? = some (some v) ∧ SR K R L E F H i v sv
  own : ∀ (i j : Nat) (a : Addr) (x y : SV), ρ[i]? = some (some x) → ρ[j]? = some (some y) → x.ow → y.ow → σ[i]? = some (some (V.ref a)) → σ[j]? = some (some (V.ref a)) → i = j
section
variable {R : RA} {L : Nat → Option (Addr × HO)} {E F F' H H' : Hp} {ρ : Env} {σ : L2.St} {rs rs' : RS}
theorem Rel.refl (r : Rel K R L E F ρ σ rs H) : Step K R rs F H F H := Step.refl r.fr r.row fun _ e => (r.rE _ e).2
theorem Rel.step (r : Rel K R L E F ρ σ rs H) (s : Step K R rs' F H F' H') : Rel K R L E F' ρ σ rs' H' where
  len := r.len
  ex := fun a o h => s.keep a o (r.ex a o h) (fun q => by
    have := (r.rE a q.symm).1
    rw [h] at this; cases this) (r.ent a o h)
  ent := r.ent
  fr := s.fin
  row := s.row
  rE := fun q e => ⟨(r.rE q e).1, s.rF q e⟩
  lk := r.lk
  sl := fun i sv h => by
    obtain ⟨v, e, q⟩ := r.sl i sv h
    refine ⟨v, e, ?_⟩
    cases sv with
    | d x => exact Dp.mono s.sub _ _ q
    | k ds =>
      obtain ⟨a, vs, hl, e1, h3⟩ := q
      exact ⟨a, vs, hl, e1, Dp.monoA s.sub _ _ h3⟩
    | o ds =>
      obtain ⟨a, vs, e1, h1, h2, h3, h4, h5⟩ := q
      refine ⟨a, vs, e1, s.keep _ _ h1 h4, h2, ?_, h4, Dp.monoA s.sub _ _ h5⟩
      cases q : F' a with
      | none => rfl
      | some o =>
        rcases s.new a o q with z | z
        · rw [h3] at z; cases z
        · rw [h1] at z; cases z
    | g c =>
      obtain ⟨a, u, e1, h1, h2, h3, h4, h5⟩ := q
      refine ⟨a, u, e1, s.keep _ _ h1 h4 h5.fx, h2, ?_, h4, h5.mono s.sub⟩
      cases q : F' a with
      | none => rfl
      | some o =>
        rcases s.new a o q with z | z
        · rw [h3] at z; cases z
        · rw [h1] at z; cases z
    | un => exact trivial
    | row => exact q
    | ex _ _ => exact ⟨q.1, XF.mono s.sub q.2⟩
    | fn _ => exact q
    | lm => exact q
    | m c =>
      obtain ⟨a, as, e1, h⟩ := q
      refine ⟨a, as, e1, h.mono s.sub fun i b u hl hF => ?_⟩
      cases q : F' b with
      | none => rfl
      | some o =>
        rcases s.new b o q with z | z
        · rw [hF] at z; cases z
        · rw [r.ex b u (r.lk i b u hl)] at z; cases z
  own := r.own
/-- reading a name -/
def vget (ρ : Env) (i : Nat) : Option RV := match ρ[i]? with
  | some (some (.d x)) => some (.d x)
  | some (some (.o ds)) => some (.b ds)
  | some (some (.k ds)) => some (.b ds)
  | some (some (.g c)) => some (.gb c)
  | some (some .row) => some .row
  | _ => none
theorem Rel.get (r : Rel K R L E F ρ σ rs H) {i : Nat} {x : RV} (h : vget ρ i = some x) : ∃ v, σ[i]? = some (some v) ∧ VR K R F H H v x := by
  unfold vget at h
  cases e : ρ[i]? with
  | none => rw [e] at h; cases h
  | some o =>
    cases o with
    | none => rw [e] at h; cases h
    | some sv =>
      rw [e] at h
      obtain ⟨v, ev, q⟩ := r.sl i sv e
      refine ⟨v, ev, ?_⟩
      cases sv with
      | d x => cases h; exact q
      | k ds =>
        cases h
        obtain ⟨a, vs, hl, e1, h3⟩ := q
        have hE := r.lk _ a _ hl
        have hR : some a ≠ R.row := fun q => by
          have z := (r.rE a q.symm).1
          rw [hE] at z
          cases z
        exact ⟨a, vs, e1, r.ex a _ hE, hR, h3⟩
      | o ds =>
        cases h
        obtain ⟨a, vs, e1, h1, h2, h3, h4, h5⟩ := q
        exact ⟨a, vs, e1, h1, h4, h5⟩
      | g c =>
        cases h
        obtain ⟨a, vs, e1, h1, h2, h3, h4, h5⟩ := q
        exact ⟨a, vs, e1, h1, h4, h5⟩
      | un => cases h
      | ex _ _ => cases h
      | fn _ => cases h
      | lm => cases h
      | m _ => cases h
      | row => cases h; exact q
end

def ESem (K : PySem.W.Frag) (R : RA) (t : TE) (f : Env → M RV) : Prop :=
  ∀ (L : Nat → Option (Addr × HO)) (E : Hp) (ρ : Env) (σ : L2.St) (F H : Hp) (rs : RS) (x : RV) (rs' : RS) (Q : VK), Rel K R L E F ρ σ rs H → f ρ rs = some (x, rs') →
    (∀ v F' H', Step K R rs' F H F' H' → VR K R F' H H' v x → Q v H') → t σ H Q
def TSem (K : PySem.W.Frag) (R : RA) (t : TT) (f : Env → M Bool) : Prop :=
  ∀ (L : Nat → Option (Addr × HO)) (E : Hp) (ρ : Env) (σ : L2.St) (F H : Hp) (rs : RS) (x : Bool) (rs' : RS) (Q : Bool → Hp → Prop), Rel K R L E F ρ σ rs H → f ρ rs = some (x, rs') →
    (∀ F' H', Step K R rs' F H F' H' → Q x H') → t σ H Q
inductive VRs (K : PySem.W.Frag) (R : RA) (F H0 H : Hp) : List V → List RV → Prop
  | nil : VRs K R F H0 H [] []
  | cons {v : V} {vs : List V} {x : RV} {xs : List RV} : VR K R F H0 H v x → VRs K R F H0 H vs xs → VRs K R F H0 H (v :: vs) (x :: xs)
theorem VRs.len {R : RA} {F H0 H : Hp} : ∀ {vs : List V} {xs : List RV}, VRs K R F H0 H vs xs → vs.length = xs.length
  | _, _, .nil => rfl
  | _, _, .cons _ t => congrArg (· + 1) (VRs.len t)
theorem VRs.older {R : RA} {F H0 H1 H : Hp} (e : ∀ a, H1 a = none → H0 a = none) : ∀ {vs : List V} {xs : List RV}, VRs K R F H1 H vs xs → VRs K R F H0 H vs xs
  | _, _, .nil => .nil
  | _, _, .cons h t => .cons (h.older e) (VRs.older e t)
def ASem (K : PySem.W.Frag) (R : RA) (t : TA) (f : Env → M (List RV)) : Prop :=
  ∀ (L : Nat → Option (Addr × HO)) (E : Hp) (ρ : Env) (σ : L2.St) (F H : Hp) (rs : RS) (x : List RV) (rs' : RS) (Q : List V → Hp → Prop), Rel K R L E F ρ σ rs H → f ρ rs = some (x, rs') →
    (∀ vs F' H', Step K R rs' F H F' H' → VRs K R F' H H' vs x → Q vs H') → t σ H Q
structure DE (X : Cx) (R : RA) (e : Expr) (t : TE) (f : Env → M RV) : Prop where
  pe : PE X e t
  sem : ESem X.K R t f
structure DT (X : Cx) (R : RA) (e : Expr) (t : TT) (f : Env → M Bool) : Prop where
  pt : PT X e t
  sem : TSem X.K R t f
/-- in an and, an or -/
structure DW (X : Cx) (R : RA) (e : Expr) (t : TT) (f : Env → M Bool) : Prop where
  pw : PW X e t
  sem : TSem X.K R t f
structure DA (X : Cx) (R : RA) (es : List Expr) (t : TA) (f : Env → M (List RV)) : Prop where
  pa : PA X es t
  sem : ASem X.K R t f
end
end DV

namespace DV
open PySem L2 PySem.Spec PyProof.Rows
/-- the object of a new tuple -/
abbrev tupO (its : Array Value) : Obj := { cls := .type "tuple", data := .seq its }
/-- a new tuple stands at T -/
def NewT (H H' : Hp) (T : Addr) (vs : List V) : Prop := ∃ ob : Obj, ob.dict = none ∧ H' = upd H T (TupX ob vs)
/-- a new pair of the i-th of xs and the i-th of ys -/
def YPairX (xs ys : Nat → Option V) : Nat → Hp → V → Hp → Prop := fun i H v H' => ∃ T x y, v = .ref T ∧ H T = none ∧ NewT H H' T [x, y] ∧ xs i = some x ∧ ys i = some y
section
variable {X : Cx}
/-- a tuple is laid down at the heap's end -/
theorem laidX {pins : List (Addr × Obj)} {σ : L2.St} {H : Hp} {h : Heap} {g : Shared} {tk : Nat} {its : Array Value} {xs : List V} {Q : VK} (I : Inv X pins σ H { g with heap := h, toks := tk }) (hz : xs.length ≤ sizeLine) (r : Vals xs its.toList)
    (q : ∀ p ob, H p = none → ob.dict = none → Q (.ref p) (upd H p (TupX ob xs))) : EP X pins σ Q (.ref h.objs.size) { g with heap := h.push (tupO its), toks := tk } := by
  have e := Heap.get?_push_size h (o := tupO its) rfl
  have ok : ObjOk X.prog X.w (upd H h.objs.size (TupX (tupO its) xs)) (h.push (tupO its)) h.objs.size (TupX (tupO its) xs) := ⟨e, hz, its.toList, r, _, e, rfl, 0, by rw [Array.toArray_toList]⟩
  exact ⟨.ref h.objs.size, _, I.laid (t' := tk) (fun b o z => Heap.get?_push_of_some _ z) (Nat.le_refl _) ok, rfl, q _ _ (I.hok.fresh (Nat.le_refl _)) rfl⟩
def tTupX (t : TA) : TE := fun σ H Q => t σ H fun xs H1 => xs.length ≤ sizeLine ∧ ∀ p ob, H1 p = none → ob.dict = none → Q (.ref p) (upd H1 p (TupX ob xs))
theorem pe_tupX {es : List Expr} {t : TA} {pos : Pos} {x1} (h : PA X es t) : PE X (.Tuple es x1 pos) (tTupX t) :=
  ⟨fun pins s σ H Q I hq => wpAny_Tuple_spliced (thn (h.run pos pins s σ H _ I hq) fun us s1 hh => by
    obtain ⟨xs, H1, J, r, z, q⟩ := hh
    exact ⟨by rw [← r.length]; exact z, laidX (h := s1.heap) (tk := s1.toks) (its := us.toArray) J z (by simpa using r) q⟩)⟩
abbrev rTupX (K : PySem.W.Frag) : List V → Hp → VK → Prop := fun xs H Q => ∃ p ys, xs = [.ref p] ∧ ((SqL K H p ys ∧ ∀ l ob, H l = none → ob.dict = none → Q (.ref l) (upd H l (TupX ob ys))) ∨ (SqT K H p ys ∧ Q (.ref p) H))
theorem call_tupX : CallR X (.type "tuple") (rTupX X.K) := fun pins s σ H xs us Q I rs h => by
  obtain ⟨p, ys, e, h⟩ := h
  subst e
  obtain ⟨u, e, rx⟩ := vals1 rs
  subst e
  obtain rfl : u = Value.ref p := rx
  rcases h with ⟨hq, q⟩ | ⟨hq, q⟩
  · obtain ⟨its, r, pl, hz⟩ := I.list hq
    have hn := r.length
    exact call_tuple_list pl.isList (fun h' kp => laidX (h := h') (tk := s.toks) (its := its.toArray) (I.kept (t' := s.toks) kp) hz (by simpa using r) q) (by rw [List.size_toArray, ← hn]; exact hz)
  · obtain ⟨its, _, pl, _⟩ := I.tuple hq
    exact call_tuple_same pl ⟨.ref p, _, I, rfl, q⟩
def rCatX (K : PySem.W.Frag) : R2 := fun x y H Q => ∃ a b xs ys, x = .ref a ∧ y = .ref b ∧ SqT K H a xs ∧ SqT K H b ys ∧ xs.length + ys.length ≤ sizeLine ∧
  (xs = [] → Q (.ref b) H) ∧ (xs ≠ [] → ys = [] → Q (.ref a) H) ∧ (xs ≠ [] → ys ≠ [] → ∀ p ob, H p = none → ob.dict = none → Q (.ref p) (upd H p (TupX ob (xs ++ ys))))
theorem op_catX : OpR X (binaryOp .Add) (rCatX X.K) := fun pins s σ H x y v u Q I rx ry h => by
  obtain ⟨a, b, xs, ys, ex, ey, ha, hb, hz, q0, q1, q2⟩ := h
  subst ex ey
  by_cases hx : xs = []
  · exact op_catA pins s σ H _ _ v u Q I rx ry ⟨a, b, xs, ys, rfl, rfl, ha, hb, hz, q0, fun z => absurd hx z, fun z => absurd hx z⟩
  by_cases hy : ys = []
  · exact op_catA pins s σ H _ _ v u Q I rx ry ⟨a, b, xs, ys, rfl, rfl, ha, hb, hz, q0, q1, fun _ z => absurd hy z⟩
  obtain rfl : v = Value.ref a := rx
  obtain rfl : u = Value.ref b := ry
  obtain ⟨i1, r1, p1, _⟩ := I.tuple ha
  obtain ⟨i2, r2, p2, _⟩ := I.tuple hb
  refine HT.cat_tup p1 p2 (fun z => hx (r1.nil_iff.mp z)) (fun z => absurd (r2.nil_iff.mp z) hy) (fun z => ?_) (by rw [← r1.length, ← r2.length]; exact hz)
  exact laidX (h := s.heap) (tk := s.toks) (its := (i1 ++ i2).toArray) I (by rw [List.length_append]; exact hz) (by simpa using r1.append r2) (q2 hx hy)
def rRepX (K : PySem.W.Frag) : R2 := fun x y H Q => ∃ l k xs, x = .ref l ∧ y = .int k ∧ SqT K H l xs ∧ xs ≠ [] ∧ 2 ≤ k ∧ k ≤ 1000 ∧ xs.length ≤ 1000 ∧ ∀ p ob, H p = none → ob.dict = none → Q (.ref p) (upd H p (TupX ob (List.replicate k.toNat xs).flatten))
theorem op_repX : OpR X (binaryOp .Mult) (rRepX X.K) := fun pins s σ H x y v u Q I rx ry h => by
  obtain ⟨l, k, xs, ex, ey, hT, hne, h1, h2, hz, q⟩ := h
  subst ex ey
  obtain rfl : v = Value.ref l := rx
  obtain ⟨t, rfl⟩ := ry
  obtain ⟨its, r, ⟨⟨cls, dd, data, sl⟩, ho, hc, n, hd⟩, hs⟩ := I.tuple hT
  simp only at hc hd
  subst hc hd
  have hle : its.length = xs.length := r.length.symm
  have hi : its.toArray.isEmpty = false := by
    cases its with
    | nil => exact absurd (List.eq_nil_of_length_eq_zero hle.symm) hne
    | cons _ _ => rfl
  have hk : k.toNat * xs.length ≤ 1000 * 1000 := Nat.mul_le_mul (by omega) hz
  have hm : ((its.toArray.size : Nat) : Int) * k ≤ 1000000 := by
    rw [List.size_toArray, hle]
    have h3 : ((xs.length : Nat) : Int) * k ≤ 1000 * k := Int.mul_le_mul_of_nonneg_right (by omega) (by omega)
    omega
  have flen : (List.replicate k.toNat its).flatten.length ≤ sizeLine := by
    rw [lm_len_rep_flat, hle, sizeLine_eq]
    omega
  have flenx : (List.replicate k.toNat xs).flatten.length ≤ sizeLine := by
    rw [lm_len_rep_flat, sizeLine_eq]
    omega
  have c0 : (decide (k < -(2 ^ 63)) || decide (k ≥ 2 ^ 63)) = false := by
    rw [decide_eq_false (by omega), decide_eq_false (by omega)] <;> rfl
  have c1 : (its.toArray.isEmpty || k == 1) = false := by rw [hi, Bool.false_or]; exact beq_eq_false_iff_ne.mpr (by omega)
  have c2 : (decide (k ≤ 0) || its.toArray.isEmpty) = false := by rw [hi, Bool.or_false]; exact decide_eq_false (by omega)
  have c4 : Builtin.Tuple.tupleTooMany (((its.toArray.size : Nat) : Int) * k) = false := by unfold Builtin.Tuple.tupleTooMany; rw [sizeLine_eq]; exact decide_eq_false (by omega)
  have hT1 : s.TypeIs (.ref l) "tuple" := ⟨_, ho, rfl⟩
  refine wpAny_binaryOp_repeat_ref (T := "tuple") (U := "int") (by decide) hT1 (fun z => typeIs_int z k t) noFill_tuple_mul F.fills_int_mul F.slot_int_rmul repeat_tuple F.slot_int_index.lookup ?_
  refine call_meets F.slot_int_rmul (typeIs_int s k t) F.entry_int_rmul (F.args_int_rmul_2 _ _) (int_rmul_tuple k t l its.toArray n dd sl) ⟨ho, rfl, hT1, ?_⟩
  refine call_meets F.slot_tuple_mul hT1 F.entry_tuple_mul (F.args_tuple_mul_2 _ _) (tuple_mulW l its.toArray n dd sl k t c0 c1 c2 (by omega) c4 (by rw [size_rep, List.size_toArray]; exact flen)) ⟨ho, ?_⟩
  rw [size_rep]
  exact laidX (h := s.heap) (tk := s.toks) (its := (List.replicate k.toNat its).flatten.toArray) I flenx (by simpa using r.rep k.toNat) q
end
end DV

namespace DV
open PySem L2

def asInt : RV → Option Int
  | .d (.int i) => some i
  | _ => none
def asBool : RV → Option Bool
  | .d (.bool b) => some b
  | _ => none
/-- the items of a list or tuple -/
def items : RV → Option (List D)
  | .d (.tuple ds) => some ds
  | .d (.list ds) => some ds
  | .b ds => some ds
  | .n ds => some ds
  | _ => none
/-- as data (a new list is from then on never changed) -/
def toD : RV → Option D
  | .d x => some x
  | .n ds => some (.list ds)
  | _ => none
def toDs : List RV → Option (List D)
  | [] => some []
  | x :: xs => match toD x, toDs xs with
    | some d, some ds => some (d :: ds)
    | _, _ => none
section
variable {K : PySem.W.Frag} {R : RA} {F F' H0 H H' : Hp} {rs rs' : RS}
/-- a sequence at an address: a list or a tuple -/
theorem VR.items {v : V} {x : RV} {ds : List D} (s : Step K R rs F H F H) (h : VR K R F H0 H v x) (e : DV.items x = some ds) :
    ∃ a vs, v = .ref a ∧ (SqL K H a vs ∨ SqT K H a vs) ∧ DpAll K F vs ds := by
  cases x with
  | d x =>
    cases x with
    | tuple es =>
      cases e
      cases h with
      | tup h1 h2 => exact ⟨_, _, rfl, .inr (ex_t (s.fin _) h1), h2⟩
    | list es =>
      cases e
      cases h with
      | lst h1 h2 => exact ⟨_, _, rfl, .inl (ex_l (s.fin _) h1), h2⟩
    | none => cases e
    | bool _ => cases e
    | int _ => cases e
    | str _ => cases e
    | dict _ => cases e
  | b es =>
    cases e
    obtain ⟨a, vs, e1, h1, h2, h3⟩ := h
    exact ⟨a, vs, e1, .inl (.inl (.inl h1)), h3⟩
  | n es =>
    cases e
    obtain ⟨a, vs, e1, h1, h0, h2, h3, h4⟩ := h
    exact ⟨a, vs, e1, .inl (.inl (.inl h1)), h4⟩
  | gb _ => cases e
  | gn _ => cases e
  | row => cases e
theorem VR.int {v : V} {x : RV} {i : Int} (h : VR K R F H0 H v x) (e : asInt x = some i) : v = .int i := by
  cases x with
  | d x =>
    cases x with
    | int j => cases e; cases h; rfl
    | _ => cases e
  | _ => cases e
theorem VR.bool {v : V} {x : RV} {i : Bool} (h : VR K R F H0 H v x) (e : asBool x = some i) : v = .bl i := by
  cases x with
  | d x =>
    cases x with
    | bool j => cases e; cases h; rfl
    | _ => cases e
  | _ => cases e
/-- F grows by things that are new since H0 -/
theorem VRs.freeze (s : Step K R rs F H F H) : ∀ {vs : List V} {xs : List RV} {ds : List D}, VRs K R F H0 H vs xs → toDs xs = some ds →
    ∃ F', (∀ a o, F a = some o → F' a = some o) ∧ (∀ a o, F' a = some o → F a = some o ∨ H0 a = none) ∧ (∀ a o, F' a = some o → H a = some o) ∧ (∀ r, R.row = some r → F' r = none) ∧ (∀ a o, F' a = some o → Fx K a o) ∧ DpAll K F' vs ds
  | _, _, _, .nil, e => by
    cases e
    exact ⟨F, fun _ _ h => h, fun _ _ h => .inl h, s.fin, s.rF, s.row.fnt, .nil⟩
  | _, _, _, .cons (v := v) (x := x) (xs := xs) hx ht, e => by
    unfold toDs at e
    cases e1 : toD x with
    | none => rw [e1] at e; cases e
    | some d =>
      cases e2 : toDs xs with
      | none => rw [e1, e2] at e; cases e
      | some es =>
        rw [e1, e2] at e
        cases e
        obtain ⟨F1, k1, k2, k3, k4, k5, hA⟩ := VRs.freeze s ht e2
        cases x with
        | d y =>
          cases e1
          exact ⟨F1, k1, k2, k3, k4, k5, .cons (Dp.mono k1 _ _ hx) hA⟩
        | n y =>
          cases e1
          obtain ⟨a, ws, rfl, h1, h0, h2, h3, h4⟩ := hx
          have ku : ∀ b o, F1 b = some o → upd F1 a (.lst ws) b = some o := fun b o q => by
            by_cases eb : b = a
            · subst eb
              rw [upd_same]
              have := k3 b o q
              rw [h1] at this
              exact this
            · rw [upd_ne eb]; exact q
          refine ⟨upd F1 a (.lst ws), fun b o q => ku b o (k1 b o q), fun b o q => ?_, fun b o q => ?_, fun r er => ?_, fun b o q => ?_, .cons (.lst (.inl (.inl upd_same)) (Dp.monoA (fun b o q => ku b o (k1 b o q)) _ _ h4)) (Dp.monoA ku _ _ hA)⟩
          · by_cases eb : b = a
            · subst eb; exact .inr h0
            · rw [upd_ne eb] at q; exact k2 b o q
          · by_cases eb : b = a
            · subst eb
              rw [upd_same] at q
              rw [h1]; exact q
            · rw [upd_ne eb] at q; exact k3 b o q
          · rw [upd_ne (fun z => h3 (by rw [er, z]))]
            exact k4 r er
          · by_cases eb : b = a
            · subst eb; rw [upd_same] at q; cases q; exact .lst
            · rw [upd_ne eb] at q; exact k5 b o q
        | b y => cases e1
        | gb _ => cases e1
        | gn _ => cases e1
        | row => cases e1
/-- a new object at p -/
theorem Step.new_lst {p : Addr} {vs : List V} (s : Step K R rs F H F H) (hp : H p = none) : Step K R rs F H F (upd H p (.lst vs)) ∧ F p = none ∧ some p ≠ R.row := by
  have hr : some p ≠ R.row := fun q => by
    obtain ⟨a, e, _⟩ := s.row.at_ p q.symm
    rw [hp] at e; cases e
  have hF : F p = none := by
    cases q : F p with
    | none => rfl
    | some o =>
      have := s.fin p o q
      rw [hp] at this; cases this
  refine ⟨⟨fun a o h _ _ => by rw [upd_ne (ne_of_none h hp)]; exact h, fun _ _ h => h, fun _ _ h => .inl h, fun a o h => by rw [upd_ne (ne_of_none (s.fin a o h) hp)]; exact s.fin a o h, ⟨fun r e => ?_, tabs_upd s.row.tab (.inl hp), s.row.fnt⟩, s.rF⟩, hF, hr⟩
  obtain ⟨a, e1, h1, h3⟩ := s.row.at_ r e
  exact ⟨a, by rw [upd_ne (ne_of_none e1 hp)]; exact e1, h1, h3⟩
theorem Step.new_tup {p : Addr} {ob : Obj} {vs : List V} (s : Step K R rs F H F H) (hp : H p = none) : Step K R rs F H (upd F p (TupX ob vs)) (upd H p (TupX ob vs)) := by
  have hr : some p ≠ R.row := fun q => by
    obtain ⟨a, e, _⟩ := s.row.at_ p q.symm
    rw [hp] at e; cases e
  refine ⟨fun a o h _ _ => by rw [upd_ne (ne_of_none h hp)]; exact h, fun a o h => ?_, fun a o h => ?_, fun a o h => ?_, ⟨fun r e => ?_, tabs_upd s.row.tab (.inl hp), fun a o h => ?_⟩, fun r e => ?_⟩
  · rw [upd_ne (ne_of_none (s.fin a o h) hp)]; exact h
  · by_cases eb : a = p
    · subst eb; exact .inr hp
    · rw [upd_ne eb] at h; exact .inl h
  · by_cases eb : a = p
    · subst eb; rw [upd_same] at h ⊢; exact h
    · rw [upd_ne eb] at h ⊢; exact s.fin a o h
  · obtain ⟨a, e1, h1, h3⟩ := s.row.at_ r e
    exact ⟨a, by rw [upd_ne (ne_of_none e1 hp)]; exact e1, ex_l (fun o q => by rw [upd_ne (ne_of_none (s.fin _ _ q) hp)]; exact q) h1, h3⟩
  · by_cases eb : a = p
    · subst eb; rw [upd_same] at h; cases h; exact .tupX
    · rw [upd_ne eb] at h; exact s.row.fnt a o h
  · rw [upd_ne (fun z => hr (by rw [e, z]))]
    exact s.rF r e
end

section
variable {X : Cx} {R : RA} {a b c e : Expr} {es : List Expr} {ta tb tc te : TE} {tt uu : TT} {t u : TA} {f g h : Env → M RV} {pos : Pos}

def eVar (i : Nat) : Env → M RV := fun ρ => lft (vget ρ i)
def eC (d : D) : Env → M RV := fun _ => ret (.d d)
theorem esem_var (K : PySem.W.Frag) (i : Nat) : ESem K R (tVar i) (eVar i) := fun L E ρ σ F H rs x rs' Q r hf k => by
  obtain ⟨e, rfl⟩ := lft_some hf
  obtain ⟨v, ev, hv⟩ := r.get e
  exact ⟨v, ev, k v F H r.refl hv⟩
theorem de_var (i : Nat) {x : Str} (hN : X.N[i]? = some x := by rfl) (hv : Vis X.env.scope x := by first | exact Or.inl rfl | exact Or.inr (Or.inl rfl) | exact Or.inr (Or.inr rfl)) (hd : (x == ("__debug__" : Str)) = false := by decide)
    (hcd : (x == ("__classdict__" : Str)) = false := by decide) : DE X R (.Name x pos) (tVar i) (eVar i) := ⟨pe_var hN hv hd hcd, esem_var _ i⟩
theorem esem_c (K : PySem.W.Frag) {v : V} {d : D} (h : ∀ F, Dp K F v d) : ESem K R (tC v) (eC d) := fun L E ρ σ F H rs x rs' Q r hf k => by
  obtain ⟨e, rfl⟩ := ret_some hf
  subst e
  exact k v F H r.refl (h F)
theorem de_int {i : Int} {j} : DE X R (.Constant (.int i) j pos) (tC (.int i)) (eC (.int i)) := ⟨pe_int, esem_c _ fun _ => .int i⟩
theorem de_bl {i : Bool} {j} : DE X R (.Constant (.bool i) j pos) (tC (.bl i)) (eC (.bool i)) := ⟨pe_bl, esem_c _ fun _ => .bl i⟩
theorem de_non {j} : DE X R (.Constant .none j pos) (tC .non) (eC .none) := ⟨pe_non, esem_c _ fun _ => .non⟩
/-- a module's constant -/
theorem de_globI {x : Str} {i : Int} {tk : Tok} (hg : Gl X x) (hm : X.mg x = some (.int i tk)) (hd : (x == ("__debug__" : Str)) = false := by decide) : DE X R (.Name x pos) (tC (.int i)) (eC (.int i)) :=
  ⟨pe_glob hg hm ⟨_, rfl⟩ hd, esem_c _ fun _ => .int i⟩

def RSem (K : PySem.W.Frag) (R : RA) (r : R2) (g : RV → RV → Option RV) : Prop :=
  ∀ (F H0 H : Hp) (rs : RS) (x y : V) (p q z : RV) (Q : VK), Step K R rs F H F H → VR K R F H0 H x p → VR K R F H0 H y q → g p q = some z →
    (∀ v F' H', Step K R rs F H F' H' → VR K R F' H H' v z → Q v H') → r x y H Q
def e2 (g : RV → RV → Option RV) (f h : Env → M RV) : Env → M RV := fun ρ => bnd (f ρ) fun x => bnd (h ρ) fun y => lft (g x y)
theorem esem_op {K : PySem.W.Frag} {r : R2} {g : RV → RV → Option RV} (hr : RSem K R r g) (ha : ESem K R ta f) (hb : ESem K R tb h) : ESem K R (tOp r ta tb) (e2 g f h) := fun L E ρ σ F H rs x rs' Q r0 hf k => by
  obtain ⟨x1, rs1, e1, hf⟩ := bnd_some hf
  obtain ⟨x2, rs2, e2, hf⟩ := bnd_some hf
  obtain ⟨e3, rfl⟩ := lft_some hf
  refine ha L E ρ σ F H rs x1 rs1 _ r0 e1 fun v1 F1 H1 s1 h1 => ?_
  refine hb L E ρ σ F1 H1 rs1 x2 rs' _ (r0.step s1) e2 fun v2 F2 H2 s2 h2 => ?_
  have s12 := s1.trans r0.row s2
  refine hr F2 H H2 rs' v1 v2 x1 x2 x Q ((r0.step s1).step s2).refl (h1.step s2) (h2.older fun a q => s1.back r0.row q) e3 fun v3 F3 H3 s3 h3 => ?_
  exact k v3 F3 H3 (s12.trans r0.row s3) (h3.older fun a q => s12.back r0.row q)
theorem de_op {op : Operator} {r : R2} {g : RV → RV → Option RV} (ho : OpR X (binaryOp op) r) (hr : RSem X.K R r g) (ha : DE X R a ta f) (hb : DE X R b tb h) : DE X R (.BinOp a op b pos) (tOp r ta tb) (e2 g f h) :=
  ⟨pe_op ho ha.pe hb.pe, esem_op hr ha.sem hb.sem⟩
theorem de_cmp {op : CmpOp} {r : R2} {g : RV → RV → Option RV} (ho : OpR X (compareOp op) r) (hr : RSem X.K R r g) (ha : DE X R a ta f) (hb : DE X R b tb h) (hm : behindInMarks op b = false) : DE X R (.Compare a [op] [b] pos) (tOp r ta tb) (e2 g f h) :=
  ⟨pe_cmpR ho ha.pe hb.pe hm, esem_op hr ha.sem hb.sem⟩
def eT (f : Env → M RV) : Env → M Bool := fun ρ => bnd (f ρ) fun x => lft (asBool x)
theorem tsem_of {K : PySem.W.Frag} (he : ESem K R te f) : TSem K R (tTest te) (eT f) := fun L E ρ σ F H rs x rs' Q r hf k => by
  obtain ⟨x1, rs1, e1, hf⟩ := bnd_some hf
  obtain ⟨e2, rfl⟩ := lft_some hf
  exact he L E ρ σ F H rs x1 rs' _ r e1 fun v1 F1 H1 s1 h1 => ⟨x, h1.bool e2, k F1 H1 s1⟩
theorem dt_cmp {op : CmpOp} {r : R2} {g : RV → RV → Option RV} (ho : OpR X (compareOp op) r) (hr : RSem X.K R r g) (ha : DE X R a ta f) (hb : DE X R b tb h) (hm : behindInMarks op b = false) :
    DT X R (.Compare a [op] [b] pos) (tTest (tOp r ta tb)) (eT (e2 g f h)) := ⟨pt_cmpR ho ha.pe hb.pe hm, tsem_of (esem_op hr ha.sem hb.sem)⟩
theorem dt_val (he : DE X R e te f) (hw : ∀ whole, isTrue e X.env whole = (do let v ← whole; standAt e.pos; holding [v] (truthy v)) := by intro _; rfl) : DT X R e (tB te) (eT f) := ⟨pt_val he.pe hw, tsem_of he.sem⟩

def eCh (g g' : RV → RV → Option RV) (f h k : Env → M RV) : Env → M RV := fun ρ => bnd (f ρ) fun x => bnd (h ρ) fun y => bnd (lft (g x y)) fun b => bnd (lft (asBool b)) fun c =>
  if c = true then bnd (k ρ) fun w => lft (g' y w) else ret (.d (.bool false))
theorem esem_chain {K : PySem.W.Frag} {r r' : R2} {g g' : RV → RV → Option RV} {k : Env → M RV} (hr : RSem K R r g) (hr' : RSem K R r' g') (ha : ESem K R ta f) (hb : ESem K R tb h) (hc : ESem K R tc k) :
    ESem K R (tChain r r' ta tb tc) (eCh g g' f h k) := fun L E ρ σ F H rs x rs' Q r0 hf kk => by
  obtain ⟨x1, rs1, e1, hf1⟩ := bnd_some hf
  obtain ⟨x2, rs4, e2, hf2⟩ := bnd_some hf1
  obtain ⟨z, rs3, e3', hf3⟩ := bnd_some hf2
  obtain ⟨e3, q3⟩ := lft_some e3'
  obtain ⟨c, rs5, e4', hf4⟩ := bnd_some hf3
  obtain ⟨e4, q4⟩ := lft_some e4'
  rw [q4, q3] at hf4
  clear e3' e4' hf hf1 hf2 hf3
  refine ha L E ρ σ F H rs x1 rs1 _ r0 e1 fun v1 F1 H1 s1 h1 => ?_
  refine hb L E ρ σ F1 H1 rs1 x2 rs4 _ (r0.step s1) e2 fun v2 F2 H2 s2 h2 => ?_
  have s12 := s1.trans r0.row s2
  have h2' := h2.older (H0 := H) fun a q => s1.back r0.row q
  refine hr F2 H H2 rs4 v1 v2 x1 x2 z _ (Rel.refl ((r0.step s1).step s2)) (h1.step s2) h2' e3 fun v3 F3 H3 s3 h3 => ?_
  have s13 := s12.trans r0.row s3
  refine ⟨c, h3.bool e4, ?_⟩
  cases c with
  | false =>
    rw [if_neg Bool.false_ne_true] at hf4
    obtain ⟨e5, rfl⟩ := ret_some hf4
    subst e5
    exact kk _ F3 H3 s13 (.bl false)
  | true =>
    rw [if_pos rfl] at hf4
    obtain ⟨x5, rs5, e5, hf5⟩ := bnd_some hf4
    obtain ⟨e6, rfl⟩ := lft_some hf5
    refine hc L E ρ σ F3 H3 rs4 x5 rs' _ (r0.step s13) e5 fun v5 F5 H5 s5 h5 => ?_
    have s15 := s13.trans r0.row s5
    refine hr' F5 H H5 rs' v2 v5 x2 x5 x Q (r0.step s15).refl ((h2'.step s3).step s5) (h5.older fun a q => s13.back r0.row q) e6 fun v6 F6 H6 s6 h6 => ?_
    exact kk v6 F6 H6 (s15.trans r0.row s6) (h6.older fun a q => s15.back r0.row q)
theorem de_chain {op op' : CmpOp} {r r' : R2} {g g' : RV → RV → Option RV} {k : Env → M RV} (ho : OpR X (compareOp op) r) (ho' : OpR X (compareOp op') r') (hr : RSem X.K R r g) (hr' : RSem X.K R r' g')
    (ha : DE X R a ta f) (hb : DE X R b tb h) (hc : DE X R c tc k) (hm : lastMarks [op, op'] [b, c] = false := by with_unfolding_all rfl) : DE X R (.Compare a [op, op'] [b, c] pos) (tChain r r' ta tb tc) (eCh g g' f h k) :=
  ⟨pe_chain ho ho' ha.pe hb.pe hc.pe hm, esem_chain hr hr' ha.sem hb.sem hc.sem⟩
def gI (C : Int → Int → Bool) (k : Int → Int → D) : RV → RV → Option RV := fun x y => match asInt x, asInt y with
  | some i, some j => if C i j = true then some (.d (k i j)) else none
  | _, _ => none
theorem rsem_I {K : PySem.W.Frag} {C : Int → Int → Prop} {Cb : Int → Int → Bool} {kv : Int → Int → V} {k : Int → Int → D} (hC : ∀ i j, Cb i j = true → C i j) (hk : ∀ F i j, Dp K F (kv i j) (k i j)) : RSem K R (rI C kv) (gI Cb k) :=
  fun F H0 H rs x y p q z Q s hx hy e kk => by
    unfold gI at e
    cases e1 : asInt p with
    | none => rw [e1] at e; cases e
    | some i =>
      cases e2 : asInt q with
      | none => rw [e1, e2] at e; cases e
      | some j =>
        rw [e1, e2] at e
        by_cases hc : Cb i j = true
        · simp only [hc, if_true] at e
          cases e
          exact ⟨i, j, hx.int e1, hy.int e2, hC i j hc, kk _ F H s (hk F i j)⟩
        · simp only [hc] at e
          cases e
theorem rsem_I0 {K : PySem.W.Frag} {kv : Int → Int → V} {k : Int → Int → D} (hk : ∀ F i j, Dp K F (kv i j) (k i j)) : RSem K R (rI0 kv) (gI (fun _ _ => true) k) :=
  fun F H0 H rs x y p q z Q s hx hy e kk => by
    obtain ⟨i, j, h1, h2, _, h4⟩ := rsem_I (C := fun _ _ => True) (kv := kv) (fun _ _ _ => trivial) hk F H0 H rs x y p q z Q s hx hy e kk
    exact ⟨i, j, h1, h2, h4⟩
/-- a product: one factor below 2^64 in size -/
def cMul (i j : Int) : Bool := (decide (-18446744073709551616 < i) && decide (i < 18446744073709551616)) || (decide (-18446744073709551616 < j) && decide (j < 18446744073709551616))
theorem cMul_ok (i j : Int) (h : cMul i j = true) : CMul i j := by
  unfold cMul at h
  simp only [Bool.or_eq_true, Bool.and_eq_true, decide_eq_true_eq] at h
  unfold CMul
  exact h
def cDiv (i j : Int) : Bool := decide (0 < j) && decide (j < 1073741824)
theorem cDiv_ok (i j : Int) (h : cDiv i j = true) : CDiv i j := by
  unfold cDiv at h
  simp only [Bool.and_eq_true, decide_eq_true_eq] at h
  exact h
def cPos (i j : Int) : Bool := decide (0 < j)
def cPow (i j : Int) : Bool := decide (0 ≤ j) && (decide (j ≤ 1000000) && decide (i.natAbs < 18446744073709551616))
theorem cPow_ok (i j : Int) (h : cPow i j = true) : CPow i j := by
  unfold cPow at h
  simp only [Bool.and_eq_true, decide_eq_true_eq] at h
  exact h
abbrev gSubI := gI (fun _ _ => true) fun i j => .int (i - j)
abbrev gFdiv := gI cDiv fun i j => .int (i / j)
abbrev gMod := gI cPos fun i j => .int (i % j)
abbrev gPow := gI cPow fun i j => .int (i ^ j.toNat)
abbrev gLt := gI (fun _ _ => true) fun i j => .bool (decide (i < j))
abbrev gLe := gI (fun _ _ => true) fun i j => .bool (decide (i ≤ j))
abbrev gGt := gI (fun _ _ => true) fun i j => .bool (decide (j < i))
abbrev gGe := gI (fun _ _ => true) fun i j => .bool (decide (j ≤ i))
end
end DV

namespace DV
open PySem L2

/-- as data, where it is read at once -/
def viewD : RV → Option D
  | .d x => some x
  | .b ds => some (.list ds)
  | .n ds => some (.list ds)
  | .gb _ => none
  | .gn _ => none
  | .row => none
section
variable {K : PySem.W.Frag} {R : RA} {F F' H0 H H' : Hp} {rs rs' : RS}
theorem VR.view {v : V} {x : RV} {d : D} (s : Step K R rs F H F H) (h : VR K R F H0 H v x) (e : viewD x = some d) : Dp K H v d := by
  cases x with
  | d x => cases e; exact Dp.mono s.fin _ _ h
  | b ds =>
    cases e
    obtain ⟨a, vs, rfl, h1, h2, h3⟩ := h
    exact .lst (.inl (.inl h1)) (Dp.monoA s.fin _ _ h3)
  | n ds =>
    cases e
    obtain ⟨a, vs, rfl, h1, h0, h2, h3, h4⟩ := h
    exact .lst (.inl (.inl h1)) (Dp.monoA s.fin _ _ h4)
  | gb _ => cases e
  | gn _ => cases e
  | row => cases e
end

section
variable {X : Cx} {R : RA} {K : PySem.W.Frag} {a b c e : Expr} {es : List Expr} {ta tb tc te : TE} {tt uu : TT} {t u : TA} {f g h : Env → M RV} {pos : Pos}

def gEqB (neg : Bool) : RV → RV → Option RV := fun x y => match viewD x, viewD y with
  | some d, some e => if SeqAt.shaped d = true then if SeqAt.shaped e = true then some (.d (.bool (if neg then !PyData.eqv d e else PyData.eqv d e))) else none else none
  | _, _ => none
abbrev gEq := gEqB false
abbrev gNe := gEqB true
theorem gEqB_some {neg : Bool} {x y z : RV} (h : gEqB neg x y = some z) : ∃ d e, viewD x = some d ∧ viewD y = some e ∧ SeqAt.shaped d = true ∧ SeqAt.shaped e = true ∧ z = .d (.bool (if neg then !PyData.eqv d e else PyData.eqv d e)) := by
  unfold gEqB at h
  cases e1 : viewD x with
  | none => rw [e1] at h; cases h
  | some d =>
    cases e2 : viewD y with
    | none => rw [e1, e2] at h; cases h
    | some e =>
      rw [e1, e2] at h
      by_cases s1 : SeqAt.shaped d = true
      · by_cases s2 : SeqAt.shaped e = true
        · simp only [s1, s2, if_true] at h
          exact ⟨d, e, rfl, rfl, s1, s2, (Option.some.inj h).symm⟩
        · simp only [s1, s2, if_true] at h; cases h
      · simp only [s1] at h; cases h
theorem rsem_eq : RSem K R (rEqD K) gEq := fun F H0 H rs x y p q z Q s hx hy e kk => by
  obtain ⟨d, e', e1, e2, s1, s2, rfl⟩ := gEqB_some e
  exact ⟨d, e', (hx.view s e1).kit _ _, (hy.view s e2).kit _ _, s1, s2, kk _ F H s (.bl _)⟩
theorem rsem_ne : RSem K R (rNeD K) gNe := fun F H0 H rs x y p q z Q s hx hy e kk => by
  obtain ⟨d, e', e1, e2, s1, s2, rfl⟩ := gEqB_some e
  exact ⟨d, e', (hx.view s e1).kit _ _, (hy.view s e2).kit _ _, s1, s2, kk _ F H s (.bl _)⟩
/-- in a list or tuple -/
def seqD (y : D) (ds : List D) : Prop := y = .list ds ∨ y = .tuple ds
def rInA (K : PySem.W.Frag) (neg : Bool) : R2 := fun x y H Q => ∃ d ds e, L2.Dp K H x d ∧ L2.Dp K H y e ∧ seqD e ds ∧ SeqAt.shaped d = true ∧ SeqAt.shaped (.list ds) = true ∧ Q (.bl (if neg then !(ds.any fun z => PyData.eqv z d) else ds.any fun z => PyData.eqv z d)) H
theorem op_notInA (hu : X.A.units + 65 < cLine) : OpR X (compareOp .NotIn) (rInA X.K true) := by
  intro pins s σ H x y v u Q I rx ry h
  obtain ⟨d, ds, e, hd, he, hs, sd, se, q⟩ := h
  obtain ⟨as, r1⟩ := L2.Dp.reads I d x v hd rx
  obtain ⟨bs, r2⟩ := L2.Dp.reads I e y u he ry
  rcases hs with rfl | rfl
  · exact SeqAt.notIn_list_reads r2 r1 (SeqAt.canLay_of_shaped se) (SeqAt.canLay_of_shaped sd) (PyProof.Rows.room_in_shaped sd hu) ⟨.bl _, H, I, rfl, q⟩
  · exact SeqAt.notIn_tuple_reads r2 r1 (SeqAt.canLay_of_shaped se) (SeqAt.canLay_of_shaped sd) (PyProof.Rows.room_in_shaped sd hu) ⟨.bl _, H, I, rfl, q⟩
def gInB (neg : Bool) : RV → RV → Option RV := fun x y => match viewD x, items y with
  | some d, some ds => if SeqAt.shaped d = true then if SeqAt.shaped (.list ds) = true then some (.d (.bool (if neg then !(ds.any fun z => PyData.eqv z d) else ds.any fun z => PyData.eqv z d))) else none else none
  | _, _ => none
abbrev gIn := gInB false
abbrev gNotIn := gInB true
theorem VR.seqD {v : V} {x : RV} {ds : List D} {F H0 H : Hp} {rs : RS} (s : Step K R rs F H F H) (h : VR K R F H0 H v x) (e : DV.items x = some ds) : ∃ y, L2.Dp K H v y ∧ DV.seqD y ds := by
  obtain ⟨a, vs, rfl, h1, h2⟩ := h.items s e
  rcases h1 with h1 | h1
  · exact ⟨.list ds, .lst h1 ((Dp.monoA s.fin _ _ h2).kit _ _), .inl rfl⟩
  · exact ⟨.tuple ds, .tup h1 ((Dp.monoA s.fin _ _ h2).kit _ _), .inr rfl⟩
theorem rsem_in (neg : Bool) : RSem K R (rInA K neg) (gInB neg) := fun F H0 H rs x y p q z Q s hx hy e kk => by
  unfold gInB at e
  cases e1 : viewD p with
  | none => rw [e1] at e; cases e
  | some d =>
    cases e2 : items q with
    | none => rw [e1, e2] at e; cases e
    | some ds =>
      rw [e1, e2] at e
      by_cases s1 : SeqAt.shaped d = true
      · by_cases s2 : SeqAt.shaped (.list ds) = true
        · simp only [s1, s2, if_true] at e
          obtain ⟨y', h1, h2⟩ := hy.seqD s e2
          have e := Option.some.inj e
          subst e
          exact ⟨d, ds, y', (hx.view s e1).kit _ _, h1, h2, s1, s2, kk _ F H s (.bl _)⟩
        · simp only [s1, s2, if_true] at e; cases e
      · simp only [s1] at e; cases e
/-- is None -/
def isNoneD : D → Bool
  | .none => true
  | _ => false
def gIsN (neg : Bool) : RV → RV → Option RV := fun x y => match viewD x, y with
  | some d, .d .none => some (.d (.bool (if neg then !isNoneD d else isNoneD d)))
  | _, _ => none
theorem none_iff {v : V} {d : D} {F : Hp} (h : Dp K F v d) : decide (v = V.non) = isNoneD d := by
  cases h <;> rfl
theorem gIsN_some {neg : Bool} {x y z : RV} (h : gIsN neg x y = some z) : ∃ d, viewD x = some d ∧ y = .d .none ∧ z = .d (.bool (if neg then !isNoneD d else isNoneD d)) := by
  unfold gIsN at h
  cases e1 : viewD x with
  | none => rw [e1] at h; cases h
  | some d =>
    rw [e1] at h
    cases y with
    | d y =>
      cases y with
      | none => exact ⟨d, rfl, rfl, (Option.some.inj h).symm⟩
      | _ => cases h
    | _ => cases h
theorem rsem_isN : RSem K R (fun x y H Q => y = .non ∧ Q (.bl (decide (x = .non))) H) (gIsN false) := fun F H0 H rs x y p q z Q s hx hy e kk => by
  obtain ⟨d, e1, rfl, rfl⟩ := gIsN_some e
  cases hy
  refine ⟨rfl, kk _ F H s ?_⟩
  rw [none_iff (hx.view s e1)]
  exact .bl _
theorem rsem_notN : RSem K R (fun x y H Q => y = .non ∧ Q (.bl (!decide (x = .non))) H) (gIsN true) := fun F H0 H rs x y p q z Q s hx hy e kk => by
  obtain ⟨d, e1, rfl, rfl⟩ := gIsN_some e
  cases hy
  refine ⟨rfl, kk _ F H s ?_⟩
  rw [none_iff (hx.view s e1)]
  exact .bl _

def gIx : RV → RV → Option RV := fun x y => match items x, asInt y with
  | some ds, some i => (atI ds i).map RV.d
  | _, _ => none
theorem rsem_ix : RSem K R (rIx K) gIx := fun F H0 H rs x y p q z Q s hx hy e kk => by
  unfold gIx at e
  cases e1 : items p with
  | none => rw [e1] at e; cases e
  | some ds =>
    cases e2 : asInt q with
    | none => rw [e1, e2] at e; cases e
    | some i =>
      rw [e1, e2] at e
      obtain ⟨a, vs, rfl, h1, h2⟩ := hx.items s e1
      have e' : (atI ds i).map RV.d = some z := e
      cases e3 : atI ds i with
      | none => rw [e3] at e'; cases e'
      | some d =>
        rw [e3] at e'
        cases e'
        unfold atI at e3
        cases e4 : ixN ds.length i with
        | none => rw [e4] at e3; cases e3
        | some j =>
          rw [e4] at e3
          obtain ⟨v, hv, hd⟩ := h2.get (show ds[j]? = some d from e3)
          have hat : atI vs i = some v := by
            unfold atI
            rw [h2.len, e4]
            exact hv
          rcases h1 with h1 | h1
          · exact .inl ⟨a, vs, i, v, rfl, hy.int e2, h1, hat, kk _ F H s hd⟩
          · exact .inr (.inl ⟨a, vs, i, v, rfl, hy.int e2, h1, hat, kk _ F H s hd⟩)
theorem de_ix (ha : DE X R a ta f) (hb : DE X R b tb h) (hs : PlainIx b := by exact fun _ _ => rfl) : DE X R (.Subscript a b pos) (tOp (rIx X.K) ta tb) (e2 gIx f h) :=
  ⟨pe_ix ix_seq ha.pe hb.pe hs, esem_op rsem_ix ha.sem hb.sem⟩
def cutD (xs : List D) (lo hi : Option Int) : List D := (xs.drop (HT.sIx xs.length 0 lo)).take (HT.sIx xs.length xs.length hi - HT.sIx xs.length 0 lo)
def eSlice (f : Env → M RV) (lo hi : Env → M (Option Int)) : Env → M RV := fun ρ => bnd (f ρ) fun x => bnd (lo ρ) fun l => bnd (hi ρ) fun u => lft (match x with
  | .d (.tuple ds) => some (.d (.tuple (cutD ds l u)))
  | .d (.list ds) => some (.n (cutD ds l u))
  | .b ds => some (.n (cutD ds l u))
  | .n ds => some (.n (cutD ds l u))
  | _ => none)
theorem OpR.or {fo : Value → Value → Sem Value} {r r' : R2} (h : OpR X fo r) (h' : OpR X fo r') : OpR X fo (fun x y H Q => r x y H Q ∨ r' x y H Q) := fun pins s σ H x y v u Q I rx ry hq => by
  rcases hq with q | q
  · exact h pins s σ H x y v u Q I rx ry q
  · exact h' pins s σ H x y v u Q I rx ry q
theorem sz_of {n : Nat} (h : n ≤ 100000) : n ≤ sizeLine := Nat.le_trans h (by decide)
theorem sz_lt {n : Nat} (h : n < 100000) : n < sizeLine := Nat.lt_of_lt_of_le h (by decide)
end
end DV

namespace DV
open PySem L2 PyProof.Rows PySem.Spec
theorem tup_once (l : Addr) (its : Array Value) (n : Nat) (u : Tok) (dd : Option Addr) (sl : Array (Option Value)) :
    Meets (Builtin.«tuple.__mul__» ⟨[.ref l, .int 1 u], []⟩)
      (fun _ R s => (s.heap.get? l = some ⟨.type "tuple", dd, .seq its n, sl⟩) ∧ R (.ok (.ret (Value.ref l))) s) :=
  .of_wp fun prog w A R s h => by
    obtain ⟨hp, g, d, tk, os⟩ := s
    obtain ⟨hl, h⟩ := h
    have f1 := AutoSeq1.idx_int
    wp_walk using AutoSeq1.wpAny_loadPart' hl
    exact ⟨_, rfl, h⟩
def rOnce (K : PySem.W.Frag) : R2 := fun x y H Q => ∃ l xs, x = .ref l ∧ y = .int 1 ∧ SqT K H l xs ∧ Q (.ref l) H
section
variable {X : Cx}
theorem op_once : OpR X (binaryOp .Mult) (rOnce X.K) := by
  intro pins s σ H x y v u Q I rx ry h
  obtain ⟨l, xs, rfl, rfl, hT, q⟩ := h
  have hx := rx
  cases rx
  obtain ⟨t, rfl⟩ := ry
  obtain ⟨its, r, ⟨⟨cls, dd, data, sl⟩, ho, hc, n, hd⟩, hs⟩ := I.tuple hT
  simp only at hc hd
  subst hc hd
  refine wpAny_binaryOp_repeat_ref (T := "tuple") (U := "int") (by decide) ⟨_, ho, rfl⟩ (fun s' => typeIs_int s' 1 t) noFill_tuple_mul F.fills_int_mul F.slot_int_rmul repeat_tuple F.slot_int_index.lookup
    (call_meets F.slot_int_rmul (typeIs_int s 1 t) F.entry_int_rmul (F.args_int_rmul_2 _ _) (int_rmul_tuple 1 t l its.toArray n dd sl)
      ⟨ho, rfl, ⟨_, ho, rfl⟩, call_meets F.slot_tuple_mul ⟨_, ho, rfl⟩ F.entry_tuple_mul (F.args_tuple_mul_2 _ _) (tup_once l its.toArray n t dd sl) ⟨ho, ?_⟩⟩)
  exact ⟨.ref l, _, I, rfl, q⟩
end
end DV

namespace DV
open PySem L2
section
variable {X : Cx} {R : RA} {K : PySem.W.Frag} {a b c e : Expr} {es : List Expr} {ta tb tc te : TE} {tt uu : TT} {t u : TA} {f g h : Env → M RV} {p q pos : Pos}

/-- a tracked list -/
theorem VR.lst {F H0 H : Hp} {v : V} {x : RV} {ds : List D} (h : VR K R F H0 H v x) (e : x = .b ds ∨ x = .n ds) : ∃ a vs, v = .ref a ∧ H a = some (.lst vs) ∧ DpAll K F vs ds := by
  rcases e with rfl | rfl
  · obtain ⟨a, vs, e1, h1, h2, h3⟩ := h
    exact ⟨a, vs, e1, h1, h3⟩
  · obtain ⟨a, vs, e1, h1, h0, h2, h3, h4⟩ := h
    exact ⟨a, vs, e1, h1, h4⟩
def asLst : RV → Option (List D)
  | .b ds => some ds
  | .n ds => some ds
  | _ => none
theorem asLst_some {x : RV} {ds : List D} (h : asLst x = some ds) : x = .b ds ∨ x = .n ds := by
  cases x with
  | b es => cases h; exact .inl rfl
  | n es => cases h; exact .inr rfl
  | _ => cases h
def gAddA : RV → RV → Option RV := fun x y => match x, y with
  | .d (.int i), .d (.int j) => some (.d (.int (i + j)))
  | .d (.tuple ds), .d (.tuple es) => if ds.length + es.length ≤ 100000 then some (.d (.tuple (ds ++ es))) else none
  | x, y => match asLst x, asLst y with
    | some ds, some es => if ds.length + es.length ≤ 100000 then some (.n (ds ++ es)) else none
    | _, _ => none
abbrev rAddA (K : PySem.W.Frag) : R2 := fun x y H Q => rI0 (fun i j => .int (i + j)) x y H Q ∨ (rCatX K x y H Q ∨ rCat x y H Q)
theorem op_addA : OpR X (binaryOp .Add) (rAddA X.K) := OpR.or op_add (OpR.or op_catX op_cat)
theorem gAddA_some {x y z : RV} (h : gAddA x y = some z) :
    (∃ i j, x = .d (.int i) ∧ y = .d (.int j) ∧ z = .d (.int (i + j))) ∨
    (∃ ds es, x = .d (.tuple ds) ∧ y = .d (.tuple es) ∧ ds.length + es.length ≤ 100000 ∧ z = .d (.tuple (ds ++ es))) ∨
    (∃ ds es, asLst x = some ds ∧ asLst y = some es ∧ ds.length + es.length ≤ 100000 ∧ z = .n (ds ++ es)) := by
  unfold gAddA at h
  split at h
  · exact .inl ⟨_, _, rfl, rfl, (Option.some.inj h).symm⟩
  · split at h
    · rename_i hl
      exact .inr (.inl ⟨_, _, rfl, rfl, hl, (Option.some.inj h).symm⟩)
    · cases h
  · split at h
    · rename_i ds es e1 e2
      split at h
      · rename_i hl
        exact .inr (.inr ⟨ds, es, e1, e2, hl, (Option.some.inj h).symm⟩)
      · cases h
    · cases h
theorem rsem_add : RSem K R (rAddA K) gAddA := fun F H0 H rs x y p q z Q s hx hy e kk => by
  rcases gAddA_some e with ⟨i, j, rfl, rfl, rfl⟩ | ⟨ds, es, rfl, rfl, hl, rfl⟩ | ⟨ds, es, e1, e2, hl, rfl⟩
  · cases hx; cases hy
    exact .inl ⟨i, j, rfl, rfl, kk _ F H s (Dp.int _)⟩
  · cases hx with
    | @tup a vs _ h1 h2 hx1 =>
      cases hy with
      | @tup b ws _ k1 k2 hy1 =>
        refine .inr (.inl ⟨a, b, vs, ws, rfl, rfl, ex_t (s.fin _) h1, ex_t (s.fin _) k1, by rw [h2.len, k2.len]; exact sz_of hl, fun ev => ?_, fun nv ew => ?_, fun nv nw pp ob hp hob => ?_⟩)
        · have ed : ds = [] := List.eq_nil_of_length_eq_zero (by rw [← h2.len, ev]; rfl)
          refine kk _ F H s ?_
          rw [ed]
          exact .tup k1 k2 hy1
        · have ed : es = [] := List.eq_nil_of_length_eq_zero (by rw [← k2.len, ew]; rfl)
          refine kk _ F H s ?_
          rw [ed, List.append_nil]
          exact .tup h1 h2 hx1
        · have s4 := Step.new_tup (ob := ob) (vs := vs ++ ws) s hp
          exact kk _ _ _ s4 (.tup (.inl (.inr ⟨_, upd_same⟩)) (Dp.monoA s4.sub _ _ (h2.append k2)) ⟨_, _, upd_same, hob⟩)
  · obtain ⟨a, vs, rfl, h1, h2⟩ := hx.lst (asLst_some e1)
    obtain ⟨b, ws, rfl, k1, k2⟩ := hy.lst (asLst_some e2)
    refine .inr (.inr ⟨a, b, vs, ws, rfl, rfl, h1, k1, by rw [h2.len, k2.len]; exact sz_of hl, fun pp hp => ?_⟩)
    obtain ⟨s4, hF, hR⟩ := Step.new_lst (vs := vs ++ ws) s hp
    exact kk _ F _ s4 ⟨pp, _, rfl, upd_same, hp, hF, hR, h2.append k2⟩
/-- list * n -/
def gMulA : RV → RV → Option RV := fun x y => match x, y with
  | .d (.int i), .d (.int j) => if cMul i j = true then some (.d (.int (i * j))) else none
  | .d (.tuple ds), .d (.int j) => if 1 ≤ j ∧ j ≤ 1000 ∧ ds.length ≤ 1000 ∧ ds ≠ [] then some (.d (.tuple (List.replicate j.toNat ds).flatten)) else none
  | x, .d (.int j) => match asLst x with
    | some ds => if -1000 ≤ j ∧ j ≤ 1000 ∧ ds.length ≤ 1000 then some (.n (List.replicate j.toNat ds).flatten) else none
    | none => none
  | _, _ => none
abbrev rMulA (K : PySem.W.Frag) : R2 := fun x y H Q => rI CMul (fun i j => .int (i * j)) x y H Q ∨ ((rOnce K x y H Q ∨ rRepX K x y H Q) ∨ rRep x y H Q)
theorem op_mulA : OpR X (binaryOp .Mult) (rMulA X.K) := OpR.or op_mul (OpR.or (OpR.or op_once op_repX) op_rep)
theorem gMulA_some {x y z : RV} (h : gMulA x y = some z) :
    (∃ i j, x = .d (.int i) ∧ y = .d (.int j) ∧ cMul i j = true ∧ z = .d (.int (i * j))) ∨
    (∃ ds j, x = .d (.tuple ds) ∧ y = .d (.int j) ∧ (1 ≤ j ∧ j ≤ 1000 ∧ ds.length ≤ 1000 ∧ ds ≠ []) ∧ z = .d (.tuple (List.replicate j.toNat ds).flatten)) ∨
    (∃ ds j, asLst x = some ds ∧ y = .d (.int j) ∧ (-1000 ≤ j ∧ j ≤ 1000 ∧ ds.length ≤ 1000) ∧ z = .n (List.replicate j.toNat ds).flatten) := by
  unfold gMulA at h
  split at h
  · split at h
    · rename_i hl
      exact .inl ⟨_, _, rfl, rfl, hl, (Option.some.inj h).symm⟩
    · cases h
  · split at h
    · rename_i hl
      exact .inr (.inl ⟨_, _, rfl, rfl, hl, (Option.some.inj h).symm⟩)
    · cases h
  · split at h
    · rename_i ds e1
      split at h
      · rename_i hl
        exact .inr (.inr ⟨ds, _, e1, rfl, hl, (Option.some.inj h).symm⟩)
      · cases h
    · cases h
  · cases h
theorem rsem_mul : RSem K R (rMulA K) gMulA := fun F H0 H rs x y p q z Q s hx hy e kk => by
  rcases gMulA_some e with ⟨i, j, rfl, rfl, hc, rfl⟩ | ⟨ds, j, rfl, rfl, ⟨h2, h3, h4, h5⟩, rfl⟩ | ⟨ds, j, e1, rfl, ⟨h2, h3, h4⟩, rfl⟩
  · cases hx; cases hy
    exact .inl ⟨i, j, rfl, rfl, cMul_ok i j hc, kk _ F H s (Dp.int _)⟩
  · cases hy
    cases hx with
    | @tup a vs _ k1 k2 hx1 =>
      by_cases hj : j = 1
      · subst hj
        refine .inr (.inl (.inl ⟨a, vs, rfl, rfl, ex_t (s.fin _) k1, kk _ F H s ?_⟩))
        rw [show (List.replicate (1 : Int).toNat ds).flatten = ds by simp]
        exact .tup k1 k2 hx1
      refine .inr (.inl (.inr ⟨a, j, vs, rfl, rfl, ex_t (s.fin _) k1, fun ev => h5 (List.eq_nil_of_length_eq_zero (by rw [← k2.len, ev]; rfl)), by omega, h3, by rw [k2.len]; exact h4, fun pp ob hp hob => ?_⟩))
      have s4 := Step.new_tup (ob := ob) (vs := (List.replicate j.toNat vs).flatten) s hp
      exact kk _ _ _ s4 (.tup (.inl (.inr ⟨_, upd_same⟩)) (Dp.monoA s4.sub _ _ (k2.rep _)) ⟨_, _, upd_same, hob⟩)
  · cases hy
    obtain ⟨a, vs, rfl, k1, k2⟩ := hx.lst (asLst_some e1)
    refine .inr (.inr ⟨a, j, vs, rfl, rfl, k1, by omega, by omega, ?_, fun pp hp => ?_⟩)
    · rw [k2.len]
      have : ds.length * j.toNat ≤ 1000 * 1000 := Nat.mul_le_mul h4 (by omega)
      exact Nat.le_trans this (by decide)
    · obtain ⟨s4, hF, hR⟩ := Step.new_lst (vs := (List.replicate j.toNat vs).flatten) s hp
      exact kk _ F _ s4 ⟨pp, _, rfl, upd_same, hp, hF, hR, k2.rep _⟩

def eNeg (f : Env → M RV) : Env → M RV := fun ρ => bnd (f ρ) fun x => bnd (lft (asInt x)) fun i => ret (.d (.int (-i)))
def tIfT (f : Env → M Bool) (g h : Env → M Bool) : Env → M Bool := fun ρ => bnd (f ρ) fun c => if c = true then g ρ else h ρ
def tRetB (b : Bool) : Env → M Bool := fun _ => ret b
section tests
variable {x y : Env → M Bool} {rest : List Expr}
theorem tsem_and (hx : TSem K R tt x) (hy : TSem K R uu y) : TSem K R (tAnd tt uu) (tIfT x y (tRetB false)) := fun L E ρ σ F H rs z rs' Q r hf k => by
  obtain ⟨c, rs1, e1, hf1⟩ := bnd_some hf
  refine hx L E ρ σ F H rs c rs1 _ r e1 fun F1 H1 s1 => ?_
  cases c with
  | true =>
    rw [if_pos rfl] at hf1 ⊢
    exact hy L E ρ σ F1 H1 rs1 z rs' _ (r.step s1) hf1 fun F2 H2 s2 => k F2 H2 (s1.trans r.row s2)
  | false =>
    rw [if_neg Bool.false_ne_true] at hf1 ⊢
    obtain ⟨e2, q2⟩ := ret_some hf1
    subst e2 q2
    exact k F1 H1 s1
theorem tsem_or (hx : TSem K R tt x) (hy : TSem K R uu y) : TSem K R (tOr tt uu) (tIfT x (tRetB true) y) := fun L E ρ σ F H rs z rs' Q r hf k => by
  obtain ⟨c, rs1, e1, hf1⟩ := bnd_some hf
  refine hx L E ρ σ F H rs c rs1 _ r e1 fun F1 H1 s1 => ?_
  cases c with
  | true =>
    rw [if_pos rfl] at hf1 ⊢
    obtain ⟨e2, q2⟩ := ret_some hf1
    subst e2 q2
    exact k F1 H1 s1
  | false =>
    rw [if_neg Bool.false_ne_true] at hf1 ⊢
    exact hy L E ρ σ F1 H1 rs1 z rs' _ (r.step s1) hf1 fun F2 H2 s2 => k F2 H2 (s1.trans r.row s2)
theorem DW.dt (w : DW X R e tt x) : DT X R e tt x := ⟨w.pw.pt, w.sem⟩
theorem dw_and1 (hx : DT X R a tt x) : DW X R (.BoolOp .And [a] pos) tt x := ⟨pw_and1 hx.pt, hx.sem⟩
theorem dw_or1 (hx : DT X R a tt x) : DW X R (.BoolOp .Or [a] pos) tt x := ⟨pw_or1 hx.pt, hx.sem⟩
theorem dw_and (hx : DT X R a tt x) (hy : DW X R (.BoolOp .And (b :: rest) pos) uu y) : DW X R (.BoolOp .And (a :: b :: rest) pos) (tAnd tt uu) (tIfT x y (tRetB false)) := ⟨pw_and hx.pt hy.pw, tsem_and hx.sem hy.sem⟩
theorem dw_or (hx : DT X R a tt x) (hy : DW X R (.BoolOp .Or (b :: rest) pos) uu y) : DW X R (.BoolOp .Or (a :: b :: rest) pos) (tOr tt uu) (tIfT x (tRetB true) y) := ⟨pw_or hx.pt hy.pw, tsem_or hx.sem hy.sem⟩
def tNotF (x : Env → M Bool) : Env → M Bool := fun ρ => bnd (x ρ) fun c => ret (!c)
theorem dt_not (hx : DT X R a tt x) : DT X R (.UnaryOp .Not a pos) (tNot tt) (tNotF x) := ⟨pt_not hx.pt, fun L E ρ σ F H rs z rs' Q r hf k => by
  obtain ⟨c, rs1, e1, hf1⟩ := bnd_some hf
  obtain ⟨e2, q2⟩ := ret_some hf1
  subst e2 q2
  exact hx.sem L E ρ σ F H rs c _ _ r e1 k⟩
/-- as values -/
def eIfB (f : Env → M RV) (g h : Env → M RV) : Env → M RV := fun ρ => bnd (f ρ) fun v => bnd (lft (asBool v)) fun c => if c = true then g ρ else h ρ
theorem de_one {op} (ha : DE X R a ta f) : DE X R (.BoolOp op [a] pos) ta f := ⟨pe_one ha.pe, ha.sem⟩
theorem de_and (ha : DE X R a ta f) (hb : DE X R (.BoolOp .And (b :: rest) pos) tb g) : DE X R (.BoolOp .And (a :: b :: rest) pos) (tAndV ta tb) (eIfB f g (eC (.bool false))) := ⟨pe_and ha.pe hb.pe, fun L E ρ σ F H rs z rs' Q r hf k => by
  obtain ⟨v, rs1, e1, hf1⟩ := bnd_some hf
  obtain ⟨c, rs2, e2, hf2⟩ := bnd_some hf1
  obtain ⟨e3, q3⟩ := lft_some e2
  subst q3
  refine ha.sem L E ρ σ F H rs v _ _ r e1 fun v1 F1 H1 s1 h1 => ⟨c, h1.bool e3, ?_⟩
  cases c with
  | true =>
    rw [if_pos rfl] at hf2 ⊢
    exact hb.sem L E ρ σ F1 H1 _ z rs' _ (r.step s1) hf2 fun v2 F2 H2 s2 h2 => k v2 F2 H2 (s1.trans r.row s2) (h2.older fun a q => s1.back r.row q)
  | false =>
    rw [if_neg Bool.false_ne_true] at hf2 ⊢
    obtain ⟨e4, q4⟩ := ret_some hf2
    subst e4 q4
    exact k _ F1 H1 s1 (.bl false)⟩
def eNotB (f : Env → M RV) : Env → M RV := fun ρ => bnd (f ρ) fun v => bnd (lft (asBool v)) fun c => ret (.d (.bool (!c)))
theorem de_not (ha : DE X R a ta f) : DE X R (.UnaryOp .Not a pos) (tNotV ta) (eNotB f) := ⟨pe_not ha.pe, fun L E ρ σ F H rs z rs' Q r hf k => by
  obtain ⟨v, rs1, e1, hf1⟩ := bnd_some hf
  obtain ⟨c, rs2, e2, hf2⟩ := bnd_some hf1
  obtain ⟨e3, q3⟩ := lft_some e2
  obtain ⟨e4, q4⟩ := ret_some hf2
  subst e4 q4 q3
  exact ha.sem L E ρ σ F H rs v _ _ r e1 fun v1 F1 H1 s1 h1 => ⟨c, h1.bool e3, k _ F1 H1 s1 (.bl _)⟩⟩
/-- a if t else b; the two ends may be a new list or data -/
def eIf (x : Env → M Bool) (f g : Env → M RV) : Env → M RV := fun ρ => bnd (x ρ) fun c => if c = true then f ρ else g ρ
theorem de_if (hc : DT X R c tt x) (ha : DE X R a ta f) (hb : DE X R b tb g) : DE X R (.IfExp c a b pos) (tIf tt ta tb) (eIf x f g) := ⟨pe_ifExp hc.pt ha.pe hb.pe, fun L E ρ σ F H rs z rs' Q r hf k => by
  obtain ⟨c, rs1, e1, hf1⟩ := bnd_some hf
  refine hc.sem L E ρ σ F H rs c rs1 _ r e1 fun F1 H1 s1 => ?_
  cases c with
  | true =>
    rw [if_pos rfl] at hf1 ⊢
    exact ha.sem L E ρ σ F1 H1 rs1 z rs' _ (r.step s1) hf1 fun v2 F2 H2 s2 h2 => k v2 F2 H2 (s1.trans r.row s2) (h2.older fun a q => s1.back r.row q)
  | false =>
    rw [if_neg Bool.false_ne_true] at hf1 ⊢
    exact hb.sem L E ρ σ F1 H1 rs1 z rs' _ (r.step s1) hf1 fun v2 F2 H2 s2 h2 => k v2 F2 H2 (s1.trans r.row s2) (h2.older fun a q => s1.back r.row q)⟩
end tests

def aNil : Env → M (List RV) := fun _ => ret []
def aCons (f : Env → M RV) (fa : Env → M (List RV)) : Env → M (List RV) := fun ρ => bnd (f ρ) fun x => bnd (fa ρ) fun xs => ret (x :: xs)
theorem VRs.step {F F' H0 H H' : Hp} {rs' : RS} (s : Step K R rs' F H F' H') : ∀ {vs : List V} {xs : List RV}, VRs K R F H0 H vs xs → VRs K R F' H0 H' vs xs
  | _, _, .nil => .nil
  | _, _, .cons h t => .cons (h.step s) (VRs.step s t)
theorem da_nil : DA X R [] tNil aNil := ⟨pa_nil, fun L E ρ σ F H rs x rs' Q r hf k => by
  obtain ⟨e1, q1⟩ := ret_some hf
  subst e1 q1
  exact k [] F H r.refl .nil⟩
theorem da_cons {fa : Env → M (List RV)} (ha : DE X R e te f) (hr : DA X R es t fa) (hs : starEach (e :: es) X.env = (false, eval e X.env) :: starEach es X.env := by rfl) : DA X R (e :: es) (tCons te t) (aCons f fa) := ⟨pa_cons ha.pe hr.pa hs, fun L E ρ σ F H rs x rs' Q r hf k => by
  obtain ⟨x1, rs1, e1, hf1⟩ := bnd_some hf
  obtain ⟨xs, rs2, e2, hf2⟩ := bnd_some hf1
  obtain ⟨e3, q3⟩ := ret_some hf2
  subst e3 q3
  refine ha.sem L E ρ σ F H rs x1 rs1 _ r e1 fun v1 F1 H1 s1 h1 => ?_
  refine hr.sem L E ρ σ F1 H1 rs1 xs _ _ (r.step s1) e2 fun vs F2 H2 s2 h2 => ?_
  exact k _ F2 H2 (s1.trans r.row s2) (.cons (h1.step s2) (h2.older fun a q => s1.back r.row q))⟩
def aStar (f : Env → M RV) (fa : Env → M (List RV)) : Env → M (List RV) := fun ρ => bnd (f ρ) fun x => bnd (lft (items x)) fun ds => bnd (fa ρ) fun xs => ret (ds.map RV.d ++ xs)
theorem VRs.ofData {F H0 H : Hp} : ∀ {vs : List V} {ds : List D}, DpAll K F vs ds → VRs K R F H0 H vs (ds.map RV.d)
  | _, _, .nil => .nil
  | _, _, .cons h t => .cons h (VRs.ofData t)
theorem VRs.append {F H0 H : Hp} : ∀ {vs ws : List V} {xs ys : List RV}, VRs K R F H0 H vs xs → VRs K R F H0 H ws ys → VRs K R F H0 H (vs ++ ws) (xs ++ ys)
  | _, _, _, _, .nil, h => h
  | _, _, _, _, .cons h t, h' => .cons h (VRs.append t h')
theorem da_star {fa : Env → M (List RV)} (ha : DE X R e te f) (hr : DA X R es t fa) : DA X R (.Starred e p :: es) (StX.tStar X.K te t) (aStar f fa) := ⟨StX.pa_star ha.pe hr.pa, fun L E ρ σ F H rs x rs' Q r hf k => by
  obtain ⟨x1, rs1, e1, hf1⟩ := bnd_some hf
  obtain ⟨ds, rs2, e2, hf2⟩ := bnd_some hf1
  obtain ⟨e3, q3⟩ := lft_some e2
  subst q3
  obtain ⟨xs, rs4, e4, hf3⟩ := bnd_some hf2
  obtain ⟨e5, q5⟩ := ret_some hf3
  subst e5 q5
  refine ha.sem L E ρ σ F H rs x1 _ _ r e1 fun v1 F1 H1 s1 h1 => ?_
  obtain ⟨a, vs, rfl, hq, hd⟩ := h1.items (r.step s1).refl e3
  refine ⟨a, vs, rfl, hq.symm, ?_⟩
  refine hr.sem L E ρ σ F1 H1 _ xs _ _ (r.step s1) e4 fun ws F2 H2 s2 h2 => ?_
  exact k _ F2 H2 (s1.trans r.row s2) ((VRs.ofData (Dp.monoA s2.sub _ _ hd)).append (h2.older fun a q => s1.back r.row q))⟩
/-- (a, b, ..) -/
def eTup (fa : Env → M (List RV)) : Env → M RV := fun ρ => bnd (fa ρ) fun xs => bnd (lft (toDs xs)) fun ds => if ds.length ≤ 100000 then ret (.d (.tuple ds)) else fail
def eLst (fa : Env → M (List RV)) : Env → M RV := fun ρ => bnd (fa ρ) fun xs => bnd (lft (toDs xs)) fun ds => if ds.length ≤ 100000 then ret (.n ds) else fail
theorem frozen {F H0 H F1 : Hp} {rs rs' : RS} {L : Nat → Option (Addr × HO)} {E : Hp} {ρ : Env} {σ : L2.St} (r : Rel K R L E F ρ σ rs H0) (s : Step K R rs' F H0 F1 H) {vs : List V} {xs : List RV} {ds : List D} (h : VRs K R F1 H0 H vs xs) (e : toDs xs = some ds) :
    ∃ F2, Step K R rs' F H0 F2 H ∧ DpAll K F2 vs ds := by
  obtain ⟨F2, k1, k2, k3, k4, k5, hA⟩ := VRs.freeze (r.step s).refl h e
  refine ⟨F2, ⟨fun a o h q n => s.keep a o h q n, fun a o q => k1 a o (s.sub a o q), fun a o q => ?_, k3, s.row.mono k1 k5, k4⟩, hA⟩
  rcases k2 a o q with z | z
  · exact s.new a o z
  · exact .inr z
theorem tup_some {fa : Env → M (List RV)} {mk : List D → RV} {ρ : Env} {rs rs' : RS} {x : RV} (hf : (bnd (fa ρ) fun xs => bnd (lft (toDs xs)) fun ds => if ds.length ≤ 100000 then ret (mk ds) else fail) rs = some (x, rs')) :
    ∃ xs ds, fa ρ rs = some (xs, rs') ∧ toDs xs = some ds ∧ ds.length ≤ 100000 ∧ x = mk ds := by
  obtain ⟨xs, rs1, e1, hf1⟩ := bnd_some hf
  obtain ⟨ds, rs2, e2, hf2⟩ := bnd_some hf1
  obtain ⟨e3, q3⟩ := lft_some e2
  subst q3
  by_cases hl : ds.length ≤ 100000
  · rw [if_pos hl] at hf2
    obtain ⟨e4, q4⟩ := ret_some hf2
    subst e4 q4
    exact ⟨xs, ds, e1, e3, hl, rfl⟩
  · rw [if_neg hl] at hf2
    cases hf2
theorem de_tup {fa : Env → M (List RV)} {x1} (h : DA X R es t fa) : DE X R (.Tuple es x1 pos) (tTupX t) (eTup fa) := ⟨pe_tupX h.pa, fun L E ρ σ F H rs x rs' Q r hf k => by
  obtain ⟨xs, ds, e1, e3, hl, rfl⟩ := tup_some hf
  refine h.sem L E ρ σ F H rs xs rs' _ r e1 fun vs F1 H1 s1 hv => ?_
  obtain ⟨F2, s2, hA⟩ := frozen r s1 hv e3
  refine ⟨by rw [hA.len]; exact sz_of hl, fun pp ob hp hob => ?_⟩
  have s4 := Step.new_tup (ob := ob) (vs := vs) (r.step s2).refl hp
  exact k _ _ _ (s2.trans r.row s4) (.tup (.inl (.inr ⟨_, upd_same⟩)) (Dp.monoA s4.sub _ _ hA) ⟨_, _, upd_same, hob⟩)⟩
theorem de_lst {fa : Env → M (List RV)} (h : DA X R es t fa) : DE X R (.List es pos) (tLst t) (eLst fa) := ⟨pe_lst h.pa, fun L E ρ σ F H rs x rs' Q r hf k => by
  obtain ⟨xs, ds, e1, e3, hl, rfl⟩ := tup_some hf
  refine h.sem L E ρ σ F H rs xs rs' _ r e1 fun vs F1 H1 s1 hv => ?_
  obtain ⟨F2, s2, hA⟩ := frozen r s1 hv e3
  refine ⟨by rw [hA.len]; exact sz_of hl, fun pp hp => ?_⟩
  obtain ⟨s4, hF, hR⟩ := Step.new_lst (vs := vs) (r.step s2).refl hp
  exact k _ _ _ (s2.trans r.row s4) ⟨pp, _, rfl, upd_same, s2.back r.row hp, hF, hR, hA⟩⟩

def CSem (K : PySem.W.Frag) (R : RA) (r : List V → Hp → VK → Prop) (g : List RV → Option RV) : Prop :=
  ∀ (F H0 H : Hp) (rs : RS) (vs : List V) (xs : List RV) (z : RV) (Q : VK), Step K R rs F H F H → VRs K R F H0 H vs xs → g xs = some z →
    (∀ v F' H', Step K R rs F H F' H' → VR K R F' H H' v z → Q v H') → r vs H Q
def eCall (g : List RV → Option RV) (fa : Env → M (List RV)) : Env → M RV := fun ρ => bnd (fa ρ) fun xs => lft (g xs)
theorem esem_call {r : List V → Hp → VK → Prop} {g : List RV → Option RV} {fa : Env → M (List RV)} (hr : CSem K R r g) (ha : ASem K R t fa) : ESem K R (tCB r t) (eCall g fa) := fun L E ρ σ F H rs x rs' Q r0 hf k => by
  obtain ⟨xs, rs1, e1, hf1⟩ := bnd_some hf
  obtain ⟨e2, q2⟩ := lft_some hf1
  subst q2
  refine ha L E ρ σ F H rs xs _ _ r0 e1 fun vs F1 H1 s1 h1 => ?_
  exact hr F1 H H1 _ vs xs x Q (r0.step s1).refl h1 e2 fun v F2 H2 s2 h2 => k v F2 H2 (s1.trans r0.row s2) (h2.older fun a q => s1.back r0.row q)
theorem de_callB {id : String} {x : Str} {r : List V → Hp → VK → Prop} {g : List RV → Option RV} {fa : Env → M (List RV)} (hc : CallR X (.builtin id) r) (hr : CSem X.K R r g) (hg : Gl X x) (hm : X.mg x = none) (hv : bootBuiltins x = some (.builtin id)) (ha : DA X R (e :: es) t fa)
    (hn : x ≠ "__name__" := by decide) (hdb : (x == ("__debug__" : Str)) = false := by decide) (he : starEach (e :: es) X.env = (false, eval e X.env) :: starEach es X.env := by rfl) (hpl : (backTo pos (starEach es X.env)).any (·.1) = false := by rfl) :
    DE X R (.Call (.Name x p) (e :: es) [] pos) (tCB r t) (eCall g fa) := ⟨pe_callB hc hg hm hv ha.pa hn hdb he hpl, esem_call hr ha.sem⟩
theorem de_callTy {T : String} {x : Str} {r : List V → Hp → VK → Prop} {g : List RV → Option RV} {fa : Env → M (List RV)} (hc : CallR X (.type T) r) (hr : CSem X.K R r g) (hg : Gl X x) (hm : X.mg x = none) (hv : bootBuiltins x = some (.type T)) (ha : DA X R (e :: es) t fa)
    (hn : x ≠ "__name__" := by decide) (hdb : (x == ("__debug__" : Str)) = false := by decide) (he : starEach (e :: es) X.env = (false, eval e X.env) :: starEach es X.env := by rfl) (hpl : (backTo pos (starEach es X.env)).any (·.1) = false := by rfl) :
    DE X R (.Call (.Name x p) (e :: es) [] pos) (tCB r t) (eCall g fa) := ⟨pe_callTy hc hg hm hv ha.pa hn hdb he hpl, esem_call hr ha.sem⟩
end
end DV

namespace DV
open PySem L2
section
variable {X : Cx} {R : RA} {K : PySem.W.Frag} {a b c e : Expr} {es : List Expr} {ta tb tc te : TE} {tt uu : TT} {t u : TA} {f g h : Env → M RV} {p q pos : Pos}
/-- a function of one argument -/
def c1 (k : RV → Option RV) : List RV → Option RV
  | [x] => k x
  | _ => none
def c2 (k : RV → RV → Option RV) : List RV → Option RV
  | [x, y] => k x y
  | _ => none
theorem c1_some {k : RV → Option RV} {xs : List RV} {z : RV} (h : c1 k xs = some z) : ∃ x, xs = [x] ∧ k x = some z := by
  unfold c1 at h
  split at h
  · exact ⟨_, rfl, h⟩
  · cases h
theorem c2_some {k : RV → RV → Option RV} {xs : List RV} {z : RV} (h : c2 k xs = some z) : ∃ x y, xs = [x, y] ∧ k x y = some z := by
  unfold c2 at h
  split at h
  · exact ⟨_, _, rfl, h⟩
  · cases h
theorem VRs.one {F H0 H : Hp} {vs : List V} {x : RV} (h : VRs K R F H0 H vs [x]) : ∃ v, vs = [v] ∧ VR K R F H0 H v x := by
  cases h with
  | cons h1 h2 => cases h2; exact ⟨_, rfl, h1⟩
theorem VRs.two {F H0 H : Hp} {vs : List V} {x y : RV} (h : VRs K R F H0 H vs [x, y]) : ∃ v w, vs = [v, w] ∧ VR K R F H0 H v x ∧ VR K R F H0 H w y := by
  cases h with
  | cons h1 h2 =>
    cases h2 with
    | cons h2 h3 => cases h3; exact ⟨_, _, rfl, h1, h2⟩

def gLen : List RV → Option RV := c1 fun x => (items x).map fun ds => .d (.int ds.length)
abbrev rLen (K : PySem.W.Frag) : List V → Hp → VK → Prop := fun xs H Q => ∃ p ys, xs = [.ref p] ∧ (SqL K H p ys ∨ SqT K H p ys) ∧ Q (.int ys.length) H
theorem csem_len : CSem K R (rLen K) gLen := fun F H0 H rs vs xs z Q s hv e kk => by
  obtain ⟨x, rfl, ee⟩ := c1_some e
  clear e
  have e := ee
  clear ee
  obtain ⟨v, rfl, hx⟩ := hv.one
  cases e1 : items x with
  | none => rw [e1] at e; cases e
  | some ds =>
    rw [e1] at e
    cases e
    obtain ⟨a, ws, rfl, h1, h2⟩ := hx.items s e1
    refine ⟨a, ws, rfl, h1, ?_⟩
    rw [h2.len]
    exact kk _ F H s (Dp.int _)
def gList : List RV → Option RV := c1 fun x => (items x).map fun ds => .n ds
abbrev rList (K : PySem.W.Frag) : List V → Hp → VK → Prop := fun xs H Q => ∃ p ys, xs = [.ref p] ∧ (SqL K H p ys ∨ SqT K H p ys) ∧ ∀ l, H l = none → Q (.ref l) (upd H l (.lst ys))
theorem csem_list : CSem K R (rList K) gList := fun F H0 H rs vs xs z Q s hv e kk => by
  obtain ⟨x, rfl, ee⟩ := c1_some e
  clear e
  have e := ee
  clear ee
  obtain ⟨v, rfl, hx⟩ := hv.one
  cases e1 : items x with
  | none => rw [e1] at e; cases e
  | some ds =>
    rw [e1] at e
    cases e
    obtain ⟨a, ws, rfl, h1, h2⟩ := hx.items s e1
    refine ⟨a, ws, rfl, h1, fun l hl => ?_⟩
    obtain ⟨s4, hF, hR⟩ := Step.new_lst (vs := ws) s hl
    exact kk _ F _ s4 ⟨l, _, rfl, upd_same, hl, hF, hR, h2⟩
def gTuple : List RV → Option RV := c1 fun x => (items x).map fun ds => .d (.tuple ds)
abbrev rTuple := rTupX
theorem csem_tuple : CSem K R (rTuple K) gTuple := fun F H0 H rs vs xs z Q s hv e kk => by
  obtain ⟨x, rfl, ee⟩ := c1_some e
  clear e
  have e := ee
  clear ee
  obtain ⟨v, rfl, hx⟩ := hv.one
  have go : ∀ (a : Addr) (ws : List V) (ds : List D), v = .ref a → SqL K H a ws → DpAll K F ws ds → z = .d (.tuple ds) → rTuple K [v] H Q := fun a ws ds ev h1 h2 ez => by
    subst ev ez
    refine ⟨a, ws, rfl, .inl ⟨h1, fun l ob hl hob => ?_⟩⟩
    have s4 := Step.new_tup (ob := ob) (vs := ws) s hl
    exact kk _ _ _ s4 (.tup (.inl (.inr ⟨_, upd_same⟩)) (Dp.monoA s4.sub _ _ h2) ⟨_, _, upd_same, hob⟩)
  cases x with
  | d y =>
    cases y with
    | tuple ds =>
      cases e
      cases hx with
      | @tup a ws _ h1 h2 hx => exact ⟨a, ws, rfl, .inr ⟨ex_t (s.fin _) h1, kk _ F H s (.tup h1 h2 hx)⟩⟩
    | list ds =>
      cases e
      cases hx with
      | @lst a ws _ h1 h2 => exact go a ws ds rfl (ex_l (s.fin _) h1) h2 rfl
    | none => cases e
    | bool _ => cases e
    | int _ => cases e
    | str _ => cases e
    | dict _ => cases e
  | b ds =>
    cases e
    obtain ⟨a, ws, ev, h1, h2⟩ := hx.lst (.inl rfl)
    exact go a ws ds ev (.inl (.inl h1)) h2 rfl
  | n ds =>
    cases e
    obtain ⟨a, ws, ev, h1, h2⟩ := hx.lst (.inr rfl)
    exact go a ws ds ev (.inl (.inl h1)) h2 rfl
  | gb _ => cases e
  | gn _ => cases e
  | row => cases e
def gAbs : List RV → Option RV := c1 fun x => (asInt x).map fun i => .d (.int (if i < 0 then -i else i))
theorem csem_abs : CSem K R (fun xs H Q => ∃ i, xs = [.int i] ∧ Q (.int (if i < 0 then -i else i)) H) gAbs := fun F H0 H rs vs xs z Q s hv e kk => by
  obtain ⟨x, rfl, ee⟩ := c1_some e
  clear e
  have e := ee
  clear ee
  obtain ⟨v, rfl, hx⟩ := hv.one
  cases e1 : asInt x with
  | none => rw [e1] at e; cases e
  | some i =>
    rw [e1] at e
    cases e
    have := hx.int e1
    subst this
    exact ⟨i, rfl, kk _ F H s (Dp.int _)⟩
def gInt : List RV → Option RV := c1 fun x => match asInt x with
  | some i => some (.d (.int i))
  | none => (asBool x).map fun b => .d (.int (if b = true then 1 else 0))
theorem csem_int : CSem K R (fun xs H Q => (∃ i, xs = [.int i] ∧ Q (.int i) H) ∨ ∃ k, xs = [.bl k] ∧ Q (.int (if k then 1 else 0)) H) gInt := fun F H0 H rs vs xs z Q s hv e kk => by
  obtain ⟨x, rfl, ee⟩ := c1_some e
  clear e
  have e := ee
  clear ee
  obtain ⟨v, rfl, hx⟩ := hv.one
  cases e1 : asInt x with
  | none =>
    rw [e1] at e
    cases e2 : asBool x with
    | none => rw [e2] at e; cases e
    | some b =>
      rw [e2] at e
      cases e
      have := hx.bool e2
      subst this
      exact .inr ⟨b, rfl, kk _ F H s (Dp.int _)⟩
  | some i =>
    rw [e1] at e
    cases e
    have := hx.int e1
    subst this
    exact .inl ⟨i, rfl, kk _ F H s (Dp.int _)⟩
def gMax2 : List RV → Option RV := c2 fun x y => match asInt x, asInt y with
  | some i, some j => some (.d (.int (if j > i then j else i)))
  | _, _ => none
def gMin2 : List RV → Option RV := c2 fun x y => match asInt x, asInt y with
  | some i, some j => some (.d (.int (if j < i then j else i)))
  | _, _ => none
theorem csem_max2 : CSem K R (fun xs H Q => ∃ i j, xs = [.int i, .int j] ∧ Q (.int (if j > i then j else i)) H) gMax2 := fun F H0 H rs vs xs z Q s hv e kk => by
  obtain ⟨x, y, rfl, ee⟩ := c2_some e
  clear e
  have e := ee
  clear ee
  obtain ⟨v, w, rfl, hx, hy⟩ := hv.two
  cases e1 : asInt x with
  | none => simp only [e1] at e; cases e
  | some i =>
    cases e2 : asInt y with
    | none => simp only [e1, e2] at e; cases e
    | some j =>
      simp only [e1, e2] at e
      cases e
      have := hx.int e1
      have := hy.int e2
      subst v w
      exact ⟨i, j, rfl, kk _ F H s (Dp.int _)⟩
def gSum : List RV → Option RV := c1 fun x => match items x with
  | some ds => (intsOf ds).map fun js => .d (.int js.sum)
  | none => none
def rSumA (K : PySem.W.Frag) : List V → Hp → VK → Prop := fun vs H Q => ∃ (a : Addr) (ns : List Int), vs = [V.ref a] ∧ (SqL K H a (ns.map V.int) ∨ SqT K H a (ns.map V.int)) ∧ Q (.int ns.sum) H
theorem sum_tup {prog : Program} {w : World} {A : Around} {E : Value → Shared → Prop} {s : Shared} {l : Addr} {its : List Value} {ns : List Int} {Q : Value → Shared → Prop} (hh : A.handled = none) (hl : s.heap.IsTuple l its.toArray) (hi : PyProof.Rows.IntsAre its ns)
    (hq : ∀ h' tk t', (∀ b o, s.heap.get? b = some o → h'.get? b = some o) → Q (.int ns.sum t') { s with heap := h', toks := tk }) : wpAny (model prog w) A (call (.builtin "sum") [.ref l]) Q E s := by
  obtain ⟨xs, e⟩ := hi.allInts.items
  have hn : numsOf (intItems xs).toList = ns := by rw [← e]; exact hi.numsOf
  rw [nums_intItems] at hn
  rw [e] at hl
  have hlt : l < s.heap.objs.size := by obtain ⟨_, e, _⟩ := hl; exact Heap.lt_size e
  refine call_sum_walkG (wpAny_pyIter_tuple hl ?_)
  refine ⟨_, _, _, _, _, _, numAt xs, rfl, Walks.tuple (A := A.in1) hh _ l (Nat.ne_of_lt hlt) (intItems xs), ⟨⟨_, Heap.get?_push_size _ rfl, rfl, rfl⟩, ?_⟩, fun b hb => ?_, (fun _ _ => intItems_at), fun h' tk t' hk => ?_⟩
  · obtain ⟨o, q1, q2⟩ := hl
    exact ⟨o, Heap.get?_push_of_some _ q1, q2⟩
  · show b < (s.heap.push _).objs.size
    rw [Heap.size_push]
    rcases List.mem_cons.mp hb with rfl | hb
    · exact Nat.lt_succ_self _
    · rcases List.mem_cons.mp hb with rfl | hb
      · exact Nat.lt_succ_of_lt hlt
      · cases hb
  · have := hq h' tk t' (fun b o eo => hk b o (fun hm => by
      rcases List.mem_cons.mp hm with e1 | hm
      · exact absurd (e1 ▸ Heap.lt_size eo) (Nat.lt_irrefl _)
      · cases hm) (Heap.get?_push_of_some _ eo))
    rw [preSum_eq, List.take_of_length_le (by simp [intItems]), hn]
    exact this
theorem cr_sumA (hc : X.calm = true) : CallR X (.builtin "sum") (rSumA X.K) := by
  intro pins s σ H vs us Q I r h
  obtain ⟨a, ns, rfl, hs, q⟩ := h
  rcases hs with hs | hs
  · exact cr_sum hc pins s σ H _ us Q I r ⟨a, ns, rfl, hs, q⟩
  · obtain ⟨its, rv, hl, _⟩ := I.tuple hs
    rw [Vals.ref1 r]
    exact sum_tup (I.ok.hd hc) hl rv.ints fun h' tk t' hk => ⟨.int _, H, I.kept hk, ⟨_, rfl⟩, q⟩
theorem csem_sum : CSem K R (rSumA K) gSum := fun F H0 H rs vs xs z Q s hv e kk => by
  obtain ⟨x, rfl, ee⟩ := c1_some e
  clear e
  have e := ee
  clear ee
  obtain ⟨v, rfl, hx⟩ := hv.one
  cases e1 : items x with
  | none => rw [e1] at e; cases e
  | some ds =>
    simp only [e1] at e
    cases e2 : intsOf ds with
    | none => rw [e2] at e; cases e
    | some js =>
      rw [e2] at e
      cases e
      obtain ⟨a, ws, rfl, h1, h2⟩ := hx.items s e1
      have hw := h2.intsV e2
      subst hw
      exact ⟨a, js, rfl, h1, kk _ F H s (Dp.int _)⟩
def boolsOf : List D → Option (List Bool)
  | [] => some []
  | .bool i :: r => match boolsOf r with
    | some js => some (i :: js)
    | none => none
  | _ => none
theorem boolsV {F : Hp} : ∀ {vs : List V} {ds : List D} {js : List Bool}, DpAll K F vs ds → boolsOf ds = some js → vs = js.map V.bl
  | _, _, _, .nil, h => by cases h; rfl
  | _, d :: r, js, .cons h1 h2, h => by
    cases d with
    | bool i =>
      unfold boolsOf at h
      cases e : boolsOf r with
      | none => rw [e] at h; cases h
      | some ks =>
        rw [e] at h
        cases h
        cases h1
        rw [boolsV h2 e]
        rfl
    | none => unfold boolsOf at h; cases h
    | int _ => unfold boolsOf at h; cases h
    | str _ => unfold boolsOf at h; cases h
    | list _ => unfold boolsOf at h; cases h
    | tuple _ => unfold boolsOf at h; cases h
    | dict _ => unfold boolsOf at h; cases h
def gBools (k : List Bool → Bool) : List RV → Option RV := c1 fun x => match asLst x with
  | some ds => (boolsOf ds).map fun js => .d (.bool (k js))
  | none => none
abbrev gAll := gBools fun js => js.all id
theorem csem_bools (k : List Bool → Bool) : CSem K R (fun vs H Q => ∃ (a : Addr) (bs : List Bool), vs = [V.ref a] ∧ SqL K H a (bs.map V.bl) ∧ Q (.bl (k bs)) H) (gBools k) := fun F H0 H rs vs xs z Q s hv e kk => by
  obtain ⟨x, rfl, ee⟩ := c1_some e
  clear e
  have e := ee
  clear ee
  obtain ⟨v, rfl, hx⟩ := hv.one
  cases e1 : asLst x with
  | none => rw [e1] at e; cases e
  | some ds =>
    simp only [e1] at e
    cases e2 : boolsOf ds with
    | none => rw [e2] at e; cases e
    | some js =>
      rw [e2] at e
      cases e
      obtain ⟨a, ws, rfl, h1, h2⟩ := hx.lst (asLst_some e1)
      have hw := boolsV h2 e2
      subst hw
      exact ⟨a, js, rfl, .inl (.inl h1), kk _ F H s (.bl _)⟩

def tyD : D → String
  | .none => "NoneType"
  | .bool _ => "bool"
  | .int _ => "int"
  | .str _ => "str"
  | .list _ => "list"
  | .tuple _ => "tuple"
  | .dict _ => "dict"
inductive TyT where | int | bool | tuple | list | str
  deriving DecidableEq
def TyT.nm : TyT → String
  | .int => "int" | .bool => "bool" | .tuple => "tuple" | .list => "list" | .str => "str"
def isT : TyT → D → Bool
  | .int, .int _ => true
  | .int, .bool _ => true
  | .bool, .bool _ => true
  | .tuple, .tuple _ => true
  | .list, .list _ => true
  | .str, .str _ => true
  | _, _ => false
theorem kit_isT (T : TyT) (d : D) : kitB (tyD d) T.nm = some (isT T d) := by
  cases T <;> cases d <;> (simp only [tyD, TyT.nm, isT]; decide +kernel)
theorem dptyx {H : Hp} {v : V} {d : D} (h : Dp K H v d) : TyX K H v (.type (tyD d)) := by
  cases h with
  | non => exact .base .non
  | bl b => exact .base (.bl b)
  | int i => exact .base (.int i)
  | str x => exact .base (.str x)
  | lst hs _ =>
    rcases hs with (hs | ⟨o, hs⟩) | ⟨o, its, n, hk, hc, _⟩
    · exact .base (.lst hs)
    · exact .base (.frz hs)
    · exact .kList hk hc
  | tup hs _ =>
    rcases hs with (hs | ⟨o, hs⟩) | ⟨o, its, n, hk, hc, _⟩
    · exact .base (.tup hs)
    · exact .fTuple hs
    · exact .kTuple hk hc
def eIsT (T : TyT) (f : Env → M RV) : Env → M RV := fun ρ => bnd (f ρ) fun x => bnd (lft (viewD x)) fun d => ret (.d (.bool (isT T d)))
theorem de_isT (T : TyT) {x : Str} {p2 : Pos} (hg : Gl X "isinstance") (hm : X.mg "isinstance" = none) (hgT : Gl X x) (hmT : X.mg x = none) (hT : bootBuiltins x = some (.type T.nm)) (he : DE X R e te f)
    (hn : x ≠ "__name__" := by decide) (hdb : (x == ("__debug__" : Str)) = false := by decide)
    (he1 : starEach [e, .Name x p2] X.env = (false, eval e X.env) :: starEach [.Name x p2] X.env := by rfl) (he2 : starEach [.Name x p2] X.env = (false, eval (.Name x p2) X.env) :: starEach [] X.env := by rfl) (hpl : (backTo pos (starEach [.Name x p2] X.env)).any (·.1) = false := by rfl) :
    DE X R (.Call (.Name "isinstance" p) [e, .Name x p2] [] pos) (tCB (rIsi X.K) (tCons te (tCons (tC (.ty T.nm)) tNil))) (eIsT T f) :=
  ⟨pe_callB call_isi hg hm PyProof.Rows.boot_isinstance (pa_cons he.pe (pa_cons (pe_bltn hgT hmT hT rfl hn hdb) pa_nil he2) he1) (by decide) (by decide) he1 hpl, fun L E ρ σ F H rs z rs' Q r hf k => by
    obtain ⟨v, rs1, e1, hf1⟩ := bnd_some hf
    obtain ⟨d, rs2, e2, hf2⟩ := bnd_some hf1
    obtain ⟨e3, q3⟩ := lft_some e2
    obtain ⟨e4, q4⟩ := ret_some hf2
    subst e4 q4 q3
    refine he.sem L E ρ σ F H rs v _ _ r e1 fun v1 F1 H1 s1 h1 => ?_
    exact ⟨v1, .ty T.nm, .type (tyD d), .type T.nm, isT T d, rfl, .ty _, dptyx (h1.view (r.step s1).refl e3), kit_ty (kit_isT T d), k _ F1 H1 s1 (.bl _)⟩⟩
end
end DV

namespace DV
open PySem L2

inductive Out where
  | nx (ρ : Env) | rt (r : RV) | bk (ρ : Env) | ct (ρ : Env)
section
variable {X : Cx} {K : PySem.W.Frag} {R : RA} {L : Nat → Option (Addr × HO)} {E F F' H H' : Hp} {ρ ρ' : Env} {σ σ' : L2.St} {rs rs' : RS}

/-- what is never changed grows by things that the entry did not know -/
structure FStep (R : RA) (E F F' : Hp) : Prop where
  sub : ∀ a o, F a = some o → F' a = some o
  new : ∀ a o, F' a = some o → F a = some o ∨ (E a = none ∧ some a ≠ R.row)
theorem FStep.refl : FStep R E F F := ⟨fun _ _ h => h, fun _ _ h => .inl h⟩
theorem FStep.trans {F1 F2 : Hp} (a : FStep R E F F1) (b : FStep R E F1 F2) : FStep R E F F2 := ⟨fun c o h => b.sub c o (a.sub c o h), fun c o h => by
  rcases b.new c o h with z | z
  · exact a.new c o z
  · exact .inr z⟩
theorem FStep.ofStep (r : Rel K R L E F ρ σ rs H) (s : Step K R rs' F H F' H') : FStep R E F F' := ⟨s.sub, fun a o h => by
  rcases s.new a o h with z | z
  · exact .inl z
  · refine .inr ⟨?_, fun q => ?_⟩
    · cases e : E a with
      | none => rfl
      | some u => rw [r.ex a u e] at z; cases z
    · rw [s.rF a q.symm] at h; cases h⟩
/-- a smaller entry -/
theorem FStep.less {E' : Hp} (s : FStep R E' F F') (h : ∀ a, E' a = none → E a = none) : FStep R E F F' := ⟨s.sub, fun a o q => by
  rcases s.new a o q with z | ⟨z1, z2⟩
  · exact .inl z
  · exact .inr ⟨h a z1, z2⟩⟩
/-- what is handed back -/
def VRet (K : PySem.W.Frag) (R : RA) (E F H : Hp) (v : V) : RV → Prop
  | .d x => Dp K F v x
  | .n ds => ∃ a vs, v = .ref a ∧ H a = some (.lst vs) ∧ E a = none ∧ F a = none ∧ some a ≠ R.row ∧ DpAll K F vs ds
  | .gn c => ∃ a u, v = .ref a ∧ H a = some u ∧ E a = none ∧ F a = none ∧ some a ≠ R.row ∧ DictR K F a u c
  | _ => False
structure Ret (K : PySem.W.Frag) (R : RA) (rs' : RS) (E F F' H' : Hp) (v : V) (x : RV) : Prop where
  fs : FStep R E F F'
  ex : ∀ a o, E a = some o → H' a = some o
  fr : ∀ a o, F' a = some o → H' a = some o
  row : RowOk K R rs' F' H'
  rF : ∀ r, R.row = some r → F' r = none
  val : VRet K R E F' H' v x
def Post (K : PySem.W.Frag) (R : RA) (L : Nat → Option (Addr × HO)) (E F : Hp) (D : Ends) (rs' : RS) : Out → Prop
  | .nx ρ' => ∀ σ' F' H', FStep R E F F' → Rel K R L E F' ρ' σ' rs' H' → D.nx σ' H'
  | .bk ρ' => ∀ σ' F' H', FStep R E F F' → Rel K R L E F' ρ' σ' rs' H' → D.bk σ' H'
  | .ct ρ' => ∀ σ' F' H', FStep R E F F' → Rel K R L E F' ρ' σ' rs' H' → D.ct σ' H'
  | .rt x => ∀ v F' H', Ret K R rs' E F F' H' v x → D.rt v H'
def SSem (K : PySem.W.Frag) (R : RA) (t : TS) (g : Env → M Out) : Prop :=
  ∀ (L : Nat → Option (Addr × HO)) (E F : Hp) (ρ : Env) (σ : L2.St) (rs : RS) (H : Hp) (o : Out) (rs' : RS) (D : Ends), Rel K R L E F ρ σ rs H → g ρ rs = some (o, rs') → Post K R L E F D rs' o → t D σ H
structure DS (X : Cx) (R : RA) (st : Stmt) (t : TS) (g : Env → M Out) : Prop where
  ps : PS X st t
  sem : SSem X.K R t g
structure DSs (X : Cx) (R : RA) (st : List Stmt) (t : TS) (g : Env → M Out) : Prop where
  ps : PSs X st t
  sem : SSem X.K R t g
/-- behind a first part -/
theorem Post.after {F1 : Hp} {D : Ends} {o : Out} (h : Post K R L E F D rs' o) (s : FStep R E F F1) : Post K R L E F1 D rs' o := by
  cases o with
  | nx ρ' => exact fun σ' F' H' f r => h σ' F' H' (s.trans f) r
  | bk ρ' => exact fun σ' F' H' f r => h σ' F' H' (s.trans f) r
  | ct ρ' => exact fun σ' F' H' f r => h σ' F' H' (s.trans f) r
  | rt x => exact fun v F' H' q => h v F' H' ⟨s.trans q.fs, q.ex, q.fr, q.row, q.rF, q.val⟩

theorem Rel.put (r : Rel K R L E F ρ σ rs H) (i : Nat) (sv : SV) (v : V) (h : SR K R L E F H i v sv) (ho : ∀ a, sv.ow → v = .ref a → ∀ j y, j ≠ i → ρ[j]? = some (some y) → y.ow → σ[j]? = some (some (V.ref a)) → False) :
    Rel K R L E F (ρ.set i (some sv)) (σ.set i (some v)) rs H where
  len := by rw [List.length_set, List.length_set]; exact r.len
  ex := r.ex
  ent := r.ent
  fr := r.fr
  row := r.row
  rE := r.rE
  lk := r.lk
  sl := fun j sw e => by
    by_cases hj : j = i
    · subst hj
      have hl : j < ρ.length := by
        have := (List.getElem?_eq_some_iff.mp e).1
        rw [List.length_set] at this
        exact this
      rw [List.getElem?_set_self hl] at e
      cases e
      exact ⟨v, List.getElem?_set_self (by rw [← r.len]; exact hl), h⟩
    · rw [List.getElem?_set_ne (Ne.symm hj)] at e
      obtain ⟨w, e1, q⟩ := r.sl j sw e
      exact ⟨w, by rw [List.getElem?_set_ne (Ne.symm hj)]; exact e1, q⟩
  own := fun j k a x y e1 e2 ox oy e3 e4 => by
    by_cases hj : j = i
    · by_cases hk : k = i
      · rw [hj, hk]
      · exfalso
        subst hj
        have hl : j < ρ.length := by
          have := (List.getElem?_eq_some_iff.mp e1).1
          rw [List.length_set] at this
          exact this
        rw [List.getElem?_set_self hl] at e1
        rw [List.getElem?_set_self (by rw [← r.len]; exact hl)] at e3
        rw [List.getElem?_set_ne (Ne.symm hk)] at e2 e4
        exact ho a (by cases e1; exact ox) (Option.some.inj (Option.some.inj e3)) k y hk e2 oy e4
    · by_cases hk : k = i
      · exfalso
        subst hk
        have hl : k < ρ.length := by
          have := (List.getElem?_eq_some_iff.mp e2).1
          rw [List.length_set] at this
          exact this
        rw [List.getElem?_set_self hl] at e2
        rw [List.getElem?_set_self (by rw [← r.len]; exact hl)] at e4
        rw [List.getElem?_set_ne (Ne.symm hj)] at e1 e3
        exact ho a (by cases e2; exact oy) (Option.some.inj (Option.some.inj e4)) j x hj e1 ox e3
      · rw [List.getElem?_set_ne (Ne.symm hj)] at e1 e3
        rw [List.getElem?_set_ne (Ne.symm hk)] at e2 e4
        exact r.own j k a x y e1 e2 ox oy e3 e4
/-- data, or a new list, into a name -/
def toS : RV → Option SV
  | .d x => some (.d x)
  | .n ds => some (.o ds)
  | .gn c => some (.g c)
  | _ => none
/-- what is of one's own stands in the heap -/
theorem Rel.own_at (r : Rel K R L E F ρ σ rs H) {j : Nat} {y : SV} {a : Addr} (e : ρ[j]? = some (some y)) (oy : y.ow) (ea : σ[j]? = some (some (V.ref a))) : ∃ u, H a = some u ∧ E a = none ∧ F a = none ∧ some a ≠ R.row := by
  obtain ⟨w, e1, q⟩ := r.sl j _ e
  rw [ea] at e1
  cases e1
  cases y with
  | d x => cases oy
  | k x => cases oy
  | un => cases oy
  | ex _ _ => cases oy
  | fn _ => cases oy
  | lm => cases oy
  | m _ => cases oy
  | row => cases oy
  | o ds =>
    obtain ⟨b, vs, q1, q2, q3, q4, q5, _⟩ := q
    cases q1
    exact ⟨_, q2, q3, q4, q5⟩
  | g c =>
    obtain ⟨b, vs, q1, q2, q3, q4, q5, _⟩ := q
    cases q1
    exact ⟨_, q2, q3, q4, q5⟩
theorem Rel.store {H0 : Hp} (r0 : Rel K R L E F ρ σ rs H0) {F1 H1 : Hp} (s : Step K R rs' F H0 F1 H1) {v : V} {x : RV} {sv : SV} (hv : VR K R F1 H0 H1 v x) (e : toS x = some sv) (i : Nat) : Rel K R L E F1 (ρ.set i (some sv)) (σ.set i (some v)) rs' H1 := by
  cases x with
  | d y =>
    cases e
    exact (r0.step s).put i _ v hv (fun a q => nomatch q)
  | n ds =>
    cases e
    obtain ⟨a, vs, rfl, h1, h0, h2, h3, h4⟩ := hv
    have hE : E a = none := by
      cases q : E a with
      | none => rfl
      | some u => rw [r0.ex a u q] at h0; cases h0
    refine (r0.step s).put i _ _ ⟨a, vs, rfl, h1, hE, h2, h3, h4⟩ fun b q1 q2 j y hj e1 oy e2 => ?_
    cases q2
    obtain ⟨u, q, _⟩ := r0.own_at e1 oy e2
    rw [h0] at q
    cases q
  | gb _ => cases e
  | gn c =>
    cases e
    obtain ⟨a, u, rfl, h1, h0, h2, h3, h4⟩ := hv
    have hE : E a = none := by
      cases q : E a with
      | none => rfl
      | some u => rw [r0.ex a u q] at h0; cases h0
    refine (r0.step s).put i _ _ ⟨a, u, rfl, h1, hE, h2, h3, h4⟩ fun b q1 q2 j y hj e1 oy e2 => ?_
    cases q2
    obtain ⟨u, q, _⟩ := r0.own_at e1 oy e2
    rw [h0] at q
    cases q
  | b ds => cases e
  | row => cases e
theorem Rel.forget (r : Rel K R L E F ρ σ rs H) (i : Nat) : Rel K R L E F (ρ.set i none) σ rs H where
  len := by rw [List.length_set]; exact r.len
  ex := r.ex
  ent := r.ent
  fr := r.fr
  row := r.row
  rE := r.rE
  lk := r.lk
  sl := fun j sw e => by
    by_cases hj : j = i
    · subst hj
      have hl : j < ρ.length := by
        have := (List.getElem?_eq_some_iff.mp e).1
        rw [List.length_set] at this
        exact this
      rw [List.getElem?_set_self hl] at e
      cases e
    · rw [List.getElem?_set_ne (Ne.symm hj)] at e
      exact r.sl j sw e
  own := fun j k a x y e1 e2 ox oy e3 e4 => by
    have hj : j ≠ i := by
      rintro rfl
      have hl : j < ρ.length := by
        have := (List.getElem?_eq_some_iff.mp e1).1
        rw [List.length_set] at this
        exact this
      rw [List.getElem?_set_self hl] at e1
      cases e1
    have hk : k ≠ i := by
      rintro rfl
      have hl : k < ρ.length := by
        have := (List.getElem?_eq_some_iff.mp e2).1
        rw [List.length_set] at this
        exact this
      rw [List.getElem?_set_self hl] at e2
      cases e2
    rw [List.getElem?_set_ne (Ne.symm hj)] at e1
    rw [List.getElem?_set_ne (Ne.symm hk)] at e2
    exact r.own j k a x y e1 e2 ox oy e3 e4
/-- a list of one's own is changed -/
theorem Rel.change (r : Rel K R L E F ρ σ rs H) {i : Nat} {ds es : List D} {a : Addr} {ws : List V} (e : ρ[i]? = some (some (SV.o ds))) (ea : σ[i]? = some (some (V.ref a))) (hd : DpAll K F ws es) :
    Rel K R L E F (ρ.set i (some (.o es))) σ rs (upd H a (.lst ws)) := by
  obtain ⟨v, e1, b, vs, q1, q2, q3, q4, q5, q6⟩ := r.sl i _ e
  rw [ea] at e1
  cases e1
  cases q1
  have hl : i < ρ.length := (List.getElem?_eq_some_iff.mp e).1
  refine ⟨by rw [List.length_set]; exact r.len, fun b o z => ?_, r.ent, fun b o z => ?_, ⟨fun q eq => ?_, tabs_upd r.row.tab (.inr ⟨_, q2⟩), r.row.fnt⟩, r.rE, r.lk, fun j sw ej => ?_, fun j k c x y e1 e2 ox oy e3 e4 => ?_⟩
  · rw [upd_ne (fun zz => by rw [zz, q3] at z; cases z)]
    exact r.ex b o z
  · rw [upd_ne (fun zz => by rw [zz, q4] at z; cases z)]
    exact r.fr b o z
  · obtain ⟨c, k1, k2, k3⟩ := r.row.at_ q eq
    exact ⟨c, by rw [upd_ne (fun zz => q5 (by rw [← zz, eq]))]; exact k1, k2, k3⟩
  · by_cases hj : j = i
    · subst hj
      rw [List.getElem?_set_self hl] at ej
      cases ej
      exact ⟨_, ea, a, ws, rfl, upd_same, q3, q4, q5, hd⟩
    · rw [List.getElem?_set_ne (Ne.symm hj)] at ej
      obtain ⟨w, k1, k2⟩ := r.sl j sw ej
      refine ⟨w, k1, ?_⟩
      cases sw with
      | d x => exact k2
      | k x => exact k2
      | un => exact trivial
      | ex _ _ => exact k2
      | fn _ => exact k2
      | lm => exact k2
      | m _ => exact k2
      | row => exact k2
      | o x =>
        obtain ⟨c, us, rfl, z1, z2, z3, z4, z5⟩ := k2
        have hca : c ≠ a := by
          rintro rfl
          exact hj (r.own j i c _ _ ej e trivial trivial k1 ea)
        exact ⟨c, us, rfl, by rw [upd_ne hca]; exact z1, z2, z3, z4, z5⟩
      | g x =>
        obtain ⟨c, us, rfl, z1, z2, z3, z4, z5⟩ := k2
        have hca : c ≠ a := by
          rintro rfl
          exact hj (r.own j i c _ _ ej e trivial trivial k1 ea)
        exact ⟨c, us, rfl, by rw [upd_ne hca]; exact z1, z2, z3, z4, z5⟩
  · by_cases hj : j = i
    · by_cases hk : k = i
      · rw [hj, hk]
      · subst hj
        rw [List.getElem?_set_ne (Ne.symm hk)] at e2
        exact r.own j k c _ y e e2 trivial oy e3 e4
    · rw [List.getElem?_set_ne (Ne.symm hj)] at e1
      by_cases hk : k = i
      · subst hk
        exact r.own j k c x _ e1 e ox trivial e3 e4
      · rw [List.getElem?_set_ne (Ne.symm hk)] at e2
        exact r.own j k c x y e1 e2 ox oy e3 e4
variable {st : Stmt} {rest sa sb : List Stmt} {t u : TS} {e c : Expr} {te : TE} {tt : TT} {pos : Pos} {f : Env → M RV} {x : Env → M Bool} {g h : Env → M Out}
def sNil : Env → M Out := fun ρ => ret (.nx ρ)
def sSeq (g h : Env → M Out) : Env → M Out := fun ρ => bnd (g ρ) fun o => match o with
  | .nx ρ' => h ρ'
  | o => ret o
theorem ssem_nil : SSem K R tNext sNil := fun L E F ρ σ rs H o rs' D r hf k => by
  obtain ⟨e1, q1⟩ := ret_some hf
  subst e1 q1
  exact k σ F H FStep.refl r
theorem ssem_seq (h1 : SSem K R t g) (h2 : SSem K R u h) : SSem K R (tSeq t u) (sSeq g h) := fun L E F ρ σ rs H o rs' D r hf k => by
  obtain ⟨o1, rs1, e1, hf1⟩ := bnd_some hf
  refine h1 L E F ρ σ rs H o1 rs1 { D with nx := u D } r e1 ?_
  cases o1 with
  | nx ρ1 =>
    exact fun σ1 F1 H1 s1 r1 => h2 L E F1 ρ1 σ1 rs1 H1 o rs' D r1 hf1 (k.after s1)
  | rt x =>
    obtain ⟨e2, q2⟩ := ret_some hf1
    subst e2 q2
    exact k
  | bk ρ1 =>
    obtain ⟨e2, q2⟩ := ret_some hf1
    subst e2 q2
    exact k
  | ct ρ1 =>
    obtain ⟨e2, q2⟩ := ret_some hf1
    subst e2 q2
    exact k
theorem dss_nil : DSs X R [] tNext sNil := ⟨pss_nil, ssem_nil⟩
theorem dss_one (h1 : DS X R st t g) : DSs X R [st] t g := ⟨pss_one h1.ps, h1.sem⟩
theorem dss_cons (h1 : DS X R st t g) (h2 : DSs X R rest u h) : DSs X R (st :: rest) (tSeq t u) (sSeq g h) := ⟨pss_cons h1.ps h2.ps, ssem_seq h1.sem h2.sem⟩
def sNever : Env → M Out := fun _ => fail
theorem dss_never {sts : List Stmt} : DSs X R sts tNever sNever := ⟨pss_never, fun L E F ρ σ rs H o rs' D r hf k => nomatch hf⟩
def sIf (x : Env → M Bool) (g h : Env → M Out) : Env → M Out := fun ρ => bnd (x ρ) fun b => if b = true then g ρ else h ρ
theorem ds_if (hc : DT X R c tt x) (ha : DSs X R sa t g) (hb : DSs X R sb u h) : DS X R (.If c sa sb pos) (tIfS tt t u) (sIf x g h) := ⟨ps_if hc.pt ha.ps hb.ps, fun L E F ρ σ rs H o rs' D r hf k => by
  obtain ⟨b, rs1, e1, hf1⟩ := bnd_some hf
  refine hc.sem L E ρ σ F H rs b rs1 _ r e1 fun F1 H1 s1 => ?_
  cases b with
  | true =>
    rw [if_pos rfl] at hf1 ⊢
    exact ha.sem L E F1 ρ σ rs1 H1 o rs' D (r.step s1) hf1 (k.after (FStep.ofStep r s1))
  | false =>
    rw [if_neg Bool.false_ne_true] at hf1 ⊢
    exact hb.sem L E F1 ρ σ rs1 H1 o rs' D (r.step s1) hf1 (k.after (FStep.ofStep r s1))⟩

def toRet : RV → Option RV
  | .d x => some (.d x)
  | .n ds => some (.n ds)
  | .gn c => some (.gn c)
  | _ => none
def sRet (f : Env → M RV) : Env → M Out := fun ρ => bnd (f ρ) fun x => bnd (lft (toRet x)) fun y => ret (.rt y)
theorem Ret.of {F1 H1 : Hp} (r : Rel K R L E F ρ σ rs H) (s : Step K R rs' F H F1 H1) {v : V} {x y : RV} (hv : VR K R F1 H H1 v x) (e : toRet x = some y) : Ret K R rs' E F F1 H1 v y := by
  have r1 := r.step s
  refine ⟨FStep.ofStep r s, r1.ex, r1.fr, r1.row, s.rF, ?_⟩
  cases x with
  | d y => cases e; exact hv
  | n ds =>
    cases e
    obtain ⟨a, vs, rfl, h1, h0, h2, h3, h4⟩ := hv
    refine ⟨a, vs, rfl, h1, ?_, h2, h3, h4⟩
    cases q : E a with
    | none => rfl
    | some u => rw [r.ex a u q] at h0; cases h0
  | gb _ => cases e
  | gn c =>
    cases e
    obtain ⟨a, vs, rfl, h1, h0, h2, h3, h4⟩ := hv
    refine ⟨a, vs, rfl, h1, ?_, h2, h3, h4⟩
    cases q : E a with
    | none => rfl
    | some u => rw [r.ex a u q] at h0; cases h0
  | b ds => cases e
  | row => cases e
theorem ds_ret (he : DE X R e te f) : DS X R (.Return (some e) pos) (tRet te) (sRet f) := ⟨ps_ret he.pe, fun L E F ρ σ rs H o rs' D r hf k => by
  obtain ⟨x, rs1, e1, hf1⟩ := bnd_some hf
  obtain ⟨y, rs2, e2, hf2⟩ := bnd_some hf1
  obtain ⟨e3, q3⟩ := lft_some e2
  obtain ⟨e4, q4⟩ := ret_some hf2
  subst e4 q4 q3
  exact he.sem L E ρ σ F H rs x _ _ r e1 fun v F1 H1 s1 h1 => k v F1 H1 (Ret.of r s1 h1 e3)⟩
/-- return of a name: a list of one's own is handed over -/
def vown (ρ : Env) (i : Nat) : Option RV := match ρ[i]? with
  | some (some (.d x)) => some (.d x)
  | some (some (.o ds)) => some (.n ds)
  | some (some (.g c)) => some (.gn c)
  | _ => none
def sRetV (i : Nat) : Env → M Out := fun ρ => bnd (lft (vown ρ i)) fun y => ret (.rt y)
theorem ds_retV (i : Nat) {x : Str} {p : Pos} (hN : X.N[i]? = some x := by rfl) (hv : Vis X.env.scope x := by first | exact Or.inl rfl | exact Or.inr (Or.inl rfl) | exact Or.inr (Or.inr rfl)) (hd : (x == ("__debug__" : Str)) = false := by decide)
    (hcd : (x == ("__classdict__" : Str)) = false := by decide) : DS X R (.Return (some (.Name x p)) pos) (tRet (tVar i)) (sRetV i) := ⟨ps_ret (pe_var hN hv hd hcd), fun L E F ρ σ rs H o rs' D r hf k => by
  obtain ⟨y, rs2, e2, hf2⟩ := bnd_some hf
  obtain ⟨e3, q3⟩ := lft_some e2
  obtain ⟨e4, q4⟩ := ret_some hf2
  subst e4 q4 q3
  unfold vown at e3
  cases e : ρ[i]? with
  | none => rw [e] at e3; cases e3
  | some sv =>
    cases sv with
    | none => rw [e] at e3; cases e3
    | some sv =>
      rw [e] at e3
      obtain ⟨v, ev, q⟩ := r.sl i sv e
      refine ⟨v, ev, k v F H ⟨FStep.refl, r.ex, r.fr, r.row, fun q e => (r.rE q e).2, ?_⟩⟩
      cases sv with
      | d x => cases e3; exact q
      | o ds =>
        cases e3
        obtain ⟨a, vs, e1, h1, h2, h3, h4, h5⟩ := q
        exact ⟨a, vs, e1, h1, h2, h3, h4, h5⟩
      | g c =>
        cases e3
        obtain ⟨a, vs, e1, h1, h2, h3, h4, h5⟩ := q
        exact ⟨a, vs, e1, h1, h2, h3, h4, h5⟩
      | k ds => cases e3
      | un => cases e3
      | ex _ _ => cases e3
      | fn _ => cases e3
      | lm => cases e3
      | m _ => cases e3
      | row => cases e3⟩
def sDrop (f : Env → M RV) : Env → M Out := fun ρ => bnd (f ρ) fun _ => ret (.nx ρ)
theorem ds_expr (he : DE X R e te f) (hs : swapsWith e none pos.line X.env = pure false := by rfl) : DS X R (.Expr e pos) (tDrop te) (sDrop f) := ⟨ps_expr he.pe hs, fun L E F ρ σ rs H o rs' D r hf k => by
  obtain ⟨x, rs1, e1, hf1⟩ := bnd_some hf
  obtain ⟨e4, q4⟩ := ret_some hf1
  subst e4 q4
  exact he.sem L E ρ σ F H rs x _ _ r e1 fun v F1 H1 s1 h1 => k σ F1 H1 (FStep.ofStep r s1) (r.step s1)⟩
def sSet (i : Nat) (f : Env → M RV) : Env → M Out := fun ρ => bnd (f ρ) fun x => bnd (lft (toS x)) fun sv => ret (.nx (ρ.set i (some sv)))
theorem ds_set {i : Nat} {x : Str} {pos' : Pos} (hN : X.N.Nodup) (hi : X.N[i]? = some x) (hx : Loc X.env.scope x) (he : DE X R e te f) (hs : swapsWith e (some (.Name x pos')) pos.line X.env = pure false := by rfl)
    (hf : X.fn x = true ∨ X.env.scope.names.lookup x = some .local := by first | exact .inl rfl | exact .inr rfl | assumption) : DS X R (.Assign [.Name x pos'] e pos) (tAsg te (gName i)) (sSet i f) := ⟨ps_set hN hi hx he.pe hs hf, fun L E F ρ σ rs H o rs' D r hf k => by
  obtain ⟨x, rs1, e1, hf1⟩ := bnd_some hf
  obtain ⟨sv, rs2, e2, hf2⟩ := bnd_some hf1
  obtain ⟨e3, q3⟩ := lft_some e2
  obtain ⟨e4, q4⟩ := ret_some hf2
  subst e4 q4 q3
  exact he.sem L E ρ σ F H rs x _ _ r e1 fun v F1 H1 s1 h1 => k _ F1 H1 (FStep.ofStep r s1) (Rel.store r s1 h1 e3 i)⟩
/-- y = x, both names: a list of one's own moves -/
def sMove (i j : Nat) : Env → M Out := fun ρ => match ρ[j]? with
  | some (some (.d x)) => ret (.nx (ρ.set i (some (.d x))))
  | some (some (.o ds)) => ret (.nx ((ρ.set j none).set i (some (.o ds))))
  | some (some (.g c)) => ret (.nx ((ρ.set j none).set i (some (.g c))))
  | _ => fail
theorem ds_move {i j : Nat} {x y : Str} {pos' p2 : Pos} (hN : X.N.Nodup) (hi : X.N[i]? = some x) (hx : Loc X.env.scope x) (hj : X.N[j]? = some y) (hv : Vis X.env.scope y := by first | exact Or.inl rfl | exact Or.inr (Or.inl rfl) | exact Or.inr (Or.inr rfl)) (hd : (y == ("__debug__" : Str)) = false := by decide)
    (hcd : (y == ("__classdict__" : Str)) = false := by decide) (hs : swapsWith (.Name y p2) (some (.Name x pos')) pos.line X.env = pure false := by rfl)
    (hf : X.fn x = true ∨ X.env.scope.names.lookup x = some .local := by first | exact .inl rfl | exact .inr rfl | assumption) : DS X R (.Assign [.Name x pos'] (.Name y p2) pos) (tAsg (tVar j) (gName i)) (sMove i j) := ⟨ps_set hN hi hx (pe_var hj hv hd hcd) hs hf, fun L E F ρ σ rs H o rs' D r hf k => by
  unfold sMove at hf
  cases e : ρ[j]? with
  | none => rw [e] at hf; cases hf
  | some sv =>
    cases sv with
    | none => rw [e] at hf; cases hf
    | some sv =>
      rw [e] at hf
      obtain ⟨v, ev, q⟩ := r.sl j sv e
      refine ⟨v, ev, ?_⟩
      cases sv with
      | d x =>
        obtain ⟨e4, q4⟩ := ret_some hf
        subst e4 q4
        exact k _ F H FStep.refl (r.put i _ v q (fun a q => nomatch q))
      | o ds =>
        obtain ⟨e4, q4⟩ := ret_some hf
        subst e4 q4
        obtain ⟨a, vs, rfl, h1, h2, h3, h4, h5⟩ := q
        refine k _ F H FStep.refl ((r.forget j).put i _ _ ⟨a, vs, rfl, h1, h2, h3, h4, h5⟩ fun b q1 q2 m y hm e1 oy e2 => ?_)
        cases q2
        have hmj : m ≠ j := by
          rintro rfl
          have hl : m < ρ.length := by
            have := (List.getElem?_eq_some_iff.mp e1).1
            rw [List.length_set] at this
            exact this
          rw [List.getElem?_set_self hl] at e1
          cases e1
        rw [List.getElem?_set_ne (Ne.symm hmj)] at e1
        exact hmj (r.own m j a _ _ e1 e oy trivial e2 ev)
      | g c =>
        obtain ⟨e4, q4⟩ := ret_some hf
        subst e4 q4
        obtain ⟨a, vs, rfl, h1, h2, h3, h4, h5⟩ := q
        refine k _ F H FStep.refl ((r.forget j).put i _ _ ⟨a, vs, rfl, h1, h2, h3, h4, h5⟩ fun b q1 q2 m y hm e1 oy e2 => ?_)
        cases q2
        have hmj : m ≠ j := by
          rintro rfl
          have hl : m < ρ.length := by
            have := (List.getElem?_eq_some_iff.mp e1).1
            rw [List.length_set] at this
            exact this
          rw [List.getElem?_set_self hl] at e1
          cases e1
        rw [List.getElem?_set_ne (Ne.symm hmj)] at e1
        exact hmj (r.own m j a _ _ e1 e oy trivial e2 ev)
      | k ds => cases hf
      | un => cases hf
      | ex _ _ => cases hf
      | fn _ => cases hf
      | lm => cases hf
      | m _ => cases hf
      | row => cases hf⟩
/-- x += e, ints -/
def sAug (i : Nat) (k : Int → Int → Int) (f : Env → M RV) : Env → M Out := fun ρ => bnd (lft (vget ρ i)) fun y => bnd (lft (asInt y)) fun a => bnd (f ρ) fun x => bnd (lft (asInt x)) fun b => ret (.nx (ρ.set i (some (.d (.int (k a b))))))
end
end DV

namespace DV
open PySem L2
section
variable {X : Cx} {K : PySem.W.Frag} {R : RA} {L : Nat → Option (Addr × HO)} {E F F' H H' : Hp} {ρ ρ' : Env} {σ σ' : L2.St} {rs rs' : RS}

/-- other slots than S stand as they stood -/
structure OffEq (S : List Nat) (σ σ' : L2.St) : Prop where
  len : σ'.length = σ.length
  at_ : ∀ j, j ∉ S → σ'[j]? = σ[j]?
theorem OffEq.refl {S : List Nat} : OffEq S σ σ := ⟨rfl, fun _ _ => rfl⟩
theorem OffEq.trans {S : List Nat} {σ1 σ2 : L2.St} (a : OffEq S σ σ1) (b : OffEq S σ1 σ2) : OffEq S σ σ2 := ⟨b.len.trans a.len, fun j h => (b.at_ j h).trans (a.at_ j h)⟩
theorem OffEq.mono {S S' : List Nat} (a : OffEq S σ σ') (h : ∀ i ∈ S, i ∈ S') : OffEq S' σ σ' := ⟨a.len, fun j hj => a.at_ j fun z => hj (h j z)⟩
theorem wipe_at (σ : L2.St) : ∀ (vs : List Nat) (j : Nat), (wipe σ vs)[j]? = if j ∈ vs then (if j < σ.length then some none else none) else σ[j]?
  | [], j => by simp [wipe]
  | v :: vs, j => by
    unfold wipe
    by_cases hj : j = v
    · subst hj
      rw [if_pos List.mem_cons_self]
      by_cases hl : j < σ.length
      · rw [List.getElem?_set_self (by rw [wipe_length]; exact hl), if_pos hl]
      · rw [if_neg hl, List.getElem?_eq_none]
        rw [List.length_set, wipe_length]
        omega
    · rw [List.getElem?_set_ne (Ne.symm hj), wipe_at σ vs j]
      have e : (j ∈ v :: vs) = (j ∈ vs) := by simp [hj]
      simp only [e]
theorem wipe_off {S : List Nat} (o : OffEq S σ σ') {vs : List Nat} (h : ∀ i ∈ S, i ∈ vs) : wipe σ' vs = wipe σ vs := by
  apply List.ext_getElem?
  intro j
  rw [wipe_at, wipe_at, o.len]
  by_cases hj : j ∈ vs
  · rw [if_pos hj, if_pos hj]
  · rw [if_neg hj, if_neg hj]
    exact o.at_ j fun z => hj (h j z)
def wipeE (ρ : Env) : List Nat → Env
  | [] => ρ
  | v :: vs => (wipeE ρ vs).set v none
theorem Rel.forget2 (r : Rel K R L E F ρ σ rs H) (i : Nat) : Rel K R L E F (ρ.set i none) (σ.set i none) rs H := by
  have q := r.forget i
  refine ⟨by rw [List.length_set, List.length_set]; exact r.len, q.ex, q.ent, q.fr, q.row, q.rE, q.lk, fun j sw e => ?_, fun j k a x y e1 e2 ox oy e3 e4 => ?_⟩
  · have hj : j ≠ i := by
      rintro rfl
      have hl : j < ρ.length := by
        have := (List.getElem?_eq_some_iff.mp e).1
        rw [List.length_set] at this
        exact this
      rw [List.getElem?_set_self hl] at e
      cases e
    obtain ⟨v, e1, h1⟩ := q.sl j sw e
    exact ⟨v, by rw [List.getElem?_set_ne (Ne.symm hj)]; exact e1, h1⟩
  · have hj : j ≠ i := by
      rintro rfl
      have hl : j < ρ.length := by
        have := (List.getElem?_eq_some_iff.mp e1).1
        rw [List.length_set] at this
        exact this
      rw [List.getElem?_set_self hl] at e1
      cases e1
    have hk : k ≠ i := by
      rintro rfl
      have hl : k < ρ.length := by
        have := (List.getElem?_eq_some_iff.mp e2).1
        rw [List.length_set] at this
        exact this
      rw [List.getElem?_set_self hl] at e2
      cases e2
    rw [List.getElem?_set_ne (Ne.symm hj)] at e3
    rw [List.getElem?_set_ne (Ne.symm hk)] at e4
    exact q.own j k a x y e1 e2 ox oy e3 e4
theorem Rel.wipe (r : Rel K R L E F ρ σ rs H) : ∀ vs : List Nat, Rel K R L E F (wipeE ρ vs) (L2.wipe σ vs) rs H
  | [] => r
  | v :: vs => (Rel.wipe r vs).forget2 v
def GSem (K : PySem.W.Frag) (R : RA) (S : List Nat) (t : TG) (h : D → Env → Option Env) : Prop :=
  ∀ (L : Nat → Option (Addr × HO)) (E F : Hp) (ρ : Env) (σ : L2.St) (rs : RS) (H : Hp) (v : V) (x : D) (ρ' : Env) (Q : L2.St → Hp → Prop), Rel K R L E F ρ σ rs H → Dp K F v x → h x ρ = some ρ' →
    (∀ σ', Rel K R L E F ρ' σ' rs H → OffEq S σ σ' → Q σ' H) → t v σ H Q
def GsSem (K : PySem.W.Frag) (R : RA) (S : List Nat) (t : TGs) (h : List D → Env → Option Env) : Prop :=
  ∀ (L : Nat → Option (Addr × HO)) (E F : Hp) (ρ : Env) (σ : L2.St) (rs : RS) (H : Hp) (v : List V) (x : List D) (ρ' : Env) (Q : L2.St → Hp → Prop), Rel K R L E F ρ σ rs H → DpAll K F v x → h x ρ = some ρ' →
    (∀ σ', Rel K R L E F ρ' σ' rs H → OffEq S σ σ' → Q σ' H) → t v σ H Q
structure DG (X : Cx) (R : RA) (S : List Nat) (tg : Expr) (t : TG) (h : D → Env → Option Env) : Prop where
  pg : PG X tg t
  sem : GSem X.K R S t h
structure DGs (X : Cx) (R : RA) (S : List Nat) (tg : List Expr) (t : TGs) (h : List D → Env → Option Env) : Prop where
  pg : PGs X tg t
  sem : GsSem X.K R S t h
variable {S S' : List Nat} {tg it elt e c : Expr} {es ifs : List Expr} {g : TG} {gs : TGs} {hg : D → Env → Option Env} {hgs : List D → Env → Option Env} {pos p : Pos} {st : Stmt} {body : List Stmt} {tb : TS} {tt : TT} {te : TE} {ta : TA} {wi : TI}
def gNm (i : Nat) : D → Env → Option Env := fun x ρ => some (ρ.set i (some (.d x)))
theorem dg_name {i : Nat} {x : Str} (hN : X.N.Nodup) (hi : X.N[i]? = some x) (hx : Loc X.env.scope x) (hf : X.fn x = true ∨ X.env.scope.names.lookup x = some .local := by first | exact .inl rfl | exact .inr rfl | assumption) : DG X R [i] (.Name x pos) (gName i) (gNm i) :=
  ⟨pg_name hN hi hx hf, fun L E F ρ σ rs H v x ρ' Q r hd e k => by
    cases e
    refine k _ (r.put i _ v hd (fun a q => nomatch q)) ⟨List.length_set, fun j hj => ?_⟩
    rw [List.getElem?_set_ne]
    exact fun z => hj (by simp [z])⟩
def gNone : List D → Env → Option Env := fun xs ρ => match xs with
  | [] => some ρ
  | _ => none
def gMore (h : D → Env → Option Env) (hs : List D → Env → Option Env) : List D → Env → Option Env := fun xs ρ => match xs with
  | x :: xs => match h x ρ with
    | some ρ1 => hs xs ρ1
    | none => none
  | [] => none
theorem dgs_nil : DGs X R [] [] gNil gNone := ⟨pgs_nil, fun L E F ρ σ rs H v x ρ' Q r hd e k => by
  cases hd with
  | nil =>
    cases e
    exact ⟨rfl, k σ r OffEq.refl⟩
  | cons _ _ => cases e⟩
theorem dgs_cons (h1 : DG X R S e g hg) (h2 : DGs X R S' es gs hgs) (hs : (assignEach (e :: es) X.env).map (·.2) = assign e X.env :: (assignEach es X.env).map (·.2) := by rfl) : DGs X R (S ++ S') (e :: es) (gCons g gs) (gMore hg hgs) :=
  ⟨pgs_cons h1.pg h2.pg hs, fun L E F ρ σ rs H v x ρ' Q r hd e k => by
    cases hd with
    | nil => cases e
    | @cons v vs d ds hv ht =>
      have e' : (match hg d ρ with | some ρ1 => hgs ds ρ1 | none => none) = some ρ' := e
      cases e1 : hg d ρ with
      | none => rw [e1] at e'; cases e'
      | some ρ1 =>
        rw [e1] at e'
        refine ⟨v, vs, rfl, h1.sem L E F ρ σ rs H v d ρ1 _ r hv e1 fun σ1 r1 o1 => ?_⟩
        exact h2.sem L E F ρ1 σ1 rs H vs ds ρ' Q r1 ht e' fun σ2 r2 o2 => k σ2 r2 ((o1.mono fun i h => List.mem_append_left _ h).trans (o2.mono fun i h => List.mem_append_right _ h))⟩
def gTupF (n : Nat) (hs : List D → Env → Option Env) : D → Env → Option Env := fun x ρ => match x with
  | .tuple ds => if ds.length = n then hs ds ρ else none
  | _ => none
theorem dg_tup {k n : Nat} (hc : X.calm = true) (h : DGs X R S es gs hgs) (hn : (assignEach es X.env).length = n := by rfl) (hst : (assignEach es X.env).findIdx? (·.1) = none := by rfl) : DG X R S (.Tuple es k pos) (gTup X.K n gs) (gTupF n hgs) :=
  ⟨pg_tup hc h.pg hn hst, fun L E F ρ σ rs H v x ρ' Q r hd e k => by
    cases x with
    | tuple ds =>
      have e' : (if ds.length = n then hgs ds ρ else none) = some ρ' := e
      by_cases hl : ds.length = n
      · rw [if_pos hl] at e'
        cases hd with
        | @tup a vs _ h1 h2 =>
          exact ⟨a, vs, rfl, ex_t (r.fr _) h1, by rw [h2.len, hl], h.sem L E F ρ σ rs H vs ds ρ' Q r h2 e' k⟩
      · rw [if_neg hl] at e'; cases e'
    | none => cases e
    | bool _ => cases e
    | int _ => cases e
    | str _ => cases e
    | list _ => cases e
    | dict _ => cases e⟩
/-- a, b = e -/
def sTup (f : Env → M RV) (h : D → Env → Option Env) : Env → M Out := fun ρ => bnd (f ρ) fun x => match x with
  | .d y => bnd (lft (h y ρ)) fun ρ' => ret (.nx ρ')
  | _ => fail
theorem ds_tup {f : Env → M RV} (he : DE X R e te f) (h : DG X R S tg g hg) (hs : swapsWithSole [tg] e pos.line X.env = pure false := by rfl) (hw : swappedStores [tg] e X.env = pure none := by rfl)
    (h1 : (assignEach [tg] X.env).map (·.2) = [assign tg X.env] := by rfl) : DS X R (.Assign [tg] e pos) (tAsg te g) (sTup f hg) := ⟨ps_asg he.pe h.pg hs hw h1, fun L E F ρ σ rs H o rs' D r hf k => by
  obtain ⟨x, rs1, e1, hf1⟩ := bnd_some hf
  refine he.sem L E ρ σ F H rs x rs1 _ r e1 fun v F1 H1 s1 h1 => ?_
  cases x with
  | d y =>
    obtain ⟨ρ', rs2, e2, hf2⟩ := bnd_some hf1
    obtain ⟨e3, q3⟩ := lft_some e2
    obtain ⟨e4, q4⟩ := ret_some hf2
    subst e4 q4 q3
    exact h.sem L E F1 ρ σ _ H1 v y ρ' _ (r.step s1) h1 e3 fun σ' r' _ => k σ' F1 H1 (FStep.ofStep r s1) r'
  | b _ => cases hf1
  | n _ => cases hf1
  | gb _ => cases hf1
  | gn _ => cases hf1
  | row => cases hf1⟩
/-- a, b = x, y with two plain local names -/
def sPar (i j : Nat) (fa : Env → M (List RV)) : Env → M Out := fun ρ => bnd (fa ρ) fun xs => match xs with
  | [x, y] => bnd (lft (toS x)) fun sx => bnd (lft (toS y)) fun sy => ret (.nx ((ρ.set i (some sx)).set j (some sy)))
  | _ => fail
theorem Rel.store2 {H0 : Hp} (r0 : Rel K R L E F ρ σ rs H0) {ρ1 : Env} {σ1 : L2.St} {F1 H1 : Hp} (r1 : Rel K R L E F1 ρ1 σ1 rs' H1) {v : V} {x : RV} {sv : SV} (hv : VR K R F1 H0 H1 v x) (e : toS x = some sv) (i : Nat)
    (apart : ∀ a u, v = .ref a → H1 a = some u → H0 a = none → ∀ j y, j ≠ i → ρ1[j]? = some (some y) → y.ow → σ1[j]? = some (some (V.ref a)) → False) : Rel K R L E F1 (ρ1.set i (some sv)) (σ1.set i (some v)) rs' H1 := by
  cases x with
  | d y =>
    cases e
    exact r1.put i _ v hv (fun a q => nomatch q)
  | n ds =>
    cases e
    obtain ⟨a, vs, rfl, h1, h0, h2, h3, h4⟩ := hv
    have hE : E a = none := by
      cases q : E a with
      | none => rfl
      | some u => rw [r0.ex a u q] at h0; cases h0
    refine r1.put i _ _ ⟨a, vs, rfl, h1, hE, h2, h3, h4⟩ fun b q1 q2 j fs hj e1 oy e2 => ?_
    cases q2
    exact apart a _ rfl h1 h0 j fs hj e1 oy e2
  | gb _ => cases e
  | gn c =>
    cases e
    obtain ⟨a, vs, rfl, h1, h0, h2, h3, h4⟩ := hv
    have hE : E a = none := by
      cases q : E a with
      | none => rfl
      | some u => rw [r0.ex a u q] at h0; cases h0
    refine r1.put i _ _ ⟨a, vs, rfl, h1, hE, h2, h3, h4⟩ fun b q1 q2 j fs hj e1 oy e2 => ?_
    cases q2
    exact apart a _ rfl h1 h0 j fs hj e1 oy e2
  | b ds => cases e
  | row => cases e
theorem ds_par {i j : Nat} {x y : Str} {a b : Expr} {fa fb : Env → M RV} {tA tB : TE} {px py pt : Pos} {kt k2 pt2} (hc : X.calm = true) (hN : X.N.Nodup) (hi : X.N[i]? = some x) (hj : X.N[j]? = some y) (hij : i ≠ j)
    (hx : X.env.scope.names.lookup x = some .local) (hy : X.env.scope.names.lookup y = some .local) (ha : DE X R a tA fa) (hb : DE X R b tB fb)
    (hw : swappedStores [.Tuple [.Name x px, .Name y py] kt pt] (.Tuple [a, b] k2 pt2) X.env = pure (some [x, y])) (hs : swapsWithSole [.Tuple [.Name x px, .Name y py] kt pt] (.Tuple [a, b] k2 pt2) pos.line X.env = pure false := by rfl)
    (hq1 : starEach [a, b] X.env = (false, eval a X.env) :: starEach [b] X.env := by rfl) (hq2 : starEach [b] X.env = (false, eval b X.env) :: starEach [] X.env := by rfl) :
    DS X R (.Assign [.Tuple [.Name x px, .Name y py] kt pt] (.Tuple [a, b] k2 pt2) pos) (tPar i j (tCons tA (tCons tB tNil))) (sPar i j (aCons fa (aCons fb aNil))) :=
  ⟨ps_par hc hN hi hj hij hx hy (pa_cons ha.pe (pa_cons hb.pe pa_nil hq2) hq1) hw hs, fun L E F ρ σ rs H o rs' D r hf k => by
    obtain ⟨xs, rs1, e1, hf1⟩ := bnd_some hf
    obtain ⟨x1, rs2, e2, hf2⟩ := bnd_some e1
    obtain ⟨ys, rs3, e3, hf3⟩ := bnd_some hf2
    obtain ⟨x2, rs4, e4, hf4⟩ := bnd_some e3
    obtain ⟨zs, rs5, e5, hf5⟩ := bnd_some hf4
    obtain ⟨e6, q6⟩ := ret_some e5
    obtain ⟨e7, q7⟩ := ret_some hf5
    obtain ⟨e8, q8⟩ := ret_some hf3
    subst e6 q6 e7 q7 e8 q8
    obtain ⟨sx, rs6, e9, hf6⟩ := bnd_some hf1
    obtain ⟨e10, q10⟩ := lft_some e9
    obtain ⟨sy, rs7, e11, hf7⟩ := bnd_some hf6
    obtain ⟨e12, q12⟩ := lft_some e11
    obtain ⟨e13, q13⟩ := ret_some hf7
    subst e13 q13 q12 q10
    refine ha.sem L E ρ σ F H rs x1 rs2 _ r e2 fun v1 F1 H1 s1 h1 => ?_
    refine hb.sem L E ρ σ F1 H1 rs2 x2 _ _ (r.step s1) e4 fun v2 F2 H2 s2 h2 => ?_
    refine ⟨v1, v2, rfl, ?_⟩
    have s12 := s1.trans r.row s2
    have r1 := Rel.store r s12 (h1.step s2) e10 i
    refine k _ F2 H2 (FStep.ofStep r s12) (Rel.store2 (r.step s1) r1 h2 e12 j fun a u ev hl h0 m y hm q1 oy q2 => ?_)
    subst ev
    by_cases hmi : m = i
    · subst hmi
      have hl : m < ρ.length := by
        have := (List.getElem?_eq_some_iff.mp q1).1
        rw [List.length_set] at this
        exact this
      rw [List.getElem?_set_self (by rw [← r.len]; exact hl)] at q2
      have q3 := Option.some.inj (Option.some.inj q2)
      subst q3
      rw [List.getElem?_set_self hl] at q1
      cases x1 with
      | d y => cases e10; cases q1; cases oy
      | n y =>
        obtain ⟨_, _, e, hh, _⟩ := h1
        cases e
        rw [h0] at hh
        cases hh
      | gb _ => cases e10
      | gn y =>
        obtain ⟨_, _, e, hh, _⟩ := h1
        cases e
        rw [h0] at hh
        cases hh
      | b y => cases e10
      | row => cases e10
    · rw [List.getElem?_set_ne (Ne.symm hmi)] at q1 q2
      obtain ⟨w, q, _⟩ := (r.step s1).own_at q1 oy q2
      rw [h0] at q
      cases q⟩
end
end DV

namespace DV
open PySem L2
section
variable {X : Cx} {K : PySem.W.Frag} {R : RA} {L : Nat → Option (Addr × HO)} {E F F' H H' : Hp} {ρ ρ' : Env} {σ σ' : L2.St} {rs rs' : RS}

/-- what must stand while it is walked: things that are new, the caller's, or one list of one's own (lk) -/
def PinOk (K : PySem.W.Frag) (R : RA) (E F' H H' : Hp) (ρ : Env) (σ : L2.St) (lk : Option Nat) (P : Hp) : Prop := ∀ a o, P a = some o → H' a = some o ∧ some a ≠ R.row ∧ Fx K a o ∧
  ((H a = none ∧ F' a = none) ∨ E a = some o ∨ ∃ i ds, lk = some i ∧ ρ[i]? = some (some (SV.o ds)) ∧ σ[i]? = some (some (V.ref a)))
def YOk (K : PySem.W.Frag) (F' : Hp) (its : List D) (Y : Nat → Hp → V → Hp → Prop) : Prop := ∀ (i : Nat) (H1 : Hp) (v : V) (H2 F1 : Hp), i < its.length → (∀ a o, F' a = some o → F1 a = some o) → (∀ a o, F1 a = some o → H1 a = some o) → Y i H1 v H2 →
  ∃ x, its[i]? = some x ∧ ((H2 = H1 ∧ Dp K F1 v x) ∨ (∃ T vs ds, v = .ref T ∧ H1 T = none ∧ NewT H1 H2 T vs ∧ x = .tuple ds ∧ DpAll K F1 vs ds) ∨
    ∃ T2 T vs ds j, v = .ref T ∧ H1 T2 = none ∧ T ≠ T2 ∧ H1 T = none ∧ (∃ H5, NewT H1 H5 T2 vs ∧ NewT H5 H2 T [.int j, .ref T2]) ∧ x = .tuple [.int j, .tuple ds] ∧ DpAll K F1 vs ds)
def IterOk (K : PySem.W.Frag) (R : RA) (E : Hp) (ρ : Env) (σ : L2.St) (H F' H' : Hp) (J : It) (its : List D) (lk : Option Nat) : Prop :=
  ∃ (G : Hp → Prop) (Y : Nat → Hp → V → Hp → Prop) (P : Hp), Walk J its.length G Y ∧ PinOk K R E F' H H' ρ σ lk P ∧ (∀ H2, (∀ a o, P a = some o → H2 a = some o) → (∀ a o, F' a = some o → H2 a = some o) → G H2) ∧ YOk K F' its Y
def ISem (K : PySem.W.Frag) (R : RA) (wi : TI) (f : Env → M (List D × Option Nat)) : Prop :=
  ∀ (L : Nat → Option (Addr × HO)) (E : Hp) (ρ : Env) (σ : L2.St) (F H : Hp) (rs : RS) (its : List D) (lk : Option Nat) (rs' : RS) (Rq : It → Hp → Prop), Rel K R L E F ρ σ rs H → f ρ rs = some ((its, lk), rs') →
    (∀ J F' H', Step K R rs' F H F' H' → IterOk K R E ρ σ H F' H' J its lk → Rq J H') → wi σ H Rq
structure DI (X : Cx) (R : RA) (tg it : Expr) (wi : TI) (f : Env → M (List D × Option Nat)) : Prop where
  pi : PI X tg it wi
  sem : ISem X.K R wi f

def lockE (ρ : Env) : Option Nat → Env
  | none => ρ
  | some i => match ρ[i]? with
    | some (some (.o ds)) => ρ.set i (some (.k ds))
    | _ => ρ
def unlockE (ρ ρ' : Env) : Option Nat → Env
  | none => ρ'
  | some i => match ρ[i]?, ρ'[i]? with
    | some (some (.o ds)), some (some (.k _)) => ρ'.set i (some (.o ds))
    | _, _ => ρ'
theorem unlock_none {i : Nat} (h : ∀ ds, ρ[i]? ≠ some (some (SV.o ds))) : unlockE ρ ρ' (some i) = ρ' := by
  show (match ρ[i]?, ρ'[i]? with | some (some (.o ds)), some (some (.k _)) => ρ'.set i (some (.o ds)) | _, _ => ρ') = ρ'
  split
  · rename_i e _
    exact absurd e (h _)
  · rfl
theorem lock_none {i : Nat} (h : ∀ ds, ρ[i]? ≠ some (some (SV.o ds))) : lockE ρ (some i) = ρ := by
  show (match ρ[i]? with | some (some (.o ds)) => ρ.set i (some (.k ds)) | _ => ρ) = ρ
  split
  · rename_i e
    exact absurd e (h _)
  · rfl
def addH (P E : Hp) : Hp := fun a => match P a with
  | some o => some o
  | none => E a
theorem addH_fx {P E : Hp} (h1 : ∀ a o, P a = some o → Fx K a o) (h2 : ∀ a o, E a = some o → Fx K a o) : ∀ a o, addH P E a = some o → Fx K a o := fun a o h => by
  unfold addH at h
  cases e : P a with
  | none => rw [e] at h; exact h2 a o h
  | some u => rw [e] at h; cases h; exact h1 a _ e
theorem addH_none {P E : Hp} {a : Addr} (h : addH P E a = none) : P a = none ∧ E a = none := by
  unfold addH at h
  cases e : P a with
  | none => rw [e] at h; exact ⟨rfl, h⟩
  | some o => rw [e] at h; cases h
theorem addH_of {P E : Hp} {a : Addr} (h1 : P a = none) (h2 : E a = none) : addH P E a = none := by
  unfold addH; rw [h1]; exact h2
/-- without a lock of one's own -/
theorem Rel.pin0 (r0 : Rel K R L E F ρ σ rs H) (s : Step K R rs' F H F' H') {lk : Option Nat} {P : Hp} (p : PinOk K R E F' H H' ρ σ lk P) (hn : ∀ i ds, lk = some i → ρ[i]? ≠ some (some (SV.o ds))) :
    Rel K R L (addH P E) F' ρ σ rs' H' := by
  have r1 := r0.step s
  have hex : ∀ a o, addH P E a = some o → H' a = some o := fun a o e => by
    unfold addH at e
    cases q : P a with
    | none => rw [q] at e; exact r1.ex a o e
    | some u => rw [q] at e; cases e; exact (p a _ q).1
  refine ⟨r1.len, hex, addH_fx (fun a o e => (p a o e).2.2.1) r1.ent, r1.fr, r1.row, fun q e => ⟨addH_of ?_ (r1.rE q e).1, (r1.rE q e).2⟩, fun i a vs e => ?_, fun i sv e => ?_, r1.own⟩
  · cases z : P q with
    | none => rfl
    | some u => exact absurd e.symm (p q u z).2.1
  · have hE := r1.lk i a vs e
    unfold addH
    cases q : P a with
    | none => exact hE
    | some u =>
      have h1 := (p a u q).1
      rw [r1.ex a _ hE] at h1
      exact h1.symm ▸ rfl
  · obtain ⟨v, e1, q⟩ := r1.sl i sv e
    refine ⟨v, e1, ?_⟩
    cases sv with
    | d x => exact q
    | k ds => exact q
    | un => exact trivial
    | ex _ _ => exact q
    | fn _ => exact q
    | lm => exact q
    | m _ => exact q
    | row => exact q
    | o ds =>
      obtain ⟨a, vs, rfl, h1, h2, h3, h4, h5⟩ := q
      refine ⟨a, vs, rfl, h1, addH_of ?_ h2, h3, h4, h5⟩
      cases z : P a with
      | none => rfl
      | some u =>
        rcases (p a u z).2.2.2 with ⟨z1, _⟩ | z1 | ⟨j, es, z1, z2, _⟩
        · obtain ⟨w, e2, b, ws, e3, k1, _⟩ := r0.sl i _ e
          rw [e1] at e2
          cases e2
          cases e3
          rw [z1] at k1
          cases k1
        · rw [h2] at z1; cases z1
        · exact absurd z2 (hn j es z1)
    | g c =>
      obtain ⟨a, vs, rfl, h1, h2, h3, h4, h5⟩ := q
      refine ⟨a, vs, rfl, h1, addH_of ?_ h2, h3, h4, h5⟩
      cases z : P a with
      | none => rfl
      | some u =>
        rcases (p a u z).2.2.2 with ⟨z1, _⟩ | z1 | ⟨j, es, z1, z2, _⟩
        · obtain ⟨w, k1, _⟩ := r0.own_at e trivial e1
          rw [z1] at k1
          cases k1
        · rw [h2] at z1; cases z1
        · exact absurd z2 (hn j es z1)
theorem Rel.unpin0 {P : Hp} {F2 H2 : Hp} {ρ2 : Env} {σ2 : L2.St} {rs2 : RS} (r1 : Rel K R L E F' ρ σ rs' H') (r2 : Rel K R L (addH P E) F2 ρ2 σ2 rs2 H2) (hPE : ∀ a o, E a = some o → addH P E a = some o) : Rel K R L E F2 ρ2 σ2 rs2 H2 := by
  refine ⟨r2.len, fun a o e => r2.ex a o (hPE a o e), r1.ent, r2.fr, r2.row, fun q e => ⟨(r1.rE q e).1, (r2.rE q e).2⟩, r1.lk, fun i sv e => ?_, r2.own⟩
  obtain ⟨v, e1, q⟩ := r2.sl i sv e
  refine ⟨v, e1, ?_⟩
  cases sv with
  | d x => exact q
  | k ds => exact q
  | un => exact trivial
  | ex _ _ => exact q
  | fn _ => exact q
  | lm => exact q
  | m _ => exact q
  | row => exact q
  | o ds =>
    obtain ⟨a, vs, rfl, h1, h2, h3, h4, h5⟩ := q
    exact ⟨a, vs, rfl, h1, (addH_none h2).2, h3, h4, h5⟩
  | g c =>
    obtain ⟨a, vs, rfl, h1, h2, h3, h4, h5⟩ := q
    exact ⟨a, vs, rfl, h1, (addH_none h2).2, h3, h4, h5⟩
theorem pinE (r0 : Rel K R L E F ρ σ rs H) (s : Step K R rs' F H F' H') {lk : Option Nat} {P : Hp} (p : PinOk K R E F' H H' ρ σ lk P) : ∀ a o, E a = some o → addH P E a = some o := fun a o e => by
  unfold addH
  cases q : P a with
  | none => exact e
  | some u =>
    have h1 := (p a u q).1
    rw [(r0.step s).ex a o e] at h1
    exact h1.symm ▸ rfl
/-- what a loop starts from, and how its end is read -/
structure Pinned (K : PySem.W.Frag) (R : RA) (L : Nat → Option (Addr × HO)) (E F' H' P : Hp) (ρ : Env) (σ : L2.St) (rs' : RS) (lk : Option Nat) (L2 : Nat → Option (Addr × HO)) (E2 : Hp) : Prop where
  rel : Rel K R L2 E2 F' (lockE ρ lk) σ rs' H'
  less : ∀ a, E2 a = none → E a = none
  sub : ∀ a o, E a = some o → E2 a = some o
  pin : ∀ a o, P a = some o → E2 a = some o
  back : ∀ F2 ρ2 σ2 rs2 H2, FStep R E2 F' F2 → Rel K R L2 E2 F2 ρ2 σ2 rs2 H2 → Rel K R L E F2 (unlockE ρ ρ2 lk) σ2 rs2 H2
theorem pinned (r0 : Rel K R L E F ρ σ rs H) (s : Step K R rs' F H F' H') {lk : Option Nat} {P : Hp} (p : PinOk K R E F' H H' ρ σ lk P) : ∃ L2 E2, Pinned K R L E F' H' P ρ σ rs' lk L2 E2 := by
  have r1 := r0.step s
  have plain : (∀ i ds, lk = some i → ρ[i]? ≠ some (some (SV.o ds))) → ∃ L2 E2, Pinned K R L E F' H' P ρ σ rs' lk L2 E2 := fun hn => by
    have h1 : lockE ρ lk = ρ := by
      cases lk with
      | none => rfl
      | some i => exact lock_none fun ds => hn i ds rfl
    have h2 : ∀ ρ2, unlockE ρ ρ2 lk = ρ2 := fun ρ2 => by
      cases lk with
      | none => rfl
      | some i => exact unlock_none fun ds => hn i ds rfl
    refine ⟨L, addH P E, ⟨by rw [h1]; exact r0.pin0 s p hn, fun a e => (addH_none e).2, pinE r0 s p, fun a o e => by unfold addH; rw [e], fun F2 ρ2 σ2 rs2 H2 _ r2 => ?_⟩⟩
    rw [h2]
    exact Rel.unpin0 r1 r2 (pinE r0 s p)
  cases hlk : lk with
  | none =>
    subst hlk
    exact plain fun i ds e => nomatch e
  | some i =>
    by_cases ho : ∃ ds, ρ[i]? = some (some (SV.o ds))
    · obtain ⟨ds, ho⟩ := ho
      subst hlk
      obtain ⟨v, ev, a, vs, rfl, q1, q2, q3, q4, q5⟩ := r1.sl i _ ho
      have hl : i < ρ.length := (List.getElem?_eq_some_iff.mp ho).1
      have elock : lockE ρ (some i) = ρ.set i (some (.k ds)) := by
        show (match ρ[i]? with | some (some (.o ds)) => ρ.set i (some (.k ds)) | _ => ρ) = _
        rw [ho]
      have hPa : ∀ o, P a = some o → o = .lst vs := fun o e => by
        have := (p a o e).1
        rw [q1] at this
        exact (Option.some.inj this).symm
      have hE2 : ∀ b o, upd (addH P E) a (.lst vs) b = some o → H' b = some o := fun b o e => by
        by_cases hb : b = a
        · subst hb; rw [upd_same] at e; rw [q1]; exact e
        · rw [upd_ne hb] at e
          unfold addH at e
          cases z : P b with
          | none => rw [z] at e; exact r1.ex b o e
          | some u => rw [z] at e; cases e; exact (p b _ z).1
      have hsub : ∀ b o, E b = some o → upd (addH P E) a (.lst vs) b = some o := fun b o e => by
        rw [upd_ne (fun z => by rw [z, q2] at e; cases e)]
        exact pinE r0 s p b o e
      refine ⟨fun j => if j = 2 * i then some (a, .lst vs) else L j, upd (addH P E) a (.lst vs), ⟨?_, fun b e => ?_, hsub, fun b o e => ?_, fun F2 ρ2 σ2 rs2 H2 fs r2 => ?_⟩⟩
      · rw [elock]
        refine ⟨by rw [List.length_set]; exact r1.len, hE2, fun b o e => by
          by_cases hb : b = a
          · subst hb; rw [upd_same] at e; cases e; exact .lst
          · rw [upd_ne hb] at e; exact addH_fx (fun a o e => (p a o e).2.2.1) r1.ent b o e, r1.fr, r1.row, fun q e => ⟨?_, (r1.rE q e).2⟩, fun j b ws e => ?_, fun j sv e => ?_, fun j k c xa ya e1 e2 ox oy e3 e4 => ?_⟩
        · rw [upd_ne (fun z => q4 (by rw [← z, e]))]
          refine addH_of ?_ (r1.rE q e).1
          cases z : P q with
          | none => rfl
          | some u => exact absurd e.symm (p q u z).2.1
        · by_cases hj : j = 2 * i
          · have e' : (if j = 2 * i then some (a, .lst vs) else L j) = some (b, ws) := e
            rw [if_pos hj] at e'
            cases e'
            exact upd_same
          · have e' : (if j = 2 * i then some (a, .lst vs) else L j) = some (b, ws) := e
            rw [if_neg hj] at e'
            exact hsub b _ (r1.lk j b ws e')
        · by_cases hj : j = i
          · subst hj
            rw [List.getElem?_set_self hl] at e
            cases e
            exact ⟨_, ev, a, vs, if_pos rfl, rfl, q5⟩
          · rw [List.getElem?_set_ne (Ne.symm hj)] at e
            obtain ⟨w, e1, q⟩ := r1.sl j sv e
            refine ⟨w, e1, ?_⟩
            cases sv with
            | d x => exact q
            | k es =>
              obtain ⟨b, ws, z1, z2, z3⟩ := q
              exact ⟨b, ws, (if_neg (show ¬ 2 * j = 2 * i by omega)).trans z1, z2, z3⟩
            | un => exact trivial
            | ex _ _ => exact q
            | fn _ => exact q
            | lm => exact q
            | m _ =>
              obtain ⟨b, bs, z1, z2⟩ := q
              exact ⟨b, bs, z1, z2.cong fun k => if_neg (show ¬ 2 * k + 1 = 2 * i by omega)⟩
            | row => exact q
            | o es =>
              obtain ⟨b, ws, rfl, z1, z2, z3, z4, z5⟩ := q
              have hba : b ≠ a := by
                rintro rfl
                exact hj (r1.own j i b _ _ e ho trivial trivial e1 ev)
              refine ⟨b, ws, rfl, z1, ?_, z3, z4, z5⟩
              rw [upd_ne hba]
              refine addH_of ?_ z2
              cases z : P b with
              | none => rfl
              | some u =>
                rcases (p b u z).2.2.2 with ⟨y1, _⟩ | y1 | ⟨m, fs, y1, y2, y3⟩
                · obtain ⟨w, k1, _⟩ := r0.own_at e trivial e1
                  rw [y1] at k1
                  cases k1
                · rw [z2] at y1; cases y1
                · cases y1
                  rw [ev] at y3
                  cases y3
                  exact absurd rfl hba
            | g es =>
              obtain ⟨b, ws, rfl, z1, z2, z3, z4, z5⟩ := q
              have hba : b ≠ a := by
                rintro rfl
                exact hj (r1.own j i b _ _ e ho trivial trivial e1 ev)
              refine ⟨b, ws, rfl, z1, ?_, z3, z4, z5⟩
              rw [upd_ne hba]
              refine addH_of ?_ z2
              cases z : P b with
              | none => rfl
              | some u =>
                rcases (p b u z).2.2.2 with ⟨y1, _⟩ | y1 | ⟨m, fs, y1, y2, y3⟩
                · obtain ⟨w, k1, _⟩ := r0.own_at e trivial e1
                  rw [y1] at k1
                  cases k1
                · rw [z2] at y1; cases y1
                · cases y1
                  rw [ev] at y3
                  cases y3
                  exact absurd rfl hba
        · have hj : j ≠ i := by
            rintro rfl
            rw [List.getElem?_set_self hl] at e1
            cases e1
            cases ox
          have hk : k ≠ i := by
            rintro rfl
            rw [List.getElem?_set_self hl] at e2
            cases e2
            cases oy
          exact r1.own j k c xa ya (by rw [List.getElem?_set_ne (Ne.symm hj)] at e1; exact e1) (by rw [List.getElem?_set_ne (Ne.symm hk)] at e2; exact e2) ox oy e3 e4
      · have hba : b ≠ a := by
          rintro rfl
          rw [upd_same] at e
          cases e
        rw [upd_ne hba] at e
        exact (addH_none e).2
      · by_cases hb : b = a
        · subst hb
          rw [upd_same, hPa o e]
        · rw [upd_ne hb]
          unfold addH
          rw [e]
      · have weak : Rel K R (fun j => if j = 2 * i then some (a, .lst vs) else L j) E F2 ρ2 σ2 rs2 H2 → True := fun _ => trivial
        -- slots other than i
        have slot : ∀ (j : Nat) (sv : SV) (v : V), j ≠ i → SR K R (fun j => if j = 2 * i then some (a, .lst vs) else L j) (upd (addH P E) a (.lst vs)) F2 H2 j v sv → SR K R L E F2 H2 j v sv := fun j sv v hj q => by
          cases sv with
          | d x => exact q
          | k es =>
            obtain ⟨b, ws, z1, z2, z3⟩ := q
            exact ⟨b, ws, (if_neg (show ¬ 2 * j = 2 * i by omega)).symm.trans z1, z2, z3⟩
          | un => exact trivial
          | ex _ _ => exact q
          | fn _ => exact q
          | lm => exact q
          | m _ =>
            obtain ⟨b, bs, z1, z2⟩ := q
            exact ⟨b, bs, z1, z2.cong fun k => (if_neg (show ¬ 2 * k + 1 = 2 * i by omega)).symm⟩
          | row => exact q
          | o es =>
            obtain ⟨b, ws, rfl, z1, z2, z3, z4, z5⟩ := q
            refine ⟨b, ws, rfl, z1, ?_, z3, z4, z5⟩
            cases z : E b with
            | none => rfl
            | some u => rw [hsub b u z] at z2; cases z2
          | g es =>
            obtain ⟨b, ws, rfl, z1, z2, z3, z4, z5⟩ := q
            refine ⟨b, ws, rfl, z1, ?_, z3, z4, z5⟩
            cases z : E b with
            | none => rfl
            | some u => rw [hsub b u z] at z2; cases z2
        by_cases hk : ∃ es, ρ2[i]? = some (some (SV.k es))
        · obtain ⟨es, hk⟩ := hk
          have eun : unlockE ρ ρ2 (some i) = ρ2.set i (some (.o ds)) := by
            show (match ρ[i]?, ρ2[i]? with | some (some (.o ds)), some (some (.k _)) => ρ2.set i (some (.o ds)) | _, _ => ρ2) = _
            rw [ho, hk]
          rw [eun]
          have hl2 : i < ρ2.length := (List.getElem?_eq_some_iff.mp hk).1
          obtain ⟨v2, ev2, b, ws, y1, y2, y3⟩ := r2.sl i _ hk
          have y1' : (if 2 * i = 2 * i then some (a, HO.lst vs) else L (2 * i)) = some (b, .lst ws) := y1
          rw [if_pos rfl] at y1'
          cases y1'
          subst y2
          have hEa : upd (addH P E) a (.lst vs) a = some (.lst vs) := upd_same
          have hFa : F2 a = none := by
            cases z : F2 a with
            | none => rfl
            | some u =>
              rcases fs.new a u z with y | ⟨y, _⟩
              · rw [q3] at y; cases y
              · rw [hEa] at y; cases y
          refine ⟨by rw [List.length_set]; exact r2.len, fun b o e => r2.ex b o (hsub b o e), r1.ent, r2.fr, r2.row, fun q e => ⟨(r1.rE q e).1, (r2.rE q e).2⟩, r1.lk, fun j sv e => ?_, fun j k c xa ya e1 e2 ox oy e3 e4 => ?_⟩
          · by_cases hj : j = i
            · subst hj
              rw [List.getElem?_set_self hl2] at e
              cases e
              exact ⟨_, ev2, a, vs, rfl, r2.ex a _ hEa, q2, hFa, q4, Dp.monoA fs.sub _ _ q5⟩
            · rw [List.getElem?_set_ne (Ne.symm hj)] at e
              obtain ⟨w, e1, q⟩ := r2.sl j sv e
              exact ⟨w, e1, slot j sv w hj q⟩
          · have other : ∀ (j : Nat) (x1 : SV), j ≠ i → (ρ2.set i (some (SV.o ds)))[j]? = some (some x1) → x1.ow → σ2[j]? = some (some (V.ref c)) → c ≠ a := fun j x1 hj e1 ox e3 => by
              rw [List.getElem?_set_ne (Ne.symm hj)] at e1
              obtain ⟨u, _, z2, _⟩ := r2.own_at e1 ox e3
              rintro rfl
              rw [hEa] at z2
              cases z2
            by_cases hj : j = i
            · by_cases hk' : k = i
              · rw [hj, hk']
              · exfalso
                subst hj
                rw [ev2] at e3
                cases e3
                exact other k ya hk' e2 oy e4 rfl
            · by_cases hk' : k = i
              · exfalso
                subst hk'
                rw [ev2] at e4
                cases e4
                exact other j xa hj e1 ox e3 rfl
              · rw [List.getElem?_set_ne (Ne.symm hj)] at e1
                rw [List.getElem?_set_ne (Ne.symm hk')] at e2
                exact r2.own j k c xa ya e1 e2 ox oy e3 e4
        · have eun : unlockE ρ ρ2 (some i) = ρ2 := by
            show (match ρ[i]?, ρ2[i]? with | some (some (.o ds)), some (some (.k _)) => ρ2.set i (some (.o ds)) | _, _ => ρ2) = _
            split
            · rename_i e2
              exact absurd ⟨_, e2⟩ hk
            · rfl
          rw [eun]
          refine ⟨r2.len, fun b o e => r2.ex b o (hsub b o e), r1.ent, r2.fr, r2.row, fun q e => ⟨(r1.rE q e).1, (r2.rE q e).2⟩, r1.lk, fun j sv e => ?_, r2.own⟩
          obtain ⟨w, e1, q⟩ := r2.sl j sv e
          by_cases hj : j = i
          · subst hj
            refine ⟨w, e1, ?_⟩
            cases sv with
            | d x => exact q
            | k es => exact absurd ⟨es, e⟩ hk
            | un => exact trivial
            | ex _ _ => exact q
            | fn _ => exact q
            | lm => exact q
            | m _ =>
              obtain ⟨b, bs, z1, z2⟩ := q
              exact ⟨b, bs, z1, z2.cong fun k => (if_neg (show ¬ 2 * k + 1 = 2 * j by omega)).symm⟩
            | row => exact q
            | o es =>
              obtain ⟨b, ws, rfl, z1, z2, z3, z4, z5⟩ := q
              refine ⟨b, ws, rfl, z1, ?_, z3, z4, z5⟩
              cases z : E b with
              | none => rfl
              | some u => rw [hsub b u z] at z2; cases z2
            | g es =>
              obtain ⟨b, ws, rfl, z1, z2, z3, z4, z5⟩ := q
              refine ⟨b, ws, rfl, z1, ?_, z3, z4, z5⟩
              cases z : E b with
              | none => rfl
              | some u => rw [hsub b u z] at z2; cases z2
          · exact ⟨w, e1, slot j sv w hj q⟩
    · subst hlk
      exact plain fun j ds e q => by
        cases e
        exact ho ⟨ds, q⟩
end
end DV

namespace DV
open PySem L2
section
variable {X : Cx} {K : PySem.W.Frag} {R : RA} {L : Nat → Option (Addr × HO)} {E F F' H H' : Hp} {ρ ρ' : Env} {σ σ' : L2.St} {rs rs' : RS}
variable {S S' : List Nat} {tg it elt e c : Expr} {es ifs : List Expr} {g : TG} {gs : TGs} {hg : D → Env → Option Env} {hgs : List D → Env → Option Env} {pos p : Pos} {st : Stmt} {body : List Stmt} {tb : TS} {tt : TT} {te : TE} {ta : TA} {wi : TI}
/-- what a walk yields, as a step -/
theorem YOk.step {its : List D} {Y : Nat → Hp → V → Hp → Prop} (y : YOk K F' its Y) {i : Nat} {H1 H2 F1 : Hp} {v : V} (hi : i < its.length) (h1 : ∀ a o, F' a = some o → F1 a = some o) (s : Step K R rs F1 H1 F1 H1) (hy : Y i H1 v H2) :
    ∃ x F2, its[i]? = some x ∧ Step K R rs F1 H1 F2 H2 ∧ Dp K F2 v x := by
  obtain ⟨x, e, q⟩ := y i H1 v H2 F1 hi h1 s.fin hy
  rcases q with ⟨rfl, hd⟩ | ⟨T, vs, ds, rfl, hT, ⟨ob, hob, rfl⟩, rfl, hd⟩ | ⟨T2, T, vs, ds, j, rfl, hT2, hne, hT, ⟨H5, ⟨ob, hob, rfl⟩, ⟨ob2, hob2, rfl⟩⟩, rfl, hd⟩
  · exact ⟨x, F1, e, s, hd⟩
  · have s2 := Step.new_tup (ob := ob) (vs := vs) s hT
    exact ⟨_, _, e, s2, .tup (.inl (.inr ⟨_, upd_same⟩)) (Dp.monoA s2.sub _ _ hd) ⟨_, _, upd_same, hob⟩⟩
  · have s2 := Step.new_tup (ob := ob) (vs := vs) s hT2
    have hT' : upd H1 T2 (TupX ob vs) T = none := by rw [upd_ne hne]; exact hT
    have s3 := Step.new_tup (ob := ob2) (vs := [V.int j, V.ref T2]) (Step.refl s2.fin s2.row s2.rF) hT'
    have s23 := s2.trans s.row s3
    have d2 : Dp K (upd F1 T2 (TupX ob vs)) (.ref T2) (.tuple ds) := .tup (.inl (.inr ⟨_, upd_same⟩)) (Dp.monoA s2.sub _ _ hd) ⟨_, _, upd_same, hob⟩
    exact ⟨_, _, e, s23, .tup (.inl (.inr ⟨_, upd_same⟩)) (.cons (.int j) (.cons (Dp.mono s3.sub _ _ d2) .nil)) ⟨_, _, upd_same, hob2⟩⟩

def loopF (tg : D → Env → Option Env) (body : Env → M Out) : List D → Env → M Out
  | [], ρ => ret (.nx ρ)
  | x :: xs, ρ => bnd (lft (tg x ρ)) fun ρ1 => bnd (body ρ1) fun o => match o with
    | .nx ρ2 => loopF tg body xs ρ2
    | .ct ρ2 => loopF tg body xs ρ2
    | .bk ρ2 => ret (.nx ρ2)
    | .rt r => ret (.rt r)
def unlockO (ρ : Env) (lk : Option Nat) : Out → Out
  | .nx ρ' => .nx (unlockE ρ ρ' lk)
  | o => o
def sFor (fi : Env → M (List D × Option Nat)) (tg : D → Env → Option Env) (body : Env → M Out) : Env → M Out := fun ρ =>
  bnd (fi ρ) fun p => bnd (loopF tg body p.1 (lockE ρ p.2)) fun o => ret (unlockO ρ p.2 o)
theorem ssem_for_at {fi : Env → M (List D × Option Nat)} {gb : Env → M Out} (r : Rel K R L E F ρ σ rs H) (hi : ∀ (its : List D) (lk : Option Nat) (rs1 : RS) (Rq : It → Hp → Prop), fi ρ rs = some ((its, lk), rs1) → (∀ J F' H', Step K R rs1 F H F' H' → IterOk K R E ρ σ H F' H' J its lk → Rq J H') → wi σ H Rq)
    (hgs : GSem K R S g hg) (hb : SSem K R tb gb) {o : Out} {rs' : RS} {D : Ends} (hf : sFor fi hg gb ρ rs = some (o, rs')) (k : Post K R L E F D rs' o) : tFor wi g tb D σ H := by
  obtain ⟨⟨its, lk⟩, rs1, e1, hf1⟩ := bnd_some hf
  obtain ⟨o1, rs2, e2, hf2⟩ := bnd_some hf1
  obtain ⟨e3, q3⟩ := ret_some hf2
  subst e3 q3
  refine hi its lk rs1 _ e1 fun J F1 H1 s1 ⟨G, Y, P, wk, pn, hG, hY⟩ => ?_
  obtain ⟨L2, E2, pd⟩ := pinned r s1 pn
  have fs1 := FStep.ofStep r s1
  -- the ends
  have fin : ∀ ρ2 σ2 F2 H2, o1 = .nx ρ2 → FStep R E2 F1 F2 → Rel K R L2 E2 F2 ρ2 σ2 rs' H2 → D.nx σ2 H2 := fun ρ2 σ2 F2 H2 eo fs r2 => by
    subst eo
    exact k σ2 F2 H2 (fs1.trans (fs.less pd.less)) (pd.back F2 ρ2 σ2 _ H2 fs r2)
  have finR : ∀ x v F2 F3 H3, o1 = .rt x → FStep R E2 F1 F2 → Ret K R rs' E2 F2 F3 H3 v x → D.rt v H3 := fun x v F2 F3 H3 eo fs q => by
    subst eo
    refine k v F3 H3 ⟨fs1.trans ((fs.trans q.fs).less pd.less), fun a o e => q.ex a o (pd.sub a o e), q.fr, q.row, q.rF, ?_⟩
    have hv := q.val
    cases x with
    | d y => exact hv
    | n ds =>
      obtain ⟨a, vs, z1, z2, z3, z4⟩ := hv
      exact ⟨a, vs, z1, z2, pd.less a z3, z4⟩
    | gb _ => exact hv.elim
    | gn c =>
      obtain ⟨a, vs, z1, z2, z3, z4⟩ := hv
      exact ⟨a, vs, z1, z2, pd.less a z3, z4⟩
    | b ds => exact hv.elim
    | row => exact hv.elim
  refine for_it wk (fun i σ' H' => ∃ F2 ρ2 rs3, FStep R E2 F1 F2 ∧ Rel K R L2 E2 F2 ρ2 σ' rs3 H' ∧ loopF hg gb (its.drop i) ρ2 rs3 = some (o1, rs')) ⟨F1, _, rs1, FStep.refl, pd.rel, e2⟩
    (fun i σ' H' hi ⟨F2, ρ2, rs3, fs, r2, _⟩ => hG H' (fun a o q => r2.ex a o (pd.pin a o q)) fun a o q => r2.fr a o (fs.sub a o q)) ?_ ?_
  · rintro i v σ' H2 H3 hi' ⟨F2, ρ2, rs3, fs, r2, el⟩ hy
    obtain ⟨x, F3, ex, s3, hd⟩ := hY.step hi' fs.sub r2.refl hy
    have er : its.drop i = x :: its.drop (i + 1) := by
      have hx : its[i] = x := by
        rw [List.getElem?_eq_getElem hi'] at ex
        exact Option.some.inj ex
      rw [← hx]
      exact List.drop_eq_getElem_cons hi'
    rw [er] at el
    obtain ⟨ρ3, rs4, e4, el1⟩ := bnd_some el
    obtain ⟨e5, q5⟩ := lft_some e4
    subst q5
    obtain ⟨o2, rs5, e6, el2⟩ := bnd_some el1
    have r3 := r2.step s3
    have fs3 := fs.trans (FStep.ofStep r2 s3)
    refine hgs L2 E2 F3 ρ2 σ' _ H3 v x ρ3 _ r3 hd e5 fun σ4 r4 _ => ?_
    refine hb L2 E2 F3 ρ3 σ4 _ H3 o2 rs5 _ r4 e6 ?_
    cases o2 with
    | nx ρ5 => exact fun σ5 F5 H5 f5 r5 => ⟨F5, ρ5, rs5, fs3.trans f5, r5, el2⟩
    | ct ρ5 => exact fun σ5 F5 H5 f5 r5 => ⟨F5, ρ5, rs5, fs3.trans f5, r5, el2⟩
    | bk ρ5 =>
      obtain ⟨e7, q7⟩ := ret_some el2
      subst q7
      exact fun σ5 F5 H5 f5 r5 => fin ρ5 σ5 F5 H5 e7.symm (fs3.trans f5) r5
    | rt x =>
      obtain ⟨e7, q7⟩ := ret_some el2
      subst q7
      exact fun v5 F5 H5 q => finR x v5 F3 F5 H5 e7.symm fs3 q
  · rintro σ' H' ⟨F2, ρ2, rs3, fs, r2, el⟩
    rw [List.drop_length] at el
    obtain ⟨e7, q7⟩ := ret_some el
    subst q7
    exact fin ρ2 σ' F2 H' e7.symm fs r2
theorem ssem_for {fi : Env → M (List D × Option Nat)} {gb : Env → M Out} (hi : ISem K R wi fi) (hgs : GSem K R S g hg) (hb : SSem K R tb gb) : SSem K R (tFor wi g tb) (sFor fi hg gb) := fun L E F ρ σ rs H o rs' D r hf k =>
  ssem_for_at r (fun its lk rs1 Rq e1 kk => hi L E ρ σ F H rs its lk rs1 Rq r e1 kk) hgs hb hf k
theorem ds_for {fi : Env → M (List D × Option Nat)} {gb : Env → M Out} (hp : PassesOwn (model X.prog X.w) X.A X.env X.xe) (hc : X.calm = true) (hi : DI X R tg it wi fi) (hg' : DG X R S tg g hg) (hb : DSs X R body tb gb)
    (hs : ∀ x, foldedSetIterable it X.env x = pure x := by intro _; rfl) : DS X R (.For tg it body [] pos) (tFor wi g tb) (sFor fi hg gb) := ⟨ps_for hp hc hi.pi hg'.pg hb.ps hs, ssem_for hi.sem hg'.sem hb.sem⟩

def wloopF (x : Env → M Bool) (body : Env → M Out) : Nat → Env → M Out
  | 0, _ => fail
  | n + 1, ρ => bnd (x ρ) fun b => if b = true then bnd (body ρ) fun o => match o with
    | .nx ρ2 => wloopF x body n ρ2
    | .ct ρ2 => wloopF x body n ρ2
    | .bk ρ2 => ret (.nx ρ2)
    | .rt r => ret (.rt r)
    else ret (.nx ρ)
theorem ssem_while (n : Nat) {x : Env → M Bool} {gb : Env → M Out} (hx : TSem K R tt x) (hb : SSem K R tb gb) : SSem K R (tWhile tt tb) (wloopF x gb n) := fun L E F ρ σ rs H o rs' D r hf k => by
  refine ⟨fun m σ H => ∃ F2 ρ2 rs3, FStep R E F F2 ∧ Rel K R L E F2 ρ2 σ rs3 H ∧ wloopF x gb m ρ2 rs3 = some (o, rs'), ⟨n, F, ρ, rs, FStep.refl, r, hf⟩, ?_⟩
  rintro m σ1 H1 ⟨F1, ρ1, rs1, fs, r1, el⟩
  cases m with
  | zero => cases el
  | succ m =>
    obtain ⟨b, rs2, e2, el1⟩ := bnd_some el
    refine hx L E ρ1 σ1 F1 H1 rs1 b rs2 _ r1 e2 fun F2 H2 s2 => ?_
    have r2 := r1.step s2
    have fs2 := fs.trans (FStep.ofStep r1 s2)
    cases b with
    | true =>
      rw [if_pos rfl] at el1 ⊢
      obtain ⟨o2, rs5, e6, el2⟩ := bnd_some el1
      refine ⟨fun σ' H' => ∃ F5 ρ5, FStep R E F F5 ∧ Rel K R L E F5 ρ5 σ' rs5 H' ∧ wloopF x gb m ρ5 rs5 = some (o, rs'), fun σ' H' ⟨F5, ρ5, a, b, c⟩ => ⟨m, Nat.lt_succ_self m, F5, ρ5, rs5, a, b, c⟩, ?_⟩
      refine hb L E F2 ρ1 σ1 rs2 H2 o2 rs5 _ r2 e6 ?_
      cases o2 with
      | nx ρ5 => exact fun σ5 F5 H5 f5 r5 => ⟨F5, ρ5, fs2.trans f5, r5, el2⟩
      | ct ρ5 => exact fun σ5 F5 H5 f5 r5 => ⟨F5, ρ5, fs2.trans f5, r5, el2⟩
      | bk ρ5 =>
        obtain ⟨e7, q7⟩ := ret_some el2
        subst e7 q7
        exact fun σ5 F5 H5 f5 r5 => k σ5 F5 H5 (fs2.trans f5) r5
      | rt y =>
        obtain ⟨e7, q7⟩ := ret_some el2
        subst e7 q7
        exact fun v F5 H5 q => k v F5 H5 ⟨fs2.trans q.fs, q.ex, q.fr, q.row, q.rF, q.val⟩
    | false =>
      rw [if_neg Bool.false_ne_true] at el1 ⊢
      obtain ⟨e7, q7⟩ := ret_some el1
      subst e7 q7
      exact k σ1 F2 H2 fs2 r2
theorem ds_while (n : Nat) {x : Env → M Bool} {gb : Env → M Out} (hp : PassesOwn (model X.prog X.w) X.A X.env X.xe) (hc : DT X R c tt x) (hb : DSs X R body tb gb) : DS X R (.While c body [] pos) (tWhile tt tb) (wloopF x gb n) := ⟨ps_while hp hc.pt hb.ps, ssem_while n hc.sem hb.sem⟩

structure DTs (X : Cx) (R : RA) (ifs : List Expr) (t : TT) (f : Env → M Bool) : Prop where
  pt : PTs X ifs t
  sem : TSem X.K R t f
def tTrue : Env → M Bool := fun _ => ret true
theorem dts_nil : DTs X R [] tYes tTrue := ⟨pts_nil, fun L E ρ σ F H rs x rs' Q r hf k => by
  obtain ⟨e1, q1⟩ := ret_some hf
  subst e1 q1
  exact k F H r.refl⟩
theorem dts_one {x : Env → M Bool} (h : DT X R c tt x) : DTs X R [c] tt x := ⟨pts_one h.pt, h.sem⟩
def lcF (tg : D → Env → Option Env) (tst : Env → M Bool) (el : Env → M RV) (ρ : Env) : List D → M (List D)
  | [] => ret []
  | x :: xs => bnd (lft (tg x ρ)) fun ρ1 => bnd (tst ρ1) fun b => if b = true then bnd (el ρ1) fun y => bnd (lft (toD y)) fun d => bnd (lcF tg tst el ρ xs) fun ds => ret (d :: ds) else lcF tg tst el ρ xs
def eLc (fi : Env → M (List D × Option Nat)) (vs : List Nat) (tg : D → Env → Option Env) (tst : Env → M Bool) (el : Env → M RV) : Env → M RV := fun ρ =>
  bnd (fi ρ) fun p => bnd (lcF tg tst el (wipeE ρ vs) p.1) fun ds => if p.1.length ≤ 100000 then ret (.n ds) else fail
theorem freeze1 {F0 H0 F1 H1 : Hp} {rs0 rs1 : RS} (s : Step K R rs1 F0 H0 F1 H1) (r0 : RowOk K R rs0 F0 H0) {v : V} {x : RV} {d : D} {Hb : Hp} (hb : ∀ a, Hb a = none → H0 a = none) (h : VR K R F1 Hb H1 v x) (e : toD x = some d) :
    ∃ F2, Step K R rs1 F0 H0 F2 H1 ∧ Dp K F2 v d ∧ (∀ a o, F1 a = some o → F2 a = some o) ∧ ∀ a, Hb a ≠ none → F1 a = none → F2 a = none := by
  cases x with
  | d y => cases e; exact ⟨F1, s, h, fun _ _ q => q, fun _ _ q => q⟩
  | n ds =>
    cases e
    obtain ⟨a, vs, rfl, h1, h0, h2, h3, h4⟩ := h
    have ku : ∀ b o, F1 b = some o → upd F1 a (.lst vs) b = some o := fun b o q => by
      rw [upd_ne (fun z => by rw [z, h2] at q; cases q)]; exact q
    refine ⟨upd F1 a (.lst vs), ⟨fun b o h q n => s.keep b o h q n, fun b o q => ku b o (s.sub b o q), fun b o q => ?_, fun b o q => ?_, s.row.mono ku fun b o q => ?_, fun r er => ?_⟩, .lst (.inl (.inl upd_same)) (Dp.monoA ku _ _ h4), ku, fun b hb1 hb2 => ?_⟩
    · by_cases eb : b = a
      · subst eb; exact .inr (hb b h0)
      · rw [upd_ne eb] at q; exact s.new b o q
    · by_cases eb : b = a
      · subst eb; rw [upd_same] at q; rw [h1]; exact q
      · rw [upd_ne eb] at q; exact s.fin b o q
    · by_cases eb : b = a
      · subst eb; rw [upd_same] at q; cases q; exact .lst
      · rw [upd_ne eb] at q; exact s.row.fnt b o q
    · rw [upd_ne (fun z => h3 (by rw [er, z]))]; exact s.rF r er
    · rw [upd_ne (fun z => hb1 (by rw [z]; exact h0))]; exact hb2
  | b y => cases e
  | gb _ => cases e
  | gn y => cases e
  | row => cases e
theorem esem_lc_at {fi : Env → M (List D × Option Nat)} {vs : List Nat} {tst : Env → M Bool} {el : Env → M RV} (r : Rel K R L E F ρ σ rs H) (hi : ∀ (its : List D) (lk : Option Nat) (rs1 : RS) (Rq : It → Hp → Prop), fi ρ rs = some ((its, lk), rs1) → (∀ J F' H', Step K R rs1 F H F' H' → IterOk K R E ρ σ H F' H' J its lk → Rq J H') → wi σ H Rq)
    (hgs : GSem K R S g hg) (hS : ∀ i ∈ S, i ∈ vs) (ht : TSem K R tt tst) (he : ESem K R te el) {x : RV} {rs' : RS} {Q : VK} (hf : eLc fi vs hg tst el ρ rs = some (x, rs')) (kk : ∀ v F' H', Step K R rs' F H F' H' → VR K R F' H H' v x → Q v H') : tLc wi g tt te vs σ H Q := by
  obtain ⟨⟨its, lk⟩, rs1, e1, hf1⟩ := bnd_some hf
  obtain ⟨ds, rs2, e2, hf2⟩ := bnd_some hf1
  by_cases hlen : its.length ≤ 100000
  · have hf2' : (if its.length ≤ 100000 then ret (RV.n ds) else fail) rs2 = some (x, rs') := hf2
    rw [if_pos hlen] at hf2'
    obtain ⟨e3, q3⟩ := ret_some hf2'
    subst e3 q3
    have e2 : lcF hg tst el (wipeE ρ vs) its rs1 = some (ds, rs') := e2
    refine hi its lk rs1 _ e1 fun J F1 H1 s1 ⟨G, Y, P, wk, pn, hG, hY⟩ => ?_
    intro Da hD
    have r1 := r.step s1
    have hDr : some Da ≠ R.row := fun q => by
      obtain ⟨a, e, _⟩ := r1.row.at_ Da q.symm
      rw [hD] at e; cases e
    have hDF1 : F1 Da = none := by
      cases q : F1 Da with
      | none => rfl
      | some o =>
        have := s1.fin Da o q
        rw [hD] at this; cases this
    refine lc_it wk (fun i H2 => ∃ F2 rs3 av ad rest, Step K R rs3 F1 H1 F2 H2 ∧ H2 Da = some (.lst av) ∧ F2 Da = none ∧ DpAll K F2 av ad ∧ ad.length ≤ i ∧ ad ++ rest = ds ∧ lcF hg tst el (wipeE ρ vs) (its.drop i) rs3 = some (rest, rs')) ?_ ?_ ?_ ?_
    · refine ⟨F1, rs1, [], [], ds, (Step.new_lst (vs := []) r1.refl hD).1, upd_same, hDF1, .nil, Nat.le_refl _, rfl, e2⟩
    · rintro i H2 hi' ⟨F2, rs3, av, ad, rest, s2, _⟩
      exact hG H2 (fun a o q => s2.keep a o (pn a o q).1 (pn a o q).2.1 (pn a o q).2.2.1) fun a o q => s2.fin a o (s2.sub a o q)
    · rintro i v H2 H3 hi' ⟨F2, rs3, av, ad, rest, s2, hDl, hDF, hA, hlA, hsum, el1⟩ hy
      have s02 := s1.trans r.row s2
      have r2 := r.step s02
      obtain ⟨x, F3, ex, s3, hd⟩ := hY.step hi' s2.sub r2.refl hy
      have er : its.drop i = x :: its.drop (i + 1) := by
        have hx : its[i] = x := by
          rw [List.getElem?_eq_getElem hi'] at ex
          exact Option.some.inj ex
        rw [← hx]
        exact List.drop_eq_getElem_cons hi'
      rw [er] at el1
      obtain ⟨ρ3, rs4, e4, el2⟩ := bnd_some el1
      obtain ⟨e5, q5⟩ := lft_some e4
      subst q5
      obtain ⟨b, rs5, e6, el3⟩ := bnd_some el2
      have s13 := s2.trans r1.row s3
      have r3 := r2.step s3
      have hD3 : H3 Da = some (.lst av) := s3.keep Da _ hDl hDr
      have hDF3 : F3 Da = none := by
        cases q : F3 Da with
        | none => rfl
        | some o =>
          rcases s3.new Da o q with z | z
          · rw [hDF] at z; cases z
          · rw [hDl] at z; cases z
      refine hgs L E F3 (wipeE ρ vs) (L2.wipe σ vs) _ H3 v x ρ3 _ (r3.wipe vs) hd e5 fun σ4 r4 o4 => ⟨?_, ?_⟩
      · rw [wipe_off o4 hS]
        apply List.ext_getElem?
        intro j
        rw [wipe_at, wipe_at]
        by_cases hj : j ∈ vs
        · rw [if_pos hj, if_pos hj, wipe_length]
        · rw [if_neg hj, if_neg hj]
      · refine ht L E ρ3 σ4 F3 H3 _ b rs5 _ r4 e6 fun F5 H5 s5 => ?_
        have s15 := s13.trans r1.row s5
        have hD5 : H5 Da = some (.lst av) := s5.keep Da _ hD3 hDr
        have hDF5 : F5 Da = none := by
          cases q : F5 Da with
          | none => rfl
          | some o =>
            rcases s5.new Da o q with z | z
            · rw [hDF3] at z; cases z
            · rw [hD3] at z; cases z
        cases b with
        | true =>
          rw [if_pos rfl] at el3 ⊢
          obtain ⟨y, rs6, e7, el4⟩ := bnd_some el3
          obtain ⟨d, rs7, e8, el5⟩ := bnd_some el4
          obtain ⟨e9, q9⟩ := lft_some e8
          subst q9
          obtain ⟨ds2, rs8, e10, el6⟩ := bnd_some el5
          obtain ⟨e11, q11⟩ := ret_some el6
          subst e11 q11
          refine he L E ρ3 σ4 F5 H5 rs5 y _ _ (r4.step s5) e7 fun w F6 H6 s6 h6 => ?_
          have s16 := s15.trans r1.row s6
          have hD6 : H6 Da = some (.lst av) := s6.keep Da _ hD5 hDr
          have hDF6 : F6 Da = none := by
            cases q : F6 Da with
            | none => rfl
            | some o =>
              rcases s6.new Da o q with z | z
              · rw [hDF5] at z; cases z
              · rw [hD5] at z; cases z
          obtain ⟨F7, s17, hd7, k7, n7⟩ := freeze1 (Hb := H5) s16 r1.row (fun a q => s15.back r1.row q) h6 e9
          have hDF7 : F7 Da = none := n7 Da (by rw [hD5]; exact fun z => nomatch z) hDF6
          have hk : ∀ a o, F2 a = some o → F7 a = some o := fun a o q => k7 a o (s6.sub a o (s5.sub a o (s3.sub a o q)))
          refine ⟨av, hD6, ?_, F7, _, av ++ [w], ad ++ [d], ds2, ?_, upd_same, hDF7, (Dp.monoA hk _ _ hA).append (.cons hd7 .nil), ?_, ?_, e10⟩
          · rw [hA.len]
            exact sz_lt (by omega)
          · refine ⟨fun a o q z n => ?_, s17.sub, s17.new, fun a o q => ?_, ⟨fun q e => ?_, tabs_upd s17.row.tab (.inr ⟨_, hD6⟩), s17.row.fnt⟩, s17.rF⟩
            · rw [upd_ne (fun zz => by rw [zz, hD] at q; cases q)]
              exact s17.keep a o q z n
            · rw [upd_ne (fun zz => by rw [zz, hDF7] at q; cases q)]
              exact s17.fin a o q
            · obtain ⟨a, z1, z2⟩ := s17.row.at_ q e
              exact ⟨a, by rw [upd_ne (fun zz => hDr (by rw [← zz, e]))]; exact z1, z2⟩
          · rw [List.length_append, List.length_singleton]
            omega
          · rw [List.append_assoc]
            exact hsum
        | false =>
          rw [if_neg Bool.false_ne_true] at el3 ⊢
          have hk : ∀ a o, F2 a = some o → F5 a = some o := fun a o q => s5.sub a o (s3.sub a o q)
          exact ⟨F5, rs5, av, ad, rest, s15, hD5, hDF5, Dp.monoA hk _ _ hA, by omega, hsum, el3⟩
    · rintro H2 ⟨F2, rs3, av, ad, rest, s2, hDl, hDF, hA, _, hsum, el1⟩
      rw [List.drop_length] at el1
      obtain ⟨e7, q7⟩ := ret_some el1
      subst e7 q7
      rw [List.append_nil] at hsum
      subst hsum
      have s02 := s1.trans r.row s2
      exact kk _ F2 H2 s02 ⟨Da, av, rfl, hDl, s1.back r.row hD, hDF, hDr, hA⟩
  · have hf2' : (if its.length ≤ 100000 then ret (RV.n ds) else fail) rs2 = some (x, rs') := hf2
    rw [if_neg hlen] at hf2'
    cases hf2'
theorem esem_lc {fi : Env → M (List D × Option Nat)} {vs : List Nat} {tst : Env → M Bool} {el : Env → M RV} (hi : ISem K R wi fi) (hgs : GSem K R S g hg) (hS : ∀ i ∈ S, i ∈ vs) (ht : TSem K R tt tst) (he : ESem K R te el) :
    ESem K R (tLc wi g tt te vs) (eLc fi vs hg tst el) := fun L E ρ σ F H rs x rs' Q r hf kk =>
  esem_lc_at r (fun its lk rs1 Rq e1 k => hi L E ρ σ F H rs its lk rs1 Rq r e1 k) hgs hS ht he hf kk
theorem de_lc {scope : Scope} {own : List (Str × Nat)} {fi : Env → M (List D × Option Nat)} {tst : Env → M Bool} {el : Env → M RV} (hc : X.calm = true) (hN : X.N.Nodup) (hi : DI X R tg it wi fi) (ok : BlkOk X.N X.env.scope scope own) (hS : ∀ i ∈ S, i ∈ own.map (·.2))
    (hg' : ∀ (s : Shared) (H : Hp) (C : Addr) (cl : List (Str × Addr)) (fp : List Addr), DG (X.blk s H scope (compEnvC scope cl C X.env) fp) R S tg g hg) (ht : ∀ (s : Shared) (H : Hp) (C : Addr) (cl : List (Str × Addr)) (fp : List Addr), DTs (X.blk s H scope (compEnvC scope cl C X.env) fp) R ifs tt tst)
    (he : ∀ (s : Shared) (H : Hp) (C : Addr) (cl : List (Str × Addr)) (fp : List Addr), DE (X.blk s H scope (compEnvC scope cl C X.env) fp) R elt te el) (hs : ∀ x, foldedSetIterable it X.env x = pure x := by intro _; rfl) :
    DE X R (.ListComp elt [⟨tg, it, ifs, 0⟩] scope pos) (tLc wi g tt te (own.map (·.2))) (eLc fi (own.map (·.2)) hg tst el) :=
  ⟨pe_lc hc hN hi.pi ok (fun s H C cl fp => (hg' s H C cl fp).pg) (fun s H C cl fp => (ht s H C cl fp).pt) (fun s H C cl fp => (he s H C cl fp).pe) hs,
    esem_lc hi.sem (hg' {} (fun _ => none) 0 [] []).sem hS (ht {} (fun _ => none) 0 [] []).sem (he {} (fun _ => none) 0 [] []).sem⟩
end
end DV

namespace DV
open PySem L2 PyProof.Rows
/-- a list or a tuple -/
inductive SK where | l | t
def SqK (k : SK) (K : PySem.W.Frag) (H : Hp) (a : Addr) (xs : List V) : Prop := match k with
  | .l => SqL K H a xs
  | .t => SqT K H a xs
def isItK (k : SK) (h : Heap) (it a : Addr) (i : Nat) : Prop := match k with
  | .l => h.IsListIter it a i
  | .t => h.IsTupleIter it a i
def isSqK (k : SK) (h : Heap) (a : Addr) (its : Array Value) : Prop := match k with
  | .l => h.IsList a its
  | .t => h.IsTuple a its
def itObj (k : SK) (a : Addr) : Obj := match k with
  | .l => { cls := .type "list_iterator", data := .fields #[.ref a, .int 0 0] }
  | .t => { cls := .type "tuple_iterator", data := .fields #[.ref a, .int 0 0] }
theorem drawK (k : SK) {prog : Program} {w : World} {A : Around} (hh : A.handled = none) (it a : Addr) (hne : a ≠ it) (items : Array Value) :
    Draws prog w A it [it, a] items.size (fun i v => items[i]? = some v) (fun i h => isItK k h it a i ∧ isSqK k h a items) := by
  cases k
  · exact Draws.list hh it a hne items
  · exact Draws.tuple hh it a hne items
theorem beginK (k : SK) (a : Addr) (items : Array Value) : Begins (.ref a) (itObj k a) fun h => isSqK k h a items := by
  cases k
  · exact begins_list a items
  · exact begins_tuple a items
theorem isItK.at' {k : SK} {h h' : Heap} {it a : Addr} {i : Nat} (x : isItK k h it a i) (e : ∀ o, h.get? it = some o → h'.get? it = some o) : isItK k h' it a i := by
  cases k
  · exact Heap.IsListIter.at x e
  · exact Heap.IsTupleIter.at x e
theorem isItK.obj {k : SK} {h : Heap} {it a : Addr} {i : Nat} (x : isItK k h it a i) : ∃ o, h.get? it = some o ∧ ∀ v, o.data ≠ .cell v := by
  cases k
  · obtain ⟨o, e, _, d⟩ := (show h.IsListIter it a i from x)
    exact ⟨o, e, fun v z => by rw [d] at z; cases z⟩
  · obtain ⟨o, e, _, d⟩ := (show h.IsTupleIter it a i from x)
    exact ⟨o, e, fun v z => by rw [d] at z; cases z⟩
theorem isItK.new (k : SK) {h : Heap} {it a : Addr} (e : h.get? it = some (itObj k a)) : isItK k h it a 0 := by
  cases k
  · exact ⟨_, e, rfl, rfl⟩
  · exact ⟨_, e, rfl, rfl⟩
section
variable {X : Cx} {pins : List (Addr × Obj)} {σ : L2.St} {H : Hp} {s : Shared}
theorem seqK (k : SK) {a : Addr} {xs : List V} (I : Inv X pins σ H s) (h : SqK k X.K H a xs) : ∃ its : List Value, Vals xs its ∧ isSqK k s.heap a its.toArray ∧ xs.length ≤ sizeLine ∧ a < s.heap.objs.size := by
  cases k
  · obtain ⟨its, rv, p, hz⟩ := I.list h
    exact ⟨its, rv, p.isList, hz, p.lt⟩
  · obtain ⟨its, rv, p, hz⟩ := I.tuple h
    exact ⟨its, rv, p, hz, p.lt⟩
theorem seqK_inj (k : SK) {a : Addr} {xs ys : List V} (I : Inv X pins σ H s) (h : SqK k X.K H a xs) (h' : SqK k X.K H a ys) : xs = ys := by
  cases k
  · exact I.list_inj h h'
  · exact I.tuple_inj h h'
end

set_option maxHeartbeats 1000000 in
theorem meets_enumerate_new1 {v : Value} {o : Obj} {H : Heap → Prop} (B : Begins v o H) :
    Meets (Builtin.«enumerate.__new__» ⟨[.type "enumerate", v], []⟩) (fun _ R s => H s.heap ∧
      R (.ok (.ret (.ref (s.heap.push o).objs.size))) { s with heap := (s.heap.push o).push { cls := .type "enumerate", data := .fields #[.none, .bool false, .ref s.heap.objs.size, rawInt 0, .none, .none] } }) :=
  .of_wp fun prog w A R s h => by
    obtain ⟨hp, g, d, tk, os⟩ := s; obtain ⟨h1, h⟩ := h
    have hsub := sub_enumerate
    have q1 : ∀ {A' : Around} {E : Value → Shared → Prop} {Q : Value → Shared → Prop}, Q (.ref hp.objs.size) ⟨hp.push o, g, d, tk, os⟩ → wpAny (model prog w) A' (pyIter v) Q E ⟨hp, g, d, tk, os⟩ :=
      fun q => B.iter prog w _ _ ⟨hp, g, d, tk, os⟩ _ h1 q
    wp_walk using q1
    refine wpAny_stack_any fun st => wpAny_pure ?_
    split
    · rename_i c _ _ _ _ _
      cases (c == Value.type "enumerate")
      · wp_walk using q1
        exact ⟨_, rfl, h⟩
      · wp_walk using q1
        exact ⟨_, rfl, h⟩
    · wp_walk using q1
      exact ⟨_, rfl, h⟩
theorem enum_begins1 {prog : Program} {w : World} {A : Around} {E : Value → Shared → Prop} {s : Shared} {v : Value} {o : Obj} {H : Heap → Prop} {Q : Value → Shared → Prop} (B : Begins v o H) (h1 : H s.heap)
    (h : ∀ h', IsEnum h' (s.heap.objs.size + 1) s.heap.objs.size 0 .none → h'.get? s.heap.objs.size = some o → h'.objs.size = s.heap.objs.size + 2 →
      (∀ b o, s.heap.get? b = some o → h'.get? b = some o) → Q (.ref (s.heap.objs.size + 1)) { s with heap := h' }) :
    wpAny (model prog w) A (call (.type "enumerate") [v]) Q E s := by
  refine callType_new F.called_enumerate (by decide) (F.typeCall_enumerate_1 _) (F.newCall_enumerate_1 _) (fun obj => F.args_object_init_2 obj _) F.entry_enumerate_new
    (meets_enumerate_new1 B) ⟨h1, ?_⟩
  have hz : (s.heap.push o).objs.size = s.heap.objs.size + 1 := Heap.size_push ..
  show _ ∧ _
  rw [hz]
  have he : IsEnum ((s.heap.push o).push { cls := .type "enumerate", data := .fields #[.none, .bool false, .ref s.heap.objs.size, rawInt 0, .none, .none] }) (s.heap.objs.size + 1) s.heap.objs.size 0 .none := by
    have := Heap.get?_push_size (s.heap.push o) (o := { cls := .type "enumerate", data := .fields #[.none, .bool false, .ref s.heap.objs.size, rawInt 0, .none, .none] }) rfl
    rw [hz] at this; exact this
  refine ⟨⟨_, he, rfl⟩, h _ he (Heap.get?_push_of_some _ (Heap.get?_push_size _ B.free)) (by rw [Heap.size_push, hz]) fun b o x => Heap.get?_push_of_some _ (Heap.get?_push_of_some _ x)⟩
def IteK (k : SK) (K : PySem.W.Frag) (a : Addr) : It :=
  ⟨fun i H => ∃ (xs : List V) (x : V), SqK k K H a xs ∧ xs[i]? = some x, fun i H v H' => ∃ T x, v = .ref T ∧ H T = none ∧ NewT H H' T [.int (i : Nat), x] ∧ ∀ xs, SqK k K H a xs → xs[i]? = some x, fun i H => ∃ xs : List V, SqK k K H a xs ∧ xs.length ≤ i⟩
theorem turn_enumK (k : SK) {P : Program} {w : World} {K : PySem.W.Frag} {elts : List Expr} {kk : Nat} {tpos : Pos} (a e it : Addr) (hai : a ≠ it) (hae : a ≠ e) :
    Turn P w K (.Tuple elts kk tpos) (IteK k K a) [e, it] e (fun i h => (∃ old, IsEnum h e it ((i : Nat) : Int) old) ∧ isItK k h it a i ∧ e ≠ it) where
  mem := by simp
  obj := fun i h st b hb => by
    obtain ⟨⟨old, he⟩, hit, _⟩ := st
    have e' : b = e ∨ b = it := by simpa using hb
    rcases e' with z | z
    · rw [z]; exact ⟨_, he, fun v q => nomatch q⟩
    · rw [z]; exact hit.obj
  keep := fun i h h' st q => let ⟨⟨old, he⟩, hi, hne⟩ := st; ⟨⟨old, q e (by simp) _ he⟩, hi.at' fun o z => q it (by simp) o z, hne⟩
  item := by
    intro X hP hw hK hc i pins s σ H E I hf st hg
    subst hP hw hK
    obtain ⟨⟨old, he⟩, hit, hne⟩ := st
    obtain ⟨xs, x, hq, hx⟩ := hg
    obtain ⟨its, rv, p, hz, hal⟩ := seqK k I hq
    obtain ⟨u, hu, ru⟩ := rv.get hx
    have hel : e < s.heap.objs.size := Heap.lt_size he
    have hil : it < s.heap.objs.size := by obtain ⟨_, q, _⟩ := hit.obj; exact Heap.lt_size q
    have hlen : i < its.toArray.size := by
      have q1 := (List.getElem?_eq_some_iff.mp hu).1
      simpa using q1
    refine wpAny_pyNext_enum_itemD (drawK k (A := X.A.in1) (I.ok.hd hc) it a hai its.toArray) he ⟨hit, p⟩ hlen hne (by simp [hne, Ne.symm hae]) fun y h' tk hy ho hst hT hsz hk => ?_
    have hyu : y = u := by
      have q1 : its[i]? = some y := by simpa using hy
      rw [hu] at q1
      exact (Option.some.inj q1).symm
    subst hyu
    refine ⟨_, rfl, wpAny_letOwnedTupleGo_enum (s := { s with heap := h', toks := tk + 1 }) ho fun h'' he' sb => ?_⟩
    have hT2 : h''.get? s.heap.objs.size = some { cls := .type "tuple", data := .seq #[.int i tk, y] } := (sb.2 _ (Nat.ne_of_gt hel)).trans hT
    have new : ObjOk X.prog X.w (upd H s.heap.objs.size (TupX (tupO #[.int i tk, y]) [.int (i : Nat), x])) h'' s.heap.objs.size (TupX (tupO #[.int i tk, y]) [.int (i : Nat), x]) :=
      ⟨hT2, by show 2 ≤ sizeLine; decide, [.int i tk, y], .cons ⟨_, rfl⟩ (.cons ru .nil), ⟨_, hT2, rfl, _, rfl⟩⟩
    have I1 : Inv X pins σ (upd H s.heap.objs.size (TupX (tupO #[.int i tk, y]) [.int (i : Nat), x])) { s with heap := h'', toks := tk + 1 } :=
      I.turnedNew (ch := [e, it]) (fun b ob hb q => (sb.2 b (fun z => hb (by simp [z]))).trans (hk b ob (fun z => hb (by simp [z])) (fun z => hb (by simp [z])) q)) hf (Nat.le_refl _) new
    refine ⟨.ref s.heap.objs.size, _, I1, rfl, ⟨_, x, rfl, I.hok.fresh (Nat.le_refl _), ⟨_, rfl, rfl⟩, fun ys hy => by rw [seqK_inj k I hy hq]; exact hx⟩, ⟨⟨y, ?_⟩, hst.1.at' fun o q => (sb.2 it (Ne.symm hne)).trans q, hne⟩, fun b hb => ?_⟩
    · have e1 : ((i + 1 : Nat) : Int) = (i : Int) + 1 := by omega
      rw [e1]; exact he'
    · have hb' : b < s.heap.objs.size := by
        have e' : b = e ∨ b = it := by simpa using hb
        rcases e' with z | z
        · rw [z]; exact hel
        · rw [z]; exact hil
      rw [upd_ne (Nat.ne_of_lt hb')]
      exact (hf b hb).1
  done := by
    intro X hP hw hK hc i pins s σ H E I hf st hg
    subst hP hw hK
    obtain ⟨⟨old, he⟩, hit, hne⟩ := st
    obtain ⟨xs, hq, hx⟩ := hg
    obtain ⟨its, rv, p, hz, hal⟩ := seqK k I hq
    obtain ⟨f0, f1, f2, f3, f4, f5⟩ := hf it (by simp)
    have hl := rv.length
    have hend : ∀ (Q : Option Value → Shared → Prop), (∀ h', Heap.ExtBut it s.heap h' → Q none { s with heap := h' }) → wpAny (model X.prog X.w) X.A (pyNext (.ref e)) Q E s := fun Q hQ => by
      cases k
      · exact wpAny_pyNext_enum_end (I.ok.hd hc) he hit p (by simp; omega) hQ
      · have hT : s.TypeIs (.ref e) "enumerate" := ⟨_, he, rfl⟩
        unfold pyNext
        refine wpAny_bind (wpAny_attempt (wpAny_callSpecial?_slot (name := Str.ofString "__next__") hT F.slot_enumerate_next
          (wpAny_call_entry F.slot_enumerate_next hT F.entry_enumerate_next ?_ (F.args_enumerate_next_1 _))))
        show wpAny _ _ (field (.ref e) 2 >>= _) _ _ _
        refine wpAny_bind (wpAny_field he rfl (x := .ref it) rfl ?_)
        refine wpAny_bind (wpAny_nextOf_tuple_end (I.ok.hd hc) hit p (by simp; omega) fun h' x he' hx' => ?_)
        obtain ⟨o, ho, hc⟩ := hx'
        refine wpAny_bind (wpAny_isInstance (T := "StopIteration") (b := true) ⟨o, ho, hc⟩ isSubtype_stop ?_)
        exact wpAny_pure (hQ _ he')
    exact hend _ fun h' eb => ⟨rfl, I.turned (t' := s.toks) (fun b o hb q => eb b o hb q) f0 f1 f3 f4 f5⟩
  self := fun A i s Q E st h => let ⟨⟨_, he⟩, _⟩ := st; wpAny_pyIter_enum he h
def iEnumK (K : PySem.W.Frag) (ta : TE) : TI := fun σ H R => ta σ H fun v H1 => ∃ k a xs, v = .ref a ∧ SqK k K H1 a xs ∧ R (IteK k K a) H1
theorem pi_enumK {X : Cx} {e : Expr} {te : TE} {p pos tpos : Pos} {elts : List Expr} {kk : Nat} (hg : Gl X "enumerate") (hm : X.mg "enumerate" = none) (he : PE X e te) (hs : starEach [e] X.env = (false, eval e X.env) :: starEach [] X.env := by rfl) :
    PI X (.Tuple elts kk tpos) (.Call (.Name "enumerate" p) [e] [] pos) (iEnumK X.K te) := by
  refine ⟨fun pins s σ H R I h => ?_⟩
  refine Call_ (ld_blt I hg hm boot_enumerate (PyProof.Rows.callWith_type1 (args_cons (thn (he.run pins s σ H _ I h) fun u s1 ⟨v, H1, I1, r1, q1⟩ => args_nil ?_) hs) hs rfl))
  obtain ⟨k, a, xs, ex, hq, q⟩ := q1
  subst ex
  cases r1
  obtain ⟨its, rv, p', hz, hal⟩ := seqK k I1 hq
  refine enum_begins1 (beginK k a its.toArray) p' fun h' he' hit hsz hk => wpAny_pyIter_enum he' ?_
  have I2 : Inv X pins σ H1 { s1 with heap := h' } := I1.kept (t' := s1.toks) hk
  refine ⟨s1.heap.objs.size + 1, [s1.heap.objs.size + 1, s1.heap.objs.size], _, _, H1, rfl, I2, turn_enumK k a (s1.heap.objs.size + 1) s1.heap.objs.size (Nat.ne_of_lt hal) (Nat.ne_of_lt (Nat.lt_succ_of_lt hal)), ⟨⟨.none, he'⟩, .new k hit, Nat.succ_ne_self _⟩, fun b hb => ?_, q⟩
  have e' : b = s1.heap.objs.size + 1 ∨ b = s1.heap.objs.size := by simpa using hb
  have hle : s1.heap.objs.size ≤ b := by
    rcases e' with z | z
    · rw [z]; exact Nat.le_add_right _ _
    · rw [z]; exact Nat.le_refl _
  exact I1.fpOk hle (I1.hok.fresh hle)
theorem walk_enumK (k : SK) {K : PySem.W.Frag} {a : Addr} {xs : List V} : Walk (IteK k K a) xs.length (fun H => SqK k K H a xs) (YPairX (fun i => some (.int (i : Nat))) (fun i => xs[i]?)) := by
  refine ⟨fun i _ hi q => ⟨xs, xs[i], q, by simp [hi]⟩, fun _ q => ⟨xs, q, Nat.le_refl _⟩, fun i H v H' _ q y => ?_⟩
  obtain ⟨T, x, h1, h2, h3, h4⟩ := y
  exact ⟨T, .int (i : Nat), x, h1, h2, h3, rfl, h4 xs q⟩

def ItK (k : SK) (K : PySem.W.Frag) (a : Addr) : It := match k with
  | .l => Itl K a
  | .t => Itt K a
def iSeqK (K : PySem.W.Frag) (tl : TE) : TI := fun σ H R => tl σ H fun x H1 => ∃ k a xs, x = .ref a ∧ SqK k K H1 a xs ∧ R (ItK k K a) H1
theorem pi_seqK {X : Cx} {tg l : Expr} {tl : TE} (hl : PE X l tl) : PI X tg l (iSeqK X.K tl) := by
  refine ⟨fun pins s σ H R I h => ?_⟩
  refine thn (hl.run pins s σ H _ I h) fun v s1 ⟨x, H1, I1, r1, q1⟩ => ?_
  obtain ⟨k, a, xs, e, hq, q⟩ := q1
  subst e
  cases r1
  cases k
  · obtain ⟨its, rv, p, hz⟩ := I1.list hq
    refine wpAny_pyIter_list p.isList ?_
    refine ⟨s1.heap.objs.size, [s1.heap.objs.size], _, _, H1, rfl, I1.kept (t' := s1.toks) fun b o e => Heap.get?_push_of_some _ e, turn_list a _, ⟨_, Heap.get?_push_size _ rfl, rfl, rfl⟩, fun b hb => ?_, q⟩
    have e : b = s1.heap.objs.size := by simpa using hb
    subst e
    exact I1.fpOk (Nat.le_refl _) (I1.hok.fresh (Nat.le_refl _))
  · obtain ⟨its, rv, p, hz⟩ := I1.tuple hq
    refine wpAny_pyIter_tuple (show s1.heap.IsTuple a its.toArray from p) ?_
    refine ⟨s1.heap.objs.size, [s1.heap.objs.size], _, _, H1, rfl, I1.kept (t' := s1.toks) fun b o e => Heap.get?_push_of_some _ e, turn_tuple a _, ⟨_, Heap.get?_push_size _ rfl, rfl, rfl⟩, fun b hb => ?_, q⟩
    have e : b = s1.heap.objs.size := by simpa using hb
    subst e
    exact I1.fpOk (Nat.le_refl _) (I1.hok.fresh (Nat.le_refl _))
theorem walk_seqK (k : SK) {K : PySem.W.Frag} {a : Addr} {xs : List V} : Walk (ItK k K a) xs.length (fun H => SqK k K H a xs) (YAt xs) := by
  cases k
  · exact walk_list
  · exact walk_tup

end DV

namespace DV
open PySem L2 PyProof.Rows
section
variable {X : Cx} {K : PySem.W.Frag} {R : RA} {L : Nat → Option (Addr × HO)} {E F F' H H' : Hp} {ρ ρ' : Env} {σ σ' : L2.St} {rs rs' : RS}
variable {S S' : List Nat} {tg it elt e e2 c : Expr} {es ifs : List Expr} {g : TG} {gs : TGs} {hg : D → Env → Option Env} {hgs : List D → Env → Option Env} {pos p : Pos} {st : Stmt} {body : List Stmt} {tb : TS} {tt : TT} {te t1 t2 : TE} {ta : TA} {wi : TI}

def SrcOk (K : PySem.W.Frag) (R : RA) (E : Hp) (ρ : Env) (σ : L2.St) (H F' H' : Hp) (v : V) (its : List D) (lk : Option Nat) : Prop := ∃ a vs, v = .ref a ∧ DpAll K F' vs its ∧
  ((∃ k, SqK k K F' a vs) ∨ (H' a = some (.lst vs) ∧ some a ≠ R.row ∧ ((H a = none ∧ F' a = none) ∨ E a = some (.lst vs) ∨ ∃ i ds, lk = some i ∧ ρ[i]? = some (some (SV.o ds)) ∧ σ[i]? = some (some (V.ref a)))))
theorem SqK.mono {k : SK} {F F' : Hp} {a : Addr} {vs : List V} (h : SqK k K F a vs) (e : ∀ o, F a = some o → F' a = some o) : SqK k K F' a vs := by
  cases k
  · exact ex_l e h
  · exact ex_t e h
theorem SrcOk.step {F1 H1 F2 H2 : Hp} {v : V} {its : List D} {lk : Option Nat} (s : Step K R rs' F1 H1 F2 H2) (h : SrcOk K R E ρ σ H F1 H1 v its lk) : SrcOk K R E ρ σ H F2 H2 v its lk := by
  obtain ⟨a, vs, rfl, hd, q⟩ := h
  refine ⟨a, vs, rfl, Dp.monoA s.sub _ _ hd, ?_⟩
  rcases q with ⟨k, q⟩ | ⟨q1, q2, q3⟩
  · exact .inl ⟨k, q.mono (s.sub a)⟩
  · refine .inr ⟨s.keep a _ q1 q2, q2, ?_⟩
    rcases q3 with ⟨z1, z2⟩ | z | z
    · refine .inl ⟨z1, ?_⟩
      cases q : F2 a with
      | none => rfl
      | some o =>
        rcases s.new a o q with y | y
        · rw [z2] at y; cases y
        · rw [q1] at y; cases y
    · exact .inr (.inl z)
    · exact .inr (.inr z)
theorem SrcOk.older {H0 H1 : Hp} {v : V} {its : List D} {lk : Option Nat} (e : ∀ a, H1 a = none → H0 a = none) (h : SrcOk K R E ρ σ H1 F' H' v its lk) : SrcOk K R E ρ σ H0 F' H' v its lk := by
  obtain ⟨a, vs, rfl, hd, q⟩ := h
  refine ⟨a, vs, rfl, hd, ?_⟩
  rcases q with q | ⟨q1, q2, q3⟩
  · exact .inl q
  · refine .inr ⟨q1, q2, ?_⟩
    rcases q3 with ⟨z1, z2⟩ | z | z
    · exact .inl ⟨e a z1, z2⟩
    · exact .inr (.inl z)
    · exact .inr (.inr z)
def SrcSem (K : PySem.W.Frag) (R : RA) (t : TE) (f : Env → M (List D × Option Nat)) : Prop :=
  ∀ (L : Nat → Option (Addr × HO)) (E : Hp) (ρ : Env) (σ : L2.St) (F H : Hp) (rs : RS) (its : List D) (lk : Option Nat) (rs' : RS) (Q : VK), Rel K R L E F ρ σ rs H → f ρ rs = some ((its, lk), rs') →
    (∀ v F' H', Step K R rs' F H F' H' → SrcOk K R E ρ σ H F' H' v its lk → Q v H') → t σ H Q
structure DSrc (X : Cx) (R : RA) (e : Expr) (t : TE) (f : Env → M (List D × Option Nat)) : Prop where
  pe : PE X e t
  sem : SrcSem X.K R t f
def srcOf : RV → Option (List D)
  | .d (.tuple ds) => some ds
  | .d (.list ds) => some ds
  | .n ds => some ds
  | _ => none
def srcE (f : Env → M RV) : Env → M (List D × Option Nat) := fun ρ => bnd (f ρ) fun x => bnd (lft (srcOf x)) fun ds => ret (ds, none)
theorem src_e {f : Env → M RV} (h : DE X R e te f) : DSrc X R e te (srcE f) := ⟨h.pe, fun L E ρ σ F H rs its lk rs' Q r hf k => by
  obtain ⟨x, rs1, e1, hf1⟩ := bnd_some hf
  obtain ⟨ds, rs2, e2, hf2⟩ := bnd_some hf1
  obtain ⟨e3, q3⟩ := lft_some e2
  obtain ⟨e4, q4⟩ := ret_some hf2
  cases e4
  subst q4 q3
  refine h.sem L E ρ σ F H rs x _ _ r e1 fun v F1 H1 s1 h1 => k v F1 H1 s1 ?_
  cases x with
  | d y =>
    cases y with
    | tuple es =>
      cases e3
      cases h1 with
      | tup z1 z2 => exact ⟨_, _, rfl, z2, .inl ⟨.t, z1⟩⟩
    | list es =>
      cases e3
      cases h1 with
      | lst z1 z2 => exact ⟨_, _, rfl, z2, .inl ⟨.l, z1⟩⟩
    | none => cases e3
    | bool _ => cases e3
    | int _ => cases e3
    | str _ => cases e3
    | dict _ => cases e3
  | n es =>
    cases e3
    obtain ⟨a, vs, rfl, z1, z0, z2, z3, z4⟩ := h1
    exact ⟨a, vs, rfl, z4, .inr ⟨z1, z3, .inl ⟨z0, z2⟩⟩⟩
  | b es => cases e3
  | gb _ => cases e3
  | gn _ => cases e3
  | row => cases e3⟩
def srcV (i : Nat) : Env → M (List D × Option Nat) := fun ρ => lft (match ρ[i]? with
  | some (some (.d (.tuple ds))) => some (ds, none)
  | some (some (.d (.list ds))) => some (ds, none)
  | some (some (.o ds)) => some (ds, some i)
  | some (some (.k ds)) => some (ds, none)
  | _ => none)
theorem src_v (i : Nat) {x : Str} (hN : X.N[i]? = some x := by rfl) (hv : Vis X.env.scope x := by first | exact Or.inl rfl | exact Or.inr (Or.inl rfl) | exact Or.inr (Or.inr rfl)) (hd : (x == ("__debug__" : Str)) = false := by decide)
    (hcd : (x == ("__classdict__" : Str)) = false := by decide) : DSrc X R (.Name x pos) (tVar i) (srcV i) := ⟨pe_var hN hv hd hcd, fun L E ρ σ F H rs its lk rs' Q r hf k => by
  obtain ⟨e1, q1⟩ := lft_some hf
  subst q1
  cases e : ρ[i]? with
  | none => rw [e] at e1; cases e1
  | some sv =>
    cases sv with
    | none => rw [e] at e1; cases e1
    | some sv =>
      obtain ⟨v, ev, q⟩ := r.sl i sv e
      refine ⟨v, ev, k v F H r.refl ?_⟩
      rw [e] at e1
      cases sv with
      | d y =>
        cases y with
        | tuple es =>
          cases e1
          cases q with
          | tup z1 z2 => exact ⟨_, _, rfl, z2, .inl ⟨.t, z1⟩⟩
        | list es =>
          cases e1
          cases q with
          | lst z1 z2 => exact ⟨_, _, rfl, z2, .inl ⟨.l, z1⟩⟩
        | none => cases e1
        | bool _ => cases e1
        | int _ => cases e1
        | str _ => cases e1
        | dict _ => cases e1
      | o es =>
        cases e1
        obtain ⟨a, vs, rfl, z1, z2, z3, z4, z5⟩ := q
        exact ⟨a, vs, rfl, z5, .inr ⟨z1, z4, .inr (.inr ⟨i, _, rfl, e, ev⟩)⟩⟩
      | k es =>
        cases e1
        obtain ⟨a, vs, hl, rfl, z5⟩ := q
        have hE := r.lk _ a _ hl
        refine ⟨a, vs, rfl, z5, .inr ⟨r.ex a _ hE, fun z => ?_, .inr (.inl hE)⟩⟩
        have := (r.rE a z.symm).1
        rw [hE] at this
        cases this
      | g _ => cases e1
      | un => cases e1
      | ex _ _ => cases e1
      | fn _ => cases e1
      | lm => cases e1
      | m _ => cases e1
      | row => cases e1⟩

theorem SrcOk.pin {v : V} {its : List D} {lk : Option Nat} (r0 : Rel K R L E F ρ σ rs H) (h : SrcOk K R E ρ σ H F' H' v its lk) : ∃ (a : Addr) (vs : List V) (k : SK) (P : Hp), v = .ref a ∧ DpAll K F' vs its ∧ PinOk K R E F' H H' ρ σ lk P ∧
    (∀ H2, (∀ b o, P b = some o → H2 b = some o) → (∀ b o, F' b = some o → H2 b = some o) → SqK k K H2 a vs) := by
  obtain ⟨a, vs, rfl, hd, q⟩ := h
  rcases q with ⟨k, q⟩ | ⟨q1, q2, q3⟩
  · exact ⟨a, vs, k, fun _ => none, rfl, hd, fun b o e => (nomatch e), fun H2 _ h2 => q.mono (h2 a)⟩
  · refine ⟨a, vs, .l, fun b => if b = a then some (.lst vs) else none, rfl, hd, fun b o e => ?_, fun H2 h1 _ => .inl (.inl (h1 a _ (if_pos rfl)))⟩
    by_cases hb : b = a
    · subst hb
      have e' : (if b = b then some (HO.lst vs) else none) = some o := e
      rw [if_pos rfl] at e'
      cases e'
      exact ⟨q1, q2, .lst, q3⟩
    · have e' : (if b = a then some (HO.lst vs) else none) = some o := e
      rw [if_neg hb] at e'
      cases e'
theorem yAt_ok {vs : List V} {its : List D} (hd : DpAll K F' vs its) : YOk K F' its (YAt vs) := fun i H1 v H2 F1 hi h1 h2 y => by
  obtain ⟨rfl, hv⟩ := y
  have hx : its[i]? = some its[i] := List.getElem?_eq_getElem hi
  obtain ⟨w, hw, hdw⟩ := hd.get hx
  rw [hv] at hw
  cases hw
  exact ⟨_, hx, .inl ⟨rfl, Dp.mono h1 _ _ hdw⟩⟩
theorem di_seq {f : Env → M (List D × Option Nat)} (h : DSrc X R e te f) : DI X R tg e (iSeqK X.K te) f := ⟨pi_seqK h.pe, fun L E ρ σ F H rs its lk rs' Rq r hf k => by
  refine h.sem L E ρ σ F H rs its lk rs' _ r hf fun v F1 H1 s1 h1 => ?_
  obtain ⟨a, vs, kd, P, rfl, hd, pn, hG⟩ := h1.pin r
  have r1 := r.step s1
  refine ⟨kd, a, vs, rfl, hG H1 (fun b o q => (pn b o q).1) r1.fr, k _ F1 H1 s1 ⟨_, _, P, ?_, pn, hG, yAt_ok hd⟩⟩
  have := walk_seqK kd (K := X.K) (a := a) (xs := vs)
  rw [hd.len] at this
  exact this⟩
/-- enumerate -/
def enumD : Nat → List D → List D
  | _, [] => []
  | i, x :: xs => .tuple [.int (i : Nat), x] :: enumD (i + 1) xs
theorem enumD_len : ∀ (i : Nat) (xs : List D), (enumD i xs).length = xs.length
  | _, [] => rfl
  | i, x :: xs => congrArg (· + 1) (enumD_len (i + 1) xs)
theorem enumD_get : ∀ (k : Nat) (xs : List D) (i : Nat) (x : D), xs[i]? = some x → (enumD k xs)[i]? = some (.tuple [.int ((k + i : Nat) : Int), x])
  | k, y :: ys, 0, x, h => by
    simp at h; subst h
    rfl
  | k, y :: ys, i + 1, x, h => by
    simp at h
    have := enumD_get (k + 1) ys i x h
    have e : k + 1 + i = k + (i + 1) := by omega
    rw [e] at this
    simpa [enumD] using this
def iEnumF (f : Env → M (List D × Option Nat)) : Env → M (List D × Option Nat) := fun ρ => bnd (f ρ) fun p => ret (enumD 0 p.1, p.2)
theorem di_enum {f : Env → M (List D × Option Nat)} {elts : List Expr} {kk : Nat} {tpos : Pos} (hgl : Gl X "enumerate") (hm : X.mg "enumerate" = none) (h : DSrc X R e te f) (hs : starEach [e] X.env = (false, eval e X.env) :: starEach [] X.env := by rfl) :
    DI X R (.Tuple elts kk tpos) (.Call (.Name "enumerate" p) [e] [] pos) (iEnumK X.K te) (iEnumF f) := ⟨pi_enumK hgl hm h.pe hs, fun L E ρ σ F H rs its lk rs' Rq r hf k => by
  obtain ⟨⟨xs, lk1⟩, rs1, e1, hf1⟩ := bnd_some hf
  obtain ⟨e2, q2⟩ := ret_some hf1
  cases e2
  subst q2
  refine h.sem L E ρ σ F H rs xs lk1 _ _ r e1 fun v F1 H1 s1 h1 => ?_
  obtain ⟨a, vs, kd, P, rfl, hd, pn, hG⟩ := h1.pin r
  have r1 := r.step s1
  refine ⟨kd, a, vs, rfl, hG H1 (fun b o q => (pn b o q).1) r1.fr, k _ F1 H1 s1 ⟨fun H => SqK kd X.K H a vs, YPairX (fun i => some (.int (i : Nat))) (fun i => vs[i]?), P, ?_, pn, hG, ?_⟩⟩
  · have := walk_enumK kd (K := X.K) (a := a) (xs := vs)
    rw [hd.len] at this
    show Walk _ (enumD 0 xs).length _ _
    rw [enumD_len]
    exact this
  · intro i H2 w H3 F2 hi h1 h2 y
    obtain ⟨T, x, y', rfl, hT, hN, ex, ey⟩ := y
    cases ex
    have hi' : i < xs.length := by
      have hi2 : i < (enumD 0 xs).length := hi
      rw [enumD_len] at hi2
      exact hi2
    have hx : xs[i]? = some xs[i] := List.getElem?_eq_getElem hi'
    obtain ⟨w, hw, hdw⟩ := hd.get hx
    have ey' : vs[i]? = some y' := ey
    rw [ey'] at hw
    cases hw
    refine ⟨_, enumD_get 0 xs i _ hx, .inr (.inl ⟨T, _, _, rfl, hT, hN, rfl, .cons ?_ (.cons (Dp.mono h1 _ _ hdw) .nil)⟩)⟩
    rw [Nat.zero_add]
    exact Dp.int _⟩
/-- range(a, b) -/
def rngD (lo : Int) : Nat → List D
  | 0 => []
  | n + 1 => .int lo :: rngD (lo + 1) n
theorem rngD_len : ∀ (lo : Int) (n : Nat), (rngD lo n).length = n
  | _, 0 => rfl
  | lo, n + 1 => congrArg (· + 1) (rngD_len (lo + 1) n)
theorem rngD_get : ∀ (lo : Int) (n i : Nat), i < n → (rngD lo n)[i]? = some (.int (lo + i))
  | _, 0, _, h => absurd h (Nat.not_lt_zero _)
  | lo, n + 1, 0, _ => by simp [rngD]
  | lo, n + 1, i + 1, h => by
    have := rngD_get (lo + 1) n i (by omega)
    have e : lo + 1 + (i : Int) = lo + ((i + 1 : Nat) : Int) := by omega
    rw [e] at this
    simpa [rngD] using this
def iRng1F (f : Env → M RV) : Env → M (List D × Option Nat) := fun ρ => bnd (f ρ) fun x => bnd (lft (asInt x)) fun n => if n ≤ 100000 ∧ -100000 ≤ n then ret (rngD 0 n.toNat, none) else fail
def iRng2F (f g : Env → M RV) : Env → M (List D × Option Nat) := fun ρ => bnd (f ρ) fun x => bnd (lft (asInt x)) fun a => bnd (g ρ) fun y => bnd (lft (asInt y)) fun b =>
  if a ≤ 100000 ∧ -100000 ≤ a ∧ b ≤ 100000 ∧ -100000 ≤ b then ret (rngD a (b - a).toNat, none) else fail
theorem rng_ok {lo : Int} {n : Nat} (r : Rel K R L E F' ρ σ rs H') {H : Hp} : IterOk K R E ρ σ H F' H' (Itr lo n) (rngD lo n) none := by
  refine ⟨fun _ => True, YFn fun i => .int (lo + i), fun _ => none, ?_, fun a o e => (nomatch e), fun _ _ _ => trivial, ?_⟩
  · have := walk_range (lo := lo) (n := n)
    rw [rngD_len]
    exact this
  · intro i H1 v H2 F1 hi h1 h2 y
    obtain ⟨rfl, rfl⟩ := y
    rw [rngD_len] at hi
    exact ⟨_, rngD_get lo n i hi, .inl ⟨rfl, Dp.int _⟩⟩
theorem di_range1 {f : Env → M RV} (hgl : Gl X "range") (hm : X.mg "range" = none) (h : DE X R e te f) (hs : starEach [e] X.env = [(false, eval e X.env)] := by rfl) (hs' : starEach [e] X.env = (false, eval e X.env) :: starEach [] X.env := by rfl) :
    DI X R tg (.Call (.Name "range" p) [e] [] pos) (iRng1 (tCons te tNil)) (iRng1F f) := ⟨pi_range1 hgl hm (pa_cons h.pe pa_nil hs') hs, fun L E ρ σ F H rs its lk rs' Rq r hf k => by
  obtain ⟨x, rs1, e1, hf1⟩ := bnd_some hf
  obtain ⟨n, rs2, e2, hf2⟩ := bnd_some hf1
  obtain ⟨e3, q3⟩ := lft_some e2
  subst q3
  by_cases hb : n ≤ 100000 ∧ -100000 ≤ n
  · rw [if_pos hb] at hf2
    obtain ⟨e4, q4⟩ := ret_some hf2
    cases e4
    subst q4
    refine h.sem L E ρ σ F H rs x _ _ r e1 fun v F1 H1 s1 h1 => ?_
    have := h1.int e3
    subst this
    exact ⟨n, rfl, by omega, by omega, k _ F1 H1 s1 (rng_ok (r.step s1))⟩
  · rw [if_neg hb] at hf2
    cases hf2⟩
theorem di_range2 {f g : Env → M RV} (hgl : Gl X "range") (hm : X.mg "range" = none) (h : DE X R e t1 f) (h2 : DE X R e2 t2 g) (hs : starEach [e, e2] X.env = [(false, eval e X.env), (false, eval e2 X.env)] := by rfl) (hs2 : starEach [e2] X.env = [(false, eval e2 X.env)] := by rfl)
    (hq1 : starEach [e, e2] X.env = (false, eval e X.env) :: starEach [e2] X.env := by rfl) (hq2 : starEach [e2] X.env = (false, eval e2 X.env) :: starEach [] X.env := by rfl) :
    DI X R tg (.Call (.Name "range" p) [e, e2] [] pos) (iRng2 (tCons t1 (tCons t2 tNil))) (iRng2F f g) := ⟨pi_range2 hgl hm (pa_cons h.pe (pa_cons h2.pe pa_nil hq2) hq1) hs hs2, fun L E ρ σ F H rs its lk rs' Rq r hf k => by
  obtain ⟨x, rs1, e1, hf1⟩ := bnd_some hf
  obtain ⟨a, rs2, e2, hf2⟩ := bnd_some hf1
  obtain ⟨e3, q3⟩ := lft_some e2
  subst q3
  obtain ⟨y, rs4, e4, hf4⟩ := bnd_some hf2
  obtain ⟨b, rs5, e5, hf5⟩ := bnd_some hf4
  obtain ⟨e6, q6⟩ := lft_some e5
  subst q6
  by_cases hb : a ≤ 100000 ∧ -100000 ≤ a ∧ b ≤ 100000 ∧ -100000 ≤ b
  · rw [if_pos hb] at hf5
    obtain ⟨e7, q7⟩ := ret_some hf5
    cases e7
    subst q7
    refine h.sem L E ρ σ F H rs x _ _ r e1 fun v F1 H1 s1 h1 => ?_
    refine h2.sem L E ρ σ F1 H1 _ y _ _ (r.step s1) e4 fun w F2 H2 s2 h2 => ?_
    have := h1.int e3
    subst this
    have := h2.int e6
    subst this
    exact ⟨a, b, rfl, ⟨by omega, by omega, by omega, by omega⟩, k _ F2 H2 (s1.trans r.row s2) (rng_ok ((r.step s1).step s2))⟩
  · rw [if_neg hb] at hf5
    cases hf5⟩

def toK : RV → SV
  | .d x => .d x
  | .b ds => .k ds
  | .n ds => .k ds
  | .gb _ => .un
  | .gn _ => .un
  | .row => .row
def startE (n : Nat) (xs : List RV) : Env := xs.map (fun x => some (toK x)) ++ List.replicate (n - xs.length) none
/-- a def's body run at its arguments -/
def runDef (n : Nat) (g : Env → M Out) (xs : List RV) : M RV := bnd (g (startE n xs)) fun o => match o with
  | .nx _ => ret (.d .none)
  | .rt x => ret x
  | _ => fail
/-- a def's promise: the function m of its arguments (np of them) -/
def spFn (K : PySem.W.Frag) (np : Nat) (m : List RV → M RV) : Sp := fun vs H Q _ => ∃ (R : RA) (F : Hp) (rs : RS) (xs : List RV) (x : RV) (rs' : RS), Step K R rs F H F H ∧ VRs K R F H H vs xs ∧ xs.length = np ∧ m xs rs = some (x, rs') ∧
  ∀ v F' H', Step K R rs' F H F' H' → VR K R F' H H' v x → Q v H'
theorem VRs.old {F H0 H : Hp} : ∀ {vs : List V} {xs : List RV}, VRs K R F H0 H vs xs → True := fun _ => trivial
/-- data lists as they stand for a call: not new any more -/
def readable : RV → RV
  | .n ds => .b ds
  | .gn c => .gb c
  | x => x
def eFn (m : List RV → M RV) (fa : Env → M (List RV)) : Env → M RV := fun ρ => bnd (fa ρ) fun xs => m (xs.map readable)
theorem VRs.readable {F H0 H : Hp} : ∀ {vs : List V} {xs : List RV}, VRs K R F H0 H vs xs → VRs K R F H H vs (xs.map DV.readable)
  | _, _, .nil => .nil
  | _, _, .cons (x := x) h t => .cons (by
      cases x with
      | d y => exact h
      | b y => exact h
      | gb y => exact h
      | gn y =>
        obtain ⟨a, vs, e1, h1, h0, h2, h3, h4⟩ := h
        exact ⟨a, vs, e1, h1, h3, h4⟩
      | row => exact h
      | n y =>
        obtain ⟨a, vs, e1, h1, h0, h2, h3, h4⟩ := h
        exact ⟨a, vs, e1, h1, h3, h4⟩) (VRs.readable t)
theorem de_fn {k : Nat} {f : Addr} {fd : FuncData} {ps : List Str} {np : Nat} {m : List RV → M RV} {x : Str} {fa : Env → M (List RV)} {k' : Nat} (Fn : FnOk X.prog X.w X.K X.mg X.base CX0 k f fd ps (spFn X.K np m)) (hr : Room k' X.A) (hk' : k ≤ k') (hgl : Gl X x) (hm : X.mg x = some (.ref f)) (hk : PySem.W.keepIn X.K (.ref f) = true)
    (hb : Binds X.K fd ps []) (ha : DA X R (e :: es) ta fa) (hdb : (x == ("__debug__" : Str)) = false := by decide) (he : starEach (e :: es) X.env = (false, eval e X.env) :: starEach es X.env := by rfl) (hpl : (backTo pos (starEach es X.env)).any (·.1) = false := by rfl) :
    DE X R (.Call (.Name x p) (e :: es) [] pos) (tCall (spFn X.K np m) [] E0 ta) (eFn (fun xs => if xs.length = np then m xs else fail) fa) := ⟨pe_call Fn (hr.mono hk') hgl hm hk hb .nil pass0 ha.pa hdb he hpl, fun L E ρ σ F H rs y rs' Q r hf kk => by
  obtain ⟨xs, rs1, e1, hf1⟩ := bnd_some hf
  refine ha.sem L E ρ σ F H rs xs rs1 _ r e1 fun vs F1 H1 s1 h1 => ?_
  have hf1 : (if (xs.map readable).length = np then m (xs.map readable) else fail) rs1 = some (y, rs') := hf1
  have hl : (xs.map readable).length = np := by
    by_cases hl : (xs.map readable).length = np
    · exact hl
    · rw [if_neg hl] at hf1; cases hf1
  rw [if_pos hl] at hf1
  rw [List.append_nil]
  exact ⟨R, F1, rs1, _, y, rs', (r.step s1).refl, h1.readable, hl, hf1, fun v F2 H2 s2 h2 => kk v F2 H2 (s1.trans r.row s2) (h2.older fun a q => s1.back r.row q)⟩⟩
theorem start_get {α : Type} {xs : List α} {n i : Nat} {x : α} (h : (xs.map some ++ List.replicate (n - xs.length) none)[i]? = some (some x)) : xs[i]? = some x := by
  by_cases hi : i < xs.length
  · rw [List.getElem?_append_left (by simpa using hi), List.getElem?_map] at h
    cases e : xs[i]? with
    | none => rw [e] at h; cases h
    | some y => rw [e] at h; cases h; rfl
  · rw [List.getElem?_append_right (by simpa using hi), List.getElem?_replicate] at h
    split at h <;> cases h
theorem VRs.get {F H0 H : Hp} : ∀ {vs : List V} {xs : List RV} {i : Nat} {x : RV}, VRs K R F H0 H vs xs → xs[i]? = some x → ∃ v, vs[i]? = some v ∧ VR K R F H0 H v x
  | _, _, _, _, .nil, h => by simp at h
  | _, _, 0, _, .cons h1 _, h => by
    simp at h; subst h
    exact ⟨_, rfl, h1⟩
  | _, _, i + 1, _, .cons _ h2, h => by
    simp at h
    obtain ⟨v, e, r⟩ := VRs.get h2 h
    exact ⟨v, by simpa using e, r⟩
open Classical in
/-- at a def's entry -/
noncomputable def lockL (R : RA) (H : Hp) (vs : List V) (xs : List RV) (i : Nat) : Option (Addr × List V) := match vs[i]?, xs[i]? with
  | some (.ref a), some x => match toK x with
    | .k _ => if some a = R.row then none else match H a with
      | some (.lst ws) => some (a, ws)
      | _ => none
    | _ => none
  | _, _ => none
open Classical in
theorem lockL_eq {vs : List V} {xs : List RV} {i : Nat} {a : Addr} {x : RV} {ds : List D} {ws : List V} (h1 : vs[i]? = some (.ref a)) (h2 : xs[i]? = some x) (h3 : toK x = .k ds) (h4 : some a ≠ R.row) (h5 : H a = some (.lst ws)) : lockL R H vs xs i = some (a, ws) := by
  unfold lockL
  rw [h1, h2]
  dsimp only
  rw [h3]
  dsimp only
  rw [if_neg h4, h5]
open Classical in
theorem lockL_inv {vs : List V} {xs : List RV} {i : Nat} {a : Addr} {ws : List V} (h : lockL R H vs xs i = some (a, ws)) : some a ≠ R.row ∧ H a = some (.lst ws) := by
  unfold lockL at h
  split at h
  · split at h
    · split at h
      · cases h
      · rename_i hR
        split at h
        · rename_i hh
          cases h
          exact ⟨hR, hh⟩
        · cases h
    · cases h
  · cases h
/-- a table's place -/
def tbAt (K : PySem.W.Frag) (a : Addr) : Prop := ∃ q, (a, q) ∈ tabsOf K
theorem RowOk.noTb {F1 H1 : Hp} {rs1 : RS} (r : RowOk K R rs1 F1 H1) {a : Addr} {ws : List V} (h : H1 a = some (.lst ws)) : ¬ tbAt K a := fun ⟨q, z⟩ => by
  obtain ⟨ps, e⟩ := tabs_at r.tab z
  rw [h] at e; cases e
open Classical in
/-- what the entry knows: neither the row nor a table -/
noncomputable def entE (K : PySem.W.Frag) (R : RA) (H : Hp) : Hp := fun a => if some a = R.row ∨ tbAt K a then none else H a
theorem entE_of {a : Addr} {o : HO} (e : entE K R H a = some o) : some a ≠ R.row ∧ ¬ tbAt K a ∧ H a = some o := by
  unfold entE at e
  split at e
  · cases e
  · rename_i h
    exact ⟨fun z => h (.inl z), fun z => h (.inr z), e⟩
theorem entE_at {a : Addr} (h1 : some a ≠ R.row) (h2 : ¬ tbAt K a) : entE K R H a = H a := by
  unfold entE
  exact if_neg fun z => z.elim h1 h2
theorem entE_row {a : Addr} (h : R.row = some a) : entE K R H a = none := by
  unfold entE
  exact if_pos (.inl h.symm)
open Classical in
noncomputable def lockH (R : RA) (H : Hp) (vs : List V) (xs : List RV) : Nat → Option (Addr × HO) := fun j => if j % 2 = 0 then (lockL R H vs xs (j / 2)).map fun p => (p.1, HO.lst p.2) else none
theorem lockH_inv {R : RA} {H : Hp} {vs : List V} {xs : List RV} {j : Nat} {a : Addr} {u : HO} (h : lockH R H vs xs j = some (a, u)) : ∃ ws, u = .lst ws ∧ some a ≠ R.row ∧ H a = some (.lst ws) := by
  unfold lockH at h
  split at h
  · cases e : lockL R H vs xs (j / 2) with
    | none => rw [e] at h; cases h
    | some p =>
      rw [e] at h
      cases h
      exact ⟨p.2, rfl, lockL_inv (a := p.1) (ws := p.2) e⟩
  · cases h
theorem lockH_at {R : RA} {H : Hp} {vs : List V} {xs : List RV} {i : Nat} {a : Addr} {ws : List V} (h : lockL R H vs xs i = some (a, ws)) : lockH R H vs xs (2 * i) = some (a, .lst ws) := by
  unfold lockH
  rw [if_pos (by omega), show 2 * i / 2 = i by omega, h]
  rfl
open Classical in
theorem Rel.start {N : List Str} {vs : List V} {xs : List RV} (s : Step K R rs F H F H) (h : VRs K R F H H vs xs) : ∃ L, Rel K R L (entE K R H) F (startE N.length xs) (L2.start N vs) rs H := by
  have hl := h.len
  refine ⟨lockH R H vs xs, ?_⟩
  refine ⟨?_, fun a o e => (entE_of e).2.2, fun a o e => .inr fun n z => (entE_of e).2.1 ⟨n, z⟩, s.fin, s.row, fun q e => ⟨entE_row e, s.rF q e⟩, fun i a ws e => ?_, fun i sv e => ?_, fun i j a sv sw e1 _ ox _ _ _ => ?_⟩
  · unfold startE L2.start
    rw [List.length_append, List.length_append, List.length_map, List.length_map, List.length_replicate, List.length_replicate, hl]
  · obtain ⟨ws2, rfl, h1, h2⟩ := lockH_inv e
    rw [entE_at h1 (s.row.noTb h2)]
    exact h2
  · have hx : ∃ x, xs[i]? = some x ∧ sv = toK x := by
      unfold startE at e
      have : (((xs.map toK).map some) ++ List.replicate (N.length - (xs.map toK).length) none)[i]? = some (some sv) := by
        rw [List.map_map, List.length_map]
        exact e
      have q := start_get this
      rw [List.getElem?_map] at q
      cases q2 : xs[i]? with
      | none => rw [q2] at q; cases q
      | some x => rw [q2] at q; exact ⟨x, rfl, (Option.some.inj q).symm⟩
    obtain ⟨x, hx, rfl⟩ := hx
    obtain ⟨v, hv, q⟩ := h.get hx
    refine ⟨v, ?_, ?_⟩
    · unfold L2.start
      have hi := (List.getElem?_eq_some_iff.mp hv).1
      rw [List.getElem?_append_left (by simpa using hi), List.getElem?_map, hv]
      rfl
    · have lst : ∀ (a : Addr) (ws : List V) (ds : List D), v = .ref a → H a = some (.lst ws) → some a ≠ R.row → DpAll K F ws ds → toK x = .k ds → SR K R (lockH R H vs xs) (fun a => if some a = R.row then none else H a) F H i v (.k ds) := fun a ws ds ev h1 h2 h3 ek => by
        subst ev
        exact ⟨a, ws, lockH_at (lockL_eq hv hx ek h2 h1), rfl, h3⟩
      cases x with
      | d y => exact q
      | b ds =>
        obtain ⟨a, ws, ev, h1, h2, h3⟩ := q
        exact lst a ws ds ev h1 h2 h3 rfl
      | n ds =>
        obtain ⟨a, ws, ev, h1, h0, h2, h3, h4⟩ := q
        exact lst a ws ds ev h1 h3 h4 rfl
      | gb _ => exact trivial
      | gn _ => exact trivial
      | row => exact q
  · exfalso
    unfold startE at e1
    have : (((xs.map toK).map some) ++ List.replicate (N.length - (xs.map toK).length) none)[i]? = some (some sv) := by
      rw [List.map_map, List.length_map]
      exact e1
    have q := start_get this
    rw [List.getElem?_map] at q
    cases q2 : xs[i]? with
    | none => rw [q2] at q; cases q
    | some x =>
      rw [q2] at q
      have q3 := Option.some.inj q
      cases x <;> cases q3 <;> exact ox
/-- a def by its body, its code told -/
theorem fun_code {P : Program} {w : World} {mg : Str → Option Value} {base : Heap} {x qual : Str} {st : Stmt} {f : Addr} {fd : FuncData} {N ps : List Str} {k : Nat} {sp : Sp} (Fn : Fun K x qual st f fd) (S : FnScope N ps (defScope st)) (len : ∀ vs H Q E, sp vs H Q E → vs.length = ps.length)
    (go : ∀ (cdv : Value) (A : Around) (outer : List PySem.Env) (s : Shared) (H : Hp) (vs : List V) (Q : VK) (E : XK), fd.code = cdv → Room k (A.deeper (envOfC qual (defScope st) s.heap.objs.size f cdv)) → sp vs H Q E →
      ∃ t, PSs (cxOf CX0 P w K mg base N qual (defScope st) f cdv A outer s H E).nox (defBody st) t ∧ t { nx := fun _ H' => Q .non H', rt := Q } (L2.start N vs) H) : FnOk P w K mg base CX0 (k + 1) f fd ps sp := by
  obtain ⟨c0, d0, kv, dc, pm, an, code, ct, sl, rfl, look, isC⟩ := Fn.ex
  refine fn_of look isC S len fun A outer s H vs Q E room h => ?_
  obtain ⟨t, h1, h2⟩ := go code A outer s H vs Q E rfl room h
  exact ⟨t, h1.nox, h2⟩
/-- THE RULE for a def -/
theorem fn_ok {P : Program} {w : World} {mg : Str → Option Value} {base : Heap} {x qual : Str} {st : Stmt} {f : Addr} {fd : FuncData} {N ps : List Str} {k : Nat} {g : Env → M Out} (Fn : Fun K x qual st f fd) (S : FnScope N ps (defScope st))
    (hbody : ∀ (R : RA) (cdv : Value) (A : Around) (outer : List PySem.Env) (s : Shared) (H : Hp) (E : XK), fd.code = cdv → Room k (A.deeper (envOfC qual (defScope st) s.heap.objs.size f cdv)) →
      ∃ t, DSs (cxOf CX0 P w K mg base N qual (defScope st) f cdv A outer s H E).nox R (defBody st) t g) : FnOk P w K mg base CX0 (k + 1) f fd ps (spFn K ps.length (runDef N.length g)) := by
  refine fun_code Fn S (fun vs H Q E h => ?_) (fun cdv A outer s H vs Q E hcd hr h => ?_)
  · obtain ⟨R, F, rs, xs, x, rs', _, h2, h3, _⟩ := h
    rw [h2.len, h3]
  · obtain ⟨R, F, rs, xs, y, rs', hs, hv, hl, hm, kk⟩ := h
    obtain ⟨t, hb⟩ := hbody R cdv A outer s H E hcd hr
    obtain ⟨L, r⟩ := Rel.start (N := N) hs hv
    have s0 := hs
    refine ⟨t, hb.ps, ?_⟩
    obtain ⟨o, rs1, e1, hf1⟩ := bnd_some hm
    have free : ∀ a, entE K R H a = none → some a ≠ R.row → ¬ tbAt K a → H a = none := fun a e q t => by rwa [entE_at q t] at e
    have fin : ∀ (v : V) (F1 H1 : Hp) (z : RV), Ret K R rs1 (entE K R H) F F1 H1 v z → y = z → rs1 = rs' → Q v H1 := fun v F1 H1 z q ez er => by
      subst ez er
      refine kk v F1 H1 ⟨fun a o e hR n => ?_, q.fs.sub, fun a o e => ?_, q.fr, q.row, q.rF⟩ ?_
      · by_cases t : tbAt K a
        · obtain ⟨m, t⟩ := t
          obtain ⟨ps, et⟩ := tabs_at s0.row.tab t
          rw [e] at et
          cases et
          rcases n with n | n
          · exact absurd rfl (n ps)
          · exact absurd t (n m)
        · exact q.ex a o (by rw [entE_at hR t]; exact e)
      · rcases q.fs.new a o e with z | ⟨z1, z2⟩
        · exact .inl z
        · refine .inr (free a z1 z2 fun ⟨m, t⟩ => ?_)
          obtain ⟨ps, et⟩ := tabs_at q.row.tab t
          rw [q.fr a o e] at et
          cases et
          rcases q.row.fnt a _ e with n | n
          · exact absurd rfl (n ps)
          · exact absurd t (n m)
      · have hv := q.val
        cases y with
        | d y => exact hv
        | n ds =>
          obtain ⟨a, ws, z1, z2, z3, z4, z5, z6⟩ := hv
          exact ⟨a, ws, z1, z2, free a z3 z5 (q.row.noTb z2), z4, z5, z6⟩
        | gn c =>
          obtain ⟨a, ws, z1, z2, z3, z4, z5, z6⟩ := hv
          exact ⟨a, ws, z1, z2, free a z3 z5 (fun ⟨m, t⟩ => by
            obtain ⟨ps, et⟩ := tabs_at q.row.tab t
            rw [z2] at et
            cases et
            rcases z6.fx with n | n
            · exact absurd rfl (n ps)
            · exact absurd t (n m)), z4, z5, z6⟩
        | b _ => exact hv.elim
        | gb _ => exact hv.elim
        | row => exact hv.elim
    refine hb.sem L _ F _ _ rs H o rs1 _ r e1 ?_
    cases o with
    | nx ρ' =>
      obtain ⟨e2, q2⟩ := ret_some hf1
      exact fun σ' F' H' fs r' => fin .non F' H' (.d .none) ⟨fs, r'.ex, r'.fr, r'.row, fun q e => (r'.rE q e).2, .non⟩ e2.symm q2.symm
    | rt z =>
      obtain ⟨e2, q2⟩ := ret_some hf1
      exact fun v F' H' q => fin v F' H' z q e2.symm q2.symm
    | bk ρ' => cases hf1
    | ct ρ' => cases hf1

def sApp (i : Nat) (f : Env → M RV) : Env → M Out := fun ρ => bnd (lft (own? ρ i)) fun ds => bnd (f ρ) fun x => bnd (lft (toD x)) fun d => if ds.length < 100000 then ret (.nx (ρ.set i (some (.o (ds ++ [d]))))) else fail
  where own? (ρ : Env) (i : Nat) : Option (List D) := match ρ[i]? with
    | some (some (.o ds)) => some ds
    | _ => none
theorem own_some {ρ : Env} {i : Nat} {ds : List D} (h : sApp.own? ρ i = some ds) : ρ[i]? = some (some (SV.o ds)) := by
  unfold sApp.own? at h
  cases e : ρ[i]? with
  | none => rw [e] at h; cases h
  | some o =>
    cases o with
    | none => rw [e] at h; cases h
    | some sv =>
      rw [e] at h
      cases sv with
      | o es => cases h; rfl
      | d _ => cases h
      | k _ => cases h
      | g _ => cases h
      | un => cases h
      | ex _ _ => cases h
      | fn _ => cases h
      | lm => cases h
      | m _ => cases h
      | row => cases h
theorem frozen1 {F1 H1 : Hp} (r : Rel K R L E F ρ σ rs H) (s : Step K R rs' F H F1 H1) {v : V} {x : RV} {d : D} (h : VR K R F1 H H1 v x) (e : toD x = some d) : ∃ F2, Step K R rs' F H F2 H1 ∧ Dp K F2 v d := by
  obtain ⟨F2, h1, h2, _⟩ := freeze1 s r.row (fun a q => q) h e
  exact ⟨F2, h1, h2⟩
theorem ds_append {i : Nat} {x : Str} {e : Expr} {te : TE} {f : Env → M RV} {apos p1 spos : Pos} (he : DE X R e te f) (hN : X.N[i]? = some x := by rfl) (hv : Vis X.env.scope x := by first | exact Or.inl rfl | exact Or.inr (Or.inl rfl) | exact Or.inr (Or.inr rfl)) (hd : (x == ("__debug__" : Str)) = false := by decide)
    (hcd : (x == ("__classdict__" : Str)) = false := by decide) (pe : PE X (.Call (.Attribute (.Name x p1) "append" apos) [e] [] pos) (tBM X.K "list" rAppend (tVar i) (tCons te tNil))) (hs : swapsWith (.Call (.Attribute (.Name x p1) "append" apos) [e] [] pos) none spos.line X.env = pure false := by rfl) :
    DS X R (.Expr (.Call (.Attribute (.Name x p1) "append" apos) [e] [] pos) spos) (tDrop (tBM X.K "list" rAppend (tVar i) (tCons te tNil))) (sApp i f) := ⟨ps_expr pe hs, fun L E F ρ σ rs H o rs' D r hf k => by
  obtain ⟨ds, rs1, e1, hf1⟩ := bnd_some hf
  obtain ⟨e2, q2⟩ := lft_some e1
  subst q2
  obtain ⟨x, rs3, e3, hf3⟩ := bnd_some hf1
  obtain ⟨d, rs4, e4, hf4⟩ := bnd_some hf3
  obtain ⟨e5, q5⟩ := lft_some e4
  subst q5
  by_cases hl : ds.length < 100000
  · rw [if_pos hl] at hf4
    obtain ⟨e6, q6⟩ := ret_some hf4
    subst e6 q6
    have eo := own_some e2
    obtain ⟨v, ev, a, vs, rfl, h1, h2, h3, h4, h5⟩ := r.sl i _ eo
    refine ⟨_, ev, .inl ⟨rfl, vs, .inl (.inl h1)⟩, ?_⟩
    refine he.sem L E ρ σ F H _ x _ _ r e3 fun w F1 H1 s1 hw => ?_
    obtain ⟨F2, s2, hd2⟩ := frozen1 r s1 hw e5
    have r2 := r.step s2
    obtain ⟨v', ev', a', vs', ea, k1, k2, k3, k4, k5⟩ := r2.sl i _ eo
    rw [ev] at ev'
    cases ev'
    cases ea
    refine ⟨a, vs', w, rfl, rfl, k1, by rw [k5.len]; exact sz_lt hl, ?_⟩
    exact k σ F2 _ (FStep.ofStep r s2) (r2.change eo ev (k5.append (.cons hd2 .nil)))
  · rw [if_neg hl] at hf4
    cases hf4⟩
/-- x[k] = e -/
def sPut (i : Nat) (f g : Env → M RV) : Env → M Out := fun ρ => bnd (f ρ) fun x => bnd (lft (sApp.own? ρ i)) fun ds => bnd (g ρ) fun y => bnd (lft (asInt y)) fun j => bnd (lft (toD x)) fun d => bnd (lft (ixN ds.length j)) fun m => ret (.nx (ρ.set i (some (.o (ds.set m d)))))
theorem ds_put {i : Nat} {x : Str} {ei e : Expr} {te ti : TE} {f g : Env → M RV} {p1 spos : Pos} (he : DE X R e te f) (hi : DE X R ei ti g) (hN : X.N[i]? = some x := by rfl) (hv : Vis X.env.scope x := by first | exact Or.inl rfl | exact Or.inr (Or.inl rfl) | exact Or.inr (Or.inr rfl)) (hd : (x == ("__debug__" : Str)) = false := by decide)
    (hcd : (x == ("__classdict__" : Str)) = false := by decide) (hpg : PG X (.Subscript (.Name x p1) ei pos) (gSub (tVar i) ti rSetL)) (hs : swapsWithSole [.Subscript (.Name x p1) ei pos] e spos.line X.env = pure false := by rfl) (hw : swappedStores [.Subscript (.Name x p1) ei pos] e X.env = pure none := by rfl)
    (h1 : (assignEach [.Subscript (.Name x p1) ei pos] X.env).map (·.2) = [assign (.Subscript (.Name x p1) ei pos) X.env] := by rfl) : DS X R (.Assign [.Subscript (.Name x p1) ei pos] e spos) (tAsg te (gSub (tVar i) ti rSetL)) (sPut i f g) := ⟨ps_asg he.pe hpg hs hw h1, fun L E F ρ σ rs H o rs' D r hf k => by
  obtain ⟨x, rs1, e1, hf1⟩ := bnd_some hf
  obtain ⟨ds, rs2, e2, hf2⟩ := bnd_some hf1
  obtain ⟨e2', q2⟩ := lft_some e2
  subst q2
  obtain ⟨y, rs3, e3, hf3⟩ := bnd_some hf2
  obtain ⟨j, rs4, e4, hf4⟩ := bnd_some hf3
  obtain ⟨e4', q4⟩ := lft_some e4
  subst q4
  obtain ⟨d, rs5, e5, hf5⟩ := bnd_some hf4
  obtain ⟨e5', q5⟩ := lft_some e5
  subst q5
  obtain ⟨m, rs6, e6, hf6⟩ := bnd_some hf5
  obtain ⟨e6', q6⟩ := lft_some e6
  obtain ⟨e7, q7⟩ := ret_some hf6
  subst e7 q7 q6
  refine he.sem L E ρ σ F H _ x _ _ r e1 fun w F1 H1 s1 hw => ?_
  obtain ⟨F2, s2, hd2⟩ := frozen1 r s1 hw e5'
  have r2 := r.step s2
  have eo := own_some e2'
  obtain ⟨v, ev, _⟩ := r.sl i _ eo
  refine ⟨v, ev, ?_⟩
  refine hi.sem L E ρ σ F2 H1 _ y _ _ r2 e3 fun u F3 H3 s3 hu => ?_
  have hu' := hu.int e4'
  subst hu'
  have r3 := r2.step s3
  obtain ⟨v', ev', a', vs', ea, k1, k2, k3, k4, k5⟩ := r3.sl i _ eo
  rw [ev] at ev'
  cases ev'
  subst ea
  refine ⟨a', vs', j, m, rfl, rfl, k1, by rw [k5.len]; exact e6', ?_⟩
  exact k σ F3 _ (FStep.ofStep r (s2.trans r.row s3)) (r3.change eo ev (DpAll.set m k5 (Dp.mono s3.sub _ _ hd2)))⟩
end
end DV

namespace DV
open PySem L2 LamX PyProof.Rows PySem.Spec PySem.W
section
variable {K : PySem.W.Frag}
def isTupNe : D → Bool
  | .tuple (_ :: _) => true
  | _ => false
def isPlain : D → Bool
  | .none => false
  | .tuple _ => false
  | _ => true
def okKeys (kz : List D) : Bool := kz.all (fun x => kz.all (alike x)) && ((kz.all isTupNe || kz.all isPlain) && kz.all fun d => decide (d.depth ≤ 60))
/-- the items in the order of their keys -/
def sortK (its kz : List D) : List D := ((its.zip kz).mergeSort fun p q => !dataLt q.2 p.2).map (·.1)
end
end DV

namespace DV
open PySem L2 PyProof.Rows
def insI (x : Int) : List Int → List Int
  | [] => [x]
  | y :: r => if x ≤ y then x :: y :: r else y :: insI x r
def sortI : List Int → List Int
  | [] => []
  | x :: r => insI x (sortI r)
section
open PySem.Spec PySem.W
end
section
variable {K : PySem.W.Frag} {R : RA}
def gSort : List RV → Option RV := c1 fun x => match items x with
  | some ds => match intsOf ds with
    | some js => some (.n ((sortI js).map PyData.int))
    | none => if okKeys ds = true then some (.n (sortK ds ds)) else none
  | none => none
end
end DV

namespace DV
open PySem L2 PyProof.Rows
section
variable {X : Cx} {K : PySem.W.Frag} {R : RA} {L : Nat → Option (Addr × HO)} {E F F' H H' : Hp} {ρ ρ' : Env} {σ σ' : L2.St} {rs rs' : RS}
variable {S S' : List Nat} {tg it elt e e2 c : Expr} {es ifs : List Expr} {g : TG} {gs : TGs} {hg : D → Env → Option Env} {hgs : List D → Env → Option Env} {pos p : Pos} {st : Stmt} {body : List Stmt} {tb : TS} {tt : TT} {te t1 t2 : TE} {ta : TA} {wi : TI}
theorem ssem_set {i : Nat} {f : Env → M RV} (he : ESem K R te f) : SSem K R (tAsg te (gName i)) (sSet i f) := fun L E F ρ σ rs H o rs' D r hf k => by
  obtain ⟨x, rs1, e1, hf1⟩ := bnd_some hf
  obtain ⟨sv, rs2, e2, hf2⟩ := bnd_some hf1
  obtain ⟨e3, q3⟩ := lft_some e2
  obtain ⟨e4, q4⟩ := ret_some hf2
  subst e4 q4 q3
  exact he L E ρ σ F H rs x _ _ r e1 fun v F1 H1 s1 h1 => k _ F1 H1 (FStep.ofStep r s1) (Rel.store r s1 h1 e3 i)
theorem rg_data {F : Hp} (lo : Int) : ∀ n : Nat, DpAll K F ((List.range n).map fun i => V.int (lo + (i : Nat))) (rngD lo n) := fun n => by
  have go : ∀ (n : Nat) (lo : Int), DpAll K F ((List.range n).map fun i => V.int (lo + (i : Nat))) (rngD lo n) := fun n => by
    induction n with
    | zero => exact fun lo => .nil
    | succ n ih =>
      intro lo
      rw [List.range_succ_eq_map, List.map_cons, List.map_map]
      have e : (fun i : Nat => V.int (lo + (i : Nat))) ∘ Nat.succ = fun i : Nat => V.int ((lo + 1) + (i : Nat)) := by
        funext i
        show V.int (lo + ((i + 1 : Nat) : Int)) = _
        congr 1
        omega
      rw [e]
      show DpAll K F (V.int (lo + ((0 : Nat) : Int)) :: _) (.int lo :: rngD (lo + 1) n)
      refine .cons ?_ (ih (lo + 1))
      have z : lo + ((0 : Nat) : Int) = lo := by omega
      rw [z]
      exact .int lo
  exact go n lo
def RgSem (K : PySem.W.Frag) (R : RA) (t : L2.St → Hp → (Int → Int → Hp → Prop) → Prop) (f : Env → M (Int × Int)) : Prop :=
  ∀ (L : Nat → Option (Addr × HO)) (E : Hp) (ρ : Env) (σ : L2.St) (F H : Hp) (rs : RS) (x : Int × Int) (rs' : RS) (Q : Int → Int → Hp → Prop), Rel K R L E F ρ σ rs H → f ρ rs = some (x, rs') →
    (∀ F' H', Step K R rs' F H F' H' → Q x.1 x.2 H') → t σ H Q
structure DRg (X : Cx) (R : RA) (e : Expr) (t : L2.St → Hp → (Int → Int → Hp → Prop) → Prop) (f : Env → M (Int × Int)) : Prop where
  pr : PRg X e t
  sem : RgSem X.K R t f
def rg1F (f : Env → M RV) : Env → M (Int × Int) := fun ρ => bnd (f ρ) fun x => bnd (lft (asInt x)) fun n => ret (0, n)
theorem drg_1 {f : Env → M RV} (hgl : Gl X "range") (hm : X.mg "range" = none) (h : DE X R e te f) (hs : starEach [e] X.env = (false, eval e X.env) :: starEach [] X.env := by rfl) : DRg X R (.Call (.Name "range" p) [e] [] pos) (tRg1 te) (rg1F f) :=
  ⟨prg_1 hgl hm h.pe hs, fun L E ρ σ F H rs x rs' Q r hf k => by
    obtain ⟨v, rs1, e1, hf1⟩ := bnd_some hf
    obtain ⟨n, rs2, e2, hf2⟩ := bnd_some hf1
    obtain ⟨e3, q3⟩ := lft_some e2
    obtain ⟨e4, q4⟩ := ret_some hf2
    subst e4 q4 q3
    exact h.sem L E ρ σ F H rs v _ _ r e1 fun v1 F1 H1 s1 h1 => ⟨n, h1.int e3, k F1 H1 s1⟩⟩
def okRg (a b : Int) : Bool := decide (-1000000 ≤ a) && (decide (a ≤ 1000000) && (decide (-1000000 ≤ b) && decide (b ≤ 1000000)))
theorem okRg_of {a b : Int} (h : okRg a b = true) : RgOk a b := by
  unfold okRg at h
  simp only [Bool.and_eq_true, decide_eq_true_eq] at h
  obtain ⟨h1, h2, h3, h4⟩ := h
  refine ⟨by omega, by omega, by omega, by omega, ?_⟩
  have : (2 : Nat) ^ 24 = 16777216 := by decide
  omega
def eListRg (f : Env → M (Int × Int)) : Env → M RV := fun ρ => bnd (f ρ) fun x => if okRg x.1 x.2 = true then ret (.n (rngD x.1 (x.2 - x.1).toNat)) else fail
def eTupRg (f : Env → M (Int × Int)) : Env → M RV := fun ρ => bnd (f ρ) fun x => if okRg x.1 x.2 = true then ret (.d (.tuple (rngD x.1 (x.2 - x.1).toNat))) else fail
theorem de_listRg {t : L2.St → Hp → (Int → Int → Hp → Prop) → Prop} {f : Env → M (Int × Int)} (hc : X.calm = true) (hgl : Gl X "list") (hm : X.mg "list" = none) (h : DRg X R e t f) (na : starEach [e] X.env = (false, eval e X.env) :: starEach [] X.env := by rfl) : DE X R (.Call (.Name "list" p) [e] [] pos) (tLstRg t) (eListRg f) :=
  ⟨pe_listRg hc hgl hm h.pr na, fun L E ρ σ F H rs x rs' Q r hf k => by
    obtain ⟨v, rs1, e1, hf1⟩ := bnd_some hf
    by_cases hb : okRg v.1 v.2 = true
    · rw [if_pos hb] at hf1
      obtain ⟨e4, q4⟩ := ret_some hf1
      subst e4 q4
      refine h.sem L E ρ σ F H rs v _ _ r e1 fun F1 H1 s1 => ⟨okRg_of hb, fun q hq => ?_⟩
      obtain ⟨s2, hF, hR⟩ := Step.new_lst (vs := rgV v.1 v.2) (r.step s1).refl hq
      exact k _ F1 _ (s1.trans r.row s2) ⟨q, _, rfl, upd_same, s1.back r.row hq, hF, hR, rg_data _ _⟩
    · rw [if_neg hb] at hf1
      cases hf1⟩
end
end DV

namespace DV
open PySem L2
theorem DpAll.eraseIdx {K : PySem.W.Frag} {F : Hp} (n : Nat) {vs : List V} {ds : List PyData} (h : DpAll K F vs ds) : DpAll K F (vs.eraseIdx n) (ds.eraseIdx n) := by
  rw [List.eraseIdx_eq_take_drop_succ, List.eraseIdx_eq_take_drop_succ]
  exact DpAll.append (h.take n) (h.drop (n + 1))
end DV
namespace DV
open PySem L2 PyProof.Rows
section
variable {X : Cx} {K : PySem.W.Frag} {R : RA} {L : Nat → Option (Addr × HO)} {E F F' H H' : Hp} {ρ ρ' : Env} {σ σ' : L2.St} {rs rs' : RS}
variable {S S' : List Nat} {tg it elt e e2 c : Expr} {es ifs : List Expr} {g : TG} {gs : TGs} {hg : D → Env → Option Env} {hgs : List D → Env → Option Env} {pos p : Pos} {st : Stmt} {body : List Stmt} {tb : TS} {tt : TT} {te t1 t2 : TE} {ta : TA} {wi : TI}
def popIx (es : List D) (n : Int) : Option (Nat × D) := if -1000000 ≤ n ∧ n ≤ 1000000 then (match seqIndex? n es.length with
  | some k => (es[k]?).map fun y => (k, y)
  | none => none) else none
theorem popIx_some {es : List D} {n : Int} {k : Nat} {y : D} (h : popIx es n = some (k, y)) : -(2 ^ 63) ≤ n ∧ n < 2 ^ 63 ∧ seqIndex? n es.length = some k ∧ es[k]? = some y := by
  unfold popIx at h
  by_cases hb : -1000000 ≤ n ∧ n ≤ 1000000
  · rw [if_pos hb] at h
    cases e : seqIndex? n es.length with
    | none => rw [e] at h; cases h
    | some j =>
      simp only [e] at h
      cases e2 : es[j]? with
      | none => rw [e2] at h; cases h
      | some z =>
        rw [e2] at h
        cases h
        exact ⟨by omega, by omega, rfl, e2⟩
  · rw [if_neg hb] at h
    cases h
def sPopApp (i j : Nat) (f : Env → M RV) : Env → M Out := fun ρ => bnd (lft (sApp.own? ρ i)) fun ds => bnd (lft (sApp.own? ρ j)) fun es => bnd (f ρ) fun x => bnd (lft (asInt x)) fun n => bnd (lft (popIx es n)) fun kk =>
  if ds.length < 100000 ∧ i ≠ j then ret (.nx ((ρ.set j (some (.o (es.eraseIdx kk.1)))).set i (some (.o (ds ++ [kk.2]))))) else fail
theorem ssem_popApp {i j : Nat} {f : Env → M RV} (he : ESem K R te f) : SSem K R (tDrop (tBM K "list" rAppend (tVar i) (tCons (tBM K "list" rPopAt (tVar j) (tCons te tNil)) tNil))) (sPopApp i j f) := fun L E F ρ σ rs H o rs' D r hf k => by
  obtain ⟨ds, rs1, e1, hf1⟩ := bnd_some hf
  obtain ⟨e2, q2⟩ := lft_some e1
  subst q2
  obtain ⟨es, rs3, e3, hf3⟩ := bnd_some hf1
  obtain ⟨e4, q4⟩ := lft_some e3
  subst q4
  obtain ⟨x, rs5, e5, hf5⟩ := bnd_some hf3
  obtain ⟨n, rs6, e6, hf6⟩ := bnd_some hf5
  obtain ⟨e7, q7⟩ := lft_some e6
  subst q7
  obtain ⟨⟨kk, y⟩, rs8, e8, hf8⟩ := bnd_some hf6
  obtain ⟨e9, q9⟩ := lft_some e8
  subst q9
  by_cases hl : ds.length < 100000 ∧ i ≠ j
  · rw [if_pos hl] at hf8
    obtain ⟨e10, q10⟩ := ret_some hf8
    subst e10 q10
    have eoi := own_some e2
    have eoj := own_some e4
    obtain ⟨b1, b2, b3, b4⟩ := popIx_some e9
    obtain ⟨v, evi, a, vs, rfl, h1, _⟩ := r.sl i _ eoi
    obtain ⟨v2, evj, b, ws, rfl, g1, _⟩ := r.sl j _ eoj
    refine ⟨_, evi, .inl ⟨rfl, vs, .inl (.inl h1)⟩, ?_⟩
    refine ⟨_, evj, .inl ⟨rfl, ws, .inl (.inl g1)⟩, ?_⟩
    refine he L E ρ σ F H _ x _ _ r e5 fun w F1 H1 s1 hw => ?_
    have hwi := hw.int e7
    subst hwi
    have r1 := r.step s1
    obtain ⟨v', ev', b', ws', eb, k1, k2, k3, k4, k5⟩ := r1.sl j _ eoj
    rw [evj] at ev'
    cases ev'
    cases eb
    obtain ⟨yv, ey, hy⟩ := k5.get b4
    refine ⟨b, ws', n, kk, yv, rfl, rfl, k1, b1, b2, by rw [k5.len]; exact b3, ey, ?_⟩
    have r2 := r1.change eoj evj (DpAll.eraseIdx kk k5)
    have eoi2 : (ρ.set j (some (SV.o (es.eraseIdx kk))))[i]? = some (some (SV.o ds)) := by
      rw [List.getElem?_set_ne (Ne.symm hl.2)]
      exact eoi
    obtain ⟨v3, ev3, a', vs', ea, m1, m2, m3, m4, m5⟩ := r2.sl i _ eoi2
    rw [evi] at ev3
    cases ev3
    cases ea
    refine ⟨a, vs', yv, rfl, rfl, m1, by rw [m5.len]; exact sz_lt hl.1, ?_⟩
    exact k σ F1 _ (FStep.ofStep r s1) (r2.change eoi2 evi (m5.append (.cons hy .nil)))
  · rw [if_neg hl] at hf8
    cases hf8
theorem ds_popApp {i j : Nat} {f : Env → M RV} (he : ESem X.K R te f) (pe : PE X e (tBM X.K "list" rAppend (tVar i) (tCons (tBM X.K "list" rPopAt (tVar j) (tCons te tNil)) tNil))) (hs : swapsWith e none pos.line X.env = pure false := by rfl) :
    DS X R (.Expr e pos) (tDrop (tBM X.K "list" rAppend (tVar i) (tCons (tBM X.K "list" rPopAt (tVar j) (tCons te tNil)) tNil))) (sPopApp i j f) := ⟨ps_expr pe hs, ssem_popApp he⟩
end
end DV


namespace DV
open PySem L2 PyProof.Rows
section
variable {X : Cx} {K : PySem.W.Frag} {R : RA} {L : Nat → Option (Addr × HO)} {E F F' H H' : Hp} {ρ ρ' : Env} {σ σ' : L2.St} {rs rs' : RS}
variable {S S' : List Nat} {tg it elt e e2 c : Expr} {es ifs : List Expr} {g : TG} {gs : TGs} {hg : D → Env → Option Env} {hgs : List D → Env → Option Env} {pos p : Pos} {st : Stmt} {body : List Stmt} {tb : TS} {tt : TT} {te t1 t2 : TE} {ta : TA} {wi : TI}
/-- the lists of one's own stand already in H -/
def OwnOld (H : Hp) (ρ : Env) (σ : L2.St) : Prop := ∀ (m : Nat) (y : SV) (a : Addr), ρ[m]? = some (some y) → y.ow → σ[m]? = some (some (V.ref a)) → H a ≠ none
theorem Rel.known (r : Rel K R L E F ρ σ rs H) : OwnOld H ρ σ := fun m y a e1 oy e2 => by
  obtain ⟨u, h1, _⟩ := r.own_at e1 oy e2
  rw [h1]
  exact fun q => nomatch q
theorem OwnOld.step (k : OwnOld H ρ σ) (s : Step K R rs' F H F' H') (r : RowOk K R rs F H) : OwnOld H' ρ σ := fun m es a e1 oy e2 q => k m es a e1 oy e2 (s.back r q)
theorem OwnOld.set {H0 : Hp} {F1 : Hp} (k : OwnOld H ρ σ) (hl : ρ.length = σ.length) {v : V} {x : RV} {sv : SV} (hv : VR K R F1 H0 H v x) (e : toS x = some sv) (i : Nat) : OwnOld H (ρ.set i (some sv)) (σ.set i (some v)) := fun m es a e1 oy e2 => by
  by_cases hm : m = i
  · subst hm
    have h1 : m < ρ.length := by
      have := (List.getElem?_eq_some_iff.mp e1).1
      rw [List.length_set] at this
      exact this
    rw [List.getElem?_set_self h1] at e1
    rw [List.getElem?_set_self (by rw [← hl]; exact h1)] at e2
    have q1 := Option.some.inj (Option.some.inj e1)
    have q2 := Option.some.inj (Option.some.inj e2)
    subst q1 q2
    cases x with
    | d y => cases e; cases oy
    | n y =>
      obtain ⟨b, vs, eb, hb, _⟩ := hv
      cases eb
      rw [hb]
      exact fun q => nomatch q
    | gn y =>
      obtain ⟨b, vs, eb, hb, _⟩ := hv
      cases eb
      rw [hb]
      exact fun q => nomatch q
    | b y => cases e
    | gb y => cases e
    | row => cases e
  · rw [List.getElem?_set_ne (Ne.symm hm)] at e1 e2
    exact k m es a e1 oy e2
/-- a new thing is none of the known ones -/
theorem OwnOld.apart (k : OwnOld H ρ σ) {H1 : Hp} {v : V} {i : Nat} (a : Addr) (u : HO) (_ : v = .ref a) (_ : H1 a = some u) (h0 : H a = none) (j : Nat) (y : SV) (_ : j ≠ i) (e1 : ρ[j]? = some (some y)) (oy : y.ow) (e2 : σ[j]? = some (some (V.ref a))) : False := k j y a e1 oy e2 h0
def sPar3 (i j l : Nat) (fa : Env → M (List RV)) : Env → M Out := fun ρ => bnd (fa ρ) fun xs => match xs with
  | [x, y, z] => bnd (lft (toS x)) fun sx => bnd (lft (toS y)) fun sy => bnd (lft (toS z)) fun sz => ret (.nx (((ρ.set i (some sx)).set j (some sy)).set l (some sz)))
  | _ => fail
theorem ds_par3 {i j l : Nat} {x y z : Str} {a b c : Expr} {fa fb fc : Env → M RV} {tA tB tC' : TE} {px py pz pt : Pos} {kt k2 pt2} (hc : X.calm = true) (hN : X.N.Nodup) (hi : X.N[i]? = some x) (hj : X.N[j]? = some y) (hl : X.N[l]? = some z) (hij : i ≠ j) (hil : i ≠ l) (hjl : j ≠ l)
    (hx : X.env.scope.names.lookup x = some .local) (hy : X.env.scope.names.lookup y = some .local) (hz : X.env.scope.names.lookup z = some .local) (ha : DE X R a tA fa) (hb : DE X R b tB fb) (hcc : DE X R c tC' fc)
    (hw : swappedStores [.Tuple [.Name x px, .Name y py, .Name z pz] kt pt] (.Tuple [a, b, c] k2 pt2) X.env = pure (some [x, y, z])) (hs : swapsWithSole [.Tuple [.Name x px, .Name y py, .Name z pz] kt pt] (.Tuple [a, b, c] k2 pt2) pos.line X.env = pure false := by rfl)
    (hq1 : starEach [a, b, c] X.env = (false, eval a X.env) :: starEach [b, c] X.env := by rfl) (hq2 : starEach [b, c] X.env = (false, eval b X.env) :: starEach [c] X.env := by rfl) (hq3 : starEach [c] X.env = (false, eval c X.env) :: starEach [] X.env := by rfl) :
    DS X R (.Assign [.Tuple [.Name x px, .Name y py, .Name z pz] kt pt] (.Tuple [a, b, c] k2 pt2) pos) (tPar3 i j l (tCons tA (tCons tB (tCons tC' tNil)))) (sPar3 i j l (aCons fa (aCons fb (aCons fc aNil)))) :=
  ⟨ps_par3 hc hN hi hj hl hij hil hjl hx hy hz (pa_cons ha.pe (pa_cons hb.pe (pa_cons hcc.pe pa_nil hq3) hq2) hq1) hw hs, fun L E F ρ σ rs H o rs' D r hf k => by
    obtain ⟨xs, rs1, e1, hf1⟩ := bnd_some hf
    obtain ⟨x1, rs2, e2, hf2⟩ := bnd_some e1
    obtain ⟨ys, rs3, e3, hf3⟩ := bnd_some hf2
    obtain ⟨x2, rs4, e4, hf4⟩ := bnd_some e3
    obtain ⟨zs, rs5, e5, hf5⟩ := bnd_some hf4
    obtain ⟨x3, rs6, e6, hf6⟩ := bnd_some e5
    obtain ⟨ws, rs7, e7, hf7⟩ := bnd_some hf6
    obtain ⟨e8, q8⟩ := ret_some e7
    obtain ⟨e9, q9⟩ := ret_some hf7
    obtain ⟨e10, q10⟩ := ret_some hf5
    obtain ⟨e11, q11⟩ := ret_some hf3
    subst e8 q8 e9 q9 e10 q10 e11 q11
    obtain ⟨sx, rs12, e12, hf12⟩ := bnd_some hf1
    obtain ⟨e13, q13⟩ := lft_some e12
    obtain ⟨sy, rs14, e14, hf14⟩ := bnd_some hf12
    obtain ⟨e15, q15⟩ := lft_some e14
    obtain ⟨sz, rs16, e16, hf16⟩ := bnd_some hf14
    obtain ⟨e17, q17⟩ := lft_some e16
    obtain ⟨e18, q18⟩ := ret_some hf16
    subst e18 q18 q17 q15 q13
    refine ha.sem L E ρ σ F H rs x1 rs2 _ r e2 fun v1 F1 H1 s1 h1 => ?_
    have r1 := r.step s1
    refine hb.sem L E ρ σ F1 H1 rs2 x2 _ _ r1 e4 fun v2 F2 H2 s2 h2 => ?_
    have r2 := r1.step s2
    refine hcc.sem L E ρ σ F2 H2 _ x3 _ _ r2 e6 fun v3 F3 H3 s3 h3 => ?_
    refine ⟨v1, v2, v3, rfl, ?_⟩
    have s12 := s1.trans r.row s2
    have s123 := s12.trans r.row s3
    have q1 := Rel.store r s123 ((h1.step s2).step s3) e13 i
    have k1 := (Rel.known r1).set r1.len h1 e13 i
    have q2 := Rel.store2 r1 q1 (h2.step s3) e15 j fun a u ev hl h0 => k1.apart a u ev hl h0
    have k2 : OwnOld H2 ((ρ.set i (some sx)).set j (some sy)) ((σ.set i (some v1)).set j (some v2)) := (k1.step s2 r1.row).set (by rw [List.length_set, List.length_set]; exact r1.len) h2 e15 j
    have q3 := Rel.store2 r2 q2 h3 e17 l fun a u ev hl h0 => k2.apart a u ev hl h0
    exact k _ F3 H3 (FStep.ofStep r s123) q3⟩
end
end DV

namespace DV
open PySem L2 PyProof.Rows
def ddI : List Int → List Int
  | [] => []
  | x :: r => if r.elem x = true then ddI r else x :: ddI r
theorem mem_ddI (k : Int) : ∀ l : List Int, k ∈ ddI l ↔ k ∈ l
  | [] => Iff.rfl
  | x :: r => by
    unfold ddI
    by_cases h : r.elem x = true
    · rw [if_pos h, mem_ddI k r, List.mem_cons]
      have hx : x ∈ r := List.elem_iff.mp h
      exact ⟨.inr, fun q => q.elim (fun e => e ▸ hx) id⟩
    · rw [if_neg h, List.mem_cons, mem_ddI k r, List.mem_cons]
theorem ddI_nodup : ∀ l : List Int, (ddI l).Nodup
  | [] => .nil
  | x :: r => by
    unfold ddI
    by_cases h : r.elem x = true
    · rw [if_pos h]; exact ddI_nodup r
    · rw [if_neg h]
      exact List.nodup_cons.mpr ⟨fun q => h (List.elem_iff.mpr ((mem_ddI x r).mp q)), ddI_nodup r⟩
theorem ddI_of_nodup : ∀ l : List Int, l.Nodup → ddI l = l
  | [], _ => rfl
  | x :: r, h => by
    obtain ⟨h1, h2⟩ := List.nodup_cons.mp h
    unfold ddI
    rw [if_neg (fun q => h1 (List.elem_iff.mp q)), ddI_of_nodup r h2]
theorem same_len {xs ys : List Int} (h1 : xs.Nodup) (h2 : ys.Nodup) (h : ∀ k, k ∈ xs ↔ k ∈ ys) : xs.length = ys.length :=
  ((List.perm_ext_iff_of_nodup h1 h2).mpr h).length_eq
section
variable {X : Cx} {K : PySem.W.Frag} {R : RA}
def tLenSetA (K : PySem.W.Frag) (ta : TE) : TE := fun σ H Q => ta σ H fun x H1 => ∃ (l : Addr) (ns : List Int), x = .ref l ∧ ((SqL K H1 l (ns.map V.int) ∧ ns.Nodup) ∨ SqT K H1 l (ns.map V.int)) ∧ ns.length ≤ 1000 ∧ Q (.int ((ddI ns).length : Nat)) H1
theorem pe_lenSetA {a : Expr} {ta : TE} {p p2 q pos : Pos} (hc : X.calm = true) (hg : Gl X "len") (hm : X.mg "len" = none) (hg2 : Gl X "set") (hm2 : X.mg "set" = none) (ha : PE X a ta)
    (na : starEach [a] X.env = (false, eval a X.env) :: starEach [] X.env := by rfl) : PE X (.Call (.Name "len" p) [.Call (.Name "set" p2) [a] [] q] [] pos) (tLenSetA X.K ta) := by
  refine ⟨fun pins s σ H Q I h => ?_⟩
  refine Call_ (ld_blt I hg hm boot_len ?_)
  refine PyProof.Rows.callWith_builtin1 (PyProof.Rows.args_cons ?_ rfl) rfl rfl
  refine Call_ (ld_blt I hg2 hm2 PyProof.Rows.boot_set ?_)
  refine PyProof.Rows.callWith_type1 (PyProof.Rows.args_cons (thn (ha.run pins s σ H _ I h) fun v s1 ⟨x, H1, I1, r1, q1⟩ => PyProof.Rows.args_nil ?_) na) na rfl
  obtain ⟨l, ns, rfl, hq, hb, q1⟩ := q1
  cases r1
  rcases hq with ⟨hq, hnd⟩ | hq
  · obtain ⟨its, rv, pl, hz⟩ := I1.list hq
    have hlen : its.toArray.size = ns.length := by rw [List.size_toArray, ← rv.length, List.length_map]
    have hi : IntsAre its.toArray.toList ns := rv.ints
    refine call_set_list (I1.ok.hd hc) pl.isList hi (by rw [hlen]; unfold scanBound; omega) fun h' tk hS hk => ?_
    refine PyProof.Rows.args_nil ?_
    rw [hlen, RZ.firstMet_nodup hnd ns.length (Nat.le_refl _), List.take_length] at hS
    rw [ddI_of_nodup ns hnd] at q1
    obtain ⟨o, es, ep, t, ho, hex, hd, _, _, _, hf, hn⟩ := hS
    have I2 : Inv X pins σ H1 { s1 with heap := h', toks := tk } := I1.kept fun b o e => hk b o (Heap.lt_size e) e
    exact call_len_set ho hex hd hf (by rw [hn]; omega) ⟨.int ns.length, H1, I2.tok _, ⟨_, by rw [hn]⟩, q1⟩
  · obtain ⟨its, rv, pt, hz⟩ := I1.tuple hq
    have hi : IntsAre its.toArray.toList ns := rv.ints
    refine call_set_tupI ns (I1.ok.hd hc) (show s1.heap.IsTuple l its.toArray from pt) hi (by unfold scanBound; omega) fun h' tk c hR hcn hk => ?_
    refine PyProof.Rows.args_nil ?_
    obtain ⟨o, es, ep, t, ho, hex, hd, g, nd, hm2, hb2, hf, hn, hr, hl2⟩ := hR
    have hsz : es.size = (ddI ns).length := by
      have e := same_len nd (ddI_nodup ns) fun k => by
        rw [mem_ddI, ← hm2 k, decide_eq_true_eq]
      rw [List.length_map, Array.length_toList] at e
      exact e
    have I2 : Inv X pins σ H1 { s1 with heap := h', toks := tk } := I1.kept hk
    exact call_len_set ho hex hd hf (by rw [hn]; omega) ⟨.int (ddI ns).length, H1, I2.tok _, ⟨_, by rw [hsz]⟩, q1⟩
def lenSetOf : RV → Option D
  | .d (.tuple ds) => match intsOf ds with
    | some js => if js.length ≤ 1000 then some (.int ((ddI js).length : Nat)) else none
    | none => none
  | x => match items x with
    | some ds => match intsOf ds with
      | some js => if js.length ≤ 1000 ∧ js.Nodup then some (.int ((ddI js).length : Nat)) else none
      | none => none
    | none => none
theorem VR.isL {F H0 H : Hp} {rs : RS} {v : V} {x : RV} {ds : List D} (s : Step K R rs F H F H) (h : VR K R F H0 H v x) (e : DV.items x = some ds) (hx : ∀ es, x ≠ .d (.tuple es)) : ∃ a vs, v = .ref a ∧ SqL K H a vs ∧ DpAll K F vs ds := by
  cases x with
  | d x =>
    cases x with
    | list es =>
      cases e
      cases h with
      | lst h1 h2 => exact ⟨_, _, rfl, ex_l (s.fin _) h1, h2⟩
    | tuple es => exact absurd rfl (hx es)
    | none => cases e
    | bool _ => cases e
    | int _ => cases e
    | str _ => cases e
    | dict _ => cases e
  | b es =>
    cases e
    obtain ⟨a, vs, rfl, h1, _, h3⟩ := h
    exact ⟨a, vs, rfl, .inl (.inl h1), h3⟩
  | n es =>
    cases e
    obtain ⟨a, vs, rfl, h1, _, _, _, h3⟩ := h
    exact ⟨a, vs, rfl, .inl (.inl h1), h3⟩
  | gb _ => cases e
  | gn _ => cases e
  | row => cases e
theorem VR.isTup {F H0 H : Hp} {rs : RS} {v : V} {ds : List D} (s : Step K R rs F H F H) (h : VR K R F H0 H v (.d (.tuple ds))) : ∃ a vs, v = .ref a ∧ SqT K H a vs ∧ DpAll K F vs ds := by
  cases h with
  | tup h1 h2 => exact ⟨_, _, rfl, ex_t (s.fin _) h1, h2⟩
def eLenSet (f : Env → M RV) : Env → M RV := fun ρ => bnd (f ρ) fun x => bnd (lft (lenSetOf x)) fun d => ret (.d d)
theorem de_lenSet {a : Expr} {ta : TE} {f : Env → M RV} {p p2 q pos : Pos} (hc : X.calm = true) (hg : Gl X "len") (hm : X.mg "len" = none) (hg2 : Gl X "set") (hm2 : X.mg "set" = none) (ha : DE X R a ta f)
    (na : starEach [a] X.env = (false, eval a X.env) :: starEach [] X.env := by rfl) : DE X R (.Call (.Name "len" p) [.Call (.Name "set" p2) [a] [] q] [] pos) (tLenSetA X.K ta) (eLenSet f) := ⟨pe_lenSetA hc hg hm hg2 hm2 ha.pe na, fun L E ρ σ F H rs x rs' Q r hf k => by
  obtain ⟨x1, rs1, e1, hf1⟩ := bnd_some hf
  obtain ⟨d, rs2, e2, hf2⟩ := bnd_some hf1
  obtain ⟨e3, q3⟩ := lft_some e2
  obtain ⟨e4, q4⟩ := ret_some hf2
  subst e4 q4 q3
  refine ha.sem L E ρ σ F H rs x1 _ _ r e1 fun v F1 H1 s1 h1 => ?_
  have rf := (r.step s1).refl
  have oth : (∀ es, x1 ≠ .d (.tuple es)) → (match items x1 with
    | some ds => match intsOf ds with
      | some js => if js.length ≤ 1000 ∧ js.Nodup then some (PyData.int ((ddI js).length : Nat)) else none
      | none => none
    | none => none) = some d → ∃ (l : Addr) (ns : List Int), v = .ref l ∧ ((SqL X.K H1 l (ns.map V.int) ∧ ns.Nodup) ∨ SqT X.K H1 l (ns.map V.int)) ∧ ns.length ≤ 1000 ∧ Q (.int ((ddI ns).length : Nat)) H1 := fun hx q => by
    cases e5 : items x1 with
    | none => rw [e5] at q; cases q
    | some ds =>
      simp only [e5] at q
      cases e6 : intsOf ds with
      | none => rw [e6] at q; cases q
      | some js =>
        simp only [e6] at q
        by_cases hb : js.length ≤ 1000 ∧ js.Nodup
        · rw [if_pos hb] at q
          cases q
          obtain ⟨a, ws, rfl, g1, g2⟩ := VR.isL rf h1 e5 hx
          have hw := g2.intsV e6
          subst hw
          exact ⟨a, js, rfl, .inl ⟨g1, hb.2⟩, hb.1, k _ F1 H1 s1 (Dp.int _)⟩
        · rw [if_neg hb] at q
          cases q
  cases x1 with
  | d y =>
    cases y with
    | tuple ds =>
      unfold lenSetOf at e3
      cases e6 : intsOf ds with
      | none => simp only [e6] at e3; cases e3
      | some js =>
        simp only [e6] at e3
        by_cases hb : js.length ≤ 1000
        · rw [if_pos hb] at e3
          cases e3
          obtain ⟨a, ws, rfl, g1, g2⟩ := VR.isTup rf h1
          have hw := g2.intsV e6
          subst hw
          exact ⟨a, js, rfl, .inr g1, hb, k _ F1 H1 s1 (Dp.int _)⟩
        · rw [if_neg hb] at e3
          cases e3
    | list ds => exact oth (fun es q => nomatch q) e3
    | none => exact oth (fun es q => nomatch q) e3
    | bool _ => exact oth (fun es q => nomatch q) e3
    | int _ => exact oth (fun es q => nomatch q) e3
    | str _ => exact oth (fun es q => nomatch q) e3
    | dict _ => exact oth (fun es q => nomatch q) e3
  | b ds => exact oth (fun es q => nomatch q) e3
  | n ds => exact oth (fun es q => nomatch q) e3
  | gb _ => exact oth (fun es q => nomatch q) e3
  | gn _ => exact oth (fun es q => nomatch q) e3
  | row => exact oth (fun es q => nomatch q) e3⟩
end
end DV


namespace DV
open PySem L2 PyProof.Rows
section
variable {X : Cx} {K : PySem.W.Frag} {R : RA} {L : Nat → Option (Addr × HO)} {E F F' H H' : Hp} {ρ ρ' : Env} {σ σ' : L2.St} {rs rs' : RS}
variable {S S' : List Nat} {tg it elt e e2 c : Expr} {es ifs : List Expr} {g : TG} {gs : TGs} {hg : D → Env → Option Env} {hgs : List D → Env → Option Env} {pos p : Pos} {st : Stmt} {body : List Stmt} {tb : TS} {tt : TT} {te t1 t2 : TE} {ta : TA} {wi : TI}
theorem rs_sub : RSem K R (rI0 fun i j => .int (i - j)) gSubI := rsem_I0 fun F i j => .int _
theorem rs_fdiv : RSem K R (rI CDiv fun i j => .int (i / j)) gFdiv := rsem_I cDiv_ok fun F i j => .int _
theorem rs_mod : RSem K R (rI (fun _ j => 0 < j) fun i j => .int (i % j)) gMod := rsem_I (fun i j h => of_decide_eq_true h) fun F i j => .int _
theorem rs_pow : RSem K R (rI CPow fun i j => .int (i ^ j.toNat)) gPow := rsem_I cPow_ok fun F i j => .int _
theorem rs_lt : RSem K R (rI0 fun i j => .bl (decide (i < j))) gLt := rsem_I0 fun F i j => .bl _
theorem rs_le : RSem K R (rI0 fun i j => .bl (decide (i ≤ j))) gLe := rsem_I0 fun F i j => .bl _
theorem rs_gt : RSem K R (rI0 fun i j => .bl (decide (j < i))) gGt := rsem_I0 fun F i j => .bl _
theorem rs_ge : RSem K R (rI0 fun i j => .bl (decide (j ≤ i))) gGe := rsem_I0 fun F i j => .bl _
abbrev gIs := gIsN false
abbrev gIsNot := gIsN true
theorem rm65 {k : Nat} {A : Around} (r : Room k A) : A.units + 65 < cLine := by have := r.un; omega
theorem rm64 {k : Nat} {A : Around} (r : Room k A) : A.units + 64 < cLine := r.units
/-- a def that may be called -/
def Cal (P : Program) (w : World) (K : PySem.W.Frag) (mg : Str → Option Value) (base : Heap) (x : Str) (k : Nat) (ps : List Str) (np : Nat) (m : List RV → M RV) : Prop :=
  ∃ (f : Addr) (fd : FuncData), FnOk P w K mg base CX0 k f fd ps (spFn K np m) ∧ mg x = some (.ref f) ∧ PySem.W.keepIn K (.ref f) = true ∧ Binds K fd ps []
theorem de_call {k : Nat} {ps : List Str} {np : Nat} {m : List RV → M RV} {x : Str} {fa : Env → M (List RV)} {k' : Nat} (C : Cal X.prog X.w X.K X.mg X.base x k ps np m) (hr : Room k' X.A) (hk' : k ≤ k') (hgl : Gl X x) (ha : DA X R (e :: es) ta fa)
    (hdb : (x == ("__debug__" : Str)) = false := by decide) (he : starEach (e :: es) X.env = (false, eval e X.env) :: starEach es X.env := by rfl) (hpl : (backTo pos (starEach es X.env)).any (·.1) = false := by rfl) :
    DE X R (.Call (.Name x p) (e :: es) [] pos) (tCall (spFn X.K np m) [] E0 ta) (eFn (fun xs => if xs.length = np then m xs else fail) fa) := by
  obtain ⟨f, fd, h1, h2, h3, h4⟩ := C
  exact de_fn h1 hr hk' hgl h2 h3 h4 ha hdb he hpl
theorem de_gI {x : Str} {i : Int} (hg : Gl X x) (hm : ∃ tk, X.mg x = some (.int i tk)) (hd : (x == ("__debug__" : Str)) = false := by decide) : DE X R (.Name x pos) (tC (.int i)) (eC (.int i)) := by
  obtain ⟨tk, h⟩ := hm
  exact de_globI hg h hd
theorem Step.new_o {o : HO} {q : Addr} (s : Step K R rs F H F H) (hp : H q = none) : Step K R rs F H F (upd H q o) := by
  have hr : some q ≠ R.row := fun z => by
    obtain ⟨a, e, _⟩ := s.row.at_ q z.symm
    rw [hp] at e; cases e
  refine ⟨fun a u h _ _ => by rw [upd_ne (ne_of_none h hp)]; exact h, fun _ _ h => h, fun _ _ h => .inl h, fun a u h => by rw [upd_ne (ne_of_none (s.fin a u h) hp)]; exact s.fin a u h, ⟨fun r e => ?_, tabs_upd s.row.tab (.inl hp), s.row.fnt⟩, s.rF⟩
  obtain ⟨a, e1, h1, h3⟩ := s.row.at_ r e
  exact ⟨a, by rw [upd_ne (ne_of_none e1 hp)]; exact e1, h1, h3⟩
theorem ds_tup2L {i j : Nat} {x y : Str} {a b : Expr} {fa fb : Env → M RV} {tA tB : TE} {px py pt : Pos} {kt k2 pt2} (hc : X.calm = true) (hN : X.N.Nodup) (hi : X.N[i]? = some x) (hj : X.N[j]? = some y)
    (hx : Loc X.env.scope x) (hy : Loc X.env.scope y) (ha : DE X R a tA fa) (hb : DE X R b tB fb)
    (hw : swappedStores [.Tuple [.Name x px, .Name y py] kt pt] (.Tuple [a, b] k2 pt2) X.env = pure none) (hs : swapsWithSole [.Tuple [.Name x px, .Name y py] kt pt] (.Tuple [a, b] k2 pt2) pos.line X.env = pure false := by rfl)
    (hq1 : starEach [a, b] X.env = (false, eval a X.env) :: starEach [b] X.env := by rfl) (hq2 : starEach [b] X.env = (false, eval b X.env) :: starEach [] X.env := by rfl)
    (hfx : X.fn x = true ∨ X.env.scope.names.lookup x = some .local := by first | exact .inl rfl | exact .inr rfl) (hfy : X.fn y = true ∨ X.env.scope.names.lookup y = some .local := by first | exact .inl rfl | exact .inr rfl)
    (hn : (assignEach [.Name x px, .Name y py] X.env).length = 2 := by rfl) (hst : (assignEach [.Name x px, .Name y py] X.env).findIdx? (·.1) = none := by rfl)
    (hs1 : (assignEach [.Name x px, .Name y py] X.env).map (·.2) = assign (.Name x px) X.env :: (assignEach [.Name y py] X.env).map (·.2) := by rfl) (hs2 : (assignEach [.Name y py] X.env).map (·.2) = assign (.Name y py) X.env :: (assignEach [] X.env).map (·.2) := by rfl)
    (h1 : (assignEach [.Tuple [.Name x px, .Name y py] kt pt] X.env).map (·.2) = [assign (.Tuple [.Name x px, .Name y py] kt pt) X.env] := by rfl) :
    DS X R (.Assign [.Tuple [.Name x px, .Name y py] kt pt] (.Tuple [a, b] k2 pt2) pos) (tAsg (tTup (tCons tA (tCons tB tNil))) (gTup X.K 2 (gCons (gName i) (gCons (gName j) gNil)))) (sPar i j (aCons fa (aCons fb aNil))) :=
  ⟨ps_asg (pe_tup (pa_cons ha.pe (pa_cons hb.pe pa_nil hq2) hq1)) (pg_tup hc (pgs_cons (pg_name hN hi hx hfx) (pgs_cons (pg_name hN hj hy hfy) pgs_nil hs2) hs1) hn hst) hs hw h1, fun L E F ρ σ rs H o rs' D r hf k => by
    obtain ⟨xs, rs1, e1, hf1⟩ := bnd_some hf
    obtain ⟨x1, rs2, e2, hf2⟩ := bnd_some e1
    obtain ⟨ys, rs3, e3, hf3⟩ := bnd_some hf2
    obtain ⟨x2, rs4, e4, hf4⟩ := bnd_some e3
    obtain ⟨zs, rs5, e5, hf5⟩ := bnd_some hf4
    obtain ⟨e6, q6⟩ := ret_some e5
    obtain ⟨e7, q7⟩ := ret_some hf5
    obtain ⟨e8, q8⟩ := ret_some hf3
    subst e6 q6 e7 q7 e8 q8
    obtain ⟨sx, rs6, e9, hf6⟩ := bnd_some hf1
    obtain ⟨e10, q10⟩ := lft_some e9
    obtain ⟨sy, rs7, e11, hf7⟩ := bnd_some hf6
    obtain ⟨e12, q12⟩ := lft_some e11
    obtain ⟨e13, q13⟩ := ret_some hf7
    subst e13 q13 q12 q10
    refine ha.sem L E ρ σ F H rs x1 rs2 _ r e2 fun v1 F1 H1 s1 h1 => ?_
    have r1 := r.step s1
    refine hb.sem L E ρ σ F1 H1 rs2 x2 _ _ r1 e4 fun v2 F2 H2 s2 h2 => ?_
    have r2 := r1.step s2
    refine ⟨by show 2 ≤ sizeLine; exact sz_of (by decide), fun q hq => ?_⟩
    have s3 := Step.new_o (o := .tup [v1, v2]) r2.refl hq
    refine ⟨q, [v1, v2], rfl, .inl (.inl upd_same), rfl, v1, [v2], rfl, v2, [], rfl, rfl, ?_⟩
    have s12 := s1.trans r.row s2
    have s123 := s12.trans r.row s3
    have q1 := Rel.store r s123 ((h1.step s2).step s3) e10 i
    have k1 := (Rel.known r1).set r1.len h1 e10 i
    have q2 := Rel.store2 r1 q1 (h2.step s3) e12 j fun a u ev hl h0 => k1.apart a u ev hl h0
    exact k _ F2 _ (FStep.ofStep r s123) q2⟩
end
end DV
namespace DV
open PySem L2
section
variable {X : Cx} {R : RA} {e ei : Expr} {te ti : TE} {f g : Env → M RV} {pos : Pos}
abbrev ePart (f : Env → M RV) : Env → M (Option Int) := fun ρ => bnd (f ρ) fun x => bnd (lft (asInt x)) fun i => ret (some i)
theorem ds_appendF {i : Nat} {x : Str} {apos p1 spos : Pos} (he : DE X R e te f) (pe : PE X e te → PE X (.Call (.Attribute (.Name x p1) "append" apos) [e] [] pos) (tBM X.K "list" rAppend (tVar i) (tCons te tNil))) (hN : X.N[i]? = some x := by rfl) (hv : Vis X.env.scope x := by first | exact Or.inl rfl | exact Or.inr (Or.inl rfl) | exact Or.inr (Or.inr rfl)) (hd : (x == ("__debug__" : Str)) = false := by decide)
    (hcd : (x == ("__classdict__" : Str)) = false := by decide) (hs : swapsWith (.Call (.Attribute (.Name x p1) "append" apos) [e] [] pos) none spos.line X.env = pure false := by rfl) :
    DS X R (.Expr (.Call (.Attribute (.Name x p1) "append" apos) [e] [] pos) spos) (tDrop (tBM X.K "list" rAppend (tVar i) (tCons te tNil))) (sApp i f) := ds_append he hN hv hd hcd (pe he.pe) hs
theorem ds_popAppF {i j : Nat} {x y : Str} {apos bpos cpos p1 p2 spos : Pos} (he : DE X R e te f) (pe : PE X e te → PE X (.Call (.Attribute (.Name x p1) "append" apos) [.Call (.Attribute (.Name y p2) "pop" bpos) [e] [] cpos] [] pos) (tBM X.K "list" rAppend (tVar i) (tCons (tBM X.K "list" rPopAt (tVar j) (tCons te tNil)) tNil)))
    (hs : swapsWith (.Call (.Attribute (.Name x p1) "append" apos) [.Call (.Attribute (.Name y p2) "pop" bpos) [e] [] cpos] [] pos) none spos.line X.env = pure false := by rfl) :
    DS X R (.Expr (.Call (.Attribute (.Name x p1) "append" apos) [.Call (.Attribute (.Name y p2) "pop" bpos) [e] [] cpos] [] pos) spos) (tDrop (tBM X.K "list" rAppend (tVar i) (tCons (tBM X.K "list" rPopAt (tVar j) (tCons te tNil)) tNil))) (sPopApp i j f) := ds_popApp he.sem (pe he.pe) hs
theorem ds_putF {i : Nat} {x : Str} {p1 spos : Pos} (he : DE X R e te f) (hi : DE X R ei ti g) (hpg : PE X ei ti → PG X (.Subscript (.Name x p1) ei pos) (gSub (tVar i) ti rSetL)) (hN : X.N[i]? = some x := by rfl) (hv : Vis X.env.scope x := by first | exact Or.inl rfl | exact Or.inr (Or.inl rfl) | exact Or.inr (Or.inr rfl)) (hd : (x == ("__debug__" : Str)) = false := by decide)
    (hcd : (x == ("__classdict__" : Str)) = false := by decide) (hs : swapsWithSole [.Subscript (.Name x p1) ei pos] e spos.line X.env = pure false := by rfl) (hw : swappedStores [.Subscript (.Name x p1) ei pos] e X.env = pure none := by rfl)
    (h1 : (assignEach [.Subscript (.Name x p1) ei pos] X.env).map (·.2) = [assign (.Subscript (.Name x p1) ei pos) X.env] := by rfl) : DS X R (.Assign [.Subscript (.Name x p1) ei pos] e spos) (tAsg te (gSub (tVar i) ti rSetL)) (sPut i f g) := ds_put he hi hN hv hd hcd (hpg hi.pe) hs hw h1
end
end DV

namespace DV
open PySem L2 PyProof.Rows
section
variable {X : Cx} {K : PySem.W.Frag} {R : RA} {L : Nat → Option (Addr × HO)} {E F F' H H' : Hp} {ρ ρ' : Env} {σ σ' : L2.St} {rs rs' : RS}
variable {S S' : List Nat} {tg it elt e e2 c : Expr} {es ifs : List Expr} {g : TG} {gs : TGs} {hg : D → Env → Option Env} {hgs : List D → Env → Option Env} {pos p : Pos} {st : Stmt} {body : List Stmt} {tb : TS} {tt : TT} {te t1 t2 : TE} {ta : TA} {wi : TI}
def rowCell (k : Nat) (rs : RS) : Option D := match k with
  | 0 => some (.list (rs.ns.map PyData.int))
  | 1 => some (.int (rs.i : Int))
  | 2 => some (.int rs.s)
  | 3 => some (.int rs.c)
  | _ => none
def eRow (i k : Nat) : Env → M RV := fun ρ => bnd (lft (vget ρ i)) fun x => match x with
  | .row => fun rs => match rowCell k rs with
    | some d => some (.d d, rs)
    | none => none
  | _ => fail
theorem rowCell_at {a : Addr} {d : D} {k : Nat} (h : rowCell k rs = some d) (hs : SqL K F a (rs.ns.map V.int)) : ∃ v, [V.ref a, .int (rs.i : Int), .int rs.s, .int rs.c][k]? = some v ∧ Dp K F v d := by
  match k, h with
  | 0, h => cases h; exact ⟨_, rfl, .lst hs (DpAll.ofInts _)⟩
  | 1, h => cases h; exact ⟨_, rfl, .int _⟩
  | 2, h => cases h; exact ⟨_, rfl, .int _⟩
  | 3, h => cases h; exact ⟨_, rfl, .int _⟩
theorem de_row (i k : Nat) {x : Str} {j : Nat} {p2 : Pos} (hv' : DE X R (.Name x p) (tVar i) (eVar i)) (hs : PlainIx (.Constant (.int (k : Int)) j p2) := by exact fun _ _ => rfl) :
    DE X R (.Subscript (.Name x p) (.Constant (.int (k : Int)) j p2) pos) (tOp (rIx X.K) (tVar i) (tC (.int (k : Int)))) (eRow i k) := ⟨(de_ix hv' (de_int (R := R)) hs).pe, fun L E ρ σ F H rs x rs' Q r hf kk => by
  obtain ⟨y, rs1, e1, hf1⟩ := bnd_some hf
  obtain ⟨e2, q2⟩ := lft_some e1
  subst q2
  cases y with
  | row =>
    obtain ⟨v, ev, hv⟩ := r.get e2
    obtain ⟨r0, eR, rfl⟩ := hv
    have hf2 : (match rowCell k rs1 with | some d => some (RV.d d, rs1) | none => none) = some (x, rs') := hf1
    cases e3 : rowCell k rs1 with
    | none => rw [e3] at hf2; cases hf2
    | some d =>
      rw [e3] at hf2
      cases hf2
      obtain ⟨a, h1, h2, h3⟩ := r.row.at_ r0 eR
      obtain ⟨w, ew, hw⟩ := rowCell_at e3 h2
      refine ⟨_, ev, .inl ⟨r0, _, (k : Int), w, rfl, rfl, .inl (.inl h1), atI_nat ew, kk w F H r.refl hw⟩⟩
  | d _ => cases hf1
  | b _ => cases hf1
  | n _ => cases hf1
  | gb _ => cases hf1
  | gn _ => cases hf1⟩
def rowPut (k : Nat) (v : Int) (rs : RS) : Option RS := match k with
  | 1 => if 0 ≤ v then some { rs with i := v.toNat } else none
  | 2 => some { rs with s := v }
  | 3 => some { rs with c := v }
  | _ => none
def sRowPut (i k : Nat) (f : Env → M RV) : Env → M Out := fun ρ => bnd (f ρ) fun x => bnd (lft (asInt x)) fun v => bnd (lft (vget ρ i)) fun y => match y with
  | .row => fun rs => match rowPut k v rs with
    | some rs' => some (.nx ρ, rs')
    | none => none
  | _ => fail
theorem rowPut_at {a : Addr} {v : Int} {k : Nat} (h : rowPut k v rs = some rs') : rs'.ns = rs.ns ∧ ixN [V.ref a, .int (rs.i : Int), .int rs.s, .int rs.c].length (k : Int) = some k ∧
    [V.ref a, .int (rs.i : Int), .int rs.s, .int rs.c].set k (.int v) = [V.ref a, .int (rs'.i : Int), .int rs'.s, .int rs'.c] := by
  match k, h with
  | 1, h =>
    unfold rowPut at h
    by_cases hv : 0 ≤ v
    · rw [if_pos hv] at h
      cases h
      refine ⟨rfl, rfl, ?_⟩
      show [V.ref a, .int v, .int rs.s, .int rs.c] = [V.ref a, .int (v.toNat : Int), .int rs.s, .int rs.c]
      rw [Int.toNat_of_nonneg hv]
    · rw [if_neg hv] at h
      cases h
  | 2, h => cases h; exact ⟨rfl, rfl, rfl⟩
  | 3, h => cases h; exact ⟨rfl, rfl, rfl⟩
theorem Rel.rowput (r : Rel K R L E F ρ σ rs H) {r0 a : Addr} (eR : R.row = some r0) (hn : rs'.ns = rs.ns) (h2 : SqL K F a (rs.ns.map V.int)) (h3 : rs.ns.length ≤ 63) : Rel K R L E F ρ σ rs' (upd H r0 (.lst [V.ref a, .int (rs'.i : Int), .int rs'.s, .int rs'.c])) where
  len := r.len
  ent := r.ent
  ex := fun b o e => by
    have hb : b ≠ r0 := fun q => by
      have := (r.rE r0 eR).1
      rw [← q, e] at this
      cases this
    rw [upd_ne hb]
    exact r.ex b o e
  fr := fun b o e => by
    have hb : b ≠ r0 := fun q => by
      have := (r.rE r0 eR).2
      rw [← q, e] at this
      cases this
    rw [upd_ne hb]
    exact r.fr b o e
  row := ⟨fun r1 e1 => by
    rw [eR] at e1
    cases e1
    exact ⟨a, upd_same, by rw [hn]; exact h2, by rw [hn]; exact h3⟩, tabs_upd r.row.tab (.inr (by
      obtain ⟨_, h, _⟩ := r.row.at_ r0 eR
      exact ⟨_, h⟩)), r.row.fnt⟩
  rE := r.rE
  lk := r.lk
  sl := fun i sv e => by
    obtain ⟨v, ev, q⟩ := r.sl i sv e
    refine ⟨v, ev, ?_⟩
    cases sv with
    | d x => exact q
    | k ds => exact q
    | row => exact q
    | o ds =>
      obtain ⟨b, vs, e1, h1, g2, g3, g4, g5⟩ := q
      refine ⟨b, vs, e1, ?_, g2, g3, g4, g5⟩
      rw [upd_ne (fun z => g4 (by rw [eR, z]))]
      exact h1
    | g ds =>
      obtain ⟨b, vs, e1, h1, g2, g3, g4, g5⟩ := q
      refine ⟨b, vs, e1, ?_, g2, g3, g4, g5⟩
      rw [upd_ne (fun z => g4 (by rw [eR, z]))]
      exact h1
    | un => exact trivial
    | ex _ _ => exact q
    | fn _ => exact q
    | lm => exact q
    | m _ => exact q
  own := r.own
theorem ds_rowPut (i k : Nat) {x : Str} {j : Nat} {p1 p2 : Pos} {f : Env → M RV} (he : DE X R e te f) (hv' : DE X R (.Name x p1) (tVar i) (eVar i)) (hpg : PG X (.Subscript (.Name x p1) (.Constant (.int (k : Int)) j p2) pos) (gSub (tVar i) (tC (.int (k : Int))) rSetL))
    {spos : Pos} (hs : swapsWithSole [.Subscript (.Name x p1) (.Constant (.int (k : Int)) j p2) pos] e spos.line X.env = pure false := by rfl) (hw : swappedStores [.Subscript (.Name x p1) (.Constant (.int (k : Int)) j p2) pos] e X.env = pure none := by rfl)
    (h1 : (assignEach [.Subscript (.Name x p1) (.Constant (.int (k : Int)) j p2) pos] X.env).map (·.2) = [assign (.Subscript (.Name x p1) (.Constant (.int (k : Int)) j p2) pos) X.env] := by rfl) :
    DS X R (.Assign [.Subscript (.Name x p1) (.Constant (.int (k : Int)) j p2) pos] e spos) (tAsg te (gSub (tVar i) (tC (.int (k : Int))) rSetL)) (sRowPut i k f) := ⟨ps_asg he.pe hpg hs hw h1, fun L E F ρ σ rs H o rs' D r hf kk => by
  obtain ⟨x, rs1, e1, hf1⟩ := bnd_some hf
  obtain ⟨v, rs2, e2, hf2⟩ := bnd_some hf1
  obtain ⟨e3, q3⟩ := lft_some e2
  obtain ⟨y, rs4, e4, hf4⟩ := bnd_some hf2
  obtain ⟨e5, q5⟩ := lft_some e4
  subst q5 q3
  cases y with
  | row =>
    have hf5 : (match rowPut k v rs4 with | some rs' => some (Out.nx ρ, rs') | none => none) = some (o, rs') := hf4
    cases e6 : rowPut k v rs4 with
    | none => rw [e6] at hf5; cases hf5
    | some rs6 =>
      rw [e6] at hf5
      cases hf5
      refine he.sem L E ρ σ F H rs x _ _ r e1 fun w F1 H1 s1 h1 => ?_
      have hwi := h1.int e3
      subst hwi
      have r1 := r.step s1
      obtain ⟨u, eu, hu⟩ := r1.get e5
      obtain ⟨r0, eR, rfl⟩ := hu
      obtain ⟨a, g1, g2, g3⟩ := r1.row.at_ r0 eR
      obtain ⟨n1, n2, n3⟩ := rowPut_at (a := a) e6
      refine ⟨_, eu, r0, _, (k : Int), k, rfl, rfl, g1, n2, ?_⟩
      rw [n3]
      exact kk σ F1 _ (FStep.ofStep r s1) (r1.rowput eR n1 g2 g3)
  | d _ => cases hf4
  | b _ => cases hf4
  | n _ => cases hf4
  | gb _ => cases hf4
  | gn _ => cases hf4⟩

def spLaw (K : PySem.W.Frag) : Sp := fun vs H Q _ => ∃ (a : Addr) (ns : List Int), vs = [.ref a] ∧ LamX.Tabs (tabsOf K) H ∧ SqL K H a (ns.map V.int) ∧ ns.length ≤ 63 ∧ ∀ H', Q (.bl true) H'
/-- the law's names behind the row's making -/
def lawE (n : Nat) : Env := none :: some .row :: List.replicate (n - 2) none
theorem law_ok {P : Program} {w : World} {mg : Str → Option Value} {base : Heap} {x qual : Str} {st : Stmt} {f : Addr} {fd : FuncData} {N : List Str} {k : Nat} {g : Env → M Out} {y : Str} {seed : Int} {s0 : Stmt} {rest : List Stmt} (Fn : Fun K x qual st f fd) (S : FnScope N [y] (defScope st)) (hN : 2 ≤ N.length)
    (hbd : defBody st = s0 :: rest)
    (hbody : ∀ (cdv : Value) (A : Around) (outer : List PySem.Env) (s : Shared) (H : Hp) (E : XK), Room k (A.deeper (envOfC qual (defScope st) s.heap.objs.size f cdv)) →
      PS (cxOf CX0 P w K mg base N qual (defScope st) f cdv A outer s H E).nox s0 (tAsg (tLst (tCons (tVar 0) (tCons (tC (.int 0)) (tCons (tC (.int seed)) (tCons (tC (.int 0)) tNil))))) (gName 1)) ∧
      ∃ t, ∀ R, DSs (cxOf CX0 P w K mg base N qual (defScope st) f cdv A outer s H E).nox R rest t g)
    (hlaw : ∀ ns : List Int, ns.length ≤ 63 → ∃ rs', g (lawE N.length) ⟨ns, 0, seed, 0⟩ = some (.rt (.d (.bool true)), rs')) : FnOk P w K mg base CX0 (k + 1) f fd [y] (spLaw K) := by
  refine Fn.ok S (fun vs H Q E h => ?_) (fun cdv A outer s H vs Q E hr h => ?_)
  · obtain ⟨a, ns, rfl, _⟩ := h
    rfl
  · obtain ⟨a, ns, rfl, hT, hS0, hlen, q⟩ := h
    obtain ⟨h0, t, ht⟩ := hbody cdv A outer s H E hr
    rw [hbd]
    refine ⟨_, pss_cons h0 (ht ⟨none, none⟩).ps, ?_⟩
    obtain ⟨rs', hl⟩ := hlaw ns hlen
    have hst : L2.start N [V.ref a] = some (V.ref a) :: List.replicate (N.length - 1) none := rfl
    rw [hst]
    refine ⟨V.ref a, rfl, ?_⟩
    refine ⟨by show 4 ≤ sizeLine; exact sz_of (by decide), fun r hr0 => ?_⟩
    have hNl : N.length - 1 = (N.length - 2) + 1 := by omega
    have hF : ∀ b o, entE K ⟨none, none⟩ H b = some o → (upd H r (.lst [V.ref a, .int 0, .int seed, .int 0])) b = some o := fun b o e => by
      have e := (entE_of e).2.2
      rw [upd_ne (ne_of_none e hr0)]
      exact e
    have hX : ∀ b o, entE K ⟨none, none⟩ H b = some o → Fx K b o := fun b o e => .inr fun n z => (entE_of e).2.1 ⟨n, z⟩
    have hN0 : entE K ⟨none, none⟩ H r = none := by
      cases e : entE K ⟨none, none⟩ H r with
      | none => rfl
      | some o =>
        have e2 := (entE_of e).2.2
        rw [hr0] at e2
        cases e2
    have hS : SqL K (entE K ⟨none, none⟩ H) a (ns.map V.int) := by
      by_cases t : tbAt K a
      · obtain ⟨n, t⟩ := t
        obtain ⟨ps, et⟩ := tabs_at hT t
        rcases hS0 with (z | ⟨o, z⟩) | z
        · rw [et] at z; cases z
        · rw [et] at z; cases z
        · exact .inr z
      · exact ex_l (fun o e => (entE_at (R := ⟨none, none⟩) (fun z => by cases z) t).trans e) hS0
    have rel : Rel K ⟨some r, none⟩ (fun _ => none) (entE K ⟨none, none⟩ H) (entE K ⟨none, none⟩ H) (lawE N.length) ((some (V.ref a) :: List.replicate (N.length - 1) none).set 1 (some (V.ref r))) ⟨ns, 0, seed, 0⟩ (upd H r (.lst [V.ref a, .int 0, .int seed, .int 0])) := by
      rw [hNl, List.replicate_succ]
      refine ⟨?_, hF, hX, hF, ⟨fun r1 e1 => ?_, tabs_upd hT (.inl hr0), hX⟩, fun r1 e1 => ?_, fun i b vs e1 => ?_, fun i sv e1 => ?_, fun i j b sv sw e1 e2 ox oy e3 e4 => ?_⟩
      · show (List.replicate (N.length - 2) (none : Option SV)).length + 1 + 1 = (List.replicate (N.length - 2) (none : Option V)).length + 1 + 1
        rw [List.length_replicate, List.length_replicate]
      · cases e1
        exact ⟨a, upd_same, hS, hlen⟩
      · cases e1
        exact ⟨hN0, hN0⟩
      · cases e1
      · match i, e1 with
        | 0, e1 => cases e1
        | 1, e1 =>
          cases e1
          exact ⟨_, rfl, r, rfl, rfl⟩
        | i + 2, e1 =>
          have e2 : (List.replicate (N.length - 2) (none : Option SV))[i]? = some (some sv) := e1
          have e3 := List.mem_of_getElem? e2
          rw [List.mem_replicate] at e3
          cases e3.2
      · match i, e1 with
        | 0, e1 => cases e1
        | 1, e1 => cases e1; cases ox
        | i + 2, e1 =>
          have e5 : (List.replicate (N.length - 2) (none : Option SV))[i]? = some (some sv) := e1
          have e6 := List.mem_of_getElem? e5
          rw [List.mem_replicate] at e6
          cases e6.2
    refine (ht ⟨some r, none⟩).sem (fun _ => none) (entE K ⟨none, none⟩ H) (entE K ⟨none, none⟩ H) (lawE N.length) _ _ _ _ rs' _ rel hl ?_
    intro v F' H' hret
    have hv : Dp K F' v (.bool true) := hret.val
    cases hv
    exact q H'
end
end DV

namespace DV
open PySem L2
section
variable {X : Cx} {K : PySem.W.Frag} {R : RA} {L : Nat → Option (Addr × HO)} {E F F' H H' : Hp} {ρ ρ' : Env} {σ σ' : L2.St} {rs rs' : RS}
variable {S S' : List Nat} {tg it elt e e2 c : Expr} {es ifs : List Expr} {pos p : Pos} {te t1 t2 : TE} {ta : TA} {wi : TI}
def zipD : List D → List D → List D
  | x :: xs, y :: ys => .tuple [x, y] :: zipD xs ys
  | _, _ => []
def joinLk : Option Nat → Option Nat → Option (Option Nat)
  | none, l => some l
  | some i, none => some (some i)
  | some i, some j => if i = j then some (some i) else none
def iZipF (f g : Env → M (List D × Option Nat)) : Env → M (List D × Option Nat) := fun ρ => bnd (f ρ) fun p => bnd (g ρ) fun q => bnd (lft (joinLk p.2 q.2)) fun l => ret (zipD p.1 q.1, l)
theorem SrcOk.any {v : V} {its : List D} {lk l : Option Nat} (h : SrcOk K R E ρ σ H F' H' v its lk) (e : lk = none ∨ lk = l) : SrcOk K R E ρ σ H F' H' v its l := by
  rcases e with e | e
  · subst e
    obtain ⟨a, vs, rfl, hd, q⟩ := h
    refine ⟨a, vs, rfl, hd, ?_⟩
    rcases q with q | ⟨q1, q2, q3⟩
    · exact .inl q
    · refine .inr ⟨q1, q2, ?_⟩
      rcases q3 with z | z | ⟨i, ds, z, _⟩
      · exact .inl z
      · exact .inr (.inl z)
      · cases z
  · subst e; exact h
end
end DV

namespace DV
open PySem L2 PyProof.Rows
section
variable {X : Cx} {K : PySem.W.Frag} {R : RA} {e e2 e3 : Expr} {pos p : Pos} {t1 t2 t3 : TE}
def zip3D : List D → List D → List D → List D
  | x :: xs, y :: ys, z :: zs => .tuple [x, y, z] :: zip3D xs ys zs
  | _, _, _ => []
def iZip3F (f g h : Env → M (List D × Option Nat)) : Env → M (List D × Option Nat) := fun ρ => bnd (f ρ) fun p => bnd (g ρ) fun q => bnd (h ρ) fun r => bnd (lft (joinLk p.2 q.2)) fun l => bnd (lft (joinLk l r.2)) fun l2 => ret (zip3D p.1 q.1 r.1, l2)
end
end DV

namespace DV
open PySem L2
section
variable {X : Cx} {K : PySem.W.Frag} {R : RA} {L : Nat → Option (Addr × HO)} {E F F' H H' : Hp} {ρ ρ' : Env} {σ σ' : L2.St} {rs rs' : RS}
variable {S S' S1 : List Nat} {tg it tg1 it1 elt e c : Expr} {es ifs ifs1 : List Expr} {g g1 : TG} {hg hg1 : D → Env → Option Env} {pos p : Pos} {tt tt1 : TT} {te : TE} {wi wi1 : TI}
def lc2F (tg : D → Env → Option Env) (tst : Env → M Bool) (fi1 : Env → M (List D × Option Nat)) (vs1 : List Nat) (tg1 : D → Env → Option Env) (tst1 : Env → M Bool) (el : Env → M RV) (ρ : Env) : List D → M (List D)
  | [] => ret []
  | x :: xs => bnd (lft (tg x ρ)) fun ρ1 => bnd (tst ρ1) fun b => if b = true then bnd (fi1 ρ1) fun q => bnd (lcF tg1 tst1 el (wipeE ρ1 vs1) q.1) fun d1 => bnd (lc2F tg tst fi1 vs1 tg1 tst1 el ρ xs) fun ds => ret (d1 ++ ds) else lc2F tg tst fi1 vs1 tg1 tst1 el ρ xs
def eLc2 (fi : Env → M (List D × Option Nat)) (vs : List Nat) (tg : D → Env → Option Env) (tst : Env → M Bool) (fi1 : Env → M (List D × Option Nat)) (vs1 : List Nat) (tg1 : D → Env → Option Env) (tst1 : Env → M Bool) (el : Env → M RV) : Env → M RV := fun ρ =>
  bnd (fi ρ) fun p => bnd (lc2F tg tst fi1 vs1 tg1 tst1 el (wipeE ρ vs) p.1) fun ds => if ds.length ≤ 100000 then ret (.n ds) else fail
/-- the list that grows -/
structure Acc (K : PySem.W.Frag) (R : RA) (F1 H1 : Hp) (Da : Addr) (F2 H2 : Hp) (rs : RS) (av : List V) (ad : List D) : Prop where
  st : Step K R rs F1 H1 F2 H2
  at_ : H2 Da = some (.lst av)
  fr : F2 Da = none
  all : DpAll K F2 av ad
theorem Acc.step {F1 H1 F2 H2 F3 H3 : Hp} {Da : Addr} {rs rs' : RS} {av : List V} {ad : List D} (hDr : some Da ≠ R.row) (r0 : RowOk K R rs0 F1 H1) (a : Acc K R F1 H1 Da F2 H2 rs av ad) (s : Step K R rs' F2 H2 F3 H3) : Acc K R F1 H1 Da F3 H3 rs' av ad := by
  refine ⟨a.st.trans r0 s, s.keep Da _ a.at_ hDr, ?_, Dp.monoA s.sub _ _ a.all⟩
  cases q : F3 Da with
  | none => rfl
  | some o =>
    rcases s.new Da o q with z | z
    · rw [a.fr] at z; cases z
    · rw [a.at_] at z; cases z
/-- a step but for the list at Da -/
structure StepX (K : PySem.W.Frag) (R : RA) (Da : Addr) (rs' : RS) (F H F' H' : Hp) : Prop where
  keep : ∀ a o, H a = some o → a ≠ Da → some a ≠ R.row → (n : Fx K a o := by exact .inl fun _ z => nomatch z) → H' a = some o
  sub : ∀ a o, F a = some o → F' a = some o
  new : ∀ a o, F' a = some o → F a = some o ∨ H a = none
  fin : ∀ a o, F' a = some o → H' a = some o
  row : RowOk K R rs' F' H'
  rF : ∀ r, R.row = some r → F' r = none
  dd : H' Da ≠ none
theorem StepX.of {Da : Addr} (s : Step K R rs' F H F' H') (d : H' Da ≠ none) : StepX K R Da rs' F H F' H' := ⟨fun a o h _ q n => s.keep a o h q n, s.sub, s.new, s.fin, s.row, s.rF, d⟩
theorem StepX.back {Da : Addr} (s : StepX K R Da rs' F H F' H') {a : Addr} (h : H' a = none) : H a = none := by
  cases e : H a with
  | none => rfl
  | some o =>
    by_cases q : some a = R.row
    · obtain ⟨b, hb, _⟩ := s.row.at_ a q.symm
      rw [h] at hb; cases hb
    · by_cases q2 : a = Da
      · subst q2; exact absurd h s.dd
      · by_cases t : ∃ n, (a, n) ∈ tabsOf K
        · obtain ⟨n, t⟩ := t
          obtain ⟨ps, hb⟩ := tabs_at s.row.tab t
          rw [h] at hb; cases hb
        · rw [s.keep a o e q2 q (.inr fun n z => t ⟨n, z⟩)] at h; cases h
theorem StepX.trans {Da : Addr} {rs1 rs2 : RS} {F1 H1 F2 H2 : Hp} (a : StepX K R Da rs1 F H F1 H1) (b : StepX K R Da rs2 F1 H1 F2 H2) : StepX K R Da rs2 F H F2 H2 :=
  ⟨fun c o h q1 q2 n => b.keep c o (a.keep c o h q1 q2 n) q1 q2 n, fun c o h => b.sub c o (a.sub c o h), fun c o h => by
    rcases b.new c o h with z | z
    · exact a.new c o z
    · exact .inr (a.back z), b.fin, b.row, b.rF, b.dd⟩
theorem Rel.stepX {Da : Addr} (r : Rel K R L E F ρ σ rs H) (s : StepX K R Da rs' F H F' H') (hE : E Da = none) (hno : ∀ (i : Nat) (ds : SV), ρ[i]? = some (some ds) → ds.ow → σ[i]? = some (some (V.ref Da)) → False) : Rel K R L E F' ρ σ rs' H' where
  len := r.len
  ex := fun a o h => s.keep a o (r.ex a o h) (fun q => by rw [q, hE] at h; cases h) (fun q => by
    have := (r.rE a q.symm).1
    rw [h] at this; cases this) (r.ent a o h)
  ent := r.ent
  fr := s.fin
  row := s.row
  rE := fun q e => ⟨(r.rE q e).1, s.rF q e⟩
  lk := r.lk
  sl := fun i sv h => by
    obtain ⟨v, e, q⟩ := r.sl i sv h
    refine ⟨v, e, ?_⟩
    cases sv with
    | d x => exact Dp.mono s.sub _ _ q
    | k ds =>
      obtain ⟨a, vs, hl, e1, h3⟩ := q
      exact ⟨a, vs, hl, e1, Dp.monoA s.sub _ _ h3⟩
    | o ds =>
      obtain ⟨a, vs, e1, h1, h2, h3, h4, h5⟩ := q
      have hDa : a ≠ Da := fun z => by
        subst e1 z
        exact hno i _ h trivial e
      refine ⟨a, vs, e1, s.keep _ _ h1 hDa h4, h2, ?_, h4, Dp.monoA s.sub _ _ h5⟩
      cases q : F' a with
      | none => rfl
      | some o =>
        rcases s.new a o q with z | z
        · rw [h3] at z; cases z
        · rw [h1] at z; cases z
    | g ds =>
      obtain ⟨a, vs, e1, h1, h2, h3, h4, h5⟩ := q
      have hDa : a ≠ Da := fun z => by
        subst e1 z
        exact hno i _ h trivial e
      refine ⟨a, vs, e1, s.keep _ _ h1 hDa h4 h5.fx, h2, ?_, h4, h5.mono s.sub⟩
      cases q : F' a with
      | none => rfl
      | some o =>
        rcases s.new a o q with z | z
        · rw [h3] at z; cases z
        · rw [h1] at z; cases z
    | un => exact trivial
    | ex _ _ => exact ⟨q.1, XF.mono s.sub q.2⟩
    | fn _ => exact q
    | lm => exact q
    | m c =>
      obtain ⟨a, as, e1, h⟩ := q
      refine ⟨a, as, e1, h.mono s.sub fun i b u hl hF => ?_⟩
      cases q : F' b with
      | none => rfl
      | some o =>
        rcases s.new b o q with z | z
        · rw [hF] at z; cases z
        · rw [r.ex b u (r.lk i b u hl)] at z; cases z
    | row => exact q
  own := r.own
/-- an item more -/
theorem Acc.add {F1 H1 F2 H2 F3 H3 : Hp} {Da : Addr} {rs rs2 : RS} {av : List V} {ad : List D} (hD : H1 Da = none) (hDr : some Da ≠ R.row) (r0 : RowOk K R rs0 F1 H1) (a : Acc K R F1 H1 Da F2 H2 rs av ad) (s : Step K R rs2 F2 H2 F3 H3) {w : V} {y : RV} {d : D} (hw : VR K R F3 H2 H3 w y) (e : toD y = some d) :
    ∃ F4, Acc K R F1 H1 Da F4 (upd H3 Da (.lst (av ++ [w]))) rs2 (av ++ [w]) (ad ++ [d]) ∧ H3 Da = some (.lst av) ∧ StepX K R Da rs2 F2 H2 F4 (upd H3 Da (.lst (av ++ [w]))) := by
  have a3 := a.step hDr r0 s
  obtain ⟨F7, s17, hd7, k7, n7⟩ := freeze1 (Hb := H2) a3.st r0 (fun b q => a.st.back r0 q) hw e
  have hDF7 : F7 Da = none := n7 Da (by rw [a.at_]; exact fun z => nomatch z) a3.fr
  have hrow : RowOk K R rs2 F7 (upd H3 Da (.lst (av ++ [w]))) := ⟨fun q e => by
    obtain ⟨b, z1, z2⟩ := s17.row.at_ q e
    exact ⟨b, by rw [upd_ne (fun zz => hDr (by rw [← zz, e]))]; exact z1, z2⟩, tabs_upd s17.row.tab (.inr ⟨_, a3.at_⟩), s17.row.fnt⟩
  have hfin : ∀ b o, F7 b = some o → (upd H3 Da (.lst (av ++ [w]))) b = some o := fun b o q => by
    rw [upd_ne (fun zz => by rw [zz, hDF7] at q; cases q)]
    exact s17.fin b o q
  refine ⟨F7, ⟨⟨fun b o q z n => ?_, s17.sub, s17.new, hfin, hrow, s17.rF⟩, upd_same, hDF7, (Dp.monoA k7 _ _ a3.all).append (.cons hd7 .nil)⟩, a3.at_, ⟨fun b o q z1 z2 n => ?_, fun b o q => k7 b o (s.sub b o q), fun b o q => ?_, hfin, hrow, s17.rF, by rw [upd_same]; exact fun z => nomatch z⟩⟩
  · rw [upd_ne (fun zz => by rw [zz, hD] at q; cases q)]
    exact s17.keep b o q z n
  · rw [upd_ne z1]
    exact s.keep b o q z2 n
  · cases e3 : F3 b with
    | some o3 =>
      have := k7 b o3 e3
      rw [q] at this
      cases this
      exact s.new b o e3
    | none =>
      cases e2 : H2 b with
      | none => exact .inr rfl
      | some o2 =>
        have := n7 b (by rw [e2]; exact fun z => nomatch z) e3
        rw [q] at this
        cases this
/-- the targets store data alone -/
def GOwn (S : List Nat) (h : D → Env → Option Env) : Prop := ∀ x ρ ρ', h x ρ = some ρ' → ∀ (i : Nat) (ds : SV), ρ'[i]? = some (some ds) → ds.ow → ρ[i]? = some (some ds) ∧ i ∉ S
theorem gown_nm (i : Nat) : GOwn [i] (gNm i) := fun x ρ ρ' e j ds h ow => by
  cases e
  by_cases hj : j = i
  · subst hj
    have hl : j < ρ.length := by
      have := (List.getElem?_eq_some_iff.mp h).1
      rw [List.length_set] at this
      exact this
    rw [List.getElem?_set_self hl] at h
    cases h
    cases ow
  · rw [List.getElem?_set_ne (Ne.symm hj)] at h
    exact ⟨h, by simpa using hj⟩
theorem in_it {J : It} {n : Nat} {G : Hp → Prop} {Y : Nat → Hp → V → Hp → Prop} (w : Walk J n G Y) {H1 : Hp} {Qd : Hp → Prop} (B : V → Hp → (Hp → Prop) → Prop) (Pv : Nat → Hp → Prop) (h0 : Pv 0 H1) (hG : ∀ i H, i ≤ n → Pv i H → G H)
    (hs : ∀ i x H H', i < n → Pv i H → Y i H x H' → B x H' (Pv (i + 1))) (hd : ∀ H, Pv n H → Qd H) :
    ∃ W : Nat → Nat → Hp → Prop, (∃ m, W 0 m H1) ∧ ∀ i m H, W i m H → (J.stop i H ∧ Qd H) ∨ (J.go i H ∧ ∃ Nx : Hp → Prop, (∀ H', Nx H' → ∃ m', m' < m ∧ W (i + 1) m' H') ∧ ∀ x H', J.yld i H x H' → B x H' Nx) := by
  refine ⟨fun i m H => m = n - i ∧ i ≤ n ∧ Pv i H, ⟨n, by simp, Nat.zero_le _, h0⟩, ?_⟩
  rintro i m H ⟨rfl, hi, p⟩
  have q := hG i H hi p
  rcases Nat.lt_or_ge i n with hlt | hge
  · exact .inr ⟨w.goes i H hlt q, Pv (i + 1), fun H' p' => ⟨n - (i + 1), by omega, rfl, hlt, p'⟩, fun x H' y => hs i x H H' hlt p (w.yields i H x H' hlt q y)⟩
  · obtain rfl : i = n := by omega
    exact .inl ⟨w.stops H q, hd H p⟩
theorem OwnOld.wipe : ∀ (vs : List Nat) {H : Hp} {ρ : Env} {σ : L2.St}, OwnOld H ρ σ → OwnOld H (wipeE ρ vs) (L2.wipe σ vs)
  | [], _, _, _, h => h
  | v :: vs, H, ρ, σ, h => fun m es a e1 ow e2 => by
    have e1' : ((wipeE ρ vs).set v none)[m]? = some (some es) := e1
    have e2' : ((L2.wipe σ vs).set v none)[m]? = some (some (V.ref a)) := e2
    by_cases hm : m = v
    · subst hm
      have hl : m < (wipeE ρ vs).length := by
        have := (List.getElem?_eq_some_iff.mp e1').1
        rw [List.length_set] at this
        exact this
      rw [List.getElem?_set_self hl] at e1'
      cases e1'
    · rw [List.getElem?_set_ne (Ne.symm hm)] at e1' e2'
      exact OwnOld.wipe vs h m es a e1' ow e2'
theorem esem_lc2_at {fi fi1 : Env → M (List D × Option Nat)} {vs vs1 : List Nat} {tst tst1 : Env → M Bool} {el : Env → M RV} (r : Rel K R L E F ρ σ rs H) (hi : ∀ (its : List D) (lk : Option Nat) (rs1 : RS) (Rq : It → Hp → Prop), fi ρ rs = some ((its, lk), rs1) → (∀ J F' H', Step K R rs1 F H F' H' → IterOk K R E ρ σ H F' H' J its lk → Rq J H') → wi σ H Rq)
    (hgs : GSem K R S g hg) (hown : GOwn S hg) (hS : ∀ i ∈ S, i ∈ vs) (ht : TSem K R tt tst) (hi1 : ISem K R wi1 fi1) (hgs1 : GSem K R S1 g1 hg1) (hS1 : ∀ i ∈ S1, i ∈ vs1) (ht1 : TSem K R tt1 tst1) (he : ESem K R te el)
    {x : RV} {rs' : RS} {Q : VK} (hf : eLc2 fi vs hg tst fi1 vs1 hg1 tst1 el ρ rs = some (x, rs')) (kk : ∀ v F' H', Step K R rs' F H F' H' → VR K R F' H H' v x → Q v H') : tLc2 wi g tt wi1 g1 tt1 te vs vs1 σ H Q := by
  obtain ⟨⟨its, lk⟩, rs1, e1, hf1⟩ := bnd_some hf
  obtain ⟨ds, rs2, e2, hf2⟩ := bnd_some hf1
  by_cases hlen : ds.length ≤ 100000
  · have hf2' : (if ds.length ≤ 100000 then ret (RV.n ds) else fail) rs2 = some (x, rs') := hf2
    rw [if_pos hlen] at hf2'
    obtain ⟨e3, q3⟩ := ret_some hf2'
    subst e3 q3
    have e2 : lc2F hg tst fi1 vs1 hg1 tst1 el (wipeE ρ vs) its rs1 = some (ds, rs') := e2
    refine hi its lk rs1 _ e1 fun J F1 H1 s1 ⟨G, Y, P, wk, pn, hG, hY⟩ => ?_
    intro Da hD
    have r1 := r.step s1
    have hDr : some Da ≠ R.row := fun q => by
      obtain ⟨a, e, _⟩ := r1.row.at_ Da q.symm
      rw [hD] at e; cases e
    have hDF1 : F1 Da = none := by
      cases q : F1 Da with
      | none => rfl
      | some o =>
        have := s1.fin Da o q
        rw [hD] at this; cases this
    refine in_it wk (fun x H' Nx => g x (L2.wipe σ vs) H' fun σ2 H2 => L2.wipe σ2 vs = L2.wipe σ vs ∧ tt σ2 H2 fun b H3 => if b = true then wi1 σ2 H3 fun J1 H4 => ∃ W1 : Nat → Nat → Hp → Prop, (∃ m, W1 0 m H4) ∧ ∀ j k H, W1 j k H →
      (J1.stop j H ∧ Nx H) ∨ (J1.go j H ∧ ∃ Nx1 : Hp → Prop, (∀ H', Nx1 H' → ∃ k', k' < k ∧ W1 (j + 1) k' H') ∧ ∀ x H', J1.yld j H x H' → g1 x (L2.wipe σ2 vs1) H' fun σ3 H5 => L2.wipe σ3 vs1 = L2.wipe σ2 vs1 ∧ tt1 σ3 H5 fun b H6 =>
        if b = true then te σ3 H6 fun y H7 => ∃ acc, H7 Da = some (.lst acc) ∧ acc.length < sizeLine ∧ Nx1 (upd H7 Da (.lst (acc ++ [y]))) else Nx1 H6) else Nx H3) (fun i H2 => ∃ F2 rs3 av ad rest, Acc K R F1 H1 Da F2 H2 rs3 av ad ∧ ad ++ rest = ds ∧ lc2F hg tst fi1 vs1 hg1 tst1 el (wipeE ρ vs) (its.drop i) rs3 = some (rest, rs')) ?_ ?_ ?_ ?_
    · exact ⟨F1, rs1, [], [], ds, ⟨(Step.new_lst (vs := []) r1.refl hD).1, upd_same, hDF1, .nil⟩, rfl, e2⟩
    · rintro i H2 hi' ⟨F2, rs3, av, ad, rest, a2, _⟩
      exact hG H2 (fun a o q => a2.st.keep a o (pn a o q).1 (pn a o q).2.1 (pn a o q).2.2.1) fun a o q => a2.st.fin a o (a2.st.sub a o q)
    · rintro i v H2 H3 hi' ⟨F2, rs3, av, ad, rest, a2, hsum, el1⟩ hy
      have r2 := r.step (s1.trans r.row a2.st)
      obtain ⟨x, F3, ex, s3, hd⟩ := hY.step hi' a2.st.sub r2.refl hy
      have er : its.drop i = x :: its.drop (i + 1) := by
        have hx : its[i] = x := by
          rw [List.getElem?_eq_getElem hi'] at ex
          exact Option.some.inj ex
        rw [← hx]
        exact List.drop_eq_getElem_cons hi'
      rw [er] at el1
      obtain ⟨ρ3, rs4, e4, el2⟩ := bnd_some el1
      obtain ⟨e5, q5⟩ := lft_some e4
      subst q5
      obtain ⟨b, rs5, e6, el3⟩ := bnd_some el2
      have a3 := a2.step hDr r1.row s3
      have r3 := r2.step s3
      refine hgs L E F3 (wipeE ρ vs) (L2.wipe σ vs) _ H3 v x ρ3 _ (r3.wipe vs) hd e5 fun σ4 r4 o4 => ⟨?_, ?_⟩
      · rw [wipe_off o4 hS]
        apply List.ext_getElem?
        intro j
        rw [wipe_at, wipe_at]
        by_cases hj : j ∈ vs
        · rw [if_pos hj, if_pos hj, wipe_length]
        · rw [if_neg hj, if_neg hj]
      · refine ht L E ρ3 σ4 F3 H3 _ b rs5 _ r4 e6 fun F5 H5 s5 => ?_
        have a5 := a3.step hDr r1.row s5
        have r5 := r4.step s5
        cases b with
        | true =>
          rw [if_pos rfl] at el3 ⊢
          obtain ⟨⟨its1, lk1⟩, rs6, e7, el4⟩ := bnd_some el3
          obtain ⟨d1, rs7, e8, el5⟩ := bnd_some el4
          obtain ⟨ds2, rs8, e9, el6⟩ := bnd_some el5
          obtain ⟨e10, q10⟩ := ret_some el6
          subst e10 q10
          have e8 : lcF hg1 tst1 el (wipeE ρ3 vs1) its1 rs6 = some (d1, rs7) := e8
          refine hi1 L E ρ3 σ4 F5 H5 rs5 its1 lk1 rs6 _ r5 e7 fun J1 F6 H6 s6 ⟨G1, Y1, P1, wk1, pn1, hG1, hY1⟩ => ?_
          have a6 := a5.step hDr r1.row s6
          have r6 := r5.step s6
          have hE : E Da = none := by
            cases q : E Da with
            | none => rfl
            | some o => rw [r1.ex Da o q] at hD; cases hD
          have hno : ∀ (i : Nat) (ds : SV), ρ3[i]? = some (some ds) → ds.ow → σ4[i]? = some (some (V.ref Da)) → False := fun i ds q1 ow q2 => by
            obtain ⟨z1, z2⟩ := hown x _ ρ3 e5 i ds q1 ow
            rw [o4.at_ i z2] at q2
            exact OwnOld.wipe vs (Rel.known r1) i ds Da z1 ow q2 hD
          have hP1 : ∀ a o, P1 a = some o → a ≠ Da := fun a o q z => by
            subst z
            obtain ⟨_, _, _, y⟩ := pn1 a o q
            rcases y with ⟨y, _⟩ | y | ⟨i, es, _, y1, y2⟩
            · rw [a5.at_] at y; cases y
            · rw [hE] at y; cases y
            · exact hno i _ y1 trivial y2
          refine in_it wk1 (fun x1 H8 Nx => g1 x1 (L2.wipe σ4 vs1) H8 fun σ9 H9 => L2.wipe σ9 vs1 = L2.wipe σ4 vs1 ∧ tt1 σ9 H9 fun b H10 => if b = true then te σ9 H10 fun y H11 => ∃ acc, H11 Da = some (.lst acc) ∧ acc.length < sizeLine ∧ Nx (upd H11 Da (.lst (acc ++ [y]))) else Nx H10)
            (fun j H7 => ∃ F7 rs9 av7 ad7 rest7, Acc K R F1 H1 Da F7 H7 rs9 av7 ad7 ∧ StepX K R Da rs9 F6 H6 F7 H7 ∧ ad7 ++ (rest7 ++ ds2) = ds ∧ lcF hg1 tst1 el (wipeE ρ3 vs1) (its1.drop j) rs9 = some (rest7, rs7)) ?_ ?_ ?_ ?_
          · exact ⟨F6, rs6, av, ad, d1, a6, .of r6.refl (by rw [a6.at_]; exact fun z => nomatch z), hsum, e8⟩
          · rintro j H7 hj ⟨F7, rs9, av7, ad7, rest7, a7, x7, _⟩
            exact hG1 H7 (fun a o q => x7.keep a o (pn1 a o q).1 (hP1 a o q) (pn1 a o q).2.1 (pn1 a o q).2.2.1) fun a o q => x7.fin a o (x7.sub a o q)
          · rintro j v1 H7 H8 hj ⟨F7, rs9, av7, ad7, rest7, a7, x7, hsum7, el7⟩ hy1
            have r7 := r6.stepX x7 hE hno
            obtain ⟨x1, F8, ex1, s8, hd8⟩ := hY1.step hj x7.sub r7.refl hy1
            have er1 : its1.drop j = x1 :: its1.drop (j + 1) := by
              have hx : its1[j] = x1 := by
                rw [List.getElem?_eq_getElem hj] at ex1
                exact Option.some.inj ex1
              rw [← hx]
              exact List.drop_eq_getElem_cons hj
            rw [er1] at el7
            obtain ⟨ρ9, rs10, e11, el8⟩ := bnd_some el7
            obtain ⟨e12, q12⟩ := lft_some e11
            subst q12
            obtain ⟨b1, rs11, e13, el9⟩ := bnd_some el8
            have a8 := a7.step hDr r1.row s8
            have x8 := x7.trans (.of s8 (by rw [a8.at_]; exact fun z => nomatch z))
            have r8 := r7.step s8
            refine hgs1 L E F8 (wipeE ρ3 vs1) (L2.wipe σ4 vs1) _ H8 v1 x1 ρ9 _ (r8.wipe vs1) hd8 e12 fun σ9 r9 o9 => ⟨?_, ?_⟩
            · rw [wipe_off o9 hS1]
              apply List.ext_getElem?
              intro j
              rw [wipe_at, wipe_at]
              by_cases hj : j ∈ vs1
              · rw [if_pos hj, if_pos hj, wipe_length]
              · rw [if_neg hj, if_neg hj]
            · refine ht1 L E ρ9 σ9 F8 H8 _ b1 rs11 _ r9 e13 fun F9 H9 s9 => ?_
              have a9 := a8.step hDr r1.row s9
              have x9 := x8.trans (.of s9 (by rw [a9.at_]; exact fun z => nomatch z))
              have r10 := r9.step s9
              cases b1 with
              | true =>
                rw [if_pos rfl] at el9 ⊢
                obtain ⟨y, rs12, e14, el10⟩ := bnd_some el9
                obtain ⟨d, rs13, e15, el11⟩ := bnd_some el10
                obtain ⟨e16, q16⟩ := lft_some e15
                subst q16
                obtain ⟨ds3, rs14, e17, el12⟩ := bnd_some el11
                obtain ⟨e18, q18⟩ := ret_some el12
                subst e18 q18
                refine he L E ρ9 σ9 F9 H9 rs11 y _ _ r10 e14 fun w F11 H11 s11 h11 => ?_
                obtain ⟨F12, a12, hat, x12⟩ := a9.add hD hDr r1.row s11 h11 e16
                refine ⟨av7, hat, ?_, F12, _, av7 ++ [w], ad7 ++ [d], ds3, a12, x9.trans x12, ?_, e17⟩
                · have := congrArg List.length hsum7
                  rw [List.length_append, List.length_append, List.length_cons] at this
                  rw [a7.all.len]
                  exact sz_lt (by omega)
                · rw [List.append_assoc]
                  exact hsum7
              | false =>
                rw [if_neg Bool.false_ne_true] at el9 ⊢
                exact ⟨F9, rs11, av7, ad7, rest7, a9, x9, hsum7, el9⟩
          · rintro H7 ⟨F7, rs9, av7, ad7, rest7, a7, x7, hsum7, el7⟩
            rw [List.drop_length] at el7
            obtain ⟨e11, q11⟩ := ret_some el7
            subst e11 q11
            exact ⟨F7, _, av7, ad7, ds2, a7, hsum7, e9⟩
        | false =>
          rw [if_neg Bool.false_ne_true] at el3 ⊢
          exact ⟨F5, rs5, av, ad, rest, a5, hsum, el3⟩
    · rintro H2 ⟨F2, rs3, av, ad, rest, a2, hsum, el1⟩
      rw [List.drop_length] at el1
      obtain ⟨e7, q7⟩ := ret_some el1
      subst e7 q7
      rw [List.append_nil] at hsum
      subst hsum
      exact kk _ F2 H2 (s1.trans r.row a2.st) ⟨Da, av, rfl, a2.at_, s1.back r.row hD, a2.fr, hDr, a2.all⟩
  · have hf2' : (if ds.length ≤ 100000 then ret (RV.n ds) else fail) rs2 = some (x, rs') := hf2
    rw [if_neg hlen] at hf2'
    cases hf2'
theorem esem_lc2 {fi fi1 : Env → M (List D × Option Nat)} {vs vs1 : List Nat} {tst tst1 : Env → M Bool} {el : Env → M RV} (hi : ISem K R wi fi) (hgs : GSem K R S g hg) (hown : GOwn S hg) (hS : ∀ i ∈ S, i ∈ vs) (ht : TSem K R tt tst) (hi1 : ISem K R wi1 fi1) (hgs1 : GSem K R S1 g1 hg1) (hS1 : ∀ i ∈ S1, i ∈ vs1) (ht1 : TSem K R tt1 tst1) (he : ESem K R te el) :
    ESem K R (tLc2 wi g tt wi1 g1 tt1 te vs vs1) (eLc2 fi vs hg tst fi1 vs1 hg1 tst1 el) := fun L E ρ σ F H rs x rs' Q r hf kk =>
  esem_lc2_at r (fun its lk rs1 Rq e1 k => hi L E ρ σ F H rs its lk rs1 Rq r e1 k) hgs hown hS ht hi1 hgs1 hS1 ht1 he hf kk
theorem ds_setLc2 {i : Nat} {y : Str} {py spos : Pos} {scope : Scope} {own : List (Str × Nat)} {vs1 : List Nat} {fi fi1 : Env → M (List D × Option Nat)} {tst tst1 : Env → M Bool} {el : Env → M RV} (hc : X.calm = true) (hN : X.N.Nodup) (hy : X.N[i]? = some y) (hyl : X.env.scope.names.lookup y = some .local)
    (hsw : swapsWith (.ListComp elt [⟨tg, it, ifs, 0⟩, ⟨tg1, it1, ifs1, 0⟩] scope pos) (some (.Name y py)) spos.line X.env = pure true) (hi : DI X R tg it wi fi) (ok : BlkOk X.N X.env.scope scope own) (hv : ∀ i ∈ vs1, i ∈ own.map (·.2)) (hS : ∀ i ∈ S, i ∈ own.map (·.2)) (hS1 : ∀ i ∈ S1, i ∈ vs1) (hown : GOwn S hg)
    (hg' : ∀ (s : Shared) (H : Hp) (C : Addr) (cl : List (Str × Addr)) (fp : List Addr), DG (X.blk s H scope (compEnvC scope cl C X.env) fp) R S tg g hg) (ht : ∀ (s : Shared) (H : Hp) (C : Addr) (cl : List (Str × Addr)) (fp : List Addr), DTs (X.blk s H scope (compEnvC scope cl C X.env) fp) R ifs tt tst)
    (hi1 : ∀ (s : Shared) (H : Hp) (C : Addr) (cl : List (Str × Addr)) (fp : List Addr), DI (X.blk s H scope (compEnvC scope cl C X.env) fp) R tg1 it1 wi1 fi1)
    (hg1' : ∀ (s : Shared) (H : Hp) (C : Addr) (cl : List (Str × Addr)) (fp : List Addr), DG (X.blk s H scope (compEnvC scope cl C X.env) fp) R S1 tg1 g1 hg1) (ht1 : ∀ (s : Shared) (H : Hp) (C : Addr) (cl : List (Str × Addr)) (fp : List Addr), DTs (X.blk s H scope (compEnvC scope cl C X.env) fp) R ifs1 tt1 tst1)
    (he : ∀ (s : Shared) (H : Hp) (C : Addr) (cl : List (Str × Addr)) (fp : List Addr), DE (X.blk s H scope (compEnvC scope cl C X.env) fp) R elt te el) (hs : ∀ x, foldedSetIterable it X.env x = pure x := by intro _; rfl) (hs1 : ∀ env x, foldedSetIterable it1 env x = pure x := by intro _ _; rfl) :
    DS X R (.Assign [.Name y py] (.ListComp elt [⟨tg, it, ifs, 0⟩, ⟨tg1, it1, ifs1, 0⟩] scope pos) spos) (tAsg (tLc2 wi g tt wi1 g1 tt1 te (own.map (·.2)) vs1) (gName i)) (sSet i (eLc2 fi (own.map (·.2)) hg tst fi1 vs1 hg1 tst1 el)) :=
  ⟨ps_setLc2 hc hN hy hyl hsw hi.pi ok hv (fun s H C cl fp => (hg' s H C cl fp).pg) (fun s H C cl fp => (ht s H C cl fp).pt) (fun s H C cl fp => (hi1 s H C cl fp).pi) (fun s H C cl fp => (hg1' s H C cl fp).pg) (fun s H C cl fp => (ht1 s H C cl fp).pt) (fun s H C cl fp => (he s H C cl fp).pe) hs hs1,
    ssem_set (esem_lc2 hi.sem (hg' {} (fun _ => none) 0 [] []).sem hown hS (ht {} (fun _ => none) 0 [] []).sem (hi1 {} (fun _ => none) 0 [] []).sem (hg1' {} (fun _ => none) 0 [] []).sem hS1 (ht1 {} (fun _ => none) 0 [] []).sem (he {} (fun _ => none) 0 [] []).sem)⟩
end
end DV

namespace DV
open PySem L2 PySem.W
section
variable {X : Cx} {K : PySem.W.Frag} {R : RA}
def cmpOk (d e : D) : Bool := alike d e && (!isNoneD d && decide (d.depth ≤ 60))
theorem cmpOk_of {d e : D} (h : cmpOk d e = true) : alike d e = true ∧ d ≠ .none ∧ d.depth ≤ 60 := by
  unfold cmpOk at h
  simp only [Bool.and_eq_true, decide_eq_true_eq] at h
  refine ⟨h.1, fun q => ?_, h.2.2⟩
  have := h.2.1
  rw [q] at this
  cases this
def rCmpD (K : PySem.W.Frag) (kd : D → D → Bool) : R2 := fun x y H Q => ∃ d e, Dp K H x d ∧ Dp K H y e ∧ cmpOk d e = true ∧ Q (.bl (kd d e)) H
abbrev rCmpA (K : PySem.W.Frag) (ki : Int → Int → Bool) (kd : D → D → Bool) : R2 := fun x y H Q => rI0 (fun i j => .bl (ki i j)) x y H Q ∨ rCmpD K kd x y H Q
def gCmpA (ki : Int → Int → Bool) (kd : D → D → Bool) : RV → RV → Option RV := fun x y => match asInt x, asInt y with
  | some i, some j => some (.d (.bool (ki i j)))
  | _, _ => match viewD x, viewD y with
    | some d, some e => if cmpOk d e = true then some (.d (.bool (kd d e))) else none
    | _, _ => none
theorem rsem_cmpA (ki : Int → Int → Bool) (kd : D → D → Bool) : RSem K R (rCmpA K ki kd) (gCmpA ki kd) := fun F H0 H rs x y p q z Q s hx hy e kk => by
  have dat : (match viewD p, viewD q with
    | some d, some e => if cmpOk d e = true then some (RV.d (.bool (kd d e))) else none
    | _, _ => none) = some z → rCmpA K ki kd x y H Q := fun e => by
    cases e1 : viewD p with
    | none => rw [e1] at e; cases e
    | some d =>
      cases e2 : viewD q with
      | none => rw [e1, e2] at e; cases e
      | some d2 =>
        rw [e1, e2] at e
        by_cases hc : cmpOk d d2 = true
        · have e' : (if cmpOk d d2 = true then some (RV.d (.bool (kd d d2))) else none) = some z := e
          rw [if_pos hc] at e'
          cases e'
          exact .inr ⟨d, d2, hx.view s e1, hy.view s e2, hc, kk _ F H s (Dp.bl _)⟩
        · have e' : (if cmpOk d d2 = true then some (RV.d (.bool (kd d d2))) else none) = some z := e
          rw [if_neg hc] at e'
          cases e'
  unfold gCmpA at e
  cases e1 : asInt p with
  | none =>
    simp only [e1] at e
    exact dat e
  | some i =>
    cases e2 : asInt q with
    | none =>
      simp only [e1, e2] at e
      exact dat e
    | some j =>
      simp only [e1, e2] at e
      cases e
      exact .inl ⟨i, j, hx.int e1, hy.int e2, kk _ F H s (Dp.bl _)⟩
theorem op_ltA (hu : X.A.units + 64 < cLine) : OpR X (compareOp .Lt) (rCmpA X.K (fun i j => decide (i < j)) dataLt) := OpR.or op_lt (by
  intro pins s σ H x y v u Q I rx ry h
  obtain ⟨d, e, hd, he, hc, q⟩ := h
  obtain ⟨h1, h2, h3⟩ := cmpOk_of hc
  obtain ⟨as, r1⟩ := Dp.reads I d x v hd rx
  obtain ⟨bs, r2⟩ := Dp.reads I e y u he ry
  exact lt_data r1 r2 h1 h2 (by have := Nat.min_le_left d.depth e.depth; omega) ⟨.bl _, H, I, rfl, q⟩)
theorem op_gtA (hu : X.A.units + 64 < cLine) : OpR X (compareOp .Gt) (rCmpA X.K (fun i j => decide (j < i)) fun d e => dataLt e d) := OpR.or op_gt (by
  intro pins s σ H x y v u Q I rx ry h
  obtain ⟨d, e, hd, he, hc, q⟩ := h
  obtain ⟨h1, h2, h3⟩ := cmpOk_of hc
  obtain ⟨as, r1⟩ := Dp.reads I d x v hd rx
  obtain ⟨bs, r2⟩ := Dp.reads I e y u he ry
  exact gt_data r1 r2 h1 h2 (by have := Nat.min_le_left d.depth e.depth; omega) ⟨.bl _, H, I, rfl, q⟩)
abbrev gLtA := gCmpA (fun i j => decide (i < j)) dataLt
abbrev gGtA := gCmpA (fun i j => decide (j < i)) fun d e => dataLt e d
abbrev gLeA := gCmpA (fun i j => decide (i ≤ j)) fun d e => !dataLt e d
abbrev gGeA := gCmpA (fun i j => decide (j ≤ i)) fun d e => !dataLt d e
end
end DV

namespace DV
open PySem L2 PyProof.Rows
section
variable {X : Cx} {K : PySem.W.Frag} {R : RA} {L : Nat → Option (Addr × HO)} {E F F' H H' : Hp} {ρ ρ' : Env} {σ σ' : L2.St} {rs rs' : RS} {pos : Pos}
def sPar4 (i j l m : Nat) (fa : Env → M (List RV)) : Env → M Out := fun ρ => bnd (fa ρ) fun xs => match xs with
  | [x, y, z, w] => bnd (lft (toS x)) fun sx => bnd (lft (toS y)) fun sy => bnd (lft (toS z)) fun sz => bnd (lft (toS w)) fun sw => ret (.nx ((((ρ.set i (some sx)).set j (some sy)).set l (some sz)).set m (some sw)))
  | _ => fail
end
end DV




namespace DV
open PySem L2 LamX PyProof.Rows PySem.Spec PySem.W
def colS (f : Env → M RV) : Env → M (List D) := fun ρ => bnd (f ρ) fun x => lft (items x)
def colR (f : Env → M (Int × Int)) : Env → M (List D) := fun ρ => bnd (f ρ) fun x => if okRg x.1 x.2 = true then ret (rngD x.1 (x.2 - x.1).toNat) else fail
section
variable {X : Cx} {R : RA} {K : PySem.W.Frag} {e : Expr} {te : TE}
/-- data alone -/
def asD : RV → Option D
  | .d d => some d
  | _ => none
/-- the keys -/
def keysF (el : Env → M RV) (ρ : Env) (ip : Nat) : List D → M (List D)
  | [] => ret []
  | x :: xs => bnd (el (ρ.set ip (some (.d x)))) fun y => bnd (lft (asD y)) fun d => bnd (keysF el ρ ip xs) fun ds => ret (d :: ds)
def eSortK (fi : Env → M (List D)) (el : Env → M RV) (ip : Nat) : Env → M RV := fun ρ => bnd (fi ρ) fun its => bnd (keysF el ρ ip its) fun kz => if okKeys kz = true ∧ its.length ≤ 100000 then ret (.n (sortK its kz)) else fail
end
end DV

namespace DV
open PySem L2 LamX PyProof.Rows PySem.Spec
theorem tabs_none {K : PySem.W.Frag} {H : Hp} (h : tabsOf K = []) : Tabs (tabsOf K) H := fun p hp => by
  rw [h] at hp
  cases hp
end DV

namespace DV
open PySem L2 PyProof.Rows
section
variable {K : PySem.W.Frag} {R : RA}
def gIsBl (neg : Bool) : RV → RV → Option RV := fun x y => match asBool x, asBool y with
  | some a, some b => some (.d (.bool (if neg then !decide (a = b) else decide (a = b))))
  | _, _ => none
end
end DV

namespace RevT
open PySem PySem.Spec PyProof.Rows HT
section
variable {prog : Program} {w : World} {A : Around} {E : Value → Shared → Prop} {s : Shared}
theorem adj (n : Nat) : Builtin.Slice.sliceAdjust none none (-1) (n : Int) = ((n : Int) - 1, -1) := rfl
theorem plc (n : Nat) : Builtin.Slice.slicePlaces ((n : Int) - 1) (-1) (-1) = n := by
  unfold Builtin.Slice.slicePlaces
  rw [if_neg (by decide)]
  by_cases h : n = 0
  · subst h
    rfl
  · rw [if_pos (by omega)]
    have e : ((n : Int) - 1 - -1 - 1) / (- -1) + 1 = (n : Int) := by
      rw [show (- -1 : Int) = 1 by decide, Int.ediv_one]
      omega
    rw [e, Int.toNat_natCast]
theorem picks (xs : Array Value) : ((List.range xs.size).filterMap fun (m : Nat) => xs[(((xs.size : Int) - 1) + (m : Int) * (-1)).toNat]?).toArray = xs.toList.reverse.toArray := by
  congr 1
  have e1 : (List.range xs.size).filterMap (fun (m : Nat) => xs[(((xs.size : Int) - 1) + (m : Int) * (-1)).toNat]?) = ((List.range xs.size).map fun k => xs.size - 1 - k).filterMap (xs[·]?) := by
    have e2 : (List.range xs.size).map (fun m : Nat => (((xs.size : Int) - 1) + (m : Int) * (-1)).toNat) = (List.range xs.size).map fun k => xs.size - 1 - k := by
      refine List.map_congr_left fun m hm => ?_
      have := List.mem_range.mp hm
      omega
    rw [← e2, List.filterMap_map]
    rfl
  rw [e1, PySem.W.krv_range, List.filterMap_reverse, PySem.W.krv_all]
theorem applied {sl : Addr} {k : Tok} {n : Nat} {Q : Int × Int × Nat → Shared → Prop} (hS : s.heap.IsSliceOf sl .none .none (.int (-1) k)) (hq : Q ((n : Int) - 1, -1, n) s) : wpAny (model prog w) A (Builtin.Slice.sliceApplied (.ref sl) (pure (n : Int))) Q E s := by
  obtain ⟨ob, o1, o2, o3⟩ := id hS
  unfold Builtin.Slice.sliceApplied Builtin.Slice.sliceFields
  refine wpAny_bind (wpAny_bind (wpAny_field o1 o3 (x := Value.none) rfl (wpAny_bind (wpAny_field o1 o3 (x := Value.none) rfl (wpAny_bind (wpAny_field o1 o3 (x := Value.int (-1) k) rfl (wpAny_pure ?_)))))))
  refine wpAny_bind (slicePart_int ?_)
  show wpAny _ _ (if ((-1 : Int) == 0) = true then _ else _) _ _ s
  rw [if_neg (by decide)]
  refine wpAny_bind (slicePart_none (wpAny_bind (slicePart_none (wpAny_bind (wpAny_pure ?_)))))
  show wpAny _ _ (match Builtin.Slice.sliceAdjust none none (-1) (n : Int) with | (a, b) => pure (a, (-1 : Int), Builtin.Slice.slicePlaces a b (-1))) _ _ s
  rw [adj]
  show wpAny _ _ (pure ((n : Int) - 1, (-1 : Int), Builtin.Slice.slicePlaces ((n : Int) - 1) (-1) (-1))) _ _ s
  rw [plc]
  exact wpAny_pure hq
theorem turned {t sl : Addr} {items : Array Value} {k : Tok} {Q : Value → Shared → Prop} (hT : IsTup s.heap t items) (hS : s.heap.IsSliceOf sl .none .none (.int (-1) k))
    (hq : Q (.ref s.heap.objs.size) { s with heap := s.heap.push { cls := .type "tuple", data := .seq items.toList.reverse.toArray } }) (hz : items.size ≤ sizeLine) : wpAny (model prog w) A (getItem (.ref t) (.ref sl)) Q E s := by
  have fits : sizeOk (.seq items.toList.reverse.toArray) := by
    show items.toList.reverse.toArray.size ≤ sizeLine
    rw [List.size_toArray, List.length_reverse, Array.length_toList]
    exact hz
  obtain ⟨ob, o1, o2, o3⟩ := id hS
  have isS : s.TypeIs (.ref sl) "slice" := ⟨ob, o1, o2⟩
  unfold getItem
  try with_reducible refine wpAny_holding ?_
  first
    | refine wpAny_bind (wpAny_pure ?_)
    | skip
  refine wpAny_bind (wpAny_sequenceKey hT.typeIs (by decide) ?_)
  refine wpAny_bind (wpAny_callSpecial?_slot (name := Str.ofString "__getitem__") hT.typeIs slot_tuple_getitem
    (wpAny_call_entry slot_tuple_getitem hT.typeIs entry_tuple_getitem ?_ (args_tuple_getitem _ _)))
  show wpAny _ _ (Builtin.Tuple.tupleItemsOf (.ref t) >>= _) _ _ s
  refine wpAny_bind (tupleItemsOf_ hT ?_)
  refine wpAny_bind (wpAny_typeOf isS ?_)
  rw [if_pos (by decide)]
  refine wpAny_bind (applied hS ?_)
  have ne : ¬ ((((items.size : Int) - 1) == 0 && (-1 : Int) == 1 && items.size == items.size) = true) := fun q => by
    rw [Bool.and_eq_true, Bool.and_eq_true] at q
    exact absurd q.1.2 (by decide)
  show wpAny _ _ (if (((items.size : Int) - 1) == 0 && (-1 : Int) == 1 && items.size == items.size) = true then _ else _) _ _ s
  rw [if_neg ne, picks]
  first
    | exact wpAny_bind (m := Builtin.Tuple.tupleExact _) (wpAny_newObj_type (wpAny_pure ⟨_, rfl, wpAny_pure hq⟩) fits)
    | exact wpAny_bind (m := Builtin.Tuple.tupleExact _) (wpAny_newObj_type (wpAny_bind (wpAny_pure (wpAny_pure ⟨_, rfl, wpAny_pure hq⟩))) fits)
    | exact wpAny_bind (wpAny_bind (m := Builtin.Tuple.tupleExact _) (wpAny_newObj_type (wpAny_pure (wpAny_pure ⟨_, rfl, wpAny_pure hq⟩)) fits))
    | exact wpAny_bind (wpAny_bind (m := Builtin.Tuple.tupleExact _) (wpAny_newObj_type (wpAny_pure ⟨_, rfl, wpAny_pure hq⟩) fits))
end
end RevT




namespace DV
open PySem L2 PyProof.Rows
section
variable {X : Cx} {K : PySem.W.Frag} {R : RA} {L : Nat → Option (Addr × HO)} {E F F' H H' : Hp} {ρ ρ' : Env} {σ σ' : L2.St} {rs rs' : RS}
variable {S S' : List Nat} {tg o e e2' c : Expr} {es : List Expr} {g : TG} {hg : D → Env → Option Env} {pos p spos apos : Pos} {te to : TE} {f h : Env → M RV}
def MSem (K : PySem.W.Frag) (R : RA) (r : V → List V → Hp → VK → Prop) (gg : RV → RV → Option RV) : Prop :=
  ∀ (F H0 H : Hp) (rs : RS) (x y : V) (p q z : RV) (Q : VK), Step K R rs F H F H → VR K R F H0 H x p → VR K R F H0 H y q → gg p q = some z →
    (∀ v F' H', Step K R rs F H F' H' → VR K R F' H H' v z → Q v H') → r x [y] H Q
/-- the items of a list -/
def itemsL : RV → Option (List D)
  | .d (.list ds) => some ds
  | .b ds => some ds
  | .n ds => some ds
  | _ => none
def eMet (gg : RV → RV → Option RV) (f h : Env → M RV) : Env → M RV := fun ρ => bnd (f ρ) fun x => bnd (lft (itemsL x)) fun _ => bnd (h ρ) fun y => lft (gg x y)
def idxOf (ds : List D) (d : D) : Option Nat := ds.findIdx? fun z => PyData.eqv z d
/-- the last one is taken off -/
def popLast (ds : List D) : Option (List D × D) := match ds.getLast? with
  | some d => some (ds.dropLast, d)
  | none => none
def sPopG (i : Nat) (h : D → Env → Option Env) : Env → M Out := fun ρ => bnd (lft (sApp.own? ρ i)) fun ds => bnd (lft (popLast ds)) fun q => bnd (lft (h q.2 (ρ.set i (some (.o q.1))))) fun ρ' => ret (.nx ρ')
theorem DpAll.dropLast {F : Hp} {vs : List V} {ds : List D} (h : DpAll K F vs ds) : DpAll K F vs.dropLast ds.dropLast := by
  rw [List.dropLast_eq_take, List.dropLast_eq_take, h.len]
  exact DpAll.take _ h
theorem pop_sem {i : Nat} {Q : VK} {ds : List D} {d : D} {ds' : List D} (r : Rel K R L E F ρ σ rs H) (eo : sApp.own? ρ i = some ds) (ep : popLast ds = some (ds', d))
    (k : ∀ v H', Rel K R L E F (ρ.set i (some (.o ds'))) σ rs H' → Dp K F v d → Q v H') : tBM0 K "list" rPop (tVar i) σ H Q := by
  obtain ⟨v, ev, a, vs, rfl, h1, h2, h3, h4, h5⟩ := r.sl i _ (own_some eo)
  have hl := h5.len
  unfold popLast at ep
  cases e1 : ds.getLast? with
  | none => rw [e1] at ep; cases ep
  | some d1 =>
    rw [e1] at ep
    cases ep
    rw [List.getLast?_eq_getElem?] at e1
    obtain ⟨y, ey, hy⟩ := h5.get e1
    rw [← hl] at ey
    exact ⟨_, ev, .inl ⟨rfl, vs, .inl (.inl h1)⟩, a, vs, y, rfl, rfl, h1, ey, k y _ (r.change (own_some eo) ev (DpAll.dropLast h5)) hy⟩
theorem ds_popTo {i : Nat} (pe : PE X e (tBM0 X.K "list" rPop (tVar i))) (hh : DG X R S tg g hg) (hs : swapsWithSole [tg] e pos.line X.env = pure false := by rfl) (hw : swappedStores [tg] e X.env = pure none := by rfl)
    (h1 : (assignEach [tg] X.env).map (·.2) = [assign tg X.env] := by rfl) : DS X R (.Assign [tg] e pos) (tAsg (tBM0 X.K "list" rPop (tVar i)) g) (sPopG i hg) := ⟨ps_asg pe hh.pg hs hw h1, fun L E F ρ σ rs H o rs' D r hf k => by
  obtain ⟨ds, rs1, e1, hf1⟩ := bnd_some hf
  obtain ⟨e2, q2⟩ := lft_some e1
  obtain ⟨⟨ds', d⟩, rs3, e3, hf3⟩ := bnd_some hf1
  obtain ⟨e4, q4⟩ := lft_some e3
  obtain ⟨ρ1, rs5, e5, hf5⟩ := bnd_some hf3
  obtain ⟨e6, q6⟩ := lft_some e5
  obtain ⟨e7, q7⟩ := ret_some hf5
  subst e7 q7 q6 q4 q2
  exact pop_sem r e2 e4 fun v H' r' hv => hh.sem L E F _ σ _ H' v d ρ1 _ r' hv e6 fun σ2 r2 _ => k σ2 F H' FStep.refl r2⟩
/-- x.extend(e), e a new list -/
def newL : RV → Option (List D)
  | .n ds => some ds
  | .b ds => some ds
  | _ => none
def extL : RV → Option (List D)
  | .d (.tuple ds) => some ds
  | x => newL x
def sExt (i : Nat) (f : Env → M RV) : Env → M Out := fun ρ => bnd (lft (sApp.own? ρ i)) fun ds => bnd (f ρ) fun x => bnd (lft (extL x)) fun es => if ds.length + es.length ≤ 100000 then ret (.nx (ρ.set i (some (.o (ds ++ es))))) else fail
end
end DV

namespace DV
open PySem L2 PyProof.Rows SrtR
section
variable {X : Cx} {K : PySem.W.Frag} {R : RA} {e : Expr} {pos p p2 kpos : Pos} {te : TE}
def eSortRev (f : Env → M RV) : Env → M RV := fun ρ => bnd (f ρ) fun x => bnd (lft (items x)) fun ds => bnd (lft (intsOf ds)) fun js => ret (.n ((sortI js).reverse.map PyData.int))
end
end DV

namespace DV
open PySem L2 PyProof.Rows
section
variable {X : Cx} {pins : List (Addr × Obj)} {σ : L2.St} {H : Hp} {s : Shared}
mutual
theorem nestedV (I : Inv X pins σ H s) : ∀ (d : D) (v : V) (u : Value) (k : NestedKey), Dp X.K H v d → L2.RelV v u → nk d = some k → NestedIs s.heap k u
  | .none, _, u, _, hd, r, h => by
    cases h; cases hd
    obtain rfl : u = Value.none := r
    exact .none
  | .int i, _, u, _, hd, r, h => by
    cases h; cases hd
    obtain ⟨t, rfl⟩ := (show ∃ t, u = Value.int i t from r)
    exact .int i t
  | .tuple ds, _, u, _, hd, r, h => by
    unfold nk at h
    cases e : nkA ds with
    | none => rw [e] at h; cases h
    | some ks =>
      rw [e] at h
      cases h
      cases hd with
      | @tup a vs _ h1 h2 =>
        obtain rfl : u = Value.ref a := r
        obtain ⟨its, rv, hp, _⟩ := I.tuple h1
        obtain ⟨o, ho, hc, n, hdat⟩ := hp
        exact .tup ho hc hdat (nestedA I ds vs its ks h2 rv e)
  | .bool _, _, _, _, _, _, h => by cases h
  | .str _, _, _, _, _, _, h => by cases h
  | .list _, _, _, _, _, _, h => by cases h
  | .dict _, _, _, _, _, _, h => by cases h
theorem nestedA (I : Inv X pins σ H s) : ∀ (ds : List D) (vs : List V) (us : List Value) (ks : List NestedKey), DpAll X.K H vs ds → Vals vs us → nkA ds = some ks → NestedAll s.heap ks us
  | [], _, _, _, hd, r, h => by
    cases h; cases hd; cases r
    exact .nil
  | d :: ds, _, _, _, hd, r, h => by
    unfold nkA at h
    cases e1 : nk d with
    | none => rw [e1] at h; cases h
    | some k =>
      cases e2 : nkA ds with
      | none => rw [e1, e2] at h; cases h
      | some ks =>
        rw [e1, e2] at h
        cases h
        cases hd with
        | cons h1 h2 =>
          cases r with
          | cons r1 r2 => exact .cons (nestedV I d _ _ k h1 r1 e1) (nestedA I ds _ _ ks h2 r2 e2)
end
end
/-- may stand as a key -/
def keyOk (t : Bool) (d : D) : Bool := match t, d with
  | false, .int _ => true
  | true, .tuple ds => match nkA ds with
    | some ks => decide ((NestedKey.tup ks).depth ≤ 8)
    | none => false
  | _, _ => false
theorem keyOk_int {d : D} (h : keyOk false d = true) : ∃ i, d = .int i := by
  cases d with
  | int i => exact ⟨i, rfl⟩
  | _ => cases h
theorem keyOk_tup {d : D} (h : keyOk true d = true) : ∃ ds k, d = .tuple ds ∧ nk d = some k ∧ k.depth ≤ 8 := by
  cases d with
  | tuple ds =>
    have h' : (match nkA ds with | some ks => decide ((NestedKey.tup ks).depth ≤ 8) | none => false) = true := h
    cases e : nkA ds with
    | none => rw [e] at h'; cases h'
    | some ks =>
      rw [e] at h'
      refine ⟨ds, .tup ks, rfl, ?_, of_decide_eq_true h'⟩
      unfold nk
      rw [e]
  | _ => cases h
/-- what the dict holds at the key -/
def lookK (kv : List (D × D)) (k : Option NestedKey) : Option D := (kv.find? fun q => decide (nk q.1 = k)).map (·.2)
/-- a pair more, or another value -/
def putD (kv : List (D × D)) (kd vd : D) : List (D × D) := if (lookK kv (nk kd)).isSome = true then kv.map fun q => if nk q.1 = nk kd then (q.1, vd) else q else kv ++ [(kd, vd)]
abbrev EntR (K : PySem.W.Frag) (F : Hp) : NestedKey × Addr × V → D × D → Prop := fun x q => nk q.1 = some x.1 ∧ x.1.depth ≤ 8 ∧ Dp K F (.ref x.2.1) q.1 ∧ Dp K F x.2.2 q.2
abbrev EntV : NestedKey × Addr × V → NestedKey × Addr × Value → Prop := fun p q => p.1 = q.1 ∧ p.2.1 = q.2.1 ∧ L2.RelV p.2.2 q.2.2
section
variable {K : PySem.W.Frag} {F : Hp}
theorem look_int {i : Int} : ∀ {ks : List (Int × V)} {kv : List (D × D)}, Paired (fun (p : Int × V) (q : D × D) => q.1 = .int p.1 ∧ Dp K F p.2 q.2) ks kv →
    match lookK kv (nk (.int i)), valV (ks.map fun p => ((.inl p.1 : Key), p.2)) (.inl i) with
    | some d, some v => Dp K F v d
    | none, none => True
    | _, _ => False
  | _, _, .nil => trivial
  | p :: ks, q :: kv, .cons h t => by
    obtain ⟨e1, h2⟩ := h
    by_cases hi : p.1 = i
    · have e2 : lookK (q :: kv) (nk (.int i)) = some q.2 := by
        unfold lookK
        rw [List.find?_cons_of_pos (by rw [e1, hi]; exact decide_eq_true rfl)]
        rfl
      have e3 : valV ((p :: ks).map fun p => ((.inl p.1 : Key), p.2)) (.inl i) = some p.2 := valV_pos (show (Sum.inl p.1 : Key) = .inl i by rw [hi])
      rw [e2, e3]
      exact h2
    · have e2 : lookK (q :: kv) (nk (.int i)) = lookK kv (nk (.int i)) := by
        unfold lookK
        rw [List.find?_cons_of_neg (by rw [e1]; exact fun z => hi (by have := of_decide_eq_true z; unfold nk at this; cases this; rfl))]
      have e3 : valV ((p :: ks).map fun p => ((.inl p.1 : Key), p.2)) (.inl i) = valV (ks.map fun p => ((.inl p.1 : Key), p.2)) (.inl i) := valV_neg fun z => hi (by cases z; rfl)
      rw [e2, e3]
      exact look_int t
theorem look_tup {k : NestedKey} : ∀ {xs : List (NestedKey × Addr × V)} {ys : List (NestedKey × Addr × Value)} {kv : List (D × D)}, Paired EntV xs ys → Paired (EntR K F) xs kv →
    match lookK kv (some k), atKey ys k with
    | some d, some p => ∃ v, L2.RelV v p.2 ∧ Dp K F v d
    | none, none => True
    | _, _ => False
  | _, _, _, .nil, .nil => trivial
  | x :: xs, y :: ys, q :: kv, .cons h t, .cons g u => by
    obtain ⟨e1, e2, e3⟩ := h
    obtain ⟨g1, g2, g3, g4⟩ := g
    by_cases hk : x.1 = k
    · have a1 : lookK (q :: kv) (some k) = some q.2 := by
        unfold lookK
        rw [List.find?_cons_of_pos (by rw [g1, hk]; exact decide_eq_true rfl)]
        rfl
      have a2 : atKey (y :: ys) k = some y.2 := by
        unfold atKey
        rw [List.find?_cons_of_pos (by rw [← e1, hk]; exact decide_eq_true rfl)]
        rfl
      rw [a1, a2]
      exact ⟨_, e3, g4⟩
    · have a1 : lookK (q :: kv) (some k) = lookK kv (some k) := by
        unfold lookK
        rw [List.find?_cons_of_neg (by rw [g1]; exact fun z => hk (Option.some.inj (of_decide_eq_true z)))]
      have a2 : atKey (y :: ys) k = atKey ys k := by
        unfold atKey
        rw [List.find?_cons_of_neg (by rw [← e1]; exact fun z => hk (of_decide_eq_true z))]
      rw [a1, a2]
      exact look_tup t u
end
section
variable {X : Cx} {pins : List (Addr × Obj)} {σ : L2.St} {H F : Hp} {s : Shared} {a : Addr} {u : HO} {c : DC} {y : V} {kd vd : D} {uy : Value} {A : Around} {E : Value → Shared → Prop}
/-- the dict with keys that are tuples, in the heap -/
theorem dc_heap (I : Inv X pins σ H s) {xs : List (NestedKey × Addr × V)} {kv : List (D × D)} (e : Rd H a (dcO a xs)) (hF : ∀ a o, F a = some o → H a = some o) (hp : Paired (EntR X.K F) xs kv) :
    (a == sysModules) = false ∧ xs.length ≤ sizeLine ∧ ∃ ys, Paired EntV xs ys ∧ s.heap.DictOfH (nestedKind X.prog X.w) a ys := by
  obtain ⟨⟨h1, h2, h3, o, es, ep, ys, h4, h5, h6, h7, h8⟩, _⟩ := e.ok I.hok
  refine ⟨h1, h2, ys, h7, o, es, ep, h4, h5, h6, h8 X.w, ?_, ?_⟩
  · have go : ∀ {xs : List (NestedKey × Addr × V)} {ys : List (NestedKey × Addr × Value)} {kv : List (D × D)}, Paired EntV xs ys → Paired (EntR X.K F) xs kv → ∀ z ∈ ys, (nestedKind X.prog X.w).is s.heap z.1 z.2.1 := fun {xs} => by
      induction xs with
      | nil =>
        intro ys kv p q z hz
        cases p
        cases hz
      | cons x xs ih =>
        intro ys kv p q z hz
        cases p with
        | cons p1 p2 =>
          cases q with
          | cons q1 q2 =>
            rcases List.mem_cons.mp hz with ez | hz
            · subst ez
              obtain ⟨e1, e2, _⟩ := p1
              obtain ⟨g1, g2, g3, _⟩ := q1
              rw [← e1, ← e2]
              exact ⟨nestedV I _ _ _ _ (Dp.mono hF _ _ g3) rfl g1, g2⟩
            · exact ih p2 q2 z hz
    exact go h7 hp
  · have go : ∀ {xs : List (NestedKey × Addr × V)} {ys : List (NestedKey × Addr × Value)}, Paired EntV xs ys → xs.map (·.1) = ys.map (·.1) := fun {xs} => by
      induction xs with
      | nil => intro ys p; cases p; rfl
      | cons x xs ih =>
        intro ys p
        cases p with
        | cons p1 p2 => rw [List.map_cons, List.map_cons, p1.1, ih p2]
    rw [← go h7]
    exact h3
theorem key_at (I : Inv X pins σ H s) (hy : Dp X.K H y kd) (hk : keyOk true kd = true) (ry : L2.RelV y uy) : ∃ b k, uy = .ref b ∧ y = .ref b ∧ nk kd = some k ∧ (nestedKind X.prog X.w).is s.heap k b := by
  obtain ⟨ds, k, rfl, h1, h2⟩ := keyOk_tup hk
  cases hy with
  | @tup b vs _ q1 q2 qx =>
    obtain rfl : uy = Value.ref b := ry
    exact ⟨b, k, rfl, rfl, h1, nestedV I _ _ _ _ (Dp.tup q1 q2 qx) rfl h1, h2⟩
theorem g_typeIs (I : Inv X pins σ H s) (e : Rd H a u) (hF : ∀ a o, F a = some o → H a = some o) (R : DictR X.K F a u c) : s.TypeIs (.ref a) "dict" ∧ (∀ b, Value.ref a = .ref b → ∃ ob, s.heap.get? b = some ob ∧ ob.dict = none) ∧ (a == sysModules) = false := by
  unfold DictR at R
  cases q : c.t with
  | false =>
    rw [q] at R
    obtain ⟨ks, rfl, _, _⟩ := R
    exact isD_at I (.inl ⟨_, e⟩)
  | true =>
    rw [q] at R
    obtain ⟨xs, rfl, hp⟩ := R
    obtain ⟨h1, _, ys, _, dd⟩ := dc_heap I e hF hp
    refine ⟨dd.typeIs, fun b eb => ?_, h1⟩
    cases eb
    obtain ⟨o, _, _, g1, g2, _⟩ := dd
    exact ⟨o, g1, g2.2.1⟩
theorem g_getItem {Q : Value → Shared → Prop} (hu : A.units + 9 < cLine) (I : Inv X pins σ H s) (e : Rd H a u) (hF : ∀ a o, F a = some o → H a = some o) (R : DictR X.K F a u c) (hy : Dp X.K H y kd) (hk : keyOk c.t kd = true) (ry : L2.RelV y uy)
    (l : lookK c.kv (nk kd) = some vd) (h : ∀ v w' s', Inv X pins σ H s' → L2.RelV v w' → Dp X.K F v vd → Q w' s') : wpAny (model X.prog X.w) A (getItem (.ref a) uy) Q E s := by
  unfold DictR at R
  cases q : c.t with
  | false =>
    rw [q] at R hk
    obtain ⟨ks, rfl, _, hp⟩ := R
    obtain ⟨i, rfl⟩ := keyOk_int hk
    cases hy
    have z := look_int (i := i) hp
    rw [l] at z
    cases e3 : valV (ks.map fun p => ((.inl p.1 : Key), p.2)) (.inl i) with
    | none => rw [e3] at z; exact z.elim
    | some v =>
      rw [e3] at z
      exact d_getItem (by omega) I (.inl ⟨_, .inl i, e, rfl, e3.symm⟩) ry fun w' s' I' rw' => h v w' s' I' rw' z
  | true =>
    rw [q] at R hk
    obtain ⟨xs, rfl, hp⟩ := R
    obtain ⟨h1, _, ys, hv, dd⟩ := dc_heap I e hF hp
    obtain ⟨b, k, rfl, rfl, ek, hkey⟩ := key_at I hy hk ry
    rw [ek] at l
    have z := look_tup (k := k) hv hp
    rw [l] at z
    cases e3 : atKey ys k with
    | none => rw [e3] at z; exact z.elim
    | some p =>
      rw [e3] at z
      obtain ⟨v, r1, r2⟩ := z
      exact wpAny_getItem_heap (show A.in1.units + 8 < cLine by show A.units + 1 + 8 < cLine; omega) hkey dd e3 (h v p.2 _ (I.tok _) r1 r2)
end
end DV

namespace DV
open PySem L2 PyProof.Rows LamX
section
variable {K : PySem.W.Frag} {F : Hp}
theorem Paired.map2 {α β α' β' : Type} {f : α → β → Prop} {g : α' → β' → Prop} {m : α → α'} {n : β → β'} : ∀ {xs : List α} {ys : List β}, Paired f xs ys → (∀ x y, f x y → g (m x) (n y)) → Paired g (xs.map m) (ys.map n)
  | _, _, .nil, _ => .nil
  | _, _, .cons h t, k => .cons (k _ _ h) (Paired.map2 t k)
theorem Paired.app {α β : Type} {f : α → β → Prop} : ∀ {xs : List α} {ys : List β} {xs2 : List α} {ys2 : List β}, Paired f xs ys → Paired f xs2 ys2 → Paired f (xs ++ xs2) (ys ++ ys2)
  | _, _, _, _, .nil, h => h
  | _, _, _, _, .cons h t, k => .cons h (Paired.app t k)
theorem Paired.len {α β : Type} {f : α → β → Prop} : ∀ {xs : List α} {ys : List β}, Paired f xs ys → xs.length = ys.length
  | _, _, .nil => rfl
  | _, _, .cons _ t => congrArg (· + 1) (Paired.len t)
theorem put_int {i : Int} {v : V} {vd : D} {ks : List (Int × V)} {kv : List (D × D)} (hn : (ks.map (·.1)).Nodup) (hp : Paired (fun (p : Int × V) (q : D × D) => q.1 = .int p.1 ∧ Dp K F p.2 q.2) ks kv) (hv : Dp K F v vd) :
    ∃ ks2 : List (Int × V), putK (ks.map fun p => ((.inl p.1 : Key), p.2)) (.inl i) v = (ks2.map fun p => ((.inl p.1 : Key), p.2)) ∧ (ks2.map (·.1)).Nodup ∧ Paired (fun (p : Int × V) (q : D × D) => q.1 = .int p.1 ∧ Dp K F p.2 q.2) ks2 (putD kv (.int i) vd) := by
  have z := look_int (i := i) hp
  have any : ((ks.map fun p => ((.inl p.1 : Key), p.2)).any fun kv => decide (kv.1 = .inl i)) = (lookK kv (nk (.int i))).isSome := by
    rw [valV_any]
    cases e3 : valV (ks.map fun p => ((.inl p.1 : Key), p.2)) (.inl i) <;> cases e4 : lookK kv (nk (.int i)) <;> rw [e3, e4] at z <;> first | rfl | exact z.elim
  unfold putK putD
  rw [any]
  by_cases hs : (lookK kv (nk (.int i))).isSome = true
  · rw [if_pos hs, if_pos hs]
    refine ⟨ks.map fun p => if p.1 = i then (p.1, v) else p, ?_, ?_, Paired.map2 hp fun x y h => ?_⟩
    · rw [List.map_map, List.map_map]
      refine List.map_congr_left fun p _ => ?_
      by_cases hi : p.1 = i
      · simp [hi]
      · simp [hi]
    · rw [List.map_map]
      have : (fun x : Int × V => x.1) ∘ (fun p : Int × V => if p.1 = i then (p.1, v) else p) = fun x => x.1 := by
        funext p
        by_cases hi : p.1 = i <;> simp [hi]
      rw [this]
      exact hn
    · obtain ⟨e1, e2⟩ := h
      by_cases hi : x.1 = i
      · rw [if_pos hi, if_pos (by rw [e1, hi])]
        exact ⟨by rw [e1], hv⟩
      · rw [if_neg hi, if_neg (by rw [e1]; intro q; unfold nk at q; cases q; exact hi rfl)]
        exact ⟨e1, e2⟩
  · rw [if_neg hs, if_neg hs]
    refine ⟨ks ++ [(i, v)], by rw [List.map_append]; rfl, ?_, Paired.app hp (.cons ⟨rfl, hv⟩ .nil)⟩
    rw [List.map_append, List.nodup_append]
    refine ⟨hn, by simp, fun a ha b hb => ?_⟩
    simp only [List.map_cons, List.map_nil, List.mem_singleton] at hb
    subst hb
    intro e
    subst e
    obtain ⟨p, hp1, hp2⟩ := List.mem_map.mp ha
    have : ((ks.map fun p => ((.inl p.1 : Key), p.2)).any fun kv => decide (kv.1 = .inl a)) = true := by
      rw [List.any_eq_true]
      exact ⟨(.inl p.1, p.2), List.mem_map.mpr ⟨p, hp1, rfl⟩, by rw [hp2]; exact decide_eq_true rfl⟩
    rw [any] at this
    exact hs this
end
section
variable {X : Cx} {pins : List (Addr × Obj)} {σ : L2.St} {H F : Hp} {s : Shared} {a : Addr} {u : HO} {c : DC} {y v : V} {kd vd : D} {uy r : Value} {A : Around} {E : Value → Shared → Prop}
/-- a new dict -/
def newG (t : Bool) (p : Addr) : HO := match t with
  | false => .dK []
  | true => dcO p []
end
theorem tabs_updG {T : List (Addr × Str)} {H : Hp} (t : LamX.Tabs T H) {a : Addr} {o u : HO} (h : H a = some u) (n1 : ∀ ps, u ≠ .tbl ps) (n2 : ∀ q, CodeO a q ≠ u) : LamX.Tabs T (upd H a o) := fun p hp => by
  obtain ⟨ps, e, h2, h3⟩ := t p hp
  refine ⟨ps, by rw [upd_ne (fun z => by rw [z, h] at e; cases e; exact n1 _ rfl)]; exact e, h2, fun pos cv hc => ?_⟩
  obtain ⟨c, e1, e2⟩ := h3 pos cv hc
  refine ⟨c, e1, ?_⟩
  rw [upd_ne (fun z => by subst z; rw [h] at e2; exact n2 _ (Option.some.inj e2).symm)]
  exact e2
section
variable {K : PySem.W.Frag} {R : RA} {L : Nat → Option (Addr × HO)} {E F F' H H' : Hp} {ρ ρ' : Env} {σ σ' : L2.St} {rs rs' : RS}
theorem Step.new_g {p : Addr} {t : Bool} (s : Step K R rs F H F H) (hp : H p = none) : Step K R rs F H F (upd H p (newG t p)) ∧ F p = none ∧ some p ≠ R.row := by
  have hr : some p ≠ R.row := fun q => by
    obtain ⟨a, e, _⟩ := s.row.at_ p q.symm
    rw [hp] at e; cases e
  have hF : F p = none := by
    cases q : F p with
    | none => rfl
    | some o =>
      have := s.fin p o q
      rw [hp] at this; cases this
  refine ⟨⟨fun a o h _ _ => by rw [upd_ne (ne_of_none h hp)]; exact h, fun _ _ h => h, fun _ _ h => .inl h, fun a o h => by rw [upd_ne (ne_of_none (s.fin a o h) hp)]; exact s.fin a o h, ⟨fun r e => ?_, tabs_upd s.row.tab (.inl hp), s.row.fnt⟩, s.rF⟩, hF, hr⟩
  obtain ⟨a, e1, h1, h3⟩ := s.row.at_ r e
  exact ⟨a, by rw [upd_ne (ne_of_none e1 hp)]; exact e1, h1, h3⟩
end
end DV

namespace DV
open PySem L2 PyProof.Rows LamX
theorem rm9 {k : Nat} {A : Around} (r : Room k A) : A.units + 9 < cLine := by have := r.un; omega
def eGNew (t : Bool) : Env → M RV := fun _ => ret (.gn ⟨t, []⟩)
section
variable {X : Cx} {K : PySem.W.Frag} {R : RA} {L : Nat → Option (Addr × HO)} {E F F' H H' : Hp} {ρ ρ' : Env} {σ σ' : L2.St} {rs rs' : RS}
variable {o e i e2 : Expr} {pos spos apos cpos : Pos} {td ty tv tx : TE} {f h k : Env → M RV}
def dcOf : RV → Option DC
  | .gb c => some c
  | .gn c => some c
  | _ => none
def asKey : RV → Option D
  | .d d => some d
  | _ => none
theorem VR.dict {F H0 H : Hp} {v : V} {x : RV} {c : DC} (hv : VR K R F H0 H v x) (e : dcOf x = some c) : ∃ a u, v = .ref a ∧ H a = some u ∧ some a ≠ R.row ∧ DictR K F a u c := by
  cases x with
  | gb d =>
    cases e
    exact hv
  | gn d =>
    cases e
    obtain ⟨a, u, e1, h1, _, _, h2, h3⟩ := hv
    exact ⟨a, u, e1, h1, h2, h3⟩
  | d _ => cases e
  | b _ => cases e
  | n _ => cases e
  | row => cases e
theorem VR.key {F H0 H : Hp} {v : V} {x : RV} {d : D} (hv : VR K R F H0 H v x) (e : asKey x = some d) : Dp K F v d := by
  cases x with
  | d y => cases e; exact hv
  | b _ => cases e
  | n _ => cases e
  | gb _ => cases e
  | gn _ => cases e
  | row => cases e
/-- the dict at a, asked for kd -/
def GAsk (K : PySem.W.Frag) (H : Hp) (a : Addr) (y : V) (F : Hp) (c : DC) (kd : D) : Prop := ∃ u, H a = some u ∧ (∀ a o, F a = some o → H a = some o) ∧ DictR K F a u c ∧ Dp K H y kd ∧ keyOk c.t kd = true
def tGGet (K : PySem.W.Frag) (td ty : TE) : TE := fun σ H Q => td σ H fun x H1 => ty σ H1 fun y H2 => ∃ (a : Addr) (F : Hp) (c : DC) (kd vd : D), x = .ref a ∧ GAsk K H2 a y F c kd ∧ lookK c.kv (nk kd) = some vd ∧ ∀ v, Dp K F v vd → Q v H2
theorem pe_gget (hu : X.A.units + 9 < cLine) (ho : PE X o td) (hi : PE X i ty) (hs : NoSl i) : PE X (.Subscript o i pos) (tGGet X.K td ty) := by
  refine ⟨fun pins s σ H Q I h => ?_⟩
  refine subD_of PySem.F.slot_dict_getitem.lookup hs (thn (ho.run pins s σ H _ I h) fun u s1 ⟨x, H1, I1, rx, q1⟩ => thn (hi.run pins s1 σ H1 _ I1 q1) fun iv s2 ⟨y, H2, I2, ry, a, F, c, kd, vd, ex, ⟨w, g1, g2, g3, g4, g5⟩, l, q2⟩ => ?_)
  subst ex
  obtain rfl : u = Value.ref a := rx
  exact ⟨(g_typeIs I2 (.inl g1) g2 g3).1, g_getItem hu I2 (.inl g1) g2 g3 g4 g5 ry l fun v w' s3 I3 rw' hv => ⟨v, H2, I3, rw', q2 v hv⟩⟩
def eGGet (f h : Env → M RV) : Env → M RV := fun ρ => bnd (f ρ) fun x => bnd (lft (dcOf x)) fun c => bnd (h ρ) fun y => bnd (lft (asKey y)) fun kd => if keyOk c.t kd = true then bnd (lft (lookK c.kv (nk kd))) fun vd => ret (.d vd) else fail
theorem esem_gget (hd : ESem K R td f) (hy : ESem K R ty h) : ESem K R (tGGet K td ty) (eGGet f h) := fun L E ρ σ F H rs x0 rs' Q r hf kk => by
  obtain ⟨x, rs1, e1, g1⟩ := bnd_some hf
  obtain ⟨c, rs2, e2, g2⟩ := bnd_some g1
  obtain ⟨e3, q3⟩ := lft_some e2
  subst q3
  obtain ⟨y, rs4, e4, g4⟩ := bnd_some g2
  obtain ⟨kd, rs5, e5, g5⟩ := bnd_some g4
  obtain ⟨e6, q6⟩ := lft_some e5
  subst q6
  by_cases hk : keyOk c.t kd = true
  · rw [if_pos hk] at g5
    obtain ⟨vd, rs7, e7, g7⟩ := bnd_some g5
    obtain ⟨e8, q8⟩ := lft_some e7
    obtain ⟨e9, q9⟩ := ret_some g7
    subst e9 q9 q8
    refine hd L E ρ σ F H rs x _ _ r e1 fun v1 F1 H1 s1 h1 => ?_
    have r1 := r.step s1
    refine hy L E ρ σ F1 H1 _ y _ _ r1 e4 fun v2 F2 H2 s2 h2 => ?_
    have r2 := r1.step s2
    obtain ⟨a, u, rfl, z1, z2, z3⟩ := (h1.step s2).dict e3
    exact ⟨a, F2, c, kd, vd, rfl, ⟨u, z1, r2.fr, z3, Dp.mono r2.fr _ _ (h2.key e6), hk⟩, e8, fun v hv => kk v F2 H2 (s1.trans r.row s2) hv⟩
  · rw [if_neg hk] at g5
    cases g5
theorem de_gget (hu : X.A.units + 9 < cLine) (ho : DE X R o td f) (hi : DE X R i ty h) (hs : NoSl i := by exact fun _ _ => rfl) : DE X R (.Subscript o i pos) (tGGet X.K td ty) (eGGet f h) := ⟨pe_gget hu ho.pe hi.pe hs, esem_gget ho.sem hi.sem⟩
def eGGet2 (f h k : Env → M RV) : Env → M RV := fun ρ => bnd (f ρ) fun x => bnd (lft (dcOf x)) fun c => bnd (h ρ) fun y => bnd (lft (asKey y)) fun kd => bnd (k ρ) fun z => if keyOk c.t kd = true then match lookK c.kv (nk kd) with
  | some vd => ret (.d vd)
  | none => ret z
  else fail
def own_g (ρ : Env) (i : Nat) : Option DC := match ρ[i]? with
  | some (some (.g c)) => some c
  | _ => none
def sGPut (i : Nat) (f g : Env → M RV) : Env → M Out := fun ρ => bnd (f ρ) fun x => bnd (lft (toD x)) fun vd => bnd (g ρ) fun y => bnd (lft (asKey y)) fun kd => bnd (lft (own_g ρ i)) fun c =>
  if keyOk c.t kd = true ∧ c.kv.length ≤ 100000 then ret (.nx (ρ.set i (some (.g ⟨c.t, putD c.kv kd vd⟩)))) else fail
end
end DV

namespace DV
open PySem L2 PyProof.Rows LamX
/-- the pairs of a dict's object -/
def PsOf (d : Addr) (u : HO) (ps : List (V × V)) : Prop := (∃ ks : List (Key × V), u = .dK ks ∧ ps = ks.map fun p => (kV p.1, p.2)) ∨ ∃ xs : List (NestedKey × Addr × V), u = dcO d xs ∧ ps = xs.map fun x => (.ref x.2.1, x.2.2)
abbrev GP (K : PySem.W.Frag) (F : Hp) : V × V → D × D → Prop := fun p q => Dp K F p.1 q.1 ∧ Dp K F p.2 q.2
theorem DictR.ps {K : PySem.W.Frag} {F : Hp} {a : Addr} {u : HO} {c : DC} (R : DictR K F a u c) : ∃ ps, PsOf a u ps ∧ Paired (GP K F) ps c.kv := by
  unfold DictR at R
  cases e : c.t with
  | false =>
    rw [e] at R
    obtain ⟨ks, rfl, _, hp⟩ := R
    refine ⟨_, .inl ⟨_, rfl, rfl⟩, ?_⟩
    rw [List.map_map]
    have := Paired.map2 (g := GP K F) (m := fun p : Int × V => (V.int p.1, p.2)) (n := id) hp fun x q h => ⟨by rw [show (id q).1 = q.1 from rfl, h.1]; exact Dp.int _, h.2⟩
    rw [List.map_id] at this
    exact this
  | true =>
    rw [e] at R
    obtain ⟨xs, rfl, hp⟩ := R
    refine ⟨_, .inr ⟨_, rfl, rfl⟩, ?_⟩
    have := Paired.map2 (g := GP K F) (m := fun x : NestedKey × Addr × V => (V.ref x.2.1, x.2.2)) (n := id) hp fun x q h => ⟨h.2.2.1, h.2.2.2⟩
    rw [List.map_id] at this
    exact this
end DV


namespace DV
open PySem L2 PyProof.Rows LamX
section
variable {X : Cx} {K : PySem.W.Frag} {R : RA} {k v : Expr} {tk tv : TE} {pos : Pos}
def eG1 (t : Bool) (f h : Env → M RV) : Env → M RV := fun ρ => bnd (f ρ) fun x => bnd (lft (asKey x)) fun kd => bnd (h ρ) fun y => bnd (lft (toD y)) fun vd => if keyOk t kd = true then ret (.gn ⟨t, [(kd, vd)]⟩) else fail
end
end DV

namespace DV
open PySem L2 PyProof.Rows LamX PySem.W
/-- what is listed -/
def wkV : Bool → V × V → V
  | true, p => p.2
  | false, p => p.1
def wkB : Bool → D × D → D
  | true, q => q.2
  | false, q => q.1
section
variable {X : Cx} {td : TE} {e : Expr} {apos cpos pos p : Pos}
/-- something to be listed -/
def PGs (X : Cx) (b : Bool) (it : Expr) (td : TE) : Prop :=
  ∀ (pins : List (Addr × Obj)) (s : Shared) (σ : L2.St) (H : Hp) (Q : List (V × V) → Hp → Prop), Inv X pins σ H s → (td σ H fun x H1 => ∃ d u ps, x = .ref d ∧ H1 d = some u ∧ PsOf d u ps ∧ Q ps H1) →
    wpAny (model X.prog X.w) X.A (eval it X.env) (fun x s' => ∃ (r d : Addr) (T : String) (n : Nat) (P : Nat → Value → Prop) (OK : Heap → Prop) (H1 : Hp) (ps : List (V × V)), x = .ref r ∧ Inv X pins σ H1 s' ∧ KdlSrc X.prog X.w T r d n P OK ∧ OK s'.heap ∧ n = ps.length ∧ n ≤ sizeLine ∧ (∀ j w, P j w → ∃ p, ps[j]? = some p ∧ L2.RelV (wkV b p) w) ∧ Q ps H1) X.xe s
def eListG (b : Bool) (f : Env → M RV) : Env → M RV := fun ρ => bnd (f ρ) fun x => bnd (lft (dcOf x)) fun c => ret (.n (c.kv.map (wkB b)))
end
end DV


namespace DV
open PySem L2 PyProof.Rows LamX
section
variable {J : It} {n : Nat} {G : Hp → Prop} {Y : Nat → Hp → V → Hp → Prop}
theorem dc_it (w : Walk J n G Y) {g : TG} {tt : TT} {tk tv : TE} {vs : List Nat} {σ : L2.St} {H1 : Hp} {D : Addr} {Qd : Hp → Prop} (Pv : Nat → Hp → Prop) (h0 : Pv 0 (upd H1 D (.dK []))) (hG : ∀ i H, i ≤ n → Pv i H → G H)
    (hs : ∀ i x H H', i < n → Pv i H → Y i H x H' → g x (L2.wipe σ vs) H' fun σ2 H2 => L2.wipe σ2 vs = L2.wipe σ vs ∧ tt σ2 H2 fun b H3 =>
      if b = true then tk σ2 H3 fun y H4 => tv σ2 H4 fun z H5 => ∃ kvs k, y = kV k ∧ H5 D = some (.dK kvs) ∧ kvs.length < sizeLine ∧ Pv (i + 1) (upd H5 D (.dK (putK kvs k z))) else Pv (i + 1) H3) (hd : ∀ H, Pv n H → Qd H) :
    ∃ W : Nat → Nat → Hp → Prop, (∃ m, W 0 m (upd H1 D (.dK []))) ∧ ∀ i m H, W i m H →
      (J.stop i H ∧ Qd H) ∨ (J.go i H ∧ ∃ Nx : Hp → Prop, (∀ H', Nx H' → ∃ m', m' < m ∧ W (i + 1) m' H') ∧ ∀ x H', J.yld i H x H' → g x (L2.wipe σ vs) H' fun σ2 H2 => L2.wipe σ2 vs = L2.wipe σ vs ∧ tt σ2 H2 fun b H3 =>
        if b = true then tk σ2 H3 fun y H4 => tv σ2 H4 fun z H5 => ∃ kvs k, y = kV k ∧ H5 D = some (.dK kvs) ∧ kvs.length < sizeLine ∧ Nx (upd H5 D (.dK (putK kvs k z))) else Nx H3) := by
  refine ⟨fun i m H => m = n - i ∧ i ≤ n ∧ Pv i H, ⟨n, by simp, Nat.zero_le _, h0⟩, ?_⟩
  rintro i m H ⟨rfl, hi, p⟩
  have q := hG i H hi p
  by_cases hlt : i < n
  · refine .inr ⟨w.goes i H hlt q, Pv (i + 1), fun H' p' => ⟨n - (i + 1), by omega, rfl, hlt, p'⟩, fun x H' y => hs i x H H' hlt p (w.yields i H x H' hlt q y)⟩
  · have e : i = n := by omega
    subst e
    exact .inl ⟨w.stops H q, hd H p⟩
end
def dcF (tg : D → Env → Option Env) (tst : Env → M Bool) (kf vf : Env → M RV) (ρ : Env) : List D → List (D × D) → M (List (D × D))
  | [], kv => ret kv
  | x :: xs, kv => bnd (lft (tg x ρ)) fun ρ1 => bnd (tst ρ1) fun b => if b = true then bnd (kf ρ1) fun y => bnd (lft (asInt y)) fun i => bnd (vf ρ1) fun z => bnd (lft (asKey z)) fun d => dcF tg tst kf vf ρ xs (putD kv (.int i) d) else dcF tg tst kf vf ρ xs kv
def eDc (fi : Env → M (List D × Option Nat)) (vs : List Nat) (tg : D → Env → Option Env) (tst : Env → M Bool) (kf vf : Env → M RV) : Env → M RV := fun ρ =>
  bnd (fi ρ) fun p => if p.1.length ≤ 50000 then bnd (dcF tg tst kf vf (wipeE ρ vs) p.1 []) fun kv => ret (.gn ⟨false, kv⟩) else fail
section
variable {X : Cx} {K : PySem.W.Frag} {R : RA} {L : Nat → Option (Addr × HO)} {E F F' H H' : Hp} {ρ ρ' : Env} {σ σ' : L2.St} {rs rs' : RS}
variable {S : List Nat} {g : TG} {hg : D → Env → Option Env} {tt : TT} {tk tv : TE} {wi : TI} {it tg kx vx : Expr} {ifs : List Expr} {pos : Pos}
theorem putD_len (kv : List (D × D)) (k v : D) : (putD kv k v).length ≤ kv.length + 1 := by
  unfold putD
  split
  · rw [List.length_map]; omega
  · rw [List.length_append]; exact Nat.le_refl _
theorem dk_tbl {a : Addr} {ks : List (Key × V)} : (∀ ps, (HO.dK ks) ≠ .tbl ps) ∧ ∀ q, CodeO a q ≠ .dK ks :=
  ⟨fun ps z => (nomatch z), fun q z => by
    unfold CodeO at z
    cases z⟩
theorem esem_dc {fi : Env → M (List D × Option Nat)} {vs : List Nat} {tst : Env → M Bool} {kf vf : Env → M RV} (hi : ISem K R wi fi) (hgs : GSem K R S g hg) (hS : ∀ i ∈ S, i ∈ vs) (ht : TSem K R tt tst) (hk : ESem K R tk kf) (hv : ESem K R tv vf) :
    ESem K R (tDc wi g tt tk tv vs) (eDc fi vs hg tst kf vf) := fun L E ρ σ F H rs x rs' Q r hf kk => by
  obtain ⟨⟨its, lk⟩, rs1, e1, hf1⟩ := bnd_some hf
  by_cases hlen : its.length ≤ 50000
  · have hf2 : (if its.length ≤ 50000 then bnd (dcF hg tst kf vf (wipeE ρ vs) its []) fun kv => ret (RV.gn ⟨false, kv⟩) else fail) rs1 = some (x, rs') := hf1
    rw [if_pos hlen] at hf2
    obtain ⟨out, rs2, e2, hf3⟩ := bnd_some hf2
    obtain ⟨e3, q3⟩ := ret_some hf3
    subst e3 q3
    refine hi L E ρ σ F H rs its lk rs1 _ r e1 fun J F1 H1 s1 ⟨G, Y, P, wk, pn, hG, hY⟩ => ?_
    intro Da hD
    have r1 := r.step s1
    have hDr : some Da ≠ R.row := fun q => by
      obtain ⟨a, e, _⟩ := r1.row.at_ Da q.symm
      rw [hD] at e; cases e
    have hDF1 : F1 Da = none := by
      cases q : F1 Da with
      | none => rfl
      | some o =>
        have := s1.fin Da o q
        rw [hD] at this; cases this
    refine dc_it wk (fun i H2 => ∃ F2 rs3 ks kv, Step K R rs3 F1 H1 F2 H2 ∧ H2 Da = some (.dK (ks.map fun p => ((.inl p.1 : Key), p.2))) ∧ F2 Da = none ∧ (ks.map (·.1)).Nodup ∧ Paired (fun (p : Int × V) (q : D × D) => q.1 = .int p.1 ∧ Dp K F2 p.2 q.2) ks kv ∧ kv.length ≤ i ∧ dcF hg tst kf vf (wipeE ρ vs) (its.drop i) kv rs3 = some (out, rs')) ?_ ?_ ?_ ?_
    · exact ⟨F1, rs1, [], [], (Step.new_g (t := false) r1.refl hD).1, upd_same, hDF1, List.nodup_nil, .nil, Nat.le_refl _, e2⟩
    · rintro i H2 hi' ⟨F2, rs3, ks, kv, s2, _⟩
      exact hG H2 (fun a o q => s2.keep a o (pn a o q).1 (pn a o q).2.1 (pn a o q).2.2.1) fun a o q => s2.fin a o (s2.sub a o q)
    · rintro i v H2 H3 hi' ⟨F2, rs3, ks, kv, s2, hDl, hDF, hnd, hA, hlA, el1⟩ hy
      have s02 := s1.trans r.row s2
      have r2 := r.step s02
      obtain ⟨x, F3, ex, s3, hd⟩ := hY.step hi' s2.sub r2.refl hy
      have er : its.drop i = x :: its.drop (i + 1) := by
        have hx : its[i] = x := by
          rw [List.getElem?_eq_getElem hi'] at ex
          exact Option.some.inj ex
        rw [← hx]
        exact List.drop_eq_getElem_cons hi'
      rw [er] at el1
      obtain ⟨ρ3, rs4, e4, el2⟩ := bnd_some el1
      obtain ⟨e5, q5⟩ := lft_some e4
      subst q5
      obtain ⟨b, rs5, e6, el3⟩ := bnd_some el2
      have s13 := s2.trans r1.row s3
      have r3 := r2.step s3
      have tb := dk_tbl (a := Da) (ks := ks.map fun p => ((.inl p.1 : Key), p.2))
      have fx : Fx K Da (.dK (ks.map fun p => ((.inl p.1 : Key), p.2))) := DictR.fx (F := F2) (c := ⟨false, kv⟩) ⟨ks, rfl, hnd, hA⟩
      have hD3 := s3.keep Da _ hDl hDr fx
      have nx : ∀ {Fa Ha Fb Hb : Hp} {rsb : RS}, Step K R rsb Fa Ha Fb Hb → Ha Da = some (.dK (ks.map fun p => ((.inl p.1 : Key), p.2))) → Fa Da = none → Fb Da = none := fun {Fa Ha Fb Hb rsb} s h1 h2 => by
        cases q : Fb Da with
        | none => rfl
        | some o =>
          rcases s.new Da o q with z | z
          · rw [h2] at z; cases z
          · rw [h1] at z; cases z
      have hDF3 : F3 Da = none := nx s3 hDl hDF
      refine hgs L E F3 (wipeE ρ vs) (L2.wipe σ vs) _ H3 v x ρ3 _ (r3.wipe vs) hd e5 fun σ4 r4 o4 => ⟨?_, ?_⟩
      · rw [wipe_off o4 hS]
        apply List.ext_getElem?
        intro j
        rw [wipe_at, wipe_at]
        by_cases hj : j ∈ vs
        · rw [if_pos hj, if_pos hj, wipe_length]
        · rw [if_neg hj, if_neg hj]
      · refine ht L E ρ3 σ4 F3 H3 _ b rs5 _ r4 e6 fun F5 H5 s5 => ?_
        have s15 := s13.trans r1.row s5
        have hD5 := s5.keep Da _ hD3 hDr fx
        have hDF5 : F5 Da = none := nx s5 hD3 hDF3
        cases b with
        | true =>
          rw [if_pos rfl] at el3 ⊢
          obtain ⟨y, rs6, e7, el4⟩ := bnd_some el3
          obtain ⟨ki, rs7, e8, el5⟩ := bnd_some el4
          obtain ⟨e9, q9⟩ := lft_some e8
          subst q9
          obtain ⟨z, rs8, e10, el6⟩ := bnd_some el5
          obtain ⟨vd, rs9, e11, el7⟩ := bnd_some el6
          obtain ⟨e12, q12⟩ := lft_some e11
          subst q12
          refine hk L E ρ3 σ4 F5 H5 rs5 y _ _ (r4.step s5) e7 fun w F6 H6 s6 h6 => ?_
          have hw := h6.int e9
          subst hw
          have hD6 := s6.keep Da _ hD5 hDr fx
          have hDF6 : F6 Da = none := nx s6 hD5 hDF5
          refine hv L E ρ3 σ4 F6 H6 _ z _ _ ((r4.step s5).step s6) e10 fun u F7 H7 s7 h7 => ?_
          have hu := h7.key e12
          have hD7 := s7.keep Da _ hD6 hDr fx
          have hDF7 : F7 Da = none := nx s7 hD6 hDF6
          have s17 := (s15.trans r1.row s6).trans r1.row s7
          have hsub : ∀ a o, F2 a = some o → F7 a = some o := fun a o q => s7.sub a o (s6.sub a o (s5.sub a o (s3.sub a o q)))
          have hA7 : Paired (fun (p : Int × V) (q : D × D) => q.1 = .int p.1 ∧ Dp K F7 p.2 q.2) ks kv := Paired.imp hA fun x y z => ⟨z.1, Dp.mono hsub _ _ z.2⟩
          obtain ⟨ks2, k1, k2, k3⟩ := put_int (i := ki) (v := u) (vd := vd) hnd hA7 hu
          refine ⟨_, .inl ki, rfl, hD7, ?_, F7, _, ks2, putD kv (.int ki) vd, ?_, by rw [k1]; exact upd_same, hDF7, k2, k3, ?_, el7⟩
          · rw [List.length_map, Paired.len hA7]
            exact sz_lt (by omega)
          · refine ⟨fun a o q z n => ?_, s17.sub, s17.new, fun a o q => ?_, ⟨fun q e => ?_, tabs_updG s17.row.tab hD7 tb.1 tb.2, s17.row.fnt⟩, s17.rF⟩
            · rw [upd_ne (fun zz => by rw [zz, hD] at q; cases q)]
              exact s17.keep a o q z n
            · rw [upd_ne (fun zz => by rw [zz, hDF7] at q; cases q)]
              exact s17.fin a o q
            · obtain ⟨a, z1, z2⟩ := s17.row.at_ q e
              exact ⟨a, by rw [upd_ne (fun zz => hDr (by rw [← zz, e]))]; exact z1, z2⟩
          · have := putD_len kv (.int ki) vd
            omega
        | false =>
          rw [if_neg Bool.false_ne_true] at el3 ⊢
          have hsub : ∀ a o, F2 a = some o → F5 a = some o := fun a o q => s5.sub a o (s3.sub a o q)
          exact ⟨F5, rs5, ks, kv, s15, hD5, hDF5, hnd, Paired.imp hA fun x y z => ⟨z.1, Dp.mono hsub _ _ z.2⟩, by omega, el3⟩
    · rintro H2 ⟨F2, rs3, ks, kv, s2, hDl, hDF, hnd, hA, _, el1⟩
      rw [List.drop_length] at el1
      obtain ⟨e7, q7⟩ := ret_some el1
      subst e7 q7
      have s02 := s1.trans r.row s2
      exact kk _ F2 H2 s02 ⟨Da, _, rfl, hDl, s1.back r.row hD, hDF, hDr, ⟨ks, rfl, hnd, hA⟩⟩
  · have hf2 : (if its.length ≤ 50000 then bnd (dcF hg tst kf vf (wipeE ρ vs) its []) fun kv => ret (RV.gn ⟨false, kv⟩) else fail) rs1 = some (x, rs') := hf1
    rw [if_neg hlen] at hf2
    cases hf2
theorem de_dc {scope : Scope} {own : List (Str × Nat)} {fi : Env → M (List D × Option Nat)} {tst : Env → M Bool} {kf vf : Env → M RV} (hc : X.calm = true) (hN : X.N.Nodup) (hi : DI X R tg it wi fi) (ok : BlkOk X.N X.env.scope scope own) (hS : ∀ i ∈ S, i ∈ own.map (·.2))
    (hg' : ∀ (s : Shared) (H : Hp) (C : Addr) (cl : List (Str × Addr)) (fp : List Addr), DG (X.blk s H scope (compEnvC scope cl C X.env) fp) R S tg g hg) (ht : ∀ (s : Shared) (H : Hp) (C : Addr) (cl : List (Str × Addr)) (fp : List Addr), DTs (X.blk s H scope (compEnvC scope cl C X.env) fp) R ifs tt tst)
    (hk : ∀ (s : Shared) (H : Hp) (C : Addr) (cl : List (Str × Addr)) (fp : List Addr), DE (X.blk s H scope (compEnvC scope cl C X.env) fp) R kx tk kf) (he : ∀ (s : Shared) (H : Hp) (C : Addr) (cl : List (Str × Addr)) (fp : List Addr), DE (X.blk s H scope (compEnvC scope cl C X.env) fp) R vx tv vf) (hs : ∀ x, foldedSetIterable it X.env x = pure x := by intro _; rfl) :
    DE X R (.DictComp kx vx [⟨tg, it, ifs, 0⟩] scope pos) (tDc wi g tt tk tv (own.map (·.2))) (eDc fi (own.map (·.2)) hg tst kf vf) :=
  ⟨pe_dc hc hN hi.pi ok (fun s H C cl fp => (hg' s H C cl fp).pg) (fun s H C cl fp => (ht s H C cl fp).pt) (fun s H C cl fp => (hk s H C cl fp).pe) (fun s H C cl fp => (he s H C cl fp).pe) hs,
    esem_dc hi.sem (hg' {} (fun _ => none) 0 [] []).sem hS (ht {} (fun _ => none) 0 [] []).sem (hk {} (fun _ => none) 0 [] []).sem (he {} (fun _ => none) 0 [] []).sem⟩
end
end DV


namespace DVL
open PySem L2 DV
def g__law_taken : DV.Env → M Out :=
  (sSeq (sIf (eT (e2 gGt (eRow 0 3) (eC (.int 0)))) (sSeq (sSet 2 (e2 gMod (eCall gInt (aCons (eRow 0 3) aNil)) (eVar 1)))
  (sSeq (sRowPut 0 3 (e2 gFdiv (eRow 0 3) (eVar 1)))
  (sRetV 2))) sNil)
  (sSeq (sRowPut 0 1 (e2 gAddA (eRow 0 1) (eC (.int 1))))
  (sSeq (sIf (eT (e2 gGt (eRow 0 1) (eCall gLen (aCons (eRow 0 0) aNil)))) (sSeq (sRowPut 0 2 (e2 gMod (eCall gInt (aCons (e2 gAddA (e2 gMulA (eRow 0 2) (eC (.int 48271))) (eC (.int 11))) aNil)) (eC (.int 2147483647))))
  (sRet (e2 gMod (eCall gInt (aCons (e2 gFdiv (eRow 0 2) (eC (.int 7))) aNil)) (eVar 1)))) sNil)
  (sSeq (sSet 3 (e2 gIx (eRow 0 0) (e2 gSubI (eRow 0 1) (eC (.int 1)))))
  (sSeq (sRowPut 0 2 (e2 gMod (eCall gInt (aCons (e2 gAddA (e2 gAddA (e2 gMulA (eRow 0 2) (eC (.int 48271))) (eVar 3)) (eC (.int 11))) aNil)) (eC (.int 2147483647))))
  (sSeq (sIf (eT (e2 gGe (eVar 3) (e2 gPow (eC (.int 10)) (eC (.int 18))))) (sRowPut 0 3 (e2 gFdiv (eVar 3) (eVar 1))) sNil)
  (sRet (e2 gMod (eCall gInt (aCons (eVar 3) aNil)) (eVar 1)))))))))
def m__law_taken : List RV → M RV := runDef 4 g__law_taken
def g__law_pick : DV.Env → M Out :=
  (sRet (e2 gIx (eVar 1) (eFn (fun xs => if xs.length = 2 then m__law_taken xs else fail) (aCons (eVar 0) (aCons (eCall gLen (aCons (eVar 1) aNil)) aNil)))))
def m__law_pick : List RV → M RV := runDef 2 g__law_pick
def g__law_order : DV.Env → M Out :=
  (sSeq (sPar 2 3 (aCons (eListRg (rg1F (eVar 1))) (aCons (eLst aNil) aNil)))
  (sSeq (sFor (iRng1F (eVar 1)) (gNm 4) (sPopApp 3 2 (eFn (fun xs => if xs.length = 2 then m__law_taken xs else fail) (aCons (eVar 0) (aCons (eCall gLen (aCons (eVar 2) aNil)) aNil)))))
  (sRet (eCall gTuple (aCons (eVar 3) aNil)))))
def m__law_order : List RV → M RV := runDef 5 g__law_order
def g__law_orders : DV.Env → M Out :=
  (sSeq (sSet 2 (eLst (aCons (eTup aNil) aNil)))
  (sSeq (sFor (iRng1F (eVar 0)) (gNm 3) (sSeq (sSet 4 (eLst aNil))
  (sSeq (sFor (srcV 2) (gNm 5) (sFor (iRng1F (eVar 0)) (gNm 6) (sIf (tIfT (eT (e2 gNotIn (eVar 6) (eVar 5))) (eT (e2 gEq (eLc (srcV 1) [7] (gNm 7) (tIfT (eT (e2 gEq (e2 gIx (eVar 7) (eC (.int 1))) (eVar 6))) (eT (e2 gNotIn (e2 gIx (eVar 7) (eC (.int 0))) (eVar 5))) (tRetB false)) (eVar 7)) (eLst aNil))) (tRetB false)) (sApp 4 (e2 gAddA (eVar 5) (eTup (aCons (eVar 6) aNil)))) sNil)))
  (sMove 2 4))))
  (sRetV 2)))
def m__law_orders : List RV → M RV := runDef 8 g__law_orders
def g_is_integer : DV.Env → M Out :=
  (sRet (eIfB (eIsT .int (eVar 0)) (eNotB (eIsT .bool (eVar 0))) (eC (.bool false))))
def m_is_integer : List RV → M RV := runDef 1 g_is_integer
def g_is_in : DV.Env → M Out :=
  (sRet (eIfB (eFn (fun xs => if xs.length = 1 then m_is_integer xs else fail) (aCons (eVar 0) aNil)) (eCh gLe gLe (eVar 1) (eVar 0) (eVar 2)) (eC (.bool false))))
def m_is_in : List RV → M RV := runDef 3 g_is_in
def g_is_list : DV.Env → M Out :=
  (sRet (eIfB (eIsT .tuple (eVar 0)) (eCh gLe gLe (eVar 1) (eCall gLen (aCons (eVar 0) aNil)) (eVar 2)) (eC (.bool false))))
def m_is_list : List RV → M RV := runDef 3 g_is_list
end DVL

namespace DV
open PySem L2 PyProof.Rows
section
variable {X : Cx} {K : PySem.W.Frag} {R : RA} {L : Nat → Option (Addr × HO)} {E F F' H H' : Hp} {ρ ρ' : Env} {σ σ' : L2.St} {rs rs' : RS} {tg e c : Expr} {pos p : Pos} {te : TE} {f : Env → M RV}
def dI : D → Option Int
  | .int a => some a
  | _ => none
/-- x[k] op= e, ints -/
def sAugIx (i : Nat) (kf : Int → Int → Int) (g f : Env → M RV) : Env → M Out := fun ρ => bnd (lft (sApp.own? ρ i)) fun ds => bnd (g ρ) fun y => bnd (lft (asInt y)) fun j => bnd (lft (ixN ds.length j)) fun m => bnd (lft ((ds[m]?).bind dI)) fun a => bnd (f ρ) fun x => bnd (lft (asInt x)) fun b => ret (.nx (ρ.set i (some (.o (ds.set m (.int (kf a b)))))))
def pickA {α : Type} (xs : List α) (lo st : Int) : List α := (sliceRange (sliceBounds (some lo) none (some st) xs.length).1 (sliceBounds (some lo) none (some st) xs.length).2.1 (sliceBounds (some lo) none (some st) xs.length).2.2).filterMap (xs[·]?)
def eStep (f : Env → M RV) (lo st : Env → M (Option Int)) : Env → M RV := fun ρ => bnd (f ρ) fun x => bnd (lo ρ) fun l => bnd (st ρ) fun k => match l, k with
  | some l, some k => if k = 0 then fail else bnd (lft (newL x)) fun ds => ret (.n (pickA ds l k))
  | _, _ => fail
inductive Tgt where
  | nm (i : Nat) | sb (i : Nat) (f : Env → M RV)
def tgtF : Tgt → D → Env → M Env
  | .nm i, d, ρ => ret (ρ.set i (some (.d d)))
  | .sb i f, d, ρ => bnd (lft (sApp.own? ρ i)) fun ds => bnd (f ρ) fun y => bnd (lft (asInt y)) fun j => bnd (lft (ixN ds.length j)) fun m => ret (ρ.set i (some (.o (ds.set m d))))
def asDat : RV → Option D
  | .d x => some x
  | _ => none
def sTwo (t1 t2 : Tgt) (fa : Env → M (List RV)) : Env → M Out := fun ρ => bnd (fa ρ) fun xs => match xs with
  | [x, y] => bnd (lft (asDat x)) fun d => bnd (lft (asDat y)) fun e => bnd (tgtF t1 d ρ) fun ρ1 => bnd (tgtF t2 e ρ1) fun ρ2 => ret (.nx ρ2)
  | _ => fail
end
end DV

namespace DV
open PySem L2 PyProof.Rows PySem.Spec
section
variable {X : Cx} {K : PySem.W.Frag} {R : RA}
/-- the exact tuple at p -/
def TupAt (K : PySem.W.Frag) (H : Hp) (p : Addr) (ds : List D) : Prop := L2.Dp K H (.ref p) (.tuple ds) ∧ Exa H p
theorem tupAt_obj {pins : List (Addr × Obj)} {σ : L2.St} {H : Hp} {s : Shared} {p : Addr} {ds : List D} (I : Inv X pins σ H s) (h : TupAt X.K H p ds) :
    ∃ (its : List Value) (n : Nat) (sl : Array (Option Value)) (as : List Addr), s.heap.get? p = some { cls := .type "tuple", dict := none, data := .seq its.toArray n, slots := sl } ∧ ReadsAll s.heap its ds as := by
  obtain ⟨hd, o, u, e, dn⟩ := h
  cases hd with
  | tup hs ha =>
    obtain ⟨its, rv, ⟨⟨cls, dd, data, sl⟩, ho, hc, n, hdt⟩, _⟩ := I.tuple hs
    obtain ⟨as, h4⟩ := L2.Dp.readsAll I ds _ its ha rv
    simp only at hc hdt
    subst hc hdt
    have eo : s.heap.get? p = some o := (I.hok p _ e).1
    rw [ho] at eo
    have eo := Option.some.inj eo
    subst eo
    have dn : dd = none := dn
    subst dn
    exact ⟨its, n, sl, as, ho, h4⟩
def rIndexT (K : PySem.W.Frag) : V → List V → Hp → VK → Prop := fun x xs H Q => ∃ (p : Addr) (y : V) (d : D) (ds : List D) (j : Nat) (z : D), x = V.ref p ∧ xs = [y] ∧ TupAt K H p ds ∧ L2.Dp K H y d ∧ SeqAt.shaped (.list ds) = true ∧ SeqAt.shaped d = true ∧
  ds[j]? = some z ∧ PyData.eqv z d = true ∧ (∀ (m : Nat) (z' : D), m < j → ds[m]? = some z' → PyData.eqv z' d = false) ∧ Q (.int (j : Nat)) H
theorem mt_indexT (hu : X.A.units + 65 < cLine) : MtR X "tuple.index" (rIndexT X.K) := fun pins s σ H x xs v us Q I rx rxs h => by
  obtain ⟨p, y, d, ds, j, z, ex, exs, hl, hy, sl, sd, hz, hzj, hno, q⟩ := h
  subst ex exs
  obtain rfl : v = Value.ref p := rx
  obtain ⟨uy, rfl, ry⟩ := vals1 rxs
  obtain ⟨bs, r1⟩ := L2.Dp.reads I d y uy hy ry
  have hxs : PyData.canLayAll0 ds = true := SeqAt.canLay_of_shaped sl
  have room : X.A.units + 1 + min (PyData.depthAll ds) d.depth < cLine := room_in_shaped sd hu
  obtain ⟨its, n, sls, as, ho, h4⟩ := tupAt_obj I hl
  have hn : its.length = ds.length := SeqAt.ReadsAll.length ds its as h4
  have hmap : its.map (SeqAt.readOf s.heap) = ds := SeqAt.readsAll_map ds its as hxs h4
  obtain ⟨hjd, _⟩ := List.getElem?_eq_some_iff.mp hz
  have hj : j < its.toArray.size := by rw [List.size_toArray]; omega
  have pick : ∀ (m : Nat) (hm : m < its.toArray.size) (z' : D), ds[m]? = some z' → SeqAt.readOf s.heap its.toArray[m] = z' := fun m hm z' e => by
    have hml : m < its.length := by simpa using hm
    rw [← hmap, List.getElem?_map, List.getElem?_eq_getElem hml] at e
    have e1 := Option.some.inj e
    simpa using e1
  have key := TI.tuple_indexAt p its.toArray n none sls uy (fun u => PyData.eqv (SeqAt.readOf s.heap u) d) j hj (by rw [pick j hj z hz]; exact hzj) fun m hm hmj => by
    have hmd : m < ds.length := by omega
    rw [pick m hm _ (List.getElem?_eq_getElem hmd)]
    exact hno m _ hmj (List.getElem?_eq_getElem hmd)
  exact call_meets PySem.F.slot_tuple_index ⟨_, ho, rfl⟩ PySem.F.entry_tuple_index (PySem.F.args_tuple_index_2 _ _) key
    ⟨ho, SeqAt.items_eqAt (vs := its.toArray) (show ReadsAll s.heap its.toArray.toList ds as from h4) r1 hxs (SeqAt.canLay_of_shaped sd) room, ⟨.int (j : Nat), H, I.tok _, ⟨_, rfl⟩, q⟩⟩
def tBMT (K : PySem.W.Frag) (r : V → List V → Hp → VK → Prop) (to : TE) (t : TA) : TE := fun σ H Q => to σ H fun x H1 => (∃ p ds, x = .ref p ∧ TupAt K H1 p ds) ∧ t σ H1 fun xs H2 => r x xs H2 Q
theorem pe_bmT {o e : Expr} {es : List Expr} {to : TE} {t : TA} {name : Str} {apos cpos : Pos} {id : String} {r : V → List V → Hp → VK → Prop} (slot : Slot "tuple" name id) (hty : typeOf (.builtin id) = pure (.type "method_descriptor")) (hm : MtR X id r) (ho : PE X o to) (ha : PA X (e :: es) t)
    (hb : attributeBase o name X.env (eval o X.env) = eval o X.env := by rfl)
    (hf : ((backTo cpos (starEach (e :: es) X.env)).all (fun x => !x.1) && (backToKw cpos (keywordEach [] X.env)).all (fun x => x.1.isSome) && decide ((e :: es).length + ([] : List Keyword).length + (if ([] : List Keyword).isEmpty then 0 else 1) < 30)) = true := by rfl)
    (hl : (apos.endLine == cpos.line) = true := by rfl) (hs : starEach (e :: es) X.env = (false, eval e X.env) :: starEach es X.env := by rfl) (hp : (backTo cpos (starEach es X.env)).any (·.1) = false := by rfl) :
    PE X (.Call (.Attribute o name apos) (e :: es) [] cpos) (tBMT X.K r to t) := ⟨fun pins s σ H Q I h => by
  refine wpAny_Call_method_late hb hf hl rfl (thn (ho.run pins s σ H _ I h) fun v s1 hh => ?_)
  obtain ⟨x, H1, J, r1, ⟨p, ds, ex, hT⟩, q1⟩ := hh
  subst ex
  obtain rfl : v = Value.ref p := r1
  obtain ⟨its, n, sl, as, hg, _⟩ := tupAt_obj J hT
  refine ⟨"tuple", id, PySem.F.plainAttrs_tuple, slot, hty, ⟨_, hg, rfl⟩, fun a ea => ?_, ?_⟩
  · cases ea
    exact ⟨_, hg, rfl⟩
  · have hA := ha.run cpos pins s1 σ H1 _ J q1
    rw [hs] at hA ⊢
    refine Calls.callWith_builtin (by show (false || (backTo cpos (starEach es X.env)).any (·.1)) = false; rw [hp] <;> rfl) (Calls.evalArgs_plain (thn hA fun us s2 hh2 => ?_))
    obtain ⟨vs, H2, J2, r2, q2⟩ := hh2
    exact hm pins s2 σ H2 (.ref p) vs (.ref p) us Q J2 rfl r2 q2⟩
def itemsT : RV → Option (List D)
  | .d (.tuple ds) => some ds
  | _ => none
theorem VR.isTT {F H0 H : Hp} {rs : RS} {v : V} {x : RV} {ds : List D} (s : Step K R rs F H F H) (hv : VR K R F H0 H v x) (e : itemsT x = some ds) : ∃ p, v = .ref p ∧ TupAt K H p ds := by
  unfold itemsT at e
  split at e
  · cases e
    cases hv with
    | tup h1 h2 h3 => exact ⟨_, rfl, (Dp.mono s.fin _ _ (.tup h1 h2 h3)).kit _ _, h3.mono s.fin⟩
  · cases e
def eMetT (gg : RV → RV → Option RV) (f h : Env → M RV) : Env → M RV := fun ρ => bnd (f ρ) fun x => bnd (lft (itemsT x)) fun _ => bnd (h ρ) fun y => lft (gg x y)
theorem esem_metT {to te : TE} {f h : Env → M RV} {r : V → List V → Hp → VK → Prop} {gg : RV → RV → Option RV} (hr : MSem K R r gg) (ho : ESem K R to f) (he : ESem K R te h) : ESem K R (tBMT K r to (tCons te tNil)) (eMetT gg f h) := fun L E ρ σ F H rs x0 rs' Q r0 hf kk => by
  obtain ⟨x1, rs1, e1, hf1⟩ := bnd_some hf
  obtain ⟨ds, rs2, e2, hf2⟩ := bnd_some hf1
  obtain ⟨e3, q3⟩ := lft_some e2
  subst q3
  obtain ⟨x2, rs4, e4, hf4⟩ := bnd_some hf2
  obtain ⟨e5, q5⟩ := lft_some hf4
  subst q5
  refine ho L E ρ σ F H rs x1 _ _ r0 e1 fun v1 F1 H1 s1 h1 => ?_
  have r1 := r0.step s1
  obtain ⟨p, rfl, hT⟩ := VR.isTT r1.refl h1 e3
  refine ⟨⟨p, ds, rfl, hT⟩, ?_⟩
  refine he L E ρ σ F1 H1 _ x2 _ _ r1 e4 fun v2 F2 H2 s2 h2 => ?_
  have s12 := s1.trans r0.row s2
  refine hr F2 H H2 _ _ v2 x1 x2 x0 Q (r1.step s2).refl (h1.step s2) (h2.older fun a q => s1.back r0.row q) e5 fun v3 F3 H3 s3 h3 => ?_
  exact kk v3 F3 H3 (s12.trans r0.row s3) (h3.older fun a q => s12.back r0.row q)
def gIndexT : RV → RV → Option RV := fun x y => match itemsT x, y with
  | some ds, .d d => if SeqAt.shaped (.list ds) = true ∧ SeqAt.shaped d = true then (idxOf ds d).map fun j => .d (.int (j : Nat)) else none
  | _, _ => none
theorem msem_indexT : MSem K R (rIndexT K) gIndexT := fun F H0 H rs x y p q z Q s hx hy e k => by
  unfold gIndexT at e
  split at e
  · rename_i ds d e1
    split at e
    · rename_i hc
      cases e2 : idxOf ds d with
      | none => rw [e2] at e; cases e
      | some j =>
        rw [e2] at e
        cases e
        obtain ⟨a, rfl, hT⟩ := VR.isTT s hx e1
        unfold idxOf at e2
        rw [List.findIdx?_eq_some_iff_getElem] at e2
        obtain ⟨hj, k1, k2⟩ := e2
        refine ⟨a, y, d, ds, j, ds[j], rfl, rfl, hT, (Dp.mono s.fin _ _ hy).kit _ _, hc.1, hc.2, List.getElem?_eq_getElem hj, k1, fun m z' hm hz => ?_, k _ F H s (Dp.int _)⟩
        rw [List.getElem?_eq_getElem (Nat.lt_trans hm hj)] at hz
        cases hz
        simpa using k2 m hm
    · cases e
  · cases e
theorem de_indexT {o e : Expr} {to te : TE} {f h : Env → M RV} {apos cpos : Pos} (hu : X.A.units + 65 < cLine) (ho : DE X R o to f) (he : DE X R e te h) (pe : PE X o to → PE X e te → PE X (.Call (.Attribute o "index" apos) [e] [] cpos) (tBMT X.K (rIndexT X.K) to (tCons te tNil))) :
    DE X R (.Call (.Attribute o "index" apos) [e] [] cpos) (tBMT X.K (rIndexT X.K) to (tCons te tNil)) (eMetT gIndexT f h) := ⟨pe ho.pe he.pe, esem_metT msem_indexT ho.sem he.sem⟩
end
end DV

namespace Lk63
open PySem L2 DV
def top (i : Nat) : Stmt := PySem.Challenge.pw_shoporders_k63_whole_robots.main.body.getD i (.Pass ⟨0, 0, 0, 0⟩)
abbrev s__law_begins : Stmt := top 24
abbrev s__law_taken : Stmt := top 20
abbrev s__law_order : Stmt := top 22
abbrev s__law_orders : Stmt := top 23
abbrev s__law_pick : Stmt := top 21
abbrev s__law_robot : Stmt := top 25
abbrev s_is_integer : Stmt := top 1
abbrev s_is_in : Stmt := top 2
abbrev s_is_list : Stmt := top 3
abbrev s_need_line : Stmt := top 13
abbrev s_lowest : Stmt := top 11
abbrev s_rings_of : Stmt := top 12
abbrev s_robot_links : Stmt := top 15
abbrev s_robot_in : Stmt := top 17
abbrev s_best_robot : Stmt := top 18
abbrev s_need_cycle : Stmt := top 14
abbrev s_robot_round : Stmt := top 16
abbrev s_law : Stmt := top 26
structure Txt (mg : Str → Option Value) : Prop where
  b_abs : mg "abs" = none
  b_all : mg "all" = none
  b_bool : mg "bool" = none
  b_enumerate : mg "enumerate" = none
  b_int : mg "int" = none
  b_isinstance : mg "isinstance" = none
  b_len : mg "len" = none
  b_list : mg "list" = none
  b_max : mg "max" = none
  b_range : mg "range" = none
  b_set : mg "set" = none
  b_sum : mg "sum" = none
  b_tuple : mg "tuple" = none
  c_MOST_TIME : ∃ tk, mg "MOST_TIME" = some (.int 60 tk)
section
variable {P : Program} {w : World} {K : PySem.W.Frag} {mg : Str → Option Value} {base : Heap}
abbrev nm__law_begins : List Str := ["_law_many", "_law_links", "_law_top", "_law_bottom", "_law_begins_here", "_law_turn", "_law_before", "_law_one", "_law_other", "_law_time", "_law_rounds"]
theorem sc__law_begins : FnScope nm__law_begins ["_law_many", "_law_links", "_law_top", "_law_bottom"] (defScope s__law_begins) := ⟨rfl, rfl, rfl, by decide +kernel, rfl, by decide +kernel, by decide +kernel⟩
def g__law_begins : DV.Env → M Out :=
  (sSeq (sSet 4 (e2 gMulA (eLst (aCons (eC (.int 0)) aNil)) (eVar 0)))
  (sSeq (sFor (iRng1F (e2 gAddA (eVar 0) (eC (.int 1)))) (gNm 5) (sSeq (sSet 6 (eCall gList (aCons (eVar 4) aNil)))
  (sSeq (sFor (srcV 1) (gTupF 4 (gMore (gNm 7) (gMore (gNm 8) (gMore (gNm 9) (gMore (gNm 10) gNone))))) (sPut 4 (eCall gMax2 (aCons (e2 gIx (eVar 4) (eVar 8)) (aCons (e2 gSubI (e2 gAddA (e2 gIx (eVar 4) (eVar 7)) (e2 gMulA (eVar 9) (eVar 3))) (e2 gMulA (eVar 10) (eVar 2))) aNil))) (eVar 8)))
  (sIf (eT (e2 gEq (eVar 6) (eVar 4))) (sRetV 4) sNil))))
  (sRet (eC .none))))
def m__law_begins : List RV → M RV := runDef 11 g__law_begins
theorem ok__law_begins {f : Addr} {fd : FuncData} (F : Fun K "_law_begins" "_law_begins" s__law_begins f fd) (T : Txt mg)  : FnOk P w K mg base CX0 1 f fd ["_law_many", "_law_links", "_law_top", "_law_bottom"] (spFn K 4 m__law_begins) := by
  have sc := sc__law_begins
  have e : spFn K 4 m__law_begins = spFn K (["_law_many", "_law_links", "_law_top", "_law_bottom"] : List Str).length (runDef nm__law_begins.length g__law_begins) := rfl
  rw [e]
  refine fn_ok (P := P) (w := w) (mg := mg) (base := base) (k := 0) (g := g__law_begins) F sc ?_
  intro R cdv A outer s H E hcd hr
  exact ⟨_, (dss_cons (ds_set (i := 4) sc.nd (by rfl) (by first | exact Or.inl rfl | exact Or.inr rfl) (de_op (r := (rMulA K)) op_mulA rsem_mul (de_lst (da_cons de_int da_nil)) (de_var 0)))
    (dss_cons (ds_for PassesOwn.never (by rfl) (di_range1 (by rfl) T.b_range (de_op (r := (rAddA K)) op_addA rsem_add (de_var 0) de_int)) (dg_name (i := 5) sc.nd (by rfl) (by first | exact Or.inl rfl | exact Or.inr rfl)) (dss_cons (ds_set (i := 6) sc.nd (by rfl) (by first | exact Or.inl rfl | exact Or.inr rfl) (de_callTy (r := (DV.rList K)) call_list_of csem_list (by rfl) T.b_list PyProof.Rows.boot_list (da_cons (de_var 4) da_nil)))
    (dss_cons (ds_for PassesOwn.never (by rfl) (di_seq (src_v 1)) (dg_tup (by rfl) (dgs_cons (dg_name (i := 7) sc.nd (by rfl) (by first | exact Or.inl rfl | exact Or.inr rfl)) (dgs_cons (dg_name (i := 8) sc.nd (by rfl) (by first | exact Or.inl rfl | exact Or.inr rfl)) (dgs_cons (dg_name (i := 9) sc.nd (by rfl) (by first | exact Or.inl rfl | exact Or.inr rfl)) (dgs_cons (dg_name (i := 10) sc.nd (by rfl) (by first | exact Or.inl rfl | exact Or.inr rfl)) dgs_nil))))) (dss_one (ds_putF (i := 4) (de_callB (r := (fun xs H Q => ∃ i j, xs = [.int i, .int j] ∧ Q (.int (if j > i then j else i)) H)) (call_max2 (by rfl)) csem_max2 (by rfl) T.b_max PyProof.Rows.boot_max (da_cons (de_ix (de_var 4) (de_var 8)) (da_cons (de_op (r := (rI0 fun i j => .int (i - j))) op_sub rs_sub (de_op (r := (rAddA K)) op_addA rsem_add (de_ix (de_var 4) (de_var 7)) (de_op (r := (rMulA K)) op_mulA rsem_mul (de_var 9) (de_var 3))) (de_op (r := (rMulA K)) op_mulA rsem_mul (de_var 10) (de_var 2))) da_nil))) (de_var 8) fun h => pg_sub (pv 4) h set_list)))
    (dss_one (ds_if (dt_cmp (r := (rEqD K)) (op_eqD (rm64 hr)) rsem_eq (de_var 6) (de_var 4) (nomark _)) (dss_one (ds_retV 4)) dss_nil)))))
    (dss_one (ds_ret de_non))))⟩
abbrev nm__law_taken : List Str := ["_law_row", "_law_many", "_law_found", "_law_cell"]
theorem sc__law_taken : FnScope nm__law_taken ["_law_row", "_law_many"] (defScope s__law_taken) := ⟨rfl, rfl, rfl, by decide +kernel, rfl, by decide +kernel, by decide +kernel⟩
abbrev g__law_taken : DV.Env → M Out := DVL.g__law_taken
abbrev m__law_taken : List RV → M RV := DVL.m__law_taken
theorem ok__law_taken {f : Addr} {fd : FuncData} (F : Fun K "_law_taken" "_law_taken" s__law_taken f fd) (T : Txt mg)  : FnOk P w K mg base CX0 1 f fd ["_law_row", "_law_many"] (spFn K 2 m__law_taken) := by
  have sc := sc__law_taken
  have e : spFn K 2 m__law_taken = spFn K (["_law_row", "_law_many"] : List Str).length (runDef nm__law_taken.length g__law_taken) := rfl
  rw [e]
  refine fn_ok (P := P) (w := w) (mg := mg) (base := base) (k := 0) (g := g__law_taken) F sc ?_
  intro R cdv A outer s H E hcd hr
  exact ⟨_, (dss_cons (ds_if (dt_cmp (r := (rI0 fun i j => .bl (decide (j < i)))) op_gt rs_gt (de_row 0 3 (de_var 0)) de_int (nomark _)) (dss_cons (ds_set (i := 2) sc.nd (by rfl) (by first | exact Or.inl rfl | exact Or.inr rfl) (de_op (r := (rI (fun _ j => 0 < j) fun i j => .int (i % j))) op_mod rs_mod (de_callTy (r := (fun xs H Q => (∃ i, xs = [.int i] ∧ Q (.int i) H) ∨ ∃ k, xs = [.bl k] ∧ Q (.int (if k then 1 else 0)) H)) call_int1 csem_int (by rfl) T.b_int PyProof.Rows.boot_int (da_cons (de_row 0 3 (de_var 0)) da_nil)) (de_var 1)))
    (dss_cons (ds_rowPut 0 3 (de_op (r := (rI CDiv fun i j => .int (i / j))) op_fdiv rs_fdiv (de_row 0 3 (de_var 0)) (de_var 1)) (de_var 0) (pg_sub (pv 0) pe_int set_list))
    (dss_one (ds_retV 2)))) dss_nil)
    (dss_cons (ds_rowPut 0 1 (de_op (r := (rAddA K)) op_addA rsem_add (de_row 0 1 (de_var 0)) de_int) (de_var 0) (pg_sub (pv 0) pe_int set_list))
    (dss_cons (ds_if (dt_cmp (r := (rI0 fun i j => .bl (decide (j < i)))) op_gt rs_gt (de_row 0 1 (de_var 0)) (de_callB (r := (DV.rLen K)) call_len_seq csem_len (by rfl) T.b_len PySem.boot_len (da_cons (de_row 0 0 (de_var 0)) da_nil)) (nomark _)) (dss_cons (ds_rowPut 0 2 (de_op (r := (rI (fun _ j => 0 < j) fun i j => .int (i % j))) op_mod rs_mod (de_callTy (r := (fun xs H Q => (∃ i, xs = [.int i] ∧ Q (.int i) H) ∨ ∃ k, xs = [.bl k] ∧ Q (.int (if k then 1 else 0)) H)) call_int1 csem_int (by rfl) T.b_int PyProof.Rows.boot_int (da_cons (de_op (r := (rAddA K)) op_addA rsem_add (de_op (r := (rMulA K)) op_mulA rsem_mul (de_row 0 2 (de_var 0)) de_int) de_int) da_nil)) de_int) (de_var 0) (pg_sub (pv 0) pe_int set_list))
    (dss_one (ds_ret (de_op (r := (rI (fun _ j => 0 < j) fun i j => .int (i % j))) op_mod rs_mod (de_callTy (r := (fun xs H Q => (∃ i, xs = [.int i] ∧ Q (.int i) H) ∨ ∃ k, xs = [.bl k] ∧ Q (.int (if k then 1 else 0)) H)) call_int1 csem_int (by rfl) T.b_int PyProof.Rows.boot_int (da_cons (de_op (r := (rI CDiv fun i j => .int (i / j))) op_fdiv rs_fdiv (de_row 0 2 (de_var 0)) de_int) da_nil)) (de_var 1))))) dss_nil)
    (dss_cons (ds_set (i := 3) sc.nd (by rfl) (by first | exact Or.inl rfl | exact Or.inr rfl) (de_ix (de_row 0 0 (de_var 0)) (de_op (r := (rI0 fun i j => .int (i - j))) op_sub rs_sub (de_row 0 1 (de_var 0)) de_int)))
    (dss_cons (ds_rowPut 0 2 (de_op (r := (rI (fun _ j => 0 < j) fun i j => .int (i % j))) op_mod rs_mod (de_callTy (r := (fun xs H Q => (∃ i, xs = [.int i] ∧ Q (.int i) H) ∨ ∃ k, xs = [.bl k] ∧ Q (.int (if k then 1 else 0)) H)) call_int1 csem_int (by rfl) T.b_int PyProof.Rows.boot_int (da_cons (de_op (r := (rAddA K)) op_addA rsem_add (de_op (r := (rAddA K)) op_addA rsem_add (de_op (r := (rMulA K)) op_mulA rsem_mul (de_row 0 2 (de_var 0)) de_int) (de_var 3)) de_int) da_nil)) de_int) (de_var 0) (pg_sub (pv 0) pe_int set_list))
    (dss_cons (ds_if (dt_cmp (r := (rI0 fun i j => .bl (decide (j ≤ i)))) op_ge rs_ge (de_var 3) (de_op (r := (rI CPow fun i j => .int (i ^ j.toNat))) op_pow rs_pow de_int de_int) (nomark _)) (dss_one (ds_rowPut 0 3 (de_op (r := (rI CDiv fun i j => .int (i / j))) op_fdiv rs_fdiv (de_var 3) (de_var 1)) (de_var 0) (pg_sub (pv 0) pe_int set_list))) dss_nil)
    (dss_one (ds_ret (de_op (r := (rI (fun _ j => 0 < j) fun i j => .int (i % j))) op_mod rs_mod (de_callTy (r := (fun xs H Q => (∃ i, xs = [.int i] ∧ Q (.int i) H) ∨ ∃ k, xs = [.bl k] ∧ Q (.int (if k then 1 else 0)) H)) call_int1 csem_int (by rfl) T.b_int PyProof.Rows.boot_int (da_cons (de_var 3) da_nil)) (de_var 1))))))))))⟩
abbrev nm__law_order : List Str := ["_law_row", "_law_many", "_law_left", "_law_found", "_law_turn"]
theorem sc__law_order : FnScope nm__law_order ["_law_row", "_law_many"] (defScope s__law_order) := ⟨rfl, rfl, rfl, by decide +kernel, rfl, by decide +kernel, by decide +kernel⟩
abbrev g__law_order : DV.Env → M Out := DVL.g__law_order
abbrev m__law_order : List RV → M RV := DVL.m__law_order
theorem ok__law_order {f : Addr} {fd : FuncData} (F : Fun K "_law_order" "_law_order" s__law_order f fd) (T : Txt mg) (C__law_taken : Cal P w K mg base "_law_taken" 1 ["_law_row", "_law_many"] 2 m__law_taken) : FnOk P w K mg base CX0 2 f fd ["_law_row", "_law_many"] (spFn K 2 m__law_order) := by
  have sc := sc__law_order
  have e : spFn K 2 m__law_order = spFn K (["_law_row", "_law_many"] : List Str).length (runDef nm__law_order.length g__law_order) := rfl
  rw [e]
  refine fn_ok (P := P) (w := w) (mg := mg) (base := base) (k := 1) (g := g__law_order) F sc ?_
  intro R cdv A outer s H E hcd hr
  exact ⟨_, (dss_cons (ds_par (i := 2) (j := 3) (by rfl) sc.nd (by rfl) (by rfl) (by decide) (by rfl) (by rfl) (de_listRg (by rfl) (by rfl) T.b_list (drg_1 (by rfl) T.b_range (de_var 1))) (de_lst da_nil) (by rfl))
    (dss_cons (ds_for PassesOwn.never (by rfl) (di_range1 (by rfl) T.b_range (de_var 1)) (dg_name (i := 4) sc.nd (by rfl) (by first | exact Or.inl rfl | exact Or.inr rfl)) (dss_one (ds_popAppF (i := 3) (j := 2) (de_call C__law_taken hr (by decide) (by rfl) (da_cons (de_var 0) (da_cons (de_callB (r := (DV.rLen K)) call_len_seq csem_len (by rfl) T.b_len PySem.boot_len (da_cons (de_var 2) da_nil)) da_nil))) fun h => (pe_bm PySem.F.plainAttrs_list PySem.F.slot_list_append PySem.F.type_list_append mt_append (pv 3) (pa_cons (pe_bm PySem.F.plainAttrs_list PySem.F.slot_list_pop PySem.F.type_list_pop mt_popAt (pv 2) (pa_cons h pa_nil)) pa_nil)))))
    (dss_one (ds_ret (de_callTy (r := (DV.rTuple K)) call_tupX csem_tuple (by rfl) T.b_tuple PyProof.Rows.boot_tuple (da_cons (de_var 3) da_nil))))))⟩
abbrev nm__law_orders : List Str := ["_law_many", "_law_pairs", "_law_found", "_law_turn", "_law_longer", "_law_part", "_law_job", "_law_pair"]
theorem sc__law_orders : FnScope nm__law_orders ["_law_many", "_law_pairs"] (defScope s__law_orders) := ⟨rfl, rfl, rfl, by decide +kernel, rfl, by decide +kernel, by decide +kernel⟩
abbrev g__law_orders : DV.Env → M Out := DVL.g__law_orders
abbrev m__law_orders : List RV → M RV := DVL.m__law_orders
theorem ok__law_orders {f : Addr} {fd : FuncData} (F : Fun K "_law_orders" "_law_orders" s__law_orders f fd) (T : Txt mg)  : FnOk P w K mg base CX0 1 f fd ["_law_many", "_law_pairs"] (spFn K 2 m__law_orders) := by
  have sc := sc__law_orders
  have e : spFn K 2 m__law_orders = spFn K (["_law_many", "_law_pairs"] : List Str).length (runDef nm__law_orders.length g__law_orders) := rfl
  rw [e]
  refine fn_ok (P := P) (w := w) (mg := mg) (base := base) (k := 0) (g := g__law_orders) F sc ?_
  intro R cdv A outer s H E hcd hr
  exact ⟨_, (dss_cons (ds_set (i := 2) sc.nd (by rfl) (by first | exact Or.inl rfl | exact Or.inr rfl) (de_lst (da_cons (de_tup da_nil) da_nil)))
    (dss_cons (ds_for PassesOwn.never (by rfl) (di_range1 (by rfl) T.b_range (de_var 0)) (dg_name (i := 3) sc.nd (by rfl) (by first | exact Or.inl rfl | exact Or.inr rfl)) (dss_cons (ds_set (i := 4) sc.nd (by rfl) (by first | exact Or.inl rfl | exact Or.inr rfl) (de_lst da_nil))
    (dss_cons (ds_for PassesOwn.never (by rfl) (di_seq (src_v 2)) (dg_name (i := 5) sc.nd (by rfl) (by first | exact Or.inl rfl | exact Or.inr rfl)) (dss_one (ds_for PassesOwn.never (by rfl) (di_range1 (by rfl) T.b_range (de_var 0)) (dg_name (i := 6) sc.nd (by rfl) (by first | exact Or.inl rfl | exact Or.inr rfl)) (dss_one (ds_if (DW.dt (dw_and (dt_cmp (r := (rInA K true)) (op_notInA (rm65 hr)) (rsem_in true) (de_var 6) (de_var 5) (by with_unfolding_all rfl)) (dw_and1 (dt_cmp (r := (rEqD K)) (op_eqD (rm64 hr)) rsem_eq (de_lc (own := [("_law_pair", 7)]) (g := (gName 7)) (tt := (tAnd (tTest (tOp (rEqD K) (tOp (rIx K) (tVar 7) (tC (.int 1))) (tVar 6))) (tTest (tOp (rInA K true) (tOp (rIx K) (tVar 7) (tC (.int 0))) (tVar 5))))) (te := (tVar 7)) (by rfl) sc.nd (di_seq (src_v 1)) (blkOk_by (N := nm__law_orders) (sc := defScope s__law_orders) (by decide +kernel)) (by decide) (fun _ _ _ _ _ => (dg_name (i := 7) sc.nd (by rfl) (by first | exact Or.inl rfl | exact Or.inr rfl))) (fun _ _ _ _ _ => (dts_one (DW.dt (dw_and (dt_cmp (r := (rEqD K)) (op_eqD (rm64 hr)) rsem_eq (de_ix (de_var 7) de_int) (de_var 6) (nomark _)) (dw_and1 (dt_cmp (r := (rInA K true)) (op_notInA (rm65 hr)) (rsem_in true) (de_ix (de_var 7) de_int) (de_var 5) (by with_unfolding_all rfl))))))) (fun _ _ _ _ _ => (de_var 7))) (de_lst da_nil) (nomark _))))) (dss_one (ds_appendF (i := 4) (de_op (r := (rAddA K)) op_addA rsem_add (de_var 5) (de_tup (da_cons (de_var 6) da_nil))) fun h => (pe_bm PySem.F.plainAttrs_list PySem.F.slot_list_append PySem.F.type_list_append mt_append (pv 4) (pa_cons h pa_nil)))) dss_nil)))))
    (dss_one (ds_move (i := 2) (j := 4) sc.nd (by rfl) (by first | exact Or.inl rfl | exact Or.inr rfl) (by rfl))))))
    (dss_one (ds_retV 2))))⟩
abbrev nm__law_pick : List Str := ["_law_row", "_law_things"]
theorem sc__law_pick : FnScope nm__law_pick ["_law_row", "_law_things"] (defScope s__law_pick) := ⟨rfl, rfl, rfl, by decide +kernel, rfl, by decide +kernel, by decide +kernel⟩
abbrev g__law_pick : DV.Env → M Out := DVL.g__law_pick
abbrev m__law_pick : List RV → M RV := DVL.m__law_pick
theorem ok__law_pick {f : Addr} {fd : FuncData} (F : Fun K "_law_pick" "_law_pick" s__law_pick f fd) (T : Txt mg) (C__law_taken : Cal P w K mg base "_law_taken" 1 ["_law_row", "_law_many"] 2 m__law_taken) : FnOk P w K mg base CX0 2 f fd ["_law_row", "_law_things"] (spFn K 2 m__law_pick) := by
  have sc := sc__law_pick
  have e : spFn K 2 m__law_pick = spFn K (["_law_row", "_law_things"] : List Str).length (runDef nm__law_pick.length g__law_pick) := rfl
  rw [e]
  refine fn_ok (P := P) (w := w) (mg := mg) (base := base) (k := 1) (g := g__law_pick) F sc ?_
  intro R cdv A outer s H E hcd hr
  exact ⟨_, (dss_one (ds_ret (de_ix (de_var 1) (de_call C__law_taken hr (by decide) (by rfl) (da_cons (de_var 0) (da_cons (de_callB (r := (DV.rLen K)) call_len_seq csem_len (by rfl) T.b_len PySem.boot_len (da_cons (de_var 1) da_nil)) da_nil))))))⟩
abbrev nm__law_robot : List Str := ["_law_times", "_law_moves", "_law_walk", "_law_order_here", "_law_found", "_law_size", "_law_at", "_law_move", "_law_after", "_law_machine", "_law_later"]
theorem sc__law_robot : FnScope nm__law_robot ["_law_times", "_law_moves", "_law_walk", "_law_order_here"] (defScope s__law_robot) := ⟨rfl, rfl, rfl, by decide +kernel, rfl, by decide +kernel, by decide +kernel⟩
def g__law_robot : DV.Env → M Out :=
  (sSeq (sPar 4 5 (aCons (eLst aNil) (aCons (eCall gLen (aCons (eVar 3) aNil)) aNil)))
  (sSeq (sFor (iRng1F (eVar 5)) (gNm 6) (sSeq (sPar 7 8 (aCons (e2 gIx (eVar 3) (eVar 6)) (aCons (e2 gIx (eVar 3) (e2 gMod (eCall gInt (aCons (e2 gAddA (eVar 6) (eC (.int 1))) aNil)) (eVar 5))) aNil)))
  (sApp 4 (eTup (aCons (eVar 7) (aCons (eVar 8) (aCons (e2 gAddA (e2 gIx (eVar 1) (eVar 7)) (e2 gMulA (eVar 2) (eCall gAbs (aCons (e2 gSubI (e2 gAddA (eVar 7) (eC (.int 1))) (eVar 8)) aNil)))) (aCons (eCall gInt (aCons (e2 gEq (eVar 6) (e2 gSubI (eVar 5) (eC (.int 1)))) aNil)) aNil))))))))
  (sSeq (sFor (iRng1F (eCall gLen (aCons (eVar 0) aNil))) (gNm 9) (sSeq (sSet 10 (eCall gInt (aCons (e2 gLt (eMetT gIndexT (eVar 3) (e2 gAddA (eVar 9) (eC (.int 1)))) (eMetT gIndexT (eVar 3) (eVar 9))) aNil)))
  (sApp 4 (eTup (aCons (eVar 9) (aCons (e2 gAddA (eVar 9) (eC (.int 1))) (aCons (e2 gAddA (e2 gIx (eVar 1) (eVar 9)) (e2 gIx (eVar 0) (eVar 9))) (aCons (eVar 10) aNil))))))))
  (sRet (eCall gTuple (aCons (eVar 4) aNil))))))
def m__law_robot : List RV → M RV := runDef 11 g__law_robot
theorem ok__law_robot {f : Addr} {fd : FuncData} (F : Fun K "_law_robot" "_law_robot" s__law_robot f fd) (T : Txt mg)  : FnOk P w K mg base CX0 1 f fd ["_law_times", "_law_moves", "_law_walk", "_law_order_here"] (spFn K 4 m__law_robot) := by
  have sc := sc__law_robot
  have e : spFn K 4 m__law_robot = spFn K (["_law_times", "_law_moves", "_law_walk", "_law_order_here"] : List Str).length (runDef nm__law_robot.length g__law_robot) := rfl
  rw [e]
  refine fn_ok (P := P) (w := w) (mg := mg) (base := base) (k := 0) (g := g__law_robot) F sc ?_
  intro R cdv A outer s H E hcd hr
  exact ⟨_, (dss_cons (ds_par (i := 4) (j := 5) (by rfl) sc.nd (by rfl) (by rfl) (by decide) (by rfl) (by rfl) (de_lst da_nil) (de_callB (r := (DV.rLen K)) call_len_seq csem_len (by rfl) T.b_len PySem.boot_len (da_cons (de_var 3) da_nil)) (by rfl))
    (dss_cons (ds_for PassesOwn.never (by rfl) (di_range1 (by rfl) T.b_range (de_var 5)) (dg_name (i := 6) sc.nd (by rfl) (by first | exact Or.inl rfl | exact Or.inr rfl)) (dss_cons (ds_par (i := 7) (j := 8) (by rfl) sc.nd (by rfl) (by rfl) (by decide) (by rfl) (by rfl) (de_ix (de_var 3) (de_var 6)) (de_ix (de_var 3) (de_op (r := (rI (fun _ j => 0 < j) fun i j => .int (i % j))) op_mod rs_mod (de_callTy (r := (fun xs H Q => (∃ i, xs = [.int i] ∧ Q (.int i) H) ∨ ∃ k, xs = [.bl k] ∧ Q (.int (if k then 1 else 0)) H)) call_int1 csem_int (by rfl) T.b_int PyProof.Rows.boot_int (da_cons (de_op (r := (rAddA K)) op_addA rsem_add (de_var 6) de_int) da_nil)) (de_var 5))) (by rfl))
    (dss_one (ds_appendF (i := 4) (de_tup (da_cons (de_var 7) (da_cons (de_var 8) (da_cons (de_op (r := (rAddA K)) op_addA rsem_add (de_ix (de_var 1) (de_var 7)) (de_op (r := (rMulA K)) op_mulA rsem_mul (de_var 2) (de_callB (r := (fun xs H Q => ∃ i, xs = [.int i] ∧ Q (.int (if i < 0 then -i else i)) H)) call_abs csem_abs (by rfl) T.b_abs PyProof.Rows.boot_abs (da_cons (de_op (r := (rI0 fun i j => .int (i - j))) op_sub rs_sub (de_op (r := (rAddA K)) op_addA rsem_add (de_var 7) de_int) (de_var 8)) da_nil)))) (da_cons (de_callTy (r := (fun xs H Q => (∃ i, xs = [.int i] ∧ Q (.int i) H) ∨ ∃ k, xs = [.bl k] ∧ Q (.int (if k then 1 else 0)) H)) call_int1 csem_int (by rfl) T.b_int PyProof.Rows.boot_int (da_cons (de_cmp (r := (rEqD K)) (op_eqD (rm64 hr)) rsem_eq (de_var 6) (de_op (r := (rI0 fun i j => .int (i - j))) op_sub rs_sub (de_var 5) de_int) (nomark _)) da_nil)) da_nil))))) fun h => (pe_bm PySem.F.plainAttrs_list PySem.F.slot_list_append PySem.F.type_list_append mt_append (pv 4) (pa_cons h pa_nil))))))
    (dss_cons (ds_for PassesOwn.never (by rfl) (di_range1 (by rfl) T.b_range (de_callB (r := (DV.rLen K)) call_len_seq csem_len (by rfl) T.b_len PySem.boot_len (da_cons (de_var 0) da_nil))) (dg_name (i := 9) sc.nd (by rfl) (by first | exact Or.inl rfl | exact Or.inr rfl)) (dss_cons (ds_set (i := 10) sc.nd (by rfl) (by first | exact Or.inl rfl | exact Or.inr rfl) (de_callTy (r := (fun xs H Q => (∃ i, xs = [.int i] ∧ Q (.int i) H) ∨ ∃ k, xs = [.bl k] ∧ Q (.int (if k then 1 else 0)) H)) call_int1 csem_int (by rfl) T.b_int PyProof.Rows.boot_int (da_cons (de_cmp (r := (rI0 fun i j => .bl (decide (i < j)))) op_lt rs_lt (de_indexT (rm65 hr) (de_var 3) (de_op (r := (rAddA K)) op_addA rsem_add (de_var 9) de_int) (fun h1 h2 => pe_bmT PySem.F.slot_tuple_index PySem.F.type_tuple_index (mt_indexT (rm65 hr)) h1 (pa_cons h2 pa_nil))) (de_indexT (rm65 hr) (de_var 3) (de_var 9) (fun h1 h2 => pe_bmT PySem.F.slot_tuple_index PySem.F.type_tuple_index (mt_indexT (rm65 hr)) h1 (pa_cons h2 pa_nil))) (nomark _)) da_nil)))
    (dss_one (ds_appendF (i := 4) (de_tup (da_cons (de_var 9) (da_cons (de_op (r := (rAddA K)) op_addA rsem_add (de_var 9) de_int) (da_cons (de_op (r := (rAddA K)) op_addA rsem_add (de_ix (de_var 1) (de_var 9)) (de_ix (de_var 0) (de_var 9))) (da_cons (de_var 10) da_nil))))) fun h => (pe_bm PySem.F.plainAttrs_list PySem.F.slot_list_append PySem.F.type_list_append mt_append (pv 4) (pa_cons h pa_nil))))))
    (dss_one (ds_ret (de_callTy (r := (DV.rTuple K)) call_tupX csem_tuple (by rfl) T.b_tuple PyProof.Rows.boot_tuple (da_cons (de_var 4) da_nil)))))))⟩
abbrev nm_is_integer : List Str := ["value"]
theorem sc_is_integer : FnScope nm_is_integer ["value"] (defScope s_is_integer) := ⟨rfl, rfl, rfl, by decide +kernel, rfl, by decide +kernel, by decide +kernel⟩
abbrev g_is_integer : DV.Env → M Out := DVL.g_is_integer
abbrev m_is_integer : List RV → M RV := DVL.m_is_integer
theorem ok_is_integer {f : Addr} {fd : FuncData} (F : Fun K "is_integer" "is_integer" s_is_integer f fd) (T : Txt mg)  : FnOk P w K mg base CX0 1 f fd ["value"] (spFn K 1 m_is_integer) := by
  have sc := sc_is_integer
  have e : spFn K 1 m_is_integer = spFn K (["value"] : List Str).length (runDef nm_is_integer.length g_is_integer) := rfl
  rw [e]
  refine fn_ok (P := P) (w := w) (mg := mg) (base := base) (k := 0) (g := g_is_integer) F sc ?_
  intro R cdv A outer s H E hcd hr
  exact ⟨_, (dss_one (ds_ret (de_and (de_isT .int (by rfl) T.b_isinstance (by rfl) T.b_int (by decide +kernel) (de_var 0)) (de_one (de_not (de_isT .bool (by rfl) T.b_isinstance (by rfl) T.b_bool (by decide +kernel) (de_var 0)))))))⟩
abbrev nm_is_in : List Str := ["value", "least", "most"]
theorem sc_is_in : FnScope nm_is_in ["value", "least", "most"] (defScope s_is_in) := ⟨rfl, rfl, rfl, by decide +kernel, rfl, by decide +kernel, by decide +kernel⟩
abbrev g_is_in : DV.Env → M Out := DVL.g_is_in
abbrev m_is_in : List RV → M RV := DVL.m_is_in
theorem ok_is_in {f : Addr} {fd : FuncData} (F : Fun K "is_in" "is_in" s_is_in f fd) (T : Txt mg) (C_is_integer : Cal P w K mg base "is_integer" 1 ["value"] 1 m_is_integer) : FnOk P w K mg base CX0 2 f fd ["value", "least", "most"] (spFn K 3 m_is_in) := by
  have sc := sc_is_in
  have e : spFn K 3 m_is_in = spFn K (["value", "least", "most"] : List Str).length (runDef nm_is_in.length g_is_in) := rfl
  rw [e]
  refine fn_ok (P := P) (w := w) (mg := mg) (base := base) (k := 1) (g := g_is_in) F sc ?_
  intro R cdv A outer s H E hcd hr
  exact ⟨_, (dss_one (ds_ret (de_and (de_call C_is_integer hr (by decide) (by rfl) (da_cons (de_var 0) da_nil)) (de_one (de_chain (r := (rI0 fun i j => .bl (decide (i ≤ j)))) (r' := (rI0 fun i j => .bl (decide (i ≤ j)))) op_le op_le rs_le rs_le (de_var 1) (de_var 0) (de_var 2))))))⟩
abbrev nm_is_list : List Str := ["value", "least", "most"]
theorem sc_is_list : FnScope nm_is_list ["value", "least", "most"] (defScope s_is_list) := ⟨rfl, rfl, rfl, by decide +kernel, rfl, by decide +kernel, by decide +kernel⟩
abbrev g_is_list : DV.Env → M Out := DVL.g_is_list
abbrev m_is_list : List RV → M RV := DVL.m_is_list
theorem ok_is_list {f : Addr} {fd : FuncData} (F : Fun K "is_list" "is_list" s_is_list f fd) (T : Txt mg)  : FnOk P w K mg base CX0 1 f fd ["value", "least", "most"] (spFn K 3 m_is_list) := by
  have sc := sc_is_list
  have e : spFn K 3 m_is_list = spFn K (["value", "least", "most"] : List Str).length (runDef nm_is_list.length g_is_list) := rfl
  rw [e]
  refine fn_ok (P := P) (w := w) (mg := mg) (base := base) (k := 0) (g := g_is_list) F sc ?_
  intro R cdv A outer s H E hcd hr
  exact ⟨_, (dss_one (ds_ret (de_and (de_isT .tuple (by rfl) T.b_isinstance (by rfl) T.b_tuple (by decide +kernel) (de_var 0)) (de_one (de_chain (r := (rI0 fun i j => .bl (decide (i ≤ j)))) (r' := (rI0 fun i j => .bl (decide (i ≤ j)))) op_le op_le rs_le rs_le (de_var 1) (de_callB (r := (DV.rLen K)) call_len_seq csem_len (by rfl) T.b_len PySem.boot_len (da_cons (de_var 0) da_nil)) (de_var 2))))))⟩
abbrev nm_need_line : List Str := ["times", "moves", "index", "time", "move"]
theorem sc_need_line : FnScope nm_need_line ["times", "moves"] (defScope s_need_line) := ⟨rfl, rfl, rfl, by decide +kernel, rfl, by decide +kernel, by decide +kernel⟩
def g_need_line : DV.Env → M Out :=
  (sSeq (sIf (tNotF (eT (eFn (fun xs => if xs.length = 3 then m_is_list xs else fail) (aCons (eVar 0) (aCons (eC (.int 1)) (aCons (eC (.int 6)) aNil)))))) sNever sNil)
  (sSeq (sFor (iEnumF (srcV 0)) (gTupF 2 (gMore (gNm 2) (gMore (gNm 3) gNone))) (sIf (tNotF (eT (eFn (fun xs => if xs.length = 3 then m_is_in xs else fail) (aCons (eVar 3) (aCons (eC (.int 0)) (aCons (eC (.int 60)) aNil)))))) sNever sNil))
  (sIf (tIfT (tNotF (eT (eFn (fun xs => if xs.length = 3 then m_is_list xs else fail) (aCons (eVar 1) (aCons (e2 gAddA (eCall gLen (aCons (eVar 0) aNil)) (eC (.int 1))) (aCons (e2 gAddA (eCall gLen (aCons (eVar 0) aNil)) (eC (.int 1))) aNil)))))) (tRetB true) (tNotF (eT (eCall gAll (aCons (eLc (srcV 1) [4] (gNm 4) tTrue (eFn (fun xs => if xs.length = 3 then m_is_in xs else fail) (aCons (eVar 4) (aCons (eC (.int 1)) (aCons (eC (.int 60)) aNil))))) aNil))))) sNever sNil)))
def m_need_line : List RV → M RV := runDef 5 g_need_line
theorem ok_need_line {f : Addr} {fd : FuncData} (F : Fun K "need_line" "need_line" s_need_line f fd) (T : Txt mg) (C_is_list : Cal P w K mg base "is_list" 1 ["value", "least", "most"] 3 m_is_list) (C_is_in : Cal P w K mg base "is_in" 2 ["value", "least", "most"] 3 m_is_in) : FnOk P w K mg base CX0 3 f fd ["times", "moves"] (spFn K 2 m_need_line) := by
  have sc := sc_need_line
  have e : spFn K 2 m_need_line = spFn K (["times", "moves"] : List Str).length (runDef nm_need_line.length g_need_line) := rfl
  rw [e]
  refine fn_ok (P := P) (w := w) (mg := mg) (base := base) (k := 2) (g := g_need_line) F sc ?_
  intro R cdv A outer s H E hcd hr
  exact ⟨_, (dss_cons (ds_if (dt_not (dt_val (de_call C_is_list hr (by decide) (by rfl) (da_cons (de_var 0) (da_cons de_int (da_cons de_int da_nil)))))) dss_never dss_nil)
    (dss_cons (ds_for PassesOwn.never (by rfl) (di_enum (by rfl) T.b_enumerate (src_v 0)) (dg_tup (by rfl) (dgs_cons (dg_name (i := 2) sc.nd (by rfl) (by first | exact Or.inl rfl | exact Or.inr rfl)) (dgs_cons (dg_name (i := 3) sc.nd (by rfl) (by first | exact Or.inl rfl | exact Or.inr rfl)) dgs_nil))) (dss_one (ds_if (dt_not (dt_val (de_call C_is_in hr (by decide) (by rfl) (da_cons (de_var 3) (da_cons de_int (da_cons (de_gI (by rfl) T.c_MOST_TIME) da_nil)))))) dss_never dss_nil)))
    (dss_one (ds_if (DW.dt (dw_or (dt_not (dt_val (de_call C_is_list hr (by decide) (by rfl) (da_cons (de_var 1) (da_cons (de_op (r := (rAddA K)) op_addA rsem_add (de_callB (r := (DV.rLen K)) call_len_seq csem_len (by rfl) T.b_len PySem.boot_len (da_cons (de_var 0) da_nil)) de_int) (da_cons (de_op (r := (rAddA K)) op_addA rsem_add (de_callB (r := (DV.rLen K)) call_len_seq csem_len (by rfl) T.b_len PySem.boot_len (da_cons (de_var 0) da_nil)) de_int) da_nil)))))) (dw_or1 (dt_not (dt_val (de_callB (r := (rAll K)) (cr_all (by rfl)) (csem_bools _) (by rfl) T.b_all PyProof.Rows.boot_all (da_cons (de_lc (own := [("move", 4)]) (g := (gName 4)) (tt := tYes) (te := (tCall (spFn K 3 m_is_in) [] E0 (tCons (tVar 4) (tCons (tC (.int 1)) (tCons (tC (.int 60)) tNil))))) (by rfl) sc.nd (di_seq (src_v 1)) (blkOk_by (N := nm_need_line) (sc := defScope s_need_line) (by decide +kernel)) (by decide) (fun _ _ _ _ _ => (dg_name (i := 4) sc.nd (by rfl) (by first | exact Or.inl rfl | exact Or.inr rfl))) (fun _ _ _ _ _ => dts_nil) (fun _ _ _ _ _ => (de_call C_is_in hr (by decide) (by rfl) (da_cons (de_var 4) (da_cons de_int (da_cons (de_gI (by rfl) T.c_MOST_TIME) da_nil)))))) da_nil))))))) dss_never dss_nil))))⟩
abbrev nm_lowest : List Str := ["top", "bottom", "one", "other"]
theorem sc_lowest : FnScope nm_lowest ["top", "bottom"] (defScope s_lowest) := ⟨rfl, rfl, rfl, by decide +kernel, rfl, by decide +kernel, by decide +kernel⟩
def g_lowest : DV.Env → M Out :=
  (sSeq (sPar 2 3 (aCons (eCall gAbs (aCons (eVar 0) aNil)) (aCons (eVar 1) aNil)))
  (sSeq (wloopF (eT (e2 gNe (eVar 3) (eC (.int 0)))) (sPar 2 3 (aCons (eVar 3) (aCons (e2 gMod (eVar 2) (eVar 3)) aNil))) 100000)
  (sRet (eIf (eT (e2 gGt (eVar 2) (eC (.int 0)))) (eTup (aCons (e2 gFdiv (eVar 0) (eVar 2)) (aCons (e2 gFdiv (eVar 1) (eVar 2)) aNil))) (eTup (aCons (eC (.int 0)) (aCons (eC (.int 1)) aNil)))))))
def m_lowest : List RV → M RV := runDef 4 g_lowest
theorem ok_lowest {f : Addr} {fd : FuncData} (F : Fun K "lowest" "lowest" s_lowest f fd) (T : Txt mg)  : FnOk P w K mg base CX0 1 f fd ["top", "bottom"] (spFn K 2 m_lowest) := by
  have sc := sc_lowest
  have e : spFn K 2 m_lowest = spFn K (["top", "bottom"] : List Str).length (runDef nm_lowest.length g_lowest) := rfl
  rw [e]
  refine fn_ok (P := P) (w := w) (mg := mg) (base := base) (k := 0) (g := g_lowest) F sc ?_
  intro R cdv A outer s H E hcd hr
  exact ⟨_, (dss_cons (ds_par (i := 2) (j := 3) (by rfl) sc.nd (by rfl) (by rfl) (by decide) (by rfl) (by rfl) (de_callB (r := (fun xs H Q => ∃ i, xs = [.int i] ∧ Q (.int (if i < 0 then -i else i)) H)) call_abs csem_abs (by rfl) T.b_abs PyProof.Rows.boot_abs (da_cons (de_var 0) da_nil)) (de_var 1) (by rfl))
    (dss_cons (ds_while 100000 PassesOwn.never (dt_cmp (r := (rNeD K)) (op_neD (rm64 hr)) rsem_ne (de_var 3) de_int (nomark _)) (dss_one (ds_par (i := 2) (j := 3) (by rfl) sc.nd (by rfl) (by rfl) (by decide) (by rfl) (by rfl) (de_var 3) (de_op (r := (rI (fun _ j => 0 < j) fun i j => .int (i % j))) op_mod rs_mod (de_var 2) (de_var 3)) (by rfl))))
    (dss_one (ds_ret (de_if (dt_cmp (r := (rI0 fun i j => .bl (decide (j < i)))) op_gt rs_gt (de_var 2) de_int (nomark _)) (de_tup (da_cons (de_op (r := (rI CDiv fun i j => .int (i / j))) op_fdiv rs_fdiv (de_var 0) (de_var 2)) (da_cons (de_op (r := (rI CDiv fun i j => .int (i / j))) op_fdiv rs_fdiv (de_var 1) (de_var 2)) da_nil))) (de_tup (da_cons de_int (da_cons de_int da_nil))))))))⟩
abbrev nm_rings_of : List Str := ["many", "links", "found", "start", "waiting", "here", "time", "later", "path", "met", "index", "one", "other", "more", "rounds"]
theorem sc_rings_of : FnScope nm_rings_of ["many", "links"] (defScope s_rings_of) := ⟨rfl, rfl, rfl, by decide +kernel, rfl, by decide +kernel, by decide +kernel⟩
def g_rings_of : DV.Env → M Out :=
  (sSeq (sSet 2 (eLst aNil))
  (sSeq (sFor (iRng1F (eVar 0)) (gNm 3) (sSeq (sSet 4 (eLst (aCons (eTup (aCons (eVar 3) (aCons (eC (.int 0)) (aCons (eC (.int 0)) (aCons (eTup aNil) (aCons (eTup (aCons (eVar 3) aNil)) aNil)))))) aNil)))
  (wloopF (eT (e2 gNe (eVar 4) (eLst aNil))) (sSeq (sPopG 4 (gTupF 5 (gMore (gNm 5) (gMore (gNm 6) (gMore (gNm 7) (gMore (gNm 8) (gMore (gNm 9) gNone)))))))
  (sFor (iEnumF (srcV 1)) (gTupF 2 (gMore (gNm 10) (gMore (gTupF 4 (gMore (gNm 11) (gMore (gNm 12) (gMore (gNm 13) (gMore (gNm 14) gNone))))) gNone))) (sIf (tIfT (eT (e2 gEq (eVar 11) (eVar 5))) (eT (e2 gEq (eVar 12) (eVar 3))) (tRetB false)) (sApp 2 (eTup (aCons (e2 gAddA (eVar 6) (eVar 13)) (aCons (e2 gAddA (eVar 7) (eVar 14)) (aCons (eTup (aStar (eVar 8) (aCons (eVar 10) aNil))) aNil))))) (sIf (tIfT (eT (e2 gEq (eVar 11) (eVar 5))) (tIfT (eT (e2 gGtA (eVar 12) (eVar 3))) (eT (e2 gNotIn (eVar 12) (eVar 9))) (tRetB false)) (tRetB false)) (sApp 4 (eTup (aCons (eVar 12) (aCons (e2 gAddA (eVar 6) (eVar 13)) (aCons (e2 gAddA (eVar 7) (eVar 14)) (aCons (eTup (aStar (eVar 8) (aCons (eVar 10) aNil))) (aCons (eTup (aStar (eVar 9) (aCons (eVar 12) aNil))) aNil))))))) sNil)))) 100000)))
  (sRetV 2)))
def m_rings_of : List RV → M RV := runDef 15 g_rings_of
theorem ok_rings_of {f : Addr} {fd : FuncData} (F : Fun K "rings_of" "rings_of" s_rings_of f fd) (T : Txt mg)  : FnOk P w K mg base CX0 1 f fd ["many", "links"] (spFn K 2 m_rings_of) := by
  have sc := sc_rings_of
  have e : spFn K 2 m_rings_of = spFn K (["many", "links"] : List Str).length (runDef nm_rings_of.length g_rings_of) := rfl
  rw [e]
  refine fn_ok (P := P) (w := w) (mg := mg) (base := base) (k := 0) (g := g_rings_of) F sc ?_
  intro R cdv A outer s H E hcd hr
  exact ⟨_, (dss_cons (ds_set (i := 2) sc.nd (by rfl) (by first | exact Or.inl rfl | exact Or.inr rfl) (de_lst da_nil))
    (dss_cons (ds_for PassesOwn.never (by rfl) (di_range1 (by rfl) T.b_range (de_var 0)) (dg_name (i := 3) sc.nd (by rfl) (by first | exact Or.inl rfl | exact Or.inr rfl)) (dss_cons (ds_set (i := 4) sc.nd (by rfl) (by first | exact Or.inl rfl | exact Or.inr rfl) (de_lst (da_cons (de_tup (da_cons (de_var 3) (da_cons de_int (da_cons de_int (da_cons (de_tup da_nil) (da_cons (de_tup (da_cons (de_var 3) da_nil)) da_nil)))))) da_nil)))
    (dss_one (ds_while 100000 PassesOwn.never (dt_cmp (r := (rNeD K)) (op_neD (rm64 hr)) rsem_ne (de_var 4) (de_lst da_nil) (nomark _)) (dss_cons (ds_popTo (i := 4) (pe_bm0 PySem.F.plainAttrs_list PySem.F.slot_list_pop PySem.F.type_list_pop mt_pop (pv 4)) (dg_tup (by rfl) (dgs_cons (dg_name (i := 5) sc.nd (by rfl) (by first | exact Or.inl rfl | exact Or.inr rfl)) (dgs_cons (dg_name (i := 6) sc.nd (by rfl) (by first | exact Or.inl rfl | exact Or.inr rfl)) (dgs_cons (dg_name (i := 7) sc.nd (by rfl) (by first | exact Or.inl rfl | exact Or.inr rfl)) (dgs_cons (dg_name (i := 8) sc.nd (by rfl) (by first | exact Or.inl rfl | exact Or.inr rfl)) (dgs_cons (dg_name (i := 9) sc.nd (by rfl) (by first | exact Or.inl rfl | exact Or.inr rfl)) dgs_nil)))))))
    (dss_one (ds_for PassesOwn.never (by rfl) (di_enum (by rfl) T.b_enumerate (src_v 1)) (dg_tup (by rfl) (dgs_cons (dg_name (i := 10) sc.nd (by rfl) (by first | exact Or.inl rfl | exact Or.inr rfl)) (dgs_cons (dg_tup (by rfl) (dgs_cons (dg_name (i := 11) sc.nd (by rfl) (by first | exact Or.inl rfl | exact Or.inr rfl)) (dgs_cons (dg_name (i := 12) sc.nd (by rfl) (by first | exact Or.inl rfl | exact Or.inr rfl)) (dgs_cons (dg_name (i := 13) sc.nd (by rfl) (by first | exact Or.inl rfl | exact Or.inr rfl)) (dgs_cons (dg_name (i := 14) sc.nd (by rfl) (by first | exact Or.inl rfl | exact Or.inr rfl)) dgs_nil))))) dgs_nil))) (dss_one (ds_if (DW.dt (dw_and (dt_cmp (r := (rEqD K)) (op_eqD (rm64 hr)) rsem_eq (de_var 11) (de_var 5) (nomark _)) (dw_and1 (dt_cmp (r := (rEqD K)) (op_eqD (rm64 hr)) rsem_eq (de_var 12) (de_var 3) (nomark _))))) (dss_one (ds_appendF (i := 2) (de_tup (da_cons (de_op (r := (rAddA K)) op_addA rsem_add (de_var 6) (de_var 13)) (da_cons (de_op (r := (rAddA K)) op_addA rsem_add (de_var 7) (de_var 14)) (da_cons (de_tup (da_star (de_var 8) (da_cons (de_var 10) da_nil))) da_nil)))) fun h => (pe_bm PySem.F.plainAttrs_list PySem.F.slot_list_append PySem.F.type_list_append mt_append (pv 2) (pa_cons h pa_nil)))) (dss_one (ds_if (DW.dt (dw_and (dt_cmp (r := (rEqD K)) (op_eqD (rm64 hr)) rsem_eq (de_var 11) (de_var 5) (nomark _)) (dw_and (dt_cmp (r := (rCmpA K (fun i j => decide (j < i)) fun d e => PySem.W.dataLt e d)) (op_gtA (rm64 hr)) (rsem_cmpA _ _) (de_var 12) (de_var 3) (nomark _)) (dw_and1 (dt_cmp (r := (rInA K true)) (op_notInA (rm65 hr)) (rsem_in true) (de_var 12) (de_var 9) (by with_unfolding_all rfl)))))) (dss_one (ds_appendF (i := 4) (de_tup (da_cons (de_var 12) (da_cons (de_op (r := (rAddA K)) op_addA rsem_add (de_var 6) (de_var 13)) (da_cons (de_op (r := (rAddA K)) op_addA rsem_add (de_var 7) (de_var 14)) (da_cons (de_tup (da_star (de_var 8) (da_cons (de_var 10) da_nil))) (da_cons (de_tup (da_star (de_var 9) (da_cons (de_var 12) da_nil))) da_nil)))))) fun h => (pe_bm PySem.F.plainAttrs_list PySem.F.slot_list_append PySem.F.type_list_append mt_append (pv 4) (pa_cons h pa_nil)))) dss_nil)))))))))))
    (dss_one (ds_retV 2))))⟩
abbrev nm_robot_links : List Str := ["times", "moves", "walk", "order", "many", "places", "found", "at", "move", "after", "machine", "is_later"]
theorem sc_robot_links : FnScope nm_robot_links ["times", "moves", "walk", "order"] (defScope s_robot_links) := ⟨rfl, rfl, rfl, by decide +kernel, rfl, by decide +kernel, by decide +kernel⟩
def g_robot_links : DV.Env → M Out :=
  (sSeq (sPar3 4 5 6 (aCons (eCall gLen (aCons (eVar 0) aNil)) (aCons (eDc (iEnumF (srcV 3)) [7, 8] (gTupF 2 (gMore (gNm 7) (gMore (gNm 8) gNone))) tTrue (eVar 8) (eVar 7)) (aCons (eLst aNil) aNil))))
  (sSeq (sFor (iEnumF (srcV 3)) (gTupF 2 (gMore (gNm 7) (gMore (gNm 8) gNone))) (sSeq (sSet 9 (e2 gIx (eVar 3) (e2 gMod (e2 gAddA (eVar 7) (eC (.int 1))) (eCall gLen (aCons (eVar 3) aNil)))))
  (sApp 6 (eTup (aCons (eVar 8) (aCons (eVar 9) (aCons (e2 gAddA (e2 gIx (eVar 1) (eVar 8)) (e2 gMulA (eVar 2) (eCall gAbs (aCons (e2 gSubI (e2 gAddA (eVar 8) (eC (.int 1))) (eVar 9)) aNil)))) (aCons (eCall gInt (aCons (e2 gEq (e2 gAddA (eVar 7) (eC (.int 1))) (eCall gLen (aCons (eVar 3) aNil))) aNil)) aNil))))))))
  (sSeq (sFor (iRng1F (eVar 4)) (gNm 10) (sSeq (sSet 11 (eCall gInt (aCons (e2 gLtA (eGGet (eVar 5) (e2 gAddA (eVar 10) (eC (.int 1)))) (eGGet (eVar 5) (eVar 10))) aNil)))
  (sSeq (sApp 6 (eTup (aCons (eVar 10) (aCons (e2 gAddA (eVar 10) (eC (.int 1))) (aCons (e2 gAddA (e2 gIx (eVar 1) (eVar 10)) (e2 gIx (eVar 0) (eVar 10))) (aCons (eVar 11) aNil))))))
  (sApp 6 (eTup (aCons (e2 gAddA (eVar 10) (eC (.int 1))) (aCons (eVar 10) (aCons (eC (.int 0)) (aCons (e2 gSubI (eC (.int 1)) (eVar 11)) aNil)))))))))
  (sRet (eCall gTuple (aCons (eVar 6) aNil))))))
def m_robot_links : List RV → M RV := runDef 12 g_robot_links
theorem ok_robot_links {f : Addr} {fd : FuncData} (F : Fun K "robot_links" "robot_links" s_robot_links f fd) (T : Txt mg)  : FnOk P w K mg base CX0 1 f fd ["times", "moves", "walk", "order"] (spFn K 4 m_robot_links) := by
  have sc := sc_robot_links
  have e : spFn K 4 m_robot_links = spFn K (["times", "moves", "walk", "order"] : List Str).length (runDef nm_robot_links.length g_robot_links) := rfl
  rw [e]
  refine fn_ok (P := P) (w := w) (mg := mg) (base := base) (k := 0) (g := g_robot_links) F sc ?_
  intro R cdv A outer s H E hcd hr
  exact ⟨_, (dss_cons (ds_par3 (i := 4) (j := 5) (l := 6) (by rfl) sc.nd (by rfl) (by rfl) (by rfl) (by decide) (by decide) (by decide) (by rfl) (by rfl) (by rfl) (de_callB (r := (DV.rLen K)) call_len_seq csem_len (by rfl) T.b_len PySem.boot_len (da_cons (de_var 0) da_nil)) (de_dc (own := [("at", 7), ("move", 8)]) (g := (gTup K 2 (gCons (gName 7) (gCons (gName 8) gNil)))) (tt := tYes) (tk := (tVar 8)) (tv := (tVar 7)) (by rfl) sc.nd (di_enum (by rfl) T.b_enumerate (src_v 3)) (blkOk_by (N := nm_robot_links) (sc := defScope s_robot_links) (by decide +kernel)) (by decide) (fun _ _ _ _ _ => (dg_tup (by rfl) (dgs_cons (dg_name (i := 7) sc.nd (by rfl) (by first | exact Or.inl rfl | exact Or.inr rfl)) (dgs_cons (dg_name (i := 8) sc.nd (by rfl) (by first | exact Or.inl rfl | exact Or.inr rfl)) dgs_nil)))) (fun _ _ _ _ _ => dts_nil) (fun _ _ _ _ _ => (de_var 8)) (fun _ _ _ _ _ => (de_var 7))) (de_lst da_nil) (by rfl))
    (dss_cons (ds_for PassesOwn.never (by rfl) (di_enum (by rfl) T.b_enumerate (src_v 3)) (dg_tup (by rfl) (dgs_cons (dg_name (i := 7) sc.nd (by rfl) (by first | exact Or.inl rfl | exact Or.inr rfl)) (dgs_cons (dg_name (i := 8) sc.nd (by rfl) (by first | exact Or.inl rfl | exact Or.inr rfl)) dgs_nil))) (dss_cons (ds_set (i := 9) sc.nd (by rfl) (by first | exact Or.inl rfl | exact Or.inr rfl) (de_ix (de_var 3) (de_op (r := (rI (fun _ j => 0 < j) fun i j => .int (i % j))) op_mod rs_mod (de_op (r := (rAddA K)) op_addA rsem_add (de_var 7) de_int) (de_callB (r := (DV.rLen K)) call_len_seq csem_len (by rfl) T.b_len PySem.boot_len (da_cons (de_var 3) da_nil)))))
    (dss_one (ds_appendF (i := 6) (de_tup (da_cons (de_var 8) (da_cons (de_var 9) (da_cons (de_op (r := (rAddA K)) op_addA rsem_add (de_ix (de_var 1) (de_var 8)) (de_op (r := (rMulA K)) op_mulA rsem_mul (de_var 2) (de_callB (r := (fun xs H Q => ∃ i, xs = [.int i] ∧ Q (.int (if i < 0 then -i else i)) H)) call_abs csem_abs (by rfl) T.b_abs PyProof.Rows.boot_abs (da_cons (de_op (r := (rI0 fun i j => .int (i - j))) op_sub rs_sub (de_op (r := (rAddA K)) op_addA rsem_add (de_var 8) de_int) (de_var 9)) da_nil)))) (da_cons (de_callTy (r := (fun xs H Q => (∃ i, xs = [.int i] ∧ Q (.int i) H) ∨ ∃ k, xs = [.bl k] ∧ Q (.int (if k then 1 else 0)) H)) call_int1 csem_int (by rfl) T.b_int PyProof.Rows.boot_int (da_cons (de_cmp (r := (rEqD K)) (op_eqD (rm64 hr)) rsem_eq (de_op (r := (rAddA K)) op_addA rsem_add (de_var 7) de_int) (de_callB (r := (DV.rLen K)) call_len_seq csem_len (by rfl) T.b_len PySem.boot_len (da_cons (de_var 3) da_nil)) (nomark _)) da_nil)) da_nil))))) fun h => (pe_bm PySem.F.plainAttrs_list PySem.F.slot_list_append PySem.F.type_list_append mt_append (pv 6) (pa_cons h pa_nil))))))
    (dss_cons (ds_for PassesOwn.never (by rfl) (di_range1 (by rfl) T.b_range (de_var 4)) (dg_name (i := 10) sc.nd (by rfl) (by first | exact Or.inl rfl | exact Or.inr rfl)) (dss_cons (ds_set (i := 11) sc.nd (by rfl) (by first | exact Or.inl rfl | exact Or.inr rfl) (de_callTy (r := (fun xs H Q => (∃ i, xs = [.int i] ∧ Q (.int i) H) ∨ ∃ k, xs = [.bl k] ∧ Q (.int (if k then 1 else 0)) H)) call_int1 csem_int (by rfl) T.b_int PyProof.Rows.boot_int (da_cons (de_cmp (r := (rCmpA K (fun i j => decide (i < j)) PySem.W.dataLt)) (op_ltA (rm64 hr)) (rsem_cmpA _ _) (de_gget (rm9 hr) (de_var 5) (de_op (r := (rAddA K)) op_addA rsem_add (de_var 10) de_int)) (de_gget (rm9 hr) (de_var 5) (de_var 10)) (nomark _)) da_nil)))
    (dss_cons (ds_appendF (i := 6) (de_tup (da_cons (de_var 10) (da_cons (de_op (r := (rAddA K)) op_addA rsem_add (de_var 10) de_int) (da_cons (de_op (r := (rAddA K)) op_addA rsem_add (de_ix (de_var 1) (de_var 10)) (de_ix (de_var 0) (de_var 10))) (da_cons (de_var 11) da_nil))))) fun h => (pe_bm PySem.F.plainAttrs_list PySem.F.slot_list_append PySem.F.type_list_append mt_append (pv 6) (pa_cons h pa_nil)))
    (dss_one (ds_appendF (i := 6) (de_tup (da_cons (de_op (r := (rAddA K)) op_addA rsem_add (de_var 10) de_int) (da_cons (de_var 10) (da_cons de_int (da_cons (de_op (r := (rI0 fun i j => .int (i - j))) op_sub rs_sub de_int (de_var 11)) da_nil))))) fun h => (pe_bm PySem.F.plainAttrs_list PySem.F.slot_list_append PySem.F.type_list_append mt_append (pv 6) (pa_cons h pa_nil)))))))
    (dss_one (ds_ret (de_callTy (r := (DV.rTuple K)) call_tupX csem_tuple (by rfl) T.b_tuple PyProof.Rows.boot_tuple (da_cons (de_var 6) da_nil)))))))⟩
abbrev nm_robot_in : List Str := ["times", "moves", "walk", "order", "links", "best", "time", "later", "path"]
theorem sc_robot_in : FnScope nm_robot_in ["times", "moves", "walk", "order"] (defScope s_robot_in) := ⟨rfl, rfl, rfl, by decide +kernel, rfl, by decide +kernel, by decide +kernel⟩
def g_robot_in : DV.Env → M Out :=
  (sSeq (sSet 4 (eFn (fun xs => if xs.length = 4 then m_robot_links xs else fail) (aCons (eVar 0) (aCons (eVar 1) (aCons (eVar 2) (aCons (eVar 3) aNil))))))
  (sSeq (sSet 5 (eTup (aCons (eC (.int 0)) (aCons (eC (.int 1)) aNil))))
  (sSeq (sFor (srcE (eFn (fun xs => if xs.length = 2 then m_rings_of xs else fail) (aCons (e2 gAddA (eCall gLen (aCons (eVar 0) aNil)) (eC (.int 1))) (aCons (eVar 4) aNil)))) (gTupF 3 (gMore (gNm 6) (gMore (gNm 7) (gMore (gNm 8) gNone)))) (sIf (tIfT (eT (e2 gGt (eVar 7) (eC (.int 0)))) (eT (e2 gGt (e2 gMulA (eVar 6) (e2 gIx (eVar 5) (eC (.int 1)))) (e2 gMulA (e2 gIx (eVar 5) (eC (.int 0))) (eVar 7)))) (tRetB false)) (sSet 5 (eFn (fun xs => if xs.length = 2 then m_lowest xs else fail) (aCons (eVar 6) (aCons (eVar 7) aNil)))) sNil))
  (sRetV 5))))
def m_robot_in : List RV → M RV := runDef 9 g_robot_in
theorem ok_robot_in {f : Addr} {fd : FuncData} (F : Fun K "robot_in" "robot_in" s_robot_in f fd) (T : Txt mg) (C_robot_links : Cal P w K mg base "robot_links" 1 ["times", "moves", "walk", "order"] 4 m_robot_links) (C_rings_of : Cal P w K mg base "rings_of" 1 ["many", "links"] 2 m_rings_of) (C_lowest : Cal P w K mg base "lowest" 1 ["top", "bottom"] 2 m_lowest) : FnOk P w K mg base CX0 2 f fd ["times", "moves", "walk", "order"] (spFn K 4 m_robot_in) := by
  have sc := sc_robot_in
  have e : spFn K 4 m_robot_in = spFn K (["times", "moves", "walk", "order"] : List Str).length (runDef nm_robot_in.length g_robot_in) := rfl
  rw [e]
  refine fn_ok (P := P) (w := w) (mg := mg) (base := base) (k := 1) (g := g_robot_in) F sc ?_
  intro R cdv A outer s H E hcd hr
  exact ⟨_, (dss_cons (ds_set (i := 4) sc.nd (by rfl) (by first | exact Or.inl rfl | exact Or.inr rfl) (de_call C_robot_links hr (by decide) (by rfl) (da_cons (de_var 0) (da_cons (de_var 1) (da_cons (de_var 2) (da_cons (de_var 3) da_nil))))))
    (dss_cons (ds_set (i := 5) sc.nd (by rfl) (by first | exact Or.inl rfl | exact Or.inr rfl) (de_tup (da_cons de_int (da_cons de_int da_nil))))
    (dss_cons (ds_for PassesOwn.never (by rfl) (di_seq (src_e (de_call C_rings_of hr (by decide) (by rfl) (da_cons (de_op (r := (rAddA K)) op_addA rsem_add (de_callB (r := (DV.rLen K)) call_len_seq csem_len (by rfl) T.b_len PySem.boot_len (da_cons (de_var 0) da_nil)) de_int) (da_cons (de_var 4) da_nil))))) (dg_tup (by rfl) (dgs_cons (dg_name (i := 6) sc.nd (by rfl) (by first | exact Or.inl rfl | exact Or.inr rfl)) (dgs_cons (dg_name (i := 7) sc.nd (by rfl) (by first | exact Or.inl rfl | exact Or.inr rfl)) (dgs_cons (dg_name (i := 8) sc.nd (by rfl) (by first | exact Or.inl rfl | exact Or.inr rfl)) dgs_nil)))) (dss_one (ds_if (DW.dt (dw_and (dt_cmp (r := (rI0 fun i j => .bl (decide (j < i)))) op_gt rs_gt (de_var 7) de_int (nomark _)) (dw_and1 (dt_cmp (r := (rI0 fun i j => .bl (decide (j < i)))) op_gt rs_gt (de_op (r := (rMulA K)) op_mulA rsem_mul (de_var 6) (de_ix (de_var 5) de_int)) (de_op (r := (rMulA K)) op_mulA rsem_mul (de_ix (de_var 5) de_int) (de_var 7)) (nomark _))))) (dss_one (ds_set (i := 5) sc.nd (by rfl) (by first | exact Or.inl rfl | exact Or.inr rfl) (de_call C_lowest hr (by decide) (by rfl) (da_cons (de_var 6) (da_cons (de_var 7) da_nil))))) dss_nil)))
    (dss_one (ds_retV 5)))))⟩
abbrev nm_best_robot : List Str := ["times", "moves", "walk", "orders", "turn", "part", "move", "best", "order", "found"]
theorem sc_best_robot : FnScope nm_best_robot ["times", "moves", "walk"] (defScope s_best_robot) := ⟨rfl, rfl, rfl, by decide +kernel, rfl, by decide +kernel, by decide +kernel⟩
def g_best_robot : DV.Env → M Out :=
  (sSeq (sDrop (eFn (fun xs => if xs.length = 2 then m_need_line xs else fail) (aCons (eVar 0) (aCons (eVar 1) aNil))))
  (sSeq (sIf (tNotF (eT (eFn (fun xs => if xs.length = 3 then m_is_in xs else fail) (aCons (eVar 2) (aCons (eC (.int 0)) (aCons (eC (.int 60)) aNil)))))) sNever sNil)
  (sSeq (sSet 3 (eLst (aCons (eTup (aCons (eC (.int 0)) aNil)) aNil)))
  (sSeq (sFor (iRng1F (eCall gLen (aCons (eVar 0) aNil))) (gNm 4) (sSet 3 (eLc2 (srcV 3) [5, 6] (gNm 5) tTrue (iRng2F (eC (.int 1)) (e2 gAddA (eCall gLen (aCons (eVar 0) aNil)) (eC (.int 1)))) [6] (gNm 6) (eT (e2 gNotIn (eVar 6) (eVar 5))) (eTup (aStar (eVar 5) (aCons (eVar 6) aNil))))))
  (sSeq (sSet 7 (eC .none))
  (sSeq (sFor (srcV 3) (gNm 8) (sSeq (sSet 9 (eFn (fun xs => if xs.length = 4 then m_robot_in xs else fail) (aCons (eVar 0) (aCons (eVar 1) (aCons (eVar 2) (aCons (eVar 8) aNil))))))
  (sIf (tIfT (eT (e2 gIs (eVar 7) (eC .none))) (tRetB true) (eT (e2 gLt (e2 gMulA (e2 gIx (eVar 9) (eC (.int 0))) (e2 gIx (e2 gIx (eVar 7) (eC (.int 0))) (eC (.int 1)))) (e2 gMulA (e2 gIx (e2 gIx (eVar 7) (eC (.int 0))) (eC (.int 0))) (e2 gIx (eVar 9) (eC (.int 1))))))) (sSet 7 (eTup (aCons (eVar 9) (aCons (eVar 8) aNil)))) sNil)))
  (sRetV 7)))))))
def m_best_robot : List RV → M RV := runDef 10 g_best_robot
theorem ok_best_robot {f : Addr} {fd : FuncData} (F : Fun K "best_robot" "best_robot" s_best_robot f fd) (T : Txt mg) (C_need_line : Cal P w K mg base "need_line" 3 ["times", "moves"] 2 m_need_line) (C_is_in : Cal P w K mg base "is_in" 2 ["value", "least", "most"] 3 m_is_in) (C_robot_in : Cal P w K mg base "robot_in" 2 ["times", "moves", "walk", "order"] 4 m_robot_in) : FnOk P w K mg base CX0 4 f fd ["times", "moves", "walk"] (spFn K 3 m_best_robot) := by
  have sc := sc_best_robot
  have e : spFn K 3 m_best_robot = spFn K (["times", "moves", "walk"] : List Str).length (runDef nm_best_robot.length g_best_robot) := rfl
  rw [e]
  refine fn_ok (P := P) (w := w) (mg := mg) (base := base) (k := 3) (g := g_best_robot) F sc ?_
  intro R cdv A outer s H E hcd hr
  exact ⟨_, (dss_cons (ds_expr (de_call C_need_line hr (by decide) (by rfl) (da_cons (de_var 0) (da_cons (de_var 1) da_nil))))
    (dss_cons (ds_if (dt_not (dt_val (de_call C_is_in hr (by decide) (by rfl) (da_cons (de_var 2) (da_cons de_int (da_cons (de_gI (by rfl) T.c_MOST_TIME) da_nil)))))) dss_never dss_nil)
    (dss_cons (ds_set (i := 3) sc.nd (by rfl) (by first | exact Or.inl rfl | exact Or.inr rfl) (de_lst (da_cons (de_tup (da_cons de_int da_nil)) da_nil)))
    (dss_cons (ds_for PassesOwn.never (by rfl) (di_range1 (by rfl) T.b_range (de_callB (r := (DV.rLen K)) call_len_seq csem_len (by rfl) T.b_len PySem.boot_len (da_cons (de_var 0) da_nil))) (dg_name (i := 4) sc.nd (by rfl) (by first | exact Or.inl rfl | exact Or.inr rfl)) (dss_one (ds_setLc2 (i := 3) (own := [("part", 5), ("move", 6)]) (vs1 := [6]) (g := (gName 5)) (tt := tYes) (wi1 := (iRng2 (tCons (tC (.int 1)) (tCons (tOp (rAddA K) (tCB (DV.rLen K) (tCons (tVar 0) tNil)) (tC (.int 1))) tNil)))) (g1 := (gName 6)) (tt1 := (tTest (tOp (rInA K true) (tVar 6) (tVar 5)))) (te := (tTupX (StX.tStar K (tVar 5) (tCons (tVar 6) tNil)))) (by rfl) sc.nd (by rfl) (by rfl) (sw_true (by rfl) (by rfl) (by rfl) (by decide +kernel)) (di_seq (src_v 3)) (blkOk_by (N := nm_best_robot) (sc := defScope s_best_robot) (by decide +kernel)) (by decide) (by decide) (by decide) (gown_nm 5) (fun _ _ _ _ _ => (dg_name (i := 5) sc.nd (by rfl) (by first | exact Or.inl rfl | exact Or.inr rfl))) (fun _ _ _ _ _ => dts_nil) (fun _ _ _ _ _ => (di_range2 (by rfl) T.b_range de_int (de_op (r := (rAddA K)) op_addA rsem_add (de_callB (r := (DV.rLen K)) call_len_seq csem_len (by rfl) T.b_len PySem.boot_len (da_cons (de_var 0) da_nil)) de_int))) (fun _ _ _ _ _ => (dg_name (i := 6) sc.nd (by rfl) (by first | exact Or.inl rfl | exact Or.inr rfl))) (fun _ _ _ _ _ => (dts_one (dt_cmp (r := (rInA K true)) (op_notInA (rm65 hr)) (rsem_in true) (de_var 6) (de_var 5) (by with_unfolding_all rfl)))) (fun _ _ _ _ _ => (de_tup (da_star (de_var 5) (da_cons (de_var 6) da_nil)))))))
    (dss_cons (ds_set (i := 7) sc.nd (by rfl) (by first | exact Or.inl rfl | exact Or.inr rfl) de_non)
    (dss_cons (ds_for PassesOwn.never (by rfl) (di_seq (src_v 3)) (dg_name (i := 8) sc.nd (by rfl) (by first | exact Or.inl rfl | exact Or.inr rfl)) (dss_cons (ds_set (i := 9) sc.nd (by rfl) (by first | exact Or.inl rfl | exact Or.inr rfl) (de_call C_robot_in hr (by decide) (by rfl) (da_cons (de_var 0) (da_cons (de_var 1) (da_cons (de_var 2) (da_cons (de_var 8) da_nil))))))
    (dss_one (ds_if (DW.dt (dw_or (dt_cmp (r := (fun x y H Q => y = .non ∧ Q (.bl (decide (x = .non))) H)) op_isN rsem_isN (de_var 7) de_non (nomark _)) (dw_or1 (dt_cmp (r := (rI0 fun i j => .bl (decide (i < j)))) op_lt rs_lt (de_op (r := (rMulA K)) op_mulA rsem_mul (de_ix (de_var 9) de_int) (de_ix (de_ix (de_var 7) de_int) de_int)) (de_op (r := (rMulA K)) op_mulA rsem_mul (de_ix (de_ix (de_var 7) de_int) de_int) (de_ix (de_var 9) de_int)) (nomark _))))) (dss_one (ds_set (i := 7) sc.nd (by rfl) (by first | exact Or.inl rfl | exact Or.inr rfl) (de_tup (da_cons (de_var 9) (da_cons (de_var 8) da_nil))))) dss_nil))))
    (dss_one (ds_retV 7))))))))⟩
abbrev nm_need_cycle : List Str := ["order", "many", "move"]
theorem sc_need_cycle : FnScope nm_need_cycle ["order", "many"] (defScope s_need_cycle) := ⟨rfl, rfl, rfl, by decide +kernel, rfl, by decide +kernel, by decide +kernel⟩
def g_need_cycle : DV.Env → M Out :=
  (sSeq (sIf (tIfT (tNotF (eT (eFn (fun xs => if xs.length = 3 then m_is_list xs else fail) (aCons (eVar 0) (aCons (e2 gAddA (eVar 1) (eC (.int 1))) (aCons (e2 gAddA (eVar 1) (eC (.int 1))) aNil)))))) (tRetB true) (tNotF (eT (eCall gAll (aCons (eLc (srcV 0) [2] (gNm 2) tTrue (eFn (fun xs => if xs.length = 3 then m_is_in xs else fail) (aCons (eVar 2) (aCons (eC (.int 0)) (aCons (eVar 1) aNil))))) aNil))))) sNever sNil)
  (sIf (tIfT (eT (e2 gNe (e2 gIx (eVar 0) (eC (.int 0))) (eC (.int 0)))) (tRetB true) (eT (e2 gNe (eLenSet (eVar 0)) (e2 gAddA (eVar 1) (eC (.int 1)))))) sNever sNil))
def m_need_cycle : List RV → M RV := runDef 3 g_need_cycle
theorem ok_need_cycle {f : Addr} {fd : FuncData} (F : Fun K "need_cycle" "need_cycle" s_need_cycle f fd) (T : Txt mg) (C_is_list : Cal P w K mg base "is_list" 1 ["value", "least", "most"] 3 m_is_list) (C_is_in : Cal P w K mg base "is_in" 2 ["value", "least", "most"] 3 m_is_in) : FnOk P w K mg base CX0 3 f fd ["order", "many"] (spFn K 2 m_need_cycle) := by
  have sc := sc_need_cycle
  have e : spFn K 2 m_need_cycle = spFn K (["order", "many"] : List Str).length (runDef nm_need_cycle.length g_need_cycle) := rfl
  rw [e]
  refine fn_ok (P := P) (w := w) (mg := mg) (base := base) (k := 2) (g := g_need_cycle) F sc ?_
  intro R cdv A outer s H E hcd hr
  exact ⟨_, (dss_cons (ds_if (DW.dt (dw_or (dt_not (dt_val (de_call C_is_list hr (by decide) (by rfl) (da_cons (de_var 0) (da_cons (de_op (r := (rAddA K)) op_addA rsem_add (de_var 1) de_int) (da_cons (de_op (r := (rAddA K)) op_addA rsem_add (de_var 1) de_int) da_nil)))))) (dw_or1 (dt_not (dt_val (de_callB (r := (rAll K)) (cr_all (by rfl)) (csem_bools _) (by rfl) T.b_all PyProof.Rows.boot_all (da_cons (de_lc (own := [("move", 2)]) (g := (gName 2)) (tt := tYes) (te := (tCall (spFn K 3 m_is_in) [] E0 (tCons (tVar 2) (tCons (tC (.int 0)) (tCons (tVar 1) tNil))))) (by rfl) sc.nd (di_seq (src_v 0)) (blkOk_by (N := nm_need_cycle) (sc := defScope s_need_cycle) (by decide +kernel)) (by decide) (fun _ _ _ _ _ => (dg_name (i := 2) sc.nd (by rfl) (by first | exact Or.inl rfl | exact Or.inr rfl))) (fun _ _ _ _ _ => dts_nil) (fun _ _ _ _ _ => (de_call C_is_in hr (by decide) (by rfl) (da_cons (de_var 2) (da_cons de_int (da_cons (de_var 1) da_nil)))))) da_nil))))))) dss_never dss_nil)
    (dss_one (ds_if (DW.dt (dw_or (dt_cmp (r := (rNeD K)) (op_neD (rm64 hr)) rsem_ne (de_ix (de_var 0) de_int) de_int (nomark _)) (dw_or1 (dt_cmp (r := (rNeD K)) (op_neD (rm64 hr)) rsem_ne (de_lenSet (by rfl) (by rfl) T.b_len (by rfl) T.b_set (de_var 0)) (de_op (r := (rAddA K)) op_addA rsem_add (de_var 1) de_int) (nomark _))))) dss_never dss_nil)))⟩
abbrev nm_robot_round : List Str := ["times", "moves", "walk", "order"]
theorem sc_robot_round : FnScope nm_robot_round ["times", "moves", "walk", "order"] (defScope s_robot_round) := ⟨rfl, rfl, rfl, by decide +kernel, rfl, by decide +kernel, by decide +kernel⟩
def g_robot_round : DV.Env → M Out :=
  (sSeq (sDrop (eFn (fun xs => if xs.length = 2 then m_need_line xs else fail) (aCons (eVar 0) (aCons (eVar 1) aNil))))
  (sSeq (sIf (tNotF (eT (eFn (fun xs => if xs.length = 3 then m_is_in xs else fail) (aCons (eVar 2) (aCons (eC (.int 0)) (aCons (eC (.int 60)) aNil)))))) sNever sNil)
  (sSeq (sDrop (eFn (fun xs => if xs.length = 2 then m_need_cycle xs else fail) (aCons (eVar 3) (aCons (eCall gLen (aCons (eVar 0) aNil)) aNil))))
  (sRet (eFn (fun xs => if xs.length = 4 then m_robot_in xs else fail) (aCons (eVar 0) (aCons (eVar 1) (aCons (eVar 2) (aCons (eVar 3) aNil)))))))))
def m_robot_round : List RV → M RV := runDef 4 g_robot_round
theorem ok_robot_round {f : Addr} {fd : FuncData} (F : Fun K "robot_round" "robot_round" s_robot_round f fd) (T : Txt mg) (C_need_line : Cal P w K mg base "need_line" 3 ["times", "moves"] 2 m_need_line) (C_is_in : Cal P w K mg base "is_in" 2 ["value", "least", "most"] 3 m_is_in) (C_need_cycle : Cal P w K mg base "need_cycle" 3 ["order", "many"] 2 m_need_cycle) (C_robot_in : Cal P w K mg base "robot_in" 2 ["times", "moves", "walk", "order"] 4 m_robot_in) : FnOk P w K mg base CX0 4 f fd ["times", "moves", "walk", "order"] (spFn K 4 m_robot_round) := by
  have sc := sc_robot_round
  have e : spFn K 4 m_robot_round = spFn K (["times", "moves", "walk", "order"] : List Str).length (runDef nm_robot_round.length g_robot_round) := rfl
  rw [e]
  refine fn_ok (P := P) (w := w) (mg := mg) (base := base) (k := 3) (g := g_robot_round) F sc ?_
  intro R cdv A outer s H E hcd hr
  exact ⟨_, (dss_cons (ds_expr (de_call C_need_line hr (by decide) (by rfl) (da_cons (de_var 0) (da_cons (de_var 1) da_nil))))
    (dss_cons (ds_if (dt_not (dt_val (de_call C_is_in hr (by decide) (by rfl) (da_cons (de_var 2) (da_cons de_int (da_cons (de_gI (by rfl) T.c_MOST_TIME) da_nil)))))) dss_never dss_nil)
    (dss_cons (ds_expr (de_call C_need_cycle hr (by decide) (by rfl) (da_cons (de_var 3) (da_cons (de_callB (r := (DV.rLen K)) call_len_seq csem_len (by rfl) T.b_len PySem.boot_len (da_cons (de_var 0) da_nil)) da_nil))))
    (dss_one (ds_ret (de_call C_robot_in hr (by decide) (by rfl) (da_cons (de_var 0) (da_cons (de_var 1) (da_cons (de_var 2) (da_cons (de_var 3) da_nil))))))))))⟩
abbrev nm_law : List Str := ["_law_script", "_law_row", "_law_many", "_law_top", "_law_times", "_law_at", "_law_moves", "_law_walk", "_law_order_here", "_law_links", "_law_told", "_law_least", "_law_some", "_law_one", "_law_found", "_law_best"]
theorem sc_law : FnScope nm_law ["_law_script"] (defScope s_law) := ⟨rfl, rfl, rfl, by decide +kernel, rfl, by decide +kernel, by decide +kernel⟩
def g_law : DV.Env → M Out :=
  (sSeq (sPar 2 3 (aCons (e2 gAddA (eC (.int 1)) (eFn (fun xs => if xs.length = 2 then m__law_taken xs else fail) (aCons (eVar 1) (aCons (eC (.int 4)) aNil)))) (aCons (eFn (fun xs => if xs.length = 2 then m__law_pick xs else fail) (aCons (eVar 1) (aCons (eLst (aCons (eC (.int 3)) (aCons (eC (.int 30)) aNil))) aNil))) aNil)))
  (sSeq (sSet 4 (eCall gTuple (aCons (eLc (iRng1F (eVar 2)) [5] (gNm 5) tTrue (eFn (fun xs => if xs.length = 2 then m__law_taken xs else fail) (aCons (eVar 1) (aCons (eVar 3) aNil)))) aNil)))
  (sSeq (sPar 6 7 (aCons (eCall gTuple (aCons (eLc (iRng1F (e2 gAddA (eVar 2) (eC (.int 1)))) [5] (gNm 5) tTrue (e2 gAddA (eC (.int 1)) (eFn (fun xs => if xs.length = 2 then m__law_taken xs else fail) (aCons (eVar 1) (aCons (eC (.int 3)) aNil))))) aNil)) (aCons (eFn (fun xs => if xs.length = 2 then m__law_taken xs else fail) (aCons (eVar 1) (aCons (eC (.int 3)) aNil))) aNil)))
  (sSeq (sSet 8 (e2 gAddA (eTup (aCons (eC (.int 0)) aNil)) (eCall gTuple (aCons (eLc (srcE (eFn (fun xs => if xs.length = 2 then m__law_order xs else fail) (aCons (eVar 1) (aCons (eVar 2) aNil)))) [5] (gNm 5) tTrue (e2 gAddA (eVar 5) (eC (.int 1)))) aNil))))
  (sSeq (sSet 9 (eFn (fun xs => if xs.length = 4 then m__law_robot xs else fail) (aCons (eVar 4) (aCons (eVar 6) (aCons (eVar 7) (aCons (eVar 8) aNil))))))
  (sSeq (sSet 10 (eFn (fun xs => if xs.length = 4 then m_robot_round xs else fail) (aCons (eVar 4) (aCons (eVar 6) (aCons (eVar 7) (aCons (eVar 8) aNil))))))
  (sSeq (sIf (tIfT (eT (e2 gIs (eFn (fun xs => if xs.length = 4 then m__law_begins xs else fail) (aCons (e2 gAddA (eVar 2) (eC (.int 1))) (aCons (eVar 9) (aCons (e2 gIx (eVar 10) (eC (.int 0))) (aCons (e2 gIx (eVar 10) (eC (.int 1))) aNil))))) (eC .none))) (tRetB true) (eT (e2 gIsNot (eFn (fun xs => if xs.length = 4 then m__law_begins xs else fail) (aCons (e2 gAddA (eVar 2) (eC (.int 1))) (aCons (eVar 9) (aCons (e2 gSubI (e2 gMulA (e2 gIx (eVar 10) (eC (.int 0))) (eC (.int 100))) (eC (.int 1))) (aCons (e2 gMulA (e2 gIx (eVar 10) (eC (.int 1))) (eC (.int 100))) aNil))))) (eC .none)))) (sRet (eC (.bool false))) sNil)
  (sSeq (sSet 11 (eC .none))
  (sSeq (sFor (srcE (eFn (fun xs => if xs.length = 2 then m__law_orders xs else fail) (aCons (eVar 2) (aCons (eTup aNil) aNil)))) (gNm 12) (sSeq (sSet 13 (eFn (fun xs => if xs.length = 4 then m_robot_round xs else fail) (aCons (eVar 4) (aCons (eVar 6) (aCons (eVar 7) (aCons (e2 gAddA (eTup (aCons (eC (.int 0)) aNil)) (eCall gTuple (aCons (eLc (srcV 12) [5] (gNm 5) tTrue (e2 gAddA (eVar 5) (eC (.int 1)))) aNil))) aNil))))))
  (sSet 11 (eIf (tIfT (eT (e2 gIs (eVar 11) (eC .none))) (tRetB true) (eT (e2 gLt (e2 gMulA (e2 gIx (eVar 13) (eC (.int 0))) (e2 gIx (eVar 11) (eC (.int 1)))) (e2 gMulA (e2 gIx (eVar 11) (eC (.int 0))) (e2 gIx (eVar 13) (eC (.int 1))))))) (eVar 13) (eVar 11)))))
  (sSeq (sTup (eFn (fun xs => if xs.length = 3 then m_best_robot xs else fail) (aCons (eVar 4) (aCons (eVar 6) (aCons (eVar 7) aNil)))) (gTupF 2 (gMore (gNm 14) (gMore (gNm 15) gNone))))
  (sSeq (sIf (tIfT (eT (e2 gNe (eVar 14) (eVar 11))) (tRetB true) (eT (e2 gNe (eFn (fun xs => if xs.length = 4 then m_robot_round xs else fail) (aCons (eVar 4) (aCons (eVar 6) (aCons (eVar 7) (aCons (eVar 15) aNil))))) (eVar 14)))) (sRet (eC (.bool false))) sNil)
  (sRet (e2 gGe (e2 gIx (eVar 10) (eC (.int 0))) (e2 gMulA (e2 gIx (eVar 10) (eC (.int 1))) (eCall gSum (aCons (eVar 6) aNil))))))))))))))))
def LawHolds : Prop := ∀ ns : List Int, ns.length ≤ 63 → ∃ rs', g_law (lawE 16) ⟨ns, 0, 3963, 0⟩ = some (.rt (.d (.bool true)), rs')
theorem ok_law {f : Addr} {fd : FuncData} (hlaw : LawHolds) (F : Fun K "law" "law" s_law f fd) (T : Txt mg) (C__law_taken : Cal P w K mg base "_law_taken" 1 ["_law_row", "_law_many"] 2 m__law_taken) (C__law_pick : Cal P w K mg base "_law_pick" 2 ["_law_row", "_law_things"] 2 m__law_pick) (C__law_order : Cal P w K mg base "_law_order" 2 ["_law_row", "_law_many"] 2 m__law_order) (C__law_robot : Cal P w K mg base "_law_robot" 1 ["_law_times", "_law_moves", "_law_walk", "_law_order_here"] 4 m__law_robot) (C_robot_round : Cal P w K mg base "robot_round" 4 ["times", "moves", "walk", "order"] 4 m_robot_round) (C__law_begins : Cal P w K mg base "_law_begins" 1 ["_law_many", "_law_links", "_law_top", "_law_bottom"] 4 m__law_begins) (C__law_orders : Cal P w K mg base "_law_orders" 1 ["_law_many", "_law_pairs"] 2 m__law_orders) (C_best_robot : Cal P w K mg base "best_robot" 4 ["times", "moves", "walk"] 3 m_best_robot) : FnOk P w K mg base CX0 5 f fd ["_law_script"] (spLaw K) :=
  have sc := sc_law
  law_ok (k := 4) (g := g_law) (seed := 3963) F sc (by decide) rfl (fun cdv A outer s H E hr => ⟨ps_set (i := 1) sc.nd rfl (by first | exact Or.inl rfl | exact Or.inr rfl) (pe_lst (pa_cons (pv 0) (pa_cons pe_int (pa_cons pe_int (pa_cons pe_int pa_nil))))), _, fun R => (dss_cons (ds_tup2L (i := 2) (j := 3) (by rfl) sc.nd (by rfl) (by rfl) (by first | exact Or.inl rfl | exact Or.inr rfl) (by first | exact Or.inl rfl | exact Or.inr rfl) (de_op (r := (rAddA K)) op_addA rsem_add de_int (de_call C__law_taken hr (by decide) (by rfl) (da_cons (de_var 1) (da_cons de_int da_nil)))) (de_call C__law_pick hr (by decide) (by rfl) (da_cons (de_var 1) (da_cons (de_lst (da_cons de_int (da_cons de_int da_nil))) da_nil))) (by rfl))
    (dss_cons (ds_set (i := 4) sc.nd (by rfl) (by first | exact Or.inl rfl | exact Or.inr rfl) (de_callTy (r := (DV.rTuple K)) call_tupX csem_tuple (by rfl) T.b_tuple PyProof.Rows.boot_tuple (da_cons (de_lc (own := [("_law_at", 5)]) (g := (gName 5)) (tt := tYes) (te := (tCall (spFn K 2 m__law_taken) [] E0 (tCons (tVar 1) (tCons (tVar 3) tNil)))) (by rfl) sc.nd (di_range1 (by rfl) T.b_range (de_var 2)) (blkOk_by (N := nm_law) (sc := defScope s_law) (by decide +kernel)) (by decide) (fun _ _ _ _ _ => (dg_name (i := 5) sc.nd (by rfl) (by first | exact Or.inl rfl | exact Or.inr rfl))) (fun _ _ _ _ _ => dts_nil) (fun _ _ _ _ _ => (de_call C__law_taken hr (by decide) (by rfl) (da_cons (de_var 1) (da_cons (de_var 3) da_nil))))) da_nil)))
    (dss_cons (ds_par (i := 6) (j := 7) (by rfl) sc.nd (by rfl) (by rfl) (by decide) (by rfl) (by rfl) (de_callTy (r := (DV.rTuple K)) call_tupX csem_tuple (by rfl) T.b_tuple PyProof.Rows.boot_tuple (da_cons (de_lc (own := [("_law_at", 5)]) (g := (gName 5)) (tt := tYes) (te := (tOp (rAddA K) (tC (.int 1)) (tCall (spFn K 2 m__law_taken) [] E0 (tCons (tVar 1) (tCons (tC (.int 3)) tNil))))) (by rfl) sc.nd (di_range1 (by rfl) T.b_range (de_op (r := (rAddA K)) op_addA rsem_add (de_var 2) de_int)) (blkOk_by (N := nm_law) (sc := defScope s_law) (by decide +kernel)) (by decide) (fun _ _ _ _ _ => (dg_name (i := 5) sc.nd (by rfl) (by first | exact Or.inl rfl | exact Or.inr rfl))) (fun _ _ _ _ _ => dts_nil) (fun _ _ _ _ _ => (de_op (r := (rAddA K)) op_addA rsem_add de_int (de_call C__law_taken hr (by decide) (by rfl) (da_cons (de_var 1) (da_cons de_int da_nil)))))) da_nil)) (de_call C__law_taken hr (by decide) (by rfl) (da_cons (de_var 1) (da_cons de_int da_nil))) (by rfl))
    (dss_cons (ds_set (i := 8) sc.nd (by rfl) (by first | exact Or.inl rfl | exact Or.inr rfl) (de_op (r := (rAddA K)) op_addA rsem_add (de_tup (da_cons de_int da_nil)) (de_callTy (r := (DV.rTuple K)) call_tupX csem_tuple (by rfl) T.b_tuple PyProof.Rows.boot_tuple (da_cons (de_lc (own := [("_law_at", 5)]) (g := (gName 5)) (tt := tYes) (te := (tOp (rAddA K) (tVar 5) (tC (.int 1)))) (by rfl) sc.nd (di_seq (src_e (de_call C__law_order hr (by decide) (by rfl) (da_cons (de_var 1) (da_cons (de_var 2) da_nil))))) (blkOk_by (N := nm_law) (sc := defScope s_law) (by decide +kernel)) (by decide) (fun _ _ _ _ _ => (dg_name (i := 5) sc.nd (by rfl) (by first | exact Or.inl rfl | exact Or.inr rfl))) (fun _ _ _ _ _ => dts_nil) (fun _ _ _ _ _ => (de_op (r := (rAddA K)) op_addA rsem_add (de_var 5) de_int))) da_nil))))
    (dss_cons (ds_set (i := 9) sc.nd (by rfl) (by first | exact Or.inl rfl | exact Or.inr rfl) (de_call C__law_robot hr (by decide) (by rfl) (da_cons (de_var 4) (da_cons (de_var 6) (da_cons (de_var 7) (da_cons (de_var 8) da_nil))))))
    (dss_cons (ds_set (i := 10) sc.nd (by rfl) (by first | exact Or.inl rfl | exact Or.inr rfl) (de_call C_robot_round hr (by decide) (by rfl) (da_cons (de_var 4) (da_cons (de_var 6) (da_cons (de_var 7) (da_cons (de_var 8) da_nil))))))
    (dss_cons (ds_if (DW.dt (dw_or (dt_cmp (r := (fun x y H Q => y = .non ∧ Q (.bl (decide (x = .non))) H)) op_isN rsem_isN (de_call C__law_begins hr (by decide) (by rfl) (da_cons (de_op (r := (rAddA K)) op_addA rsem_add (de_var 2) de_int) (da_cons (de_var 9) (da_cons (de_ix (de_var 10) de_int) (da_cons (de_ix (de_var 10) de_int) da_nil))))) de_non (nomark _)) (dw_or1 (dt_cmp (r := (fun x y H Q => y = .non ∧ Q (.bl (!decide (x = .non))) H)) op_notN rsem_notN (de_call C__law_begins hr (by decide) (by rfl) (da_cons (de_op (r := (rAddA K)) op_addA rsem_add (de_var 2) de_int) (da_cons (de_var 9) (da_cons (de_op (r := (rI0 fun i j => .int (i - j))) op_sub rs_sub (de_op (r := (rMulA K)) op_mulA rsem_mul (de_ix (de_var 10) de_int) de_int) de_int) (da_cons (de_op (r := (rMulA K)) op_mulA rsem_mul (de_ix (de_var 10) de_int) de_int) da_nil))))) de_non (nomark _))))) (dss_one (ds_ret de_bl)) dss_nil)
    (dss_cons (ds_set (i := 11) sc.nd (by rfl) (by first | exact Or.inl rfl | exact Or.inr rfl) de_non)
    (dss_cons (ds_for PassesOwn.never (by rfl) (di_seq (src_e (de_call C__law_orders hr (by decide) (by rfl) (da_cons (de_var 2) (da_cons (de_tup da_nil) da_nil))))) (dg_name (i := 12) sc.nd (by rfl) (by first | exact Or.inl rfl | exact Or.inr rfl)) (dss_cons (ds_set (i := 13) sc.nd (by rfl) (by first | exact Or.inl rfl | exact Or.inr rfl) (de_call C_robot_round hr (by decide) (by rfl) (da_cons (de_var 4) (da_cons (de_var 6) (da_cons (de_var 7) (da_cons (de_op (r := (rAddA K)) op_addA rsem_add (de_tup (da_cons de_int da_nil)) (de_callTy (r := (DV.rTuple K)) call_tupX csem_tuple (by rfl) T.b_tuple PyProof.Rows.boot_tuple (da_cons (de_lc (own := [("_law_at", 5)]) (g := (gName 5)) (tt := tYes) (te := (tOp (rAddA K) (tVar 5) (tC (.int 1)))) (by rfl) sc.nd (di_seq (src_v 12)) (blkOk_by (N := nm_law) (sc := defScope s_law) (by decide +kernel)) (by decide) (fun _ _ _ _ _ => (dg_name (i := 5) sc.nd (by rfl) (by first | exact Or.inl rfl | exact Or.inr rfl))) (fun _ _ _ _ _ => dts_nil) (fun _ _ _ _ _ => (de_op (r := (rAddA K)) op_addA rsem_add (de_var 5) de_int))) da_nil))) da_nil))))))
    (dss_one (ds_set (i := 11) sc.nd (by rfl) (by first | exact Or.inl rfl | exact Or.inr rfl) (de_if (DW.dt (dw_or (dt_cmp (r := (fun x y H Q => y = .non ∧ Q (.bl (decide (x = .non))) H)) op_isN rsem_isN (de_var 11) de_non (nomark _)) (dw_or1 (dt_cmp (r := (rI0 fun i j => .bl (decide (i < j)))) op_lt rs_lt (de_op (r := (rMulA K)) op_mulA rsem_mul (de_ix (de_var 13) de_int) (de_ix (de_var 11) de_int)) (de_op (r := (rMulA K)) op_mulA rsem_mul (de_ix (de_var 11) de_int) (de_ix (de_var 13) de_int)) (nomark _))))) (de_var 13) (de_var 11))))))
    (dss_cons (ds_tup (de_call C_best_robot hr (by decide) (by rfl) (da_cons (de_var 4) (da_cons (de_var 6) (da_cons (de_var 7) da_nil)))) (dg_tup (by rfl) (dgs_cons (dg_name (i := 14) sc.nd (by rfl) (by first | exact Or.inl rfl | exact Or.inr rfl)) (dgs_cons (dg_name (i := 15) sc.nd (by rfl) (by first | exact Or.inl rfl | exact Or.inr rfl)) dgs_nil))))
    (dss_cons (ds_if (DW.dt (dw_or (dt_cmp (r := (rNeD K)) (op_neD (rm64 hr)) rsem_ne (de_var 14) (de_var 11) (nomark _)) (dw_or1 (dt_cmp (r := (rNeD K)) (op_neD (rm64 hr)) rsem_ne (de_call C_robot_round hr (by decide) (by rfl) (da_cons (de_var 4) (da_cons (de_var 6) (da_cons (de_var 7) (da_cons (de_var 15) da_nil))))) (de_var 14) (nomark _))))) (dss_one (ds_ret de_bl)) dss_nil)
    (dss_one (ds_ret (de_cmp (r := (rI0 fun i j => .bl (decide (j ≤ i)))) op_ge rs_ge (de_ix (de_var 10) de_int) (de_op (r := (rMulA K)) op_mulA rsem_mul (de_ix (de_var 10) de_int) (de_callB (r := (DV.rSumA K)) (cr_sumA (by rfl)) csem_sum (by rfl) T.b_sum PyProof.Rows.boot_sum (da_cons (de_var 6) da_nil))) (nomark _)))))))))))))))⟩) hlaw
end
theorem all_mk {l : PySem.W.OpenLaw} {w : World} {K : PySem.W.Frag} {h : Heap} {mg : Str → Option Value} {fa f1 f2 f3 f4 f5 f6 f7 f8 f9 f10 f11 f12 f13 f14 f15 f16 f17 f18 : Addr} (hlaw : LawHolds) (X : K.In h) (G : h.Ns mainGlobals mg) (hfa : mg "law" = some (.ref fa))
    {od1 an1 od2 an2 od3 an3 od4 an4 od5 an5 od6 an6 od7 an7 od8 an8 od9 an9 od10 an10 od11 an11 od12 an12 od13 an13 od14 an14 od15 an15 od16 an16 od17 an17 od18 an18 : Option Addr} {sl1 sl2 sl3 sl4 sl5 sl6 sl7 sl8 sl9 sl10 sl11 sl12 sl13 sl14 sl15 sl16 sl17 sl18 : Array (Option Value)} {oc1 kV1 dc1 pm1 cd1 ct1 oc2 kV2 dc2 pm2 cd2 ct2 oc3 kV3 dc3 pm3 cd3 ct3 oc4 kV4 dc4 pm4 cd4 ct4 oc5 kV5 dc5 pm5 cd5 ct5 oc6 kV6 dc6 pm6 cd6 ct6 oc7 kV7 dc7 pm7 cd7 ct7 oc8 kV8 dc8 pm8 cd8 ct8 oc9 kV9 dc9 pm9 cd9 ct9 oc10 kV10 dc10 pm10 cd10 ct10 oc11 kV11 dc11 pm11 cd11 ct11 oc12 kV12 dc12 pm12 cd12 ct12 oc13 kV13 dc13 pm13 cd13 ct13 oc14 kV14 dc14 pm14 cd14 ct14 oc15 kV15 dc15 pm15 cd15 ct15 oc16 kV16 dc16 pm16 cd16 ct16 oc17 kV17 dc17 pm17 cd17 ct17 oc18 kV18 dc18 pm18 cd18 ct18 : Value}
    (a1 : PySem.W.nsIn K mainGlobals "_law_begins" = some (some (.ref f1))) (l1 : K.lookup f1 = some ⟨oc1, od1, .func (PySem.W.fnOf "_law_begins" "_law_begins" (defArgs s__law_begins) (defBody s__law_begins) (defScope s__law_begins) .none kV1 dc1 pm1 an1 cd1 ct1), sl1⟩) (c1 : PySem.W.codeIn K cd1 "_law_begins" = true) (k1 : PySem.W.keepIn K (.ref f1) = true)
    (a2 : PySem.W.nsIn K mainGlobals "_law_taken" = some (some (.ref f2))) (l2 : K.lookup f2 = some ⟨oc2, od2, .func (PySem.W.fnOf "_law_taken" "_law_taken" (defArgs s__law_taken) (defBody s__law_taken) (defScope s__law_taken) .none kV2 dc2 pm2 an2 cd2 ct2), sl2⟩) (c2 : PySem.W.codeIn K cd2 "_law_taken" = true) (k2 : PySem.W.keepIn K (.ref f2) = true)
    (a3 : PySem.W.nsIn K mainGlobals "_law_order" = some (some (.ref f3))) (l3 : K.lookup f3 = some ⟨oc3, od3, .func (PySem.W.fnOf "_law_order" "_law_order" (defArgs s__law_order) (defBody s__law_order) (defScope s__law_order) .none kV3 dc3 pm3 an3 cd3 ct3), sl3⟩) (c3 : PySem.W.codeIn K cd3 "_law_order" = true) (k3 : PySem.W.keepIn K (.ref f3) = true)
    (a4 : PySem.W.nsIn K mainGlobals "_law_orders" = some (some (.ref f4))) (l4 : K.lookup f4 = some ⟨oc4, od4, .func (PySem.W.fnOf "_law_orders" "_law_orders" (defArgs s__law_orders) (defBody s__law_orders) (defScope s__law_orders) .none kV4 dc4 pm4 an4 cd4 ct4), sl4⟩) (c4 : PySem.W.codeIn K cd4 "_law_orders" = true) (k4 : PySem.W.keepIn K (.ref f4) = true)
    (a5 : PySem.W.nsIn K mainGlobals "_law_pick" = some (some (.ref f5))) (l5 : K.lookup f5 = some ⟨oc5, od5, .func (PySem.W.fnOf "_law_pick" "_law_pick" (defArgs s__law_pick) (defBody s__law_pick) (defScope s__law_pick) .none kV5 dc5 pm5 an5 cd5 ct5), sl5⟩) (c5 : PySem.W.codeIn K cd5 "_law_pick" = true) (k5 : PySem.W.keepIn K (.ref f5) = true)
    (a6 : PySem.W.nsIn K mainGlobals "_law_robot" = some (some (.ref f6))) (l6 : K.lookup f6 = some ⟨oc6, od6, .func (PySem.W.fnOf "_law_robot" "_law_robot" (defArgs s__law_robot) (defBody s__law_robot) (defScope s__law_robot) .none kV6 dc6 pm6 an6 cd6 ct6), sl6⟩) (c6 : PySem.W.codeIn K cd6 "_law_robot" = true) (k6 : PySem.W.keepIn K (.ref f6) = true)
    (a7 : PySem.W.nsIn K mainGlobals "is_integer" = some (some (.ref f7))) (l7 : K.lookup f7 = some ⟨oc7, od7, .func (PySem.W.fnOf "is_integer" "is_integer" (defArgs s_is_integer) (defBody s_is_integer) (defScope s_is_integer) .none kV7 dc7 pm7 an7 cd7 ct7), sl7⟩) (c7 : PySem.W.codeIn K cd7 "is_integer" = true) (k7 : PySem.W.keepIn K (.ref f7) = true)
    (a8 : PySem.W.nsIn K mainGlobals "is_in" = some (some (.ref f8))) (l8 : K.lookup f8 = some ⟨oc8, od8, .func (PySem.W.fnOf "is_in" "is_in" (defArgs s_is_in) (defBody s_is_in) (defScope s_is_in) .none kV8 dc8 pm8 an8 cd8 ct8), sl8⟩) (c8 : PySem.W.codeIn K cd8 "is_in" = true) (k8 : PySem.W.keepIn K (.ref f8) = true)
    (a9 : PySem.W.nsIn K mainGlobals "is_list" = some (some (.ref f9))) (l9 : K.lookup f9 = some ⟨oc9, od9, .func (PySem.W.fnOf "is_list" "is_list" (defArgs s_is_list) (defBody s_is_list) (defScope s_is_list) .none kV9 dc9 pm9 an9 cd9 ct9), sl9⟩) (c9 : PySem.W.codeIn K cd9 "is_list" = true) (k9 : PySem.W.keepIn K (.ref f9) = true)
    (a10 : PySem.W.nsIn K mainGlobals "need_line" = some (some (.ref f10))) (l10 : K.lookup f10 = some ⟨oc10, od10, .func (PySem.W.fnOf "need_line" "need_line" (defArgs s_need_line) (defBody s_need_line) (defScope s_need_line) .none kV10 dc10 pm10 an10 cd10 ct10), sl10⟩) (c10 : PySem.W.codeIn K cd10 "need_line" = true) (k10 : PySem.W.keepIn K (.ref f10) = true)
    (a11 : PySem.W.nsIn K mainGlobals "lowest" = some (some (.ref f11))) (l11 : K.lookup f11 = some ⟨oc11, od11, .func (PySem.W.fnOf "lowest" "lowest" (defArgs s_lowest) (defBody s_lowest) (defScope s_lowest) .none kV11 dc11 pm11 an11 cd11 ct11), sl11⟩) (c11 : PySem.W.codeIn K cd11 "lowest" = true) (k11 : PySem.W.keepIn K (.ref f11) = true)
    (a12 : PySem.W.nsIn K mainGlobals "rings_of" = some (some (.ref f12))) (l12 : K.lookup f12 = some ⟨oc12, od12, .func (PySem.W.fnOf "rings_of" "rings_of" (defArgs s_rings_of) (defBody s_rings_of) (defScope s_rings_of) .none kV12 dc12 pm12 an12 cd12 ct12), sl12⟩) (c12 : PySem.W.codeIn K cd12 "rings_of" = true) (k12 : PySem.W.keepIn K (.ref f12) = true)
    (a13 : PySem.W.nsIn K mainGlobals "robot_links" = some (some (.ref f13))) (l13 : K.lookup f13 = some ⟨oc13, od13, .func (PySem.W.fnOf "robot_links" "robot_links" (defArgs s_robot_links) (defBody s_robot_links) (defScope s_robot_links) .none kV13 dc13 pm13 an13 cd13 ct13), sl13⟩) (c13 : PySem.W.codeIn K cd13 "robot_links" = true) (k13 : PySem.W.keepIn K (.ref f13) = true)
    (a14 : PySem.W.nsIn K mainGlobals "robot_in" = some (some (.ref f14))) (l14 : K.lookup f14 = some ⟨oc14, od14, .func (PySem.W.fnOf "robot_in" "robot_in" (defArgs s_robot_in) (defBody s_robot_in) (defScope s_robot_in) .none kV14 dc14 pm14 an14 cd14 ct14), sl14⟩) (c14 : PySem.W.codeIn K cd14 "robot_in" = true) (k14 : PySem.W.keepIn K (.ref f14) = true)
    (a15 : PySem.W.nsIn K mainGlobals "best_robot" = some (some (.ref f15))) (l15 : K.lookup f15 = some ⟨oc15, od15, .func (PySem.W.fnOf "best_robot" "best_robot" (defArgs s_best_robot) (defBody s_best_robot) (defScope s_best_robot) .none kV15 dc15 pm15 an15 cd15 ct15), sl15⟩) (c15 : PySem.W.codeIn K cd15 "best_robot" = true) (k15 : PySem.W.keepIn K (.ref f15) = true)
    (a16 : PySem.W.nsIn K mainGlobals "need_cycle" = some (some (.ref f16))) (l16 : K.lookup f16 = some ⟨oc16, od16, .func (PySem.W.fnOf "need_cycle" "need_cycle" (defArgs s_need_cycle) (defBody s_need_cycle) (defScope s_need_cycle) .none kV16 dc16 pm16 an16 cd16 ct16), sl16⟩) (c16 : PySem.W.codeIn K cd16 "need_cycle" = true) (k16 : PySem.W.keepIn K (.ref f16) = true)
    (a17 : PySem.W.nsIn K mainGlobals "robot_round" = some (some (.ref f17))) (l17 : K.lookup f17 = some ⟨oc17, od17, .func (PySem.W.fnOf "robot_round" "robot_round" (defArgs s_robot_round) (defBody s_robot_round) (defScope s_robot_round) .none kV17 dc17 pm17 an17 cd17 ct17), sl17⟩) (c17 : PySem.W.codeIn K cd17 "robot_round" = true) (k17 : PySem.W.keepIn K (.ref f17) = true)
    (a18 : PySem.W.nsIn K mainGlobals "law" = some (some (.ref f18))) (l18 : K.lookup f18 = some ⟨oc18, od18, .func (PySem.W.fnOf "law" "law" (defArgs s_law) (defBody s_law) (defScope s_law) .none kV18 dc18 pm18 an18 cd18 ct18), sl18⟩) (c18 : PySem.W.codeIn K cd18 "law" = true) (k18 : PySem.W.keepIn K (.ref f18) = true)
    (z0 : PySem.W.nsIn K mainGlobals "abs" = some none) (z1 : PySem.W.nsIn K mainGlobals "all" = some none) (z2 : PySem.W.nsIn K mainGlobals "bool" = some none) (z3 : PySem.W.nsIn K mainGlobals "enumerate" = some none) (z4 : PySem.W.nsIn K mainGlobals "int" = some none) (z5 : PySem.W.nsIn K mainGlobals "isinstance" = some none) (z6 : PySem.W.nsIn K mainGlobals "len" = some none) (z7 : PySem.W.nsIn K mainGlobals "list" = some none) (z8 : PySem.W.nsIn K mainGlobals "max" = some none) (z9 : PySem.W.nsIn K mainGlobals "range" = some none) (z10 : PySem.W.nsIn K mainGlobals "set" = some none) (z11 : PySem.W.nsIn K mainGlobals "sum" = some none) (z12 : PySem.W.nsIn K mainGlobals "tuple" = some none)
    {tk0 : Tok} (y0 : PySem.W.nsIn K mainGlobals "MOST_TIME" = some (some (.int 60 tk0)))
    : ∃ fd : FuncData, (∀ (s : Shared) (v : Value), BindsTo s fd ⟨[v], []⟩ [("_law_script", v)]) ∧ ∀ base : Heap, K.In base → base.Ns mainGlobals mg → FnOk l.prog w K mg base CX0 5 fa fd ["_law_script"] (spLaw K) := by
  have e := hfa.symm.trans (PySem.W.mg_of X G a18)
  cases e
  have T : Txt mg := ⟨PySem.W.mg_none_of X G z0, PySem.W.mg_none_of X G z1, PySem.W.mg_none_of X G z2, PySem.W.mg_none_of X G z3, PySem.W.mg_none_of X G z4, PySem.W.mg_none_of X G z5, PySem.W.mg_none_of X G z6, PySem.W.mg_none_of X G z7, PySem.W.mg_none_of X G z8, PySem.W.mg_none_of X G z9, PySem.W.mg_none_of X G z10, PySem.W.mg_none_of X G z11, PySem.W.mg_none_of X G z12, ⟨_, PySem.W.mg_of X G y0⟩⟩
  have F1 := fun_mk (st := s__law_begins) l1 c1 k1
  have b1 := F1.binds (ps := ["_law_many", "_law_links", "_law_top", "_law_bottom"]) fun _ _ _ _ _ _ us hl => match us, hl with | [_, _, _, _], _ => rfl
  have F2 := fun_mk (st := s__law_taken) l2 c2 k2
  have b2 := F2.binds (ps := ["_law_row", "_law_many"]) fun _ _ _ _ _ _ us hl => match us, hl with | [_, _], _ => rfl
  have F3 := fun_mk (st := s__law_order) l3 c3 k3
  have b3 := F3.binds (ps := ["_law_row", "_law_many"]) fun _ _ _ _ _ _ us hl => match us, hl with | [_, _], _ => rfl
  have F4 := fun_mk (st := s__law_orders) l4 c4 k4
  have b4 := F4.binds (ps := ["_law_many", "_law_pairs"]) fun _ _ _ _ _ _ us hl => match us, hl with | [_, _], _ => rfl
  have F5 := fun_mk (st := s__law_pick) l5 c5 k5
  have b5 := F5.binds (ps := ["_law_row", "_law_things"]) fun _ _ _ _ _ _ us hl => match us, hl with | [_, _], _ => rfl
  have F6 := fun_mk (st := s__law_robot) l6 c6 k6
  have b6 := F6.binds (ps := ["_law_times", "_law_moves", "_law_walk", "_law_order_here"]) fun _ _ _ _ _ _ us hl => match us, hl with | [_, _, _, _], _ => rfl
  have F7 := fun_mk (st := s_is_integer) l7 c7 k7
  have b7 := F7.binds (ps := ["value"]) fun _ _ _ _ _ _ us hl => match us, hl with | [_], _ => rfl
  have F8 := fun_mk (st := s_is_in) l8 c8 k8
  have b8 := F8.binds (ps := ["value", "least", "most"]) fun _ _ _ _ _ _ us hl => match us, hl with | [_, _, _], _ => rfl
  have F9 := fun_mk (st := s_is_list) l9 c9 k9
  have b9 := F9.binds (ps := ["value", "least", "most"]) fun _ _ _ _ _ _ us hl => match us, hl with | [_, _, _], _ => rfl
  have F10 := fun_mk (st := s_need_line) l10 c10 k10
  have b10 := F10.binds (ps := ["times", "moves"]) fun _ _ _ _ _ _ us hl => match us, hl with | [_, _], _ => rfl
  have F11 := fun_mk (st := s_lowest) l11 c11 k11
  have b11 := F11.binds (ps := ["top", "bottom"]) fun _ _ _ _ _ _ us hl => match us, hl with | [_, _], _ => rfl
  have F12 := fun_mk (st := s_rings_of) l12 c12 k12
  have b12 := F12.binds (ps := ["many", "links"]) fun _ _ _ _ _ _ us hl => match us, hl with | [_, _], _ => rfl
  have F13 := fun_mk (st := s_robot_links) l13 c13 k13
  have b13 := F13.binds (ps := ["times", "moves", "walk", "order"]) fun _ _ _ _ _ _ us hl => match us, hl with | [_, _, _, _], _ => rfl
  have F14 := fun_mk (st := s_robot_in) l14 c14 k14
  have b14 := F14.binds (ps := ["times", "moves", "walk", "order"]) fun _ _ _ _ _ _ us hl => match us, hl with | [_, _, _, _], _ => rfl
  have F15 := fun_mk (st := s_best_robot) l15 c15 k15
  have b15 := F15.binds (ps := ["times", "moves", "walk"]) fun _ _ _ _ _ _ us hl => match us, hl with | [_, _, _], _ => rfl
  have F16 := fun_mk (st := s_need_cycle) l16 c16 k16
  have b16 := F16.binds (ps := ["order", "many"]) fun _ _ _ _ _ _ us hl => match us, hl with | [_, _], _ => rfl
  have F17 := fun_mk (st := s_robot_round) l17 c17 k17
  have b17 := F17.binds (ps := ["times", "moves", "walk", "order"]) fun _ _ _ _ _ _ us hl => match us, hl with | [_, _, _, _], _ => rfl
  have F18 := fun_mk (st := s_law) l18 c18 k18
  refine ⟨PySem.W.fnOf "law" "law" (defArgs s_law) (defBody s_law) (defScope s_law) .none kV18 dc18 pm18 an18 cd18 ct18, fun s v => .of_eq rfl, fun base _ _ => ?_⟩
  have C__law_begins : Cal l.prog w K mg base "_law_begins" 1 ["_law_many", "_law_links", "_law_top", "_law_bottom"] 4 m__law_begins := ⟨_, _, ok__law_begins F1 T , PySem.W.mg_of X G a1, k1, b1⟩
  have C__law_taken : Cal l.prog w K mg base "_law_taken" 1 ["_law_row", "_law_many"] 2 m__law_taken := ⟨_, _, ok__law_taken F2 T , PySem.W.mg_of X G a2, k2, b2⟩
  have C__law_order : Cal l.prog w K mg base "_law_order" 2 ["_law_row", "_law_many"] 2 m__law_order := ⟨_, _, ok__law_order F3 T C__law_taken, PySem.W.mg_of X G a3, k3, b3⟩
  have C__law_orders : Cal l.prog w K mg base "_law_orders" 1 ["_law_many", "_law_pairs"] 2 m__law_orders := ⟨_, _, ok__law_orders F4 T , PySem.W.mg_of X G a4, k4, b4⟩
  have C__law_pick : Cal l.prog w K mg base "_law_pick" 2 ["_law_row", "_law_things"] 2 m__law_pick := ⟨_, _, ok__law_pick F5 T C__law_taken, PySem.W.mg_of X G a5, k5, b5⟩
  have C__law_robot : Cal l.prog w K mg base "_law_robot" 1 ["_law_times", "_law_moves", "_law_walk", "_law_order_here"] 4 m__law_robot := ⟨_, _, ok__law_robot F6 T , PySem.W.mg_of X G a6, k6, b6⟩
  have C_is_integer : Cal l.prog w K mg base "is_integer" 1 ["value"] 1 m_is_integer := ⟨_, _, ok_is_integer F7 T , PySem.W.mg_of X G a7, k7, b7⟩
  have C_is_in : Cal l.prog w K mg base "is_in" 2 ["value", "least", "most"] 3 m_is_in := ⟨_, _, ok_is_in F8 T C_is_integer, PySem.W.mg_of X G a8, k8, b8⟩
  have C_is_list : Cal l.prog w K mg base "is_list" 1 ["value", "least", "most"] 3 m_is_list := ⟨_, _, ok_is_list F9 T , PySem.W.mg_of X G a9, k9, b9⟩
  have C_need_line : Cal l.prog w K mg base "need_line" 3 ["times", "moves"] 2 m_need_line := ⟨_, _, ok_need_line F10 T C_is_list C_is_in, PySem.W.mg_of X G a10, k10, b10⟩
  have C_lowest : Cal l.prog w K mg base "lowest" 1 ["top", "bottom"] 2 m_lowest := ⟨_, _, ok_lowest F11 T , PySem.W.mg_of X G a11, k11, b11⟩
  have C_rings_of : Cal l.prog w K mg base "rings_of" 1 ["many", "links"] 2 m_rings_of := ⟨_, _, ok_rings_of F12 T , PySem.W.mg_of X G a12, k12, b12⟩
  have C_robot_links : Cal l.prog w K mg base "robot_links" 1 ["times", "moves", "walk", "order"] 4 m_robot_links := ⟨_, _, ok_robot_links F13 T , PySem.W.mg_of X G a13, k13, b13⟩
  have C_robot_in : Cal l.prog w K mg base "robot_in" 2 ["times", "moves", "walk", "order"] 4 m_robot_in := ⟨_, _, ok_robot_in F14 T C_robot_links C_rings_of C_lowest, PySem.W.mg_of X G a14, k14, b14⟩
  have C_best_robot : Cal l.prog w K mg base "best_robot" 4 ["times", "moves", "walk"] 3 m_best_robot := ⟨_, _, ok_best_robot F15 T C_need_line C_is_in C_robot_in, PySem.W.mg_of X G a15, k15, b15⟩
  have C_need_cycle : Cal l.prog w K mg base "need_cycle" 3 ["order", "many"] 2 m_need_cycle := ⟨_, _, ok_need_cycle F16 T C_is_list C_is_in, PySem.W.mg_of X G a16, k16, b16⟩
  have C_robot_round : Cal l.prog w K mg base "robot_round" 4 ["times", "moves", "walk", "order"] 4 m_robot_round := ⟨_, _, ok_robot_round F17 T C_need_line C_is_in C_need_cycle C_robot_in, PySem.W.mg_of X G a17, k17, b17⟩
  exact ok_law hlaw F18 T C__law_taken C__law_pick C__law_order C__law_robot C_robot_round C__law_begins C__law_orders C_best_robot
end Lk63

namespace DV
open PySem L2
def Gives {α : Type} (m : M α) (P : α → Prop) : Prop := ∀ rs, ∃ a rs', m rs = some (a, rs') ∧ P a
section
variable {α β : Type} {m : M α} {f : α → M β} {P Q : α → Prop} {P' : β → Prop} {a : α}
theorem Gives.ret (h : P a) : Gives (ret a) P := fun rs => ⟨a, rs, rfl, h⟩
theorem Gives.bnd (h : Gives m P) (k : ∀ a, P a → Gives (f a) P') : Gives (bnd m f) P' := fun rs => by
  obtain ⟨a, rs1, e, h1⟩ := h rs
  obtain ⟨b, rs2, e2, h2⟩ := k a h1 rs1
  exact ⟨b, rs2, by unfold DV.bnd; rw [e]; exact e2, h2⟩
theorem Gives.mono (h : Gives m P) (k : ∀ a, P a → Q a) : Gives m Q := fun rs => by
  obtain ⟨a, rs1, e, h1⟩ := h rs
  exact ⟨a, rs1, e, k a h1⟩
theorem Gives.eq {m' : M α} (e : m = m') (h : Gives m' P) : Gives m P := by rw [e]; exact h
theorem bnd_ret (a : α) (f : α → M β) : bnd (ret a) f = f a := rfl
theorem lft_s (a : α) : lft (some a) = ret a := rfl
theorem bnd_bnd {γ : Type} (m : M α) (f : α → M β) (g : β → M γ) : bnd (bnd m f) g = bnd m fun a => bnd (f a) g := by
  funext rs
  unfold bnd
  cases m rs with
  | none => rfl
  | some p => rfl
inductive All2 (P : α → β → Prop) : List α → List β → Prop
  | nil : All2 P [] []
  | cons {x : α} {y : β} {xs : List α} {ys : List β} : P x y → All2 P xs ys → All2 P (x :: xs) (y :: ys)
theorem All2.len {P : α → β → Prop} : ∀ {xs : List α} {ys : List β}, All2 P xs ys → xs.length = ys.length
  | _, _, .nil => rfl
  | _, _, .cons _ t => congrArg (· + 1) (All2.len t)
theorem Gives.loop {tg : D → Env → Option Env} {body : Env → M Out} {Q : Out → Prop} : ∀ (its : List D) (I : List D → Env → Prop) (ρ : Env), I its ρ →
    (∀ x xs ρ, I (x :: xs) ρ → ∃ ρ1, tg x ρ = some ρ1 ∧ Gives (body ρ1) fun o => match o with
      | .nx ρ2 => I xs ρ2
      | .ct ρ2 => I xs ρ2
      | .bk ρ2 => Q (.nx ρ2)
      | .rt r => Q (.rt r)) → (∀ ρ, I [] ρ → Q (.nx ρ)) → Gives (loopF tg body its ρ) Q
  | [], I, ρ, h, _, hd => Gives.ret (hd ρ h)
  | x :: xs, I, ρ, h, hs, hd => by
    obtain ⟨ρ1, e1, g1⟩ := hs x xs ρ h
    unfold loopF
    rw [e1, lft_s, bnd_ret]
    refine Gives.bnd g1 fun o ho => ?_
    cases o with
    | nx ρ2 => exact Gives.loop xs I ρ2 ho hs hd
    | ct ρ2 => exact Gives.loop xs I ρ2 ho hs hd
    | bk ρ2 => exact Gives.ret ho
    | rt r => exact Gives.ret ho
theorem Gives.while {t : Env → M Bool} {body : Env → M Out} {Q : Out → Prop} (I : Nat → Env → Prop)
    (hs : ∀ k ρ, I k ρ → ∃ b : Bool, t ρ = DV.ret b ∧ (b = false → Q (.nx ρ)) ∧ (b = true → ∃ j, k = j + 1 ∧ Gives (body ρ) fun o => match o with
      | .nx ρ2 => I j ρ2
      | .ct ρ2 => I j ρ2
      | .bk ρ2 => Q (.nx ρ2)
      | .rt r => Q (.rt r))) : ∀ (k n : Nat) (ρ : Env), k < n → I k ρ → Gives (wloopF t body n ρ) Q
  | k, 0, _, hn, _ => absurd hn (Nat.not_lt_zero _)
  | k, n + 1, ρ, hn, h => by
    obtain ⟨b, e, h1, h2⟩ := hs k ρ h
    unfold wloopF
    rw [e, bnd_ret]
    cases b with
    | false => exact Gives.ret (h1 rfl)
    | true =>
      obtain ⟨j, rfl, g⟩ := h2 rfl
      rw [if_pos rfl]
      refine Gives.bnd g fun o ho => ?_
      cases o with
      | nx ρ2 => exact Gives.while I hs j n ρ2 (by omega) ho
      | ct ρ2 => exact Gives.while I hs j n ρ2 (by omega) ho
      | bk ρ2 => exact Gives.ret ho
      | rt r => exact Gives.ret ho
/-- a comprehension without a test: each item gives one -/
theorem Gives.lc {tg : D → Env → Option Env} {el : Env → M RV} {ρ : Env} {P : D → D → Prop} : ∀ (its : List D), (∀ x ∈ its, ∃ ρ1, tg x ρ = some ρ1 ∧ Gives (el ρ1) fun r => ∃ d, toD r = some d ∧ P x d) →
    Gives (lcF tg tTrue el ρ its) fun ds => All2 P its ds
  | [], _ => Gives.ret .nil
  | x :: xs, h => by
    obtain ⟨ρ1, e1, g1⟩ := h x List.mem_cons_self
    unfold lcF
    rw [e1, lft_s, bnd_ret]
    show Gives (DV.bnd (el ρ1) _) _
    refine Gives.bnd g1 fun r ⟨d, hd, hp⟩ => ?_
    rw [hd, lft_s, bnd_ret]
    refine Gives.bnd (Gives.lc xs fun y hy => h y (List.mem_cons_of_mem _ hy)) fun ds hds => Gives.ret (.cons hp hds)
end
section
variable {ρ ρ' : Env} {rs rs' rs1 rs2 : RS} {x y z : RV} {f h : Env → M RV} {g k : Env → M Out}
theorem e2_at {gg : RV → RV → Option RV} (h1 : f ρ rs = some (x, rs1)) (h2 : h ρ rs1 = some (y, rs2)) (h3 : gg x y = some z) : e2 gg f h ρ rs = some (z, rs2) := by
  unfold e2 bnd
  simp only [h1, h2, h3]
  rfl
theorem sSeq_at (h1 : g ρ rs = some (.nx ρ', rs')) : sSeq g k ρ rs = k ρ' rs' := by
  unfold sSeq bnd
  simp only [h1]
theorem sSeq_rt (h1 : g ρ rs = some (.rt x, rs')) : sSeq g k ρ rs = some (.rt x, rs') := by
  unfold sSeq bnd
  simp only [h1]
  rfl
theorem sIf_at {t : Env → M Bool} {b : Bool} (h1 : t ρ rs = some (b, rs')) : sIf t g k ρ rs = if b = true then g ρ rs' else k ρ rs' := by
  unfold sIf bnd
  simp only [h1]
  split <;> rfl
theorem sSet_at {i : Nat} {sv : SV} (h1 : f ρ rs = some (x, rs')) (h2 : toS x = some sv) : sSet i f ρ rs = some (.nx (ρ.set i (some sv)), rs') := by
  unfold sSet bnd
  simp only [h1, h2]
  rfl
theorem sRet_at (h1 : f ρ rs = some (x, rs')) (h2 : toRet x = some y) : sRet f ρ rs = some (.rt y, rs') := by
  unfold sRet bnd
  simp only [h1, h2]
  rfl
theorem sRowPut_at {i j : Nat} {v : Int} (h1 : f ρ rs = some (.d (.int v), rs1)) (h2 : vget ρ i = some .row) (h3 : rowPut j v rs1 = some rs2) : sRowPut i j f ρ rs = some (.nx ρ, rs2) := by
  unfold sRowPut bnd
  simp only [h1, h2]
  show (match rowPut j v rs1 with | some rs' => some (Out.nx ρ, rs') | none => none) = _
  rw [h3]
theorem gMod_eq {i j : Int} (h : 0 < j) : gMod (.d (.int i)) (.d (.int j)) = some (.d (.int (i % j))) := by
  show (if cPos i j = true then some (RV.d (.int (i % j))) else none) = _
  rw [if_pos (show cPos i j = true from decide_eq_true h)]
theorem gFdiv_eq {i j : Int} (h : 0 < j) (h1 : j < 1073741824) : gFdiv (.d (.int i)) (.d (.int j)) = some (.d (.int (i / j))) := by
  show (if cDiv i j = true then some (RV.d (.int (i / j))) else none) = _
  rw [if_pos (by simp [cDiv, h, h1])]
theorem gMulI_eq {i j : Int} (h : cMul i j = true) : gMulA (.d (.int i)) (.d (.int j)) = some (.d (.int (i * j))) := by
  show (if cMul i j = true then some (RV.d (.int (i * j))) else none) = _
  rw [if_pos h]
theorem cMul_r {i j : Int} (h1 : -18446744073709551616 < j) (h2 : j < 18446744073709551616) : cMul i j = true := by
  unfold cMul
  simp [h1, h2]
theorem cMul_l {i j : Int} (h1 : -18446744073709551616 < i) (h2 : i < 18446744073709551616) : cMul i j = true := by
  unfold cMul
  simp [h1, h2]
end
end DV
namespace DVL
open PySem L2 DV
theorem taken_at (many : Int) (h0 : 0 < many) (h1 : many < 1073741824) (rs : RS) : ∃ rs' x, g__law_taken [some .row, some (.d (.int many)), none, none] rs = some (.rt (.d (.int (x % many))), rs') := by
  obtain ⟨ns, i, s, c⟩ := rs
  unfold g__law_taken
  by_cases hc : 0 < c
  · refine ⟨⟨ns, i, s, c / many⟩, c, ?_⟩
    refine sSeq_rt ?_
    rw [sIf_at (b := decide (0 < c)) (rs' := ⟨ns, i, s, c⟩) rfl, if_pos (decide_eq_true hc)]
    rw [sSeq_at (sSet_at (e2_at (gg := gMod) (x := .d (.int c)) (y := .d (.int many)) rfl rfl (gMod_eq h0)) rfl)]
    rw [sSeq_at (sRowPut_at (rs2 := ⟨ns, i, s, c / many⟩) (e2_at (gg := gFdiv) (x := .d (.int c)) (y := .d (.int many)) rfl rfl (gFdiv_eq h0 h1)) rfl rfl)]
    rfl
  · have p7 : (0 : Int) < 2147483647 := by decide
    have hn : sIf (eT (e2 gGt (eRow 0 3) (eC (.int 0)))) (sSeq (sSet 2 (e2 gMod (eCall gInt (aCons (eRow 0 3) aNil)) (eVar 1))) (sSeq (sRowPut 0 3 (e2 gFdiv (eRow 0 3) (eVar 1))) (sRetV 2))) sNil [some .row, some (.d (.int many)), none, none] ⟨ns, i, s, c⟩ = some (.nx [some .row, some (.d (.int many)), none, none], ⟨ns, i, s, c⟩) := by
      rw [sIf_at (b := decide (0 < c)) (rs' := ⟨ns, i, s, c⟩) rfl, if_neg (by simpa using hc)]
      rfl
    rw [sSeq_at hn]
    have hi : rowPut 1 ((i : Int) + 1) ⟨ns, i, s, c⟩ = some ⟨ns, i + 1, s, c⟩ := by
      show (if 0 ≤ (i : Int) + 1 then some (⟨ns, ((i : Int) + 1).toNat, s, c⟩ : RS) else none) = _
      rw [if_pos (by omega)]
      have : ((i : Int) + 1).toNat = i + 1 := by omega
      rw [this]
    rw [sSeq_at (sRowPut_at (rs2 := ⟨ns, i + 1, s, c⟩) (v := (i : Int) + 1) rfl rfl hi)]
    have hlen : (ns.map PyData.int).length = ns.length := List.length_map ..
    by_cases hl : (((ns.map PyData.int).length : Nat) : Int) < ((i + 1 : Nat) : Int)
    · refine ⟨⟨ns, i + 1, (s * 48271 + 11) % 2147483647, c⟩, (s * 48271 + 11) % 2147483647 / 7, ?_⟩
      refine sSeq_rt ?_
      rw [sIf_at (b := decide ((((ns.map PyData.int).length : Nat) : Int) < ((i + 1 : Nat) : Int))) (rs' := ⟨ns, i + 1, s, c⟩) rfl, if_pos (decide_eq_true hl)]
      rw [sSeq_at (sRowPut_at (rs2 := ⟨ns, i + 1, (s * 48271 + 11) % 2147483647, c⟩) (v := (s * 48271 + 11) % 2147483647) (e2_at (gg := gMod) (x := .d (.int (s * 48271 + 11))) (y := .d (.int 2147483647)) (by
        show DV.bnd (DV.bnd (e2 gAddA (e2 gMulA (eRow 0 2) (eC (.int 48271))) (eC (.int 11)) _) _) _ _ = _
        unfold DV.bnd
        rw [e2_at (gg := gAddA) (x := .d (.int (s * 48271))) (y := .d (.int 11)) (z := .d (.int (s * 48271 + 11))) (e2_at (gg := gMulA) (x := .d (.int s)) (y := .d (.int 48271)) rfl rfl (gMulI_eq (cMul_r (by decide) (by decide)))) rfl rfl]
        rfl) rfl (gMod_eq p7)) rfl rfl)]
      refine sRet_at (e2_at (gg := gMod) (x := .d (.int ((s * 48271 + 11) % 2147483647 / 7))) (y := .d (.int many)) (by
        show DV.bnd (DV.bnd (e2 gFdiv (eRow 0 2) (eC (.int 7)) _) _) _ _ = _
        unfold DV.bnd
        rw [e2_at (gg := gFdiv) (x := .d (.int ((s * 48271 + 11) % 2147483647))) (y := .d (.int 7)) rfl rfl (gFdiv_eq (by decide) (by decide))]
        rfl) rfl (gMod_eq h0)) rfl
    · have hlt : i < ns.length := by omega
      have hg : (ns.map PyData.int)[i]? = some (.int ns[i]) := by
        rw [List.getElem?_map, List.getElem?_eq_getElem hlt]
        rfl
      have hnn : sIf (eT (e2 gGt (eRow 0 1) (eCall gLen (aCons (eRow 0 0) aNil)))) (sSeq (sRowPut 0 2 (e2 gMod (eCall gInt (aCons (e2 gAddA (e2 gMulA (eRow 0 2) (eC (.int 48271))) (eC (.int 11))) aNil)) (eC (.int 2147483647)))) (sRet (e2 gMod (eCall gInt (aCons (e2 gFdiv (eRow 0 2) (eC (.int 7))) aNil)) (eVar 1)))) sNil [some .row, some (.d (.int many)), none, none] ⟨ns, i + 1, s, c⟩ = some (.nx [some .row, some (.d (.int many)), none, none], ⟨ns, i + 1, s, c⟩) := by
        rw [sIf_at (b := decide ((((ns.map PyData.int).length : Nat) : Int) < ((i + 1 : Nat) : Int))) (rs' := ⟨ns, i + 1, s, c⟩) rfl, if_neg (by simpa using hl)]
        rfl
      rw [sSeq_at hnn]
      have hix : gIx (.d (.list (ns.map PyData.int))) (.d (.int (((i + 1 : Nat) : Int) - 1))) = some (.d (.int ns[i])) := by
        show (atI (ns.map PyData.int) (((i + 1 : Nat) : Int) - 1)).map RV.d = _
        have e1 : (((i + 1 : Nat) : Int) - 1) = (i : Int) := by omega
        rw [e1, atI_nat hg]
        rfl
      rw [sSeq_at (sSet_at (sv := .d (.int ns[i])) (e2_at (gg := gIx) (x := .d (.list (ns.map PyData.int))) (y := .d (.int (((i + 1 : Nat) : Int) - 1))) rfl rfl hix) rfl)]
      rw [sSeq_at (sRowPut_at (rs2 := ⟨ns, i + 1, (s * 48271 + ns[i] + 11) % 2147483647, c⟩) (v := (s * 48271 + ns[i] + 11) % 2147483647) (e2_at (gg := gMod) (x := .d (.int (s * 48271 + ns[i] + 11))) (y := .d (.int 2147483647)) (by
        show DV.bnd (DV.bnd (e2 gAddA (e2 gAddA (e2 gMulA (eRow 0 2) (eC (.int 48271))) (eVar 3)) (eC (.int 11)) _) _) _ _ = _
        unfold DV.bnd
        rw [e2_at (gg := gAddA) (x := .d (.int (s * 48271 + ns[i]))) (y := .d (.int 11)) (z := .d (.int (s * 48271 + ns[i] + 11))) (e2_at (gg := gAddA) (x := .d (.int (s * 48271))) (y := .d (.int ns[i])) (e2_at (gg := gMulA) (x := .d (.int s)) (y := .d (.int 48271)) rfl rfl (gMulI_eq (cMul_r (by decide) (by decide)))) rfl rfl) rfl rfl]
        rfl) rfl (gMod_eq p7)) rfl rfl)]
      have hp : e2 gPow (eC (.int 10)) (eC (.int 18)) [some .row, some (.d (.int many)), none, some (SV.d (.int ns[i]))] ⟨ns, i + 1, (s * 48271 + ns[i] + 11) % 2147483647, c⟩ = some (.d (.int (1000000000000000000 : Int)), ⟨ns, i + 1, (s * 48271 + ns[i] + 11) % 2147483647, c⟩) := by
        refine e2_at rfl rfl ?_
        show (if cPow 10 18 = true then some (RV.d (.int ((10 : Int) ^ (18 : Int).toNat))) else none) = _
        rw [if_pos (by decide +kernel)]
        rfl
      have fin : ∀ c', sRet (e2 gMod (eCall gInt (aCons (eVar 3) aNil)) (eVar 1)) [some .row, some (.d (.int many)), none, some (SV.d (.int ns[i]))] ⟨ns, i + 1, (s * 48271 + ns[i] + 11) % 2147483647, c'⟩ = some (.rt (.d (.int (ns[i] % many))), ⟨ns, i + 1, (s * 48271 + ns[i] + 11) % 2147483647, c'⟩) := fun c' =>
        sRet_at (e2_at (gg := gMod) (x := .d (.int ns[i])) (y := .d (.int many)) rfl rfl (gMod_eq h0)) rfl
      have hge : (eT (e2 gGe (eVar 3) (e2 gPow (eC (.int 10)) (eC (.int 18))))) [some .row, some (.d (.int many)), none, some (SV.d (.int ns[i]))] ⟨ns, i + 1, (s * 48271 + ns[i] + 11) % 2147483647, c⟩ = some (decide ((1000000000000000000 : Int) ≤ ns[i]), ⟨ns, i + 1, (s * 48271 + ns[i] + 11) % 2147483647, c⟩) := by
        unfold eT
        unfold DV.bnd
        rw [e2_at (gg := gGe) (x := .d (.int ns[i])) rfl hp rfl]
        rfl
      by_cases hb : (1000000000000000000 : Int) ≤ ns[i]
      · refine ⟨⟨ns, i + 1, (s * 48271 + ns[i] + 11) % 2147483647, ns[i] / many⟩, ns[i], ?_⟩
        rw [sSeq_at (rs' := ⟨ns, i + 1, (s * 48271 + ns[i] + 11) % 2147483647, ns[i] / many⟩) (by
          show sIf _ _ _ [some .row, some (.d (.int many)), none, some (SV.d (.int ns[i]))] _ = _
          rw [sIf_at hge, if_pos (decide_eq_true hb)]
          exact sRowPut_at (e2_at (gg := gFdiv) (x := .d (.int ns[i])) (y := .d (.int many)) rfl rfl (gFdiv_eq h0 h1)) rfl rfl)]
        exact fin _
      · refine ⟨⟨ns, i + 1, (s * 48271 + ns[i] + 11) % 2147483647, c⟩, ns[i], ?_⟩
        rw [sSeq_at (rs' := ⟨ns, i + 1, (s * 48271 + ns[i] + 11) % 2147483647, c⟩) (by
          show sIf _ _ _ [some .row, some (.d (.int many)), none, some (SV.d (.int ns[i]))] _ = _
          rw [sIf_at hge, if_neg (by simpa using hb)]
          rfl)]
        exact fin _
theorem taken_eq (many : Int) (h0 : 0 < many) (h1 : many < 1073741824) : Gives (m__law_taken [.row, .d (.int many)]) fun r => ∃ i : Int, r = .d (.int i) ∧ 0 ≤ i ∧ i < many := by
  intro rs
  obtain ⟨rs', x, e⟩ := taken_at many h0 h1 rs
  refine ⟨_, rs', ?_, _, rfl, Int.emod_nonneg x (by omega), Int.emod_lt_of_pos x h0⟩
  show DV.bnd (g__law_taken [some .row, some (.d (.int many)), none, none]) _ rs = _
  unfold DV.bnd
  rw [e]
  rfl
end DVL
namespace DV
open PySem L2
section
variable {α : Type} {ρ : Env} {P : RV → Prop} {Q : Out → Prop} {PA : List RV → Prop} {PB : Bool → Prop} {f h k : Env → M RV} {fa : Env → M (List RV)} {g g2 : Env → M Out} {t t2 : Env → M Bool} {x : RV}
theorem gv_eq {m : M α} {P : α → Prop} {a : α} (e : m = ret a) (p : P a) : Gives m P := by rw [e]; exact Gives.ret p
theorem gv_var {i : Nat} (e : vget ρ i = some x) (p : P x) : Gives (eVar i ρ) P := gv_eq (by unfold eVar; rw [e]; rfl) p
theorem gv_e2 {gg : RV → RV → Option RV} (p : Gives (f ρ) fun x => Gives (h ρ) fun y => ∃ z, gg x y = some z ∧ P z) : Gives (e2 gg f h ρ) P :=
  Gives.bnd p fun x q => Gives.bnd q fun y ⟨z, e, pz⟩ => by rw [e, lft_s]; exact Gives.ret pz
theorem gv_nil (p : PA []) : Gives (aNil ρ) PA := Gives.ret p
theorem gv_cons (p : Gives (f ρ) fun x => Gives (fa ρ) fun xs => PA (x :: xs)) : Gives (aCons f fa ρ) PA := Gives.bnd p fun x q => Gives.bnd q fun xs r => Gives.ret r
theorem gv_star (p : Gives (f ρ) fun x => ∃ ds, items x = some ds ∧ Gives (fa ρ) fun xs => PA (ds.map RV.d ++ xs)) : Gives (aStar f fa ρ) PA :=
  Gives.bnd p fun x ⟨ds, e, q⟩ => by rw [e, lft_s, bnd_ret]; exact Gives.bnd q fun xs r => Gives.ret r
theorem gv_call {gg : List RV → Option RV} (p : Gives (fa ρ) fun xs => ∃ z, gg xs = some z ∧ P z) : Gives (eCall gg fa ρ) P := Gives.bnd p fun xs ⟨z, e, pz⟩ => by rw [e, lft_s]; exact Gives.ret pz
theorem gv_fn {m : List RV → M RV} {n : Nat} (p : Gives (fa ρ) fun xs => xs.length = n ∧ Gives (m (xs.map readable)) P) : Gives (eFn (fun xs => if xs.length = n then m xs else fail) fa ρ) P :=
  Gives.bnd p fun xs ⟨e, q⟩ => by
    show Gives (if (xs.map readable).length = n then m (xs.map readable) else fail) P
    rw [if_pos (by rw [List.length_map]; exact e)]
    exact q
theorem gv_tup (p : Gives (fa ρ) fun xs => ∃ ds, toDs xs = some ds ∧ ds.length ≤ 100000 ∧ P (.d (.tuple ds))) : Gives (eTup fa ρ) P :=
  Gives.bnd p fun xs ⟨ds, e, hl, q⟩ => by rw [e, lft_s, bnd_ret, if_pos hl]; exact Gives.ret q
theorem gv_lst (p : Gives (fa ρ) fun xs => ∃ ds, toDs xs = some ds ∧ ds.length ≤ 100000 ∧ P (.n ds)) : Gives (eLst fa ρ) P :=
  Gives.bnd p fun xs ⟨ds, e, hl, q⟩ => by rw [e, lft_s, bnd_ret, if_pos hl]; exact Gives.ret q
theorem gv_neg (p : Gives (f ρ) fun x => ∃ i, asInt x = some i ∧ P (.d (.int (-i)))) : Gives (eNeg f ρ) P := Gives.bnd p fun x ⟨i, e, q⟩ => by rw [e, lft_s, bnd_ret]; exact Gives.ret q
theorem gv_ifB (p : Gives (f ρ) fun x => ∃ b, asBool x = some b ∧ (b = true → Gives (h ρ) P) ∧ (b = false → Gives (k ρ) P)) : Gives (eIfB f h k ρ) P :=
  Gives.bnd p fun x ⟨b, e, q1, q2⟩ => by
    rw [e, lft_s, bnd_ret]
    cases b with
    | true => rw [if_pos rfl]; exact q1 rfl
    | false => rw [if_neg (by decide)]; exact q2 rfl
theorem gv_ifE (p : Gives (t ρ) fun b => (b = true → Gives (h ρ) P) ∧ (b = false → Gives (k ρ) P)) : Gives (eIf t h k ρ) P :=
  Gives.bnd p fun b ⟨q1, q2⟩ => by
    cases b with
    | true => rw [if_pos rfl]; exact q1 rfl
    | false => rw [if_neg (by decide)]; exact q2 rfl
theorem gv_notB (p : Gives (f ρ) fun x => ∃ b, asBool x = some b ∧ P (.d (.bool (!b)))) : Gives (eNotB f ρ) P := Gives.bnd p fun x ⟨b, e, q⟩ => by rw [e, lft_s, bnd_ret]; exact Gives.ret q
theorem gv_ch {gg g' : RV → RV → Option RV} (p : Gives (f ρ) fun x => Gives (h ρ) fun y => ∃ b, gg x y = some (.d (.bool b)) ∧ (b = true → Gives (k ρ) fun w => ∃ z, g' y w = some z ∧ P z) ∧ (b = false → P (.d (.bool false)))) : Gives (eCh gg g' f h k ρ) P :=
  Gives.bnd p fun x q => Gives.bnd q fun y ⟨b, e, q1, q2⟩ => by
    rw [e, lft_s, bnd_ret]
    show Gives (bnd (lft (some b)) _) P
    rw [lft_s, bnd_ret]
    cases b with
    | true => rw [if_pos rfl]; exact Gives.bnd (q1 rfl) fun w ⟨z, e, pz⟩ => by rw [e, lft_s]; exact Gives.ret pz
    | false => rw [if_neg (by decide)]; exact Gives.ret (q2 rfl)
theorem gv_T (p : Gives (f ρ) fun x => ∃ b, asBool x = some b ∧ PB b) : Gives (eT f ρ) PB := Gives.bnd p fun x ⟨b, e, q⟩ => by rw [e, lft_s]; exact Gives.ret q
theorem gv_not (p : Gives (t ρ) fun b => PB (!b)) : Gives (tNotF t ρ) PB := Gives.bnd p fun b q => Gives.ret q
theorem gv_and (p : Gives (t ρ) fun b => (b = true → Gives (t2 ρ) PB) ∧ (b = false → PB false)) : Gives (tIfT t t2 (tRetB false) ρ) PB := Gives.bnd p fun b ⟨q1, q2⟩ => by
  cases b with
  | true => rw [if_pos rfl]; exact q1 rfl
  | false => rw [if_neg (by decide)]; exact Gives.ret (q2 rfl)
theorem gv_or (p : Gives (t ρ) fun b => (b = true → PB true) ∧ (b = false → Gives (t2 ρ) PB)) : Gives (tIfT t (tRetB true) t2 ρ) PB := Gives.bnd p fun b ⟨q1, q2⟩ => by
  cases b with
  | true => rw [if_pos rfl]; exact Gives.ret (q1 rfl)
  | false => rw [if_neg (by decide)]; exact q2 rfl
theorem gv_seq (p : Gives (g ρ) fun o => match o with | .nx ρ' => Gives (g2 ρ') Q | o => Q o) : Gives (sSeq g g2 ρ) Q := Gives.bnd p fun o q => by
  cases o with
  | nx ρ' => exact q
  | rt r => exact Gives.ret q
  | bk r => exact Gives.ret q
  | ct r => exact Gives.ret q
theorem gv_nop (p : Q (.nx ρ)) : Gives (sNil ρ) Q := Gives.ret p
theorem gv_set {i : Nat} (p : Gives (f ρ) fun x => ∃ sv, toS x = some sv ∧ Q (.nx (ρ.set i (some sv)))) : Gives (sSet i f ρ) Q := Gives.bnd p fun x ⟨sv, e, q⟩ => by rw [e, lft_s, bnd_ret]; exact Gives.ret q
theorem gv_rt (p : Gives (f ρ) fun x => ∃ y, toRet x = some y ∧ Q (.rt y)) : Gives (sRet f ρ) Q := Gives.bnd p fun x ⟨y, e, q⟩ => by rw [e, lft_s, bnd_ret]; exact Gives.ret q
theorem gv_rtV {i : Nat} {y : RV} (e : vown ρ i = some y) (q : Q (.rt y)) : Gives (sRetV i ρ) Q := gv_eq (by unfold sRetV; rw [e]; rfl) q
theorem gv_if (p : Gives (t ρ) fun b => (b = true → Gives (g ρ) Q) ∧ (b = false → Gives (g2 ρ) Q)) : Gives (sIf t g g2 ρ) Q := Gives.bnd p fun b ⟨q1, q2⟩ => by
  cases b with
  | true => rw [if_pos rfl]; exact q1 rfl
  | false => rw [if_neg (by decide)]; exact q2 rfl
theorem gv_drop (p : Gives (f ρ) fun _ => Q (.nx ρ)) : Gives (sDrop f ρ) Q := Gives.bnd p fun _ q => Gives.ret q
theorem gv_par {i j : Nat} (p : Gives (fa ρ) fun xs => ∃ x y sx sy, xs = [x, y] ∧ toS x = some sx ∧ toS y = some sy ∧ Q (.nx ((ρ.set i (some sx)).set j (some sy)))) : Gives (sPar i j fa ρ) Q := Gives.bnd p fun xs ⟨x, y, sx, sy, e, e1, e2, q⟩ => by
  subst e
  show Gives (bnd (lft (toS x)) _) Q
  rw [e1, lft_s, bnd_ret, e2, lft_s, bnd_ret]
  exact Gives.ret q
theorem gv_par3 {i j l : Nat} (p : Gives (fa ρ) fun xs => ∃ x y z sx sy sz, xs = [x, y, z] ∧ toS x = some sx ∧ toS y = some sy ∧ toS z = some sz ∧ Q (.nx (((ρ.set i (some sx)).set j (some sy)).set l (some sz)))) : Gives (sPar3 i j l fa ρ) Q := Gives.bnd p fun xs ⟨x, y, z, sx, sy, sz, e, e1, e2, e3, q⟩ => by
  subst e
  show Gives (bnd (lft (toS x)) _) Q
  rw [e1, lft_s, bnd_ret, e2, lft_s, bnd_ret, e3, lft_s, bnd_ret]
  exact Gives.ret q
theorem gv_stup {hh : D → Env → Option Env} (p : Gives (f ρ) fun x => ∃ d ρ', x = .d d ∧ hh d ρ = some ρ' ∧ Q (.nx ρ')) : Gives (sTup f hh ρ) Q := Gives.bnd p fun x ⟨d, ρ', e, e1, q⟩ => by
  subst e
  show Gives (bnd (lft (hh d ρ)) _) Q
  rw [e1, lft_s, bnd_ret]
  exact Gives.ret q
theorem gv_aug {i : Nat} {kf : Int → Int → Int} {y : RV} {a : Int} (e1 : vget ρ i = some y) (e2 : asInt y = some a) (p : Gives (f ρ) fun x => ∃ b, asInt x = some b ∧ Q (.nx (ρ.set i (some (.d (.int (kf a b))))))) : Gives (sAug i kf f ρ) Q := by
  unfold sAug
  rw [e1, lft_s, bnd_ret, e2, lft_s, bnd_ret]
  exact Gives.bnd p fun x ⟨b, e, q⟩ => by rw [e, lft_s, bnd_ret]; exact Gives.ret q
theorem gv_app {i : Nat} {ds : List D} (e1 : sApp.own? ρ i = some ds) (hl : ds.length < 100000) (p : Gives (f ρ) fun x => ∃ d, toD x = some d ∧ Q (.nx (ρ.set i (some (.o (ds ++ [d])))))) : Gives (sApp i f ρ) Q := by
  unfold sApp
  rw [e1, lft_s, bnd_ret]
  exact Gives.bnd p fun x ⟨d, e, q⟩ => by rw [e, lft_s, bnd_ret, if_pos hl]; exact Gives.ret q
theorem gv_popApp {i j : Nat} {ds es : List D} (e1 : sApp.own? ρ i = some ds) (e2 : sApp.own? ρ j = some es) (hl : ds.length < 100000 ∧ i ≠ j)
    (p : Gives (f ρ) fun x => ∃ n kk y, asInt x = some n ∧ popIx es n = some (kk, y) ∧ Q (.nx ((ρ.set j (some (.o (es.eraseIdx kk)))).set i (some (.o (ds ++ [y])))))) : Gives (sPopApp i j f ρ) Q := by
  unfold sPopApp
  rw [e1, lft_s, bnd_ret, e2, lft_s, bnd_ret]
  exact Gives.bnd p fun x ⟨n, kk, y, e, e3, q⟩ => by rw [e, lft_s, bnd_ret, e3, lft_s, bnd_ret, if_pos hl]; exact Gives.ret q
theorem gv_for {fi : Env → M (List D × Option Nat)} {tg : D → Env → Option Env} {its : List D} {lk : Option Nat} (e : fi ρ = ret (its, lk)) (p : Gives (loopF tg g its (lockE ρ lk)) fun o => Q (unlockO ρ lk o)) : Gives (sFor fi tg g ρ) Q := by
  unfold sFor
  rw [e, bnd_ret]
  exact Gives.bnd p fun o q => Gives.ret q
theorem gv_lc {fi : Env → M (List D × Option Nat)} {vs : List Nat} {tg : D → Env → Option Env} {its : List D} {lk : Option Nat} (e : fi ρ = ret (its, lk)) (hl : its.length ≤ 100000) (p : Gives (lcF tg t h (wipeE ρ vs) its) fun ds => P (.n ds)) : Gives (eLc fi vs tg t h ρ) P := by
  unfold eLc
  rw [e, bnd_ret]
  refine Gives.bnd p fun ds q => ?_
  show Gives (if its.length ≤ 100000 then ret (.n ds) else fail) P
  rw [if_pos hl]
  exact Gives.ret q
theorem gv_run {n : Nat} {xs : List RV} (p : Gives (g (startE n xs)) fun o => match o with | .nx _ => P (.d .none) | .rt r => P r | _ => False) : Gives (runDef n g xs) P := Gives.bnd p fun o q => by
  cases o with
  | nx ρ' => exact Gives.ret q
  | rt r => exact Gives.ret q
  | bk r => exact q.elim
  | ct r => exact q.elim
end
theorem gv_isT {T : TyT} {ρ : Env} {f : Env → M RV} {P : RV → Prop} (p : Gives (f ρ) fun x => ∃ d, viewD x = some d ∧ P (.d (.bool (isT T d)))) : Gives (eIsT T f ρ) P := Gives.bnd p fun x ⟨d, e, q⟩ => by rw [e, lft_s, bnd_ret]; exact Gives.ret q
theorem Gives.wh {t : Env → M Bool} {body : Env → M Out} {Q : Out → Prop} (I : Nat → Env → Prop)
    (hs : ∀ k ρ, I k ρ → Gives (t ρ) fun b => (b = false → Q (.nx ρ)) ∧ (b = true → ∃ j, k = j + 1 ∧ Gives (body ρ) fun o => match o with
      | .nx ρ2 => I j ρ2
      | .ct ρ2 => I j ρ2
      | .bk ρ2 => Q (.nx ρ2)
      | .rt r => Q (.rt r))) : ∀ (k n : Nat) (ρ : Env), k < n → I k ρ → Gives (wloopF t body n ρ) Q
  | k, 0, _, hn, _ => absurd hn (Nat.not_lt_zero _)
  | k, n + 1, ρ, hn, h => by
    unfold wloopF
    refine Gives.bnd (hs k ρ h) fun b ⟨h1, h2⟩ => ?_
    cases b with
    | false => exact Gives.ret (h1 rfl)
    | true =>
      obtain ⟨j, rfl, g⟩ := h2 rfl
      rw [if_pos rfl]
      refine Gives.bnd g fun o ho => ?_
      cases o with
      | nx ρ2 => exact Gives.wh I hs j n ρ2 (by omega) ho
      | ct ρ2 => exact Gives.wh I hs j n ρ2 (by omega) ho
      | bk ρ2 => exact Gives.ret ho
      | rt r => exact Gives.ret ho
/-- a tuple of ints -/
abbrev ti (ns : List Int) : D := .tuple (ns.map PyData.int)
end DV
namespace DVL
open PySem L2 DV
theorem pick_gives (ds : List D) (h0 : 0 < ds.length) (h1 : ds.length ≤ 1000) : Gives (m__law_pick [.row, .b ds]) fun r => ∃ d, d ∈ ds ∧ r = .d d := by
  refine gv_run (gv_rt (gv_e2 (gv_var rfl (gv_fn (gv_cons (gv_var rfl (gv_cons (gv_call (gv_cons (gv_var rfl (gv_nil ⟨_, rfl, gv_nil ⟨rfl, ?_⟩⟩)))))))))))
  refine (taken_eq (ds.length : Nat) (by omega) (by omega)).mono fun r ⟨i, e, h2, h3⟩ => ?_
  subst e
  have hi : i.toNat < ds.length := by omega
  have e1 : atI ds i = some ds[i.toNat] := by
    have := atI_nat (xs := ds) (j := i.toNat) (List.getElem?_eq_getElem hi)
    rwa [Int.toNat_of_nonneg h2] at this
  refine ⟨.d ds[i.toNat], ?_, _, rfl, _, List.getElem_mem hi, rfl⟩
  show (atI ds i).map RV.d = _
  rw [e1]
  rfl
end DVL

namespace DVL
open PySem L2 DV
def rngI (lo : Int) : Nat → List Int
  | 0 => []
  | n + 1 => lo :: rngI (lo + 1) n
theorem rngI_len : ∀ (lo : Int) (n : Nat), (rngI lo n).length = n
  | _, 0 => rfl
  | lo, n + 1 => congrArg (· + 1) (rngI_len (lo + 1) n)
theorem rngD_eq : ∀ (lo : Int) (n : Nat), rngD lo n = (rngI lo n).map PyData.int
  | _, 0 => rfl
  | lo, n + 1 => by
    show PyData.int lo :: rngD (lo + 1) n = PyData.int lo :: (rngI (lo + 1) n).map PyData.int
    rw [rngD_eq]
theorem mem_rngI (k : Int) : ∀ (lo : Int) (n : Nat), k ∈ rngI lo n ↔ lo ≤ k ∧ k < lo + n
  | lo, 0 => by
    simp [rngI]
    try omega
  | lo, n + 1 => by
    rw [rngI, List.mem_cons, mem_rngI k (lo + 1) n]
    omega
theorem rngI_nodup : ∀ (lo : Int) (n : Nat), (rngI lo n).Nodup
  | _, 0 => .nil
  | lo, n + 1 => List.nodup_cons.mpr ⟨fun h => by
      have := ((mem_rngI lo (lo + 1) n).mp h).1
      omega, rngI_nodup (lo + 1) n⟩
theorem rng1_eq {f : DV.Env → M RV} {ρ : DV.Env} {n : Int} (e : f ρ = ret (.d (.int n))) (h1 : n ≤ 100000) (h2 : -100000 ≤ n) : iRng1F f ρ = ret ((rngI 0 n.toNat).map PyData.int, none) := by
  unfold iRng1F
  rw [e, bnd_ret]
  show bnd (lft (some n)) _ = _
  rw [lft_s, bnd_ret, if_pos ⟨h1, h2⟩, rngD_eq]
theorem var_eq {ρ : DV.Env} {i : Nat} {x : RV} (e : vget ρ i = some x) : eVar i ρ = ret x := by unfold eVar; rw [e]; rfl
theorem eqv_int (a b : Int) : PyData.eqv (.int a) (.int b) = decide (a = b) := by
  simp [PyData.eqv]
  by_cases h : a = b <;> simp [h]
theorem all2_ints {α : Type} {p : Int → Prop} : ∀ {xs : List α} {ds : List D}, All2 (fun _ d => ∃ i, d = PyData.int i ∧ p i) xs ds → ∃ js : List Int, ds = js.map PyData.int ∧ js.length = xs.length ∧ ∀ j ∈ js, p j
  | _, _, .nil => ⟨[], rfl, rfl, fun _ h => nomatch h⟩
  | _, _, .cons ⟨i, e, h⟩ t => by
    obtain ⟨js, e2, e3, h2⟩ := all2_ints t
    subst e e2
    refine ⟨i :: js, rfl, congrArg (· + 1) e3, fun j hj => ?_⟩
    rcases List.mem_cons.mp hj with q | q
    · subst q; exact h
    · exact h2 j q
theorem intsOf_map (js : List Int) : intsOf (js.map PyData.int) = some js := ints_map js
/-- [e for _ in range(n)] where e gives an int -/
theorem draws {n i : Nat} {vs : List Nat} {el : DV.Env → M RV} {ρ : DV.Env} {f : DV.Env → M RV} {P : RV → Prop} {p : Int → Prop} (e : f ρ = ret (.d (.int (n : Int)))) (hn : n ≤ 1000)
    (h : ∀ x, DV.Gives (el ((wipeE ρ vs).set i (some (.d x)))) fun r => ∃ j, r = .d (.int j) ∧ p j)
    (k : ∀ js : List Int, js.length = n → (∀ j ∈ js, p j) → P (.d (ti js))) : DV.Gives (eCall gTuple (aCons (eLc (iRng1F f) vs (gNm i) tTrue el) aNil) ρ) P := by
  refine gv_call (gv_cons (gv_lc (rng1_eq e (by omega) (by omega)) (by rw [List.length_map, rngI_len]; omega) ?_))
  refine (DV.Gives.lc (P := fun _ d => ∃ j, d = PyData.int j ∧ p j) _ fun x _ => ⟨(wipeE ρ vs).set i (some (.d x)), rfl, (h x).mono fun r ⟨j, er, pj⟩ => ?_⟩).mono fun ds hd => ?_
  · subst er
    exact ⟨_, rfl, j, rfl, pj⟩
  · obtain ⟨js, rfl, hl, hp⟩ := all2_ints hd
    rw [List.length_map, rngI_len] at hl
    refine gv_nil ⟨_, rfl, k js (by omega) hp⟩
theorem gSum_eq (js : List Int) : gSum [.d (ti js)] = some (.d (.int js.sum)) := by
  show (intsOf (js.map PyData.int)).map _ = _
  rw [intsOf_map]
  rfl
end DVL

namespace DVL
open PySem L2 DV
theorem map_eraseIdx {α β : Type} (f : α → β) : ∀ (l : List α) (k : Nat), (l.map f).eraseIdx k = (l.eraseIdx k).map f
  | [], k => by simp
  | x :: l, 0 => rfl
  | x :: l, k + 1 => congrArg (f x :: ·) (map_eraseIdx f l k)
theorem eraseIdx_perm {α : Type} : ∀ (l : List α) (k : Nat) (h : k < l.length), (l[k] :: l.eraseIdx k).Perm l
  | x :: l, 0, _ => .refl _
  | x :: l, k + 1, h => (List.Perm.swap x (l[k]'(by simpa using h)) (l.eraseIdx k)).trans ((eraseIdx_perm l k (by simpa using h)).cons x)
theorem popIx_eq {L : List Int} {i : Int} (h0 : 0 ≤ i) (h1 : i < L.length) (hl : L.length ≤ 1000) : popIx (L.map PyData.int) i = some (i.toNat, .int (L[i.toNat]'(by omega))) := by
  unfold popIx
  rw [if_pos ⟨by omega, by omega⟩]
  have e : seqIndex? i (L.map PyData.int).length = some i.toNat := by
    unfold seqIndex?
    rw [List.length_map]
    have h2 : ¬ i < 0 := by omega
    simp [h2, h0, h1]
  rw [e]
  show ((L.map PyData.int)[i.toNat]?).map _ = _
  rw [List.getElem?_map, List.getElem?_eq_getElem (by omega)]
  rfl
theorem order_gives (n : Nat) (hn : n ≤ 1000) : DV.Gives (m__law_order [.row, .d (.int (n : Int))]) fun r => ∃ p : List Int, r = .d (ti p) ∧ p.Perm (rngI 0 n) := by
  refine gv_run (gv_seq (gv_par (gv_cons (f := eListRg (rg1F (eVar 1))) ?_)))
  have e0 : eListRg (rg1F (eVar 1)) (startE 5 [RV.row, RV.d (.int (n : Int))]) = DV.ret (RV.n ((rngI 0 n).map PyData.int)) := by
    show bnd (bnd (DV.ret (RV.d (.int (n : Int)))) _) _ = _
    rw [bnd_ret]
    show bnd (bnd (lft (some (n : Int))) _) _ = _
    rw [lft_s, bnd_ret, bnd_ret, if_pos (by unfold okRg; simp; omega)]
    have e1 : ((n : Int) - 0).toNat = n := by omega
    show DV.ret (RV.n (rngD 0 ((n : Int) - 0).toNat)) = _
    rw [e1, rngD_eq]
  refine gv_eq e0 (gv_cons (gv_lst (gv_nil ⟨[], rfl, by simp, gv_nil ⟨_, _, _, _, rfl, rfl, rfl, ?_⟩⟩)))
  refine gv_seq (gv_for (its := (rngI 0 n).map PyData.int) (lk := none) (by
    have := rng1_eq (f := eVar 1) (ρ := ((startE 5 [RV.row, RV.d (.int (n : Int))]).set 2 (some (.o ((rngI 0 n).map PyData.int)))).set 3 (some (.o []))) (n := (n : Int)) (var_eq rfl) (by omega) (by omega)
    rwa [Int.toNat_natCast] at this) ?_)
  refine DV.Gives.loop _ (fun xs ρ => ∃ (L Fd : List Int) (y : Option SV), ρ = [some .row, some (.d (.int (n : Int))), some (.o (L.map PyData.int)), some (.o (Fd.map PyData.int)), y] ∧ (Fd ++ L).Perm (rngI 0 n) ∧ xs.length = L.length) _ ⟨rngI 0 n, [], none, rfl, .refl _, by rw [List.length_map]⟩ ?_ ?_
  · rintro x xs ρ ⟨L, Fd, y, rfl, hp, hl⟩
    refine ⟨_, rfl, ?_⟩
    have hlen := hp.length_eq
    rw [List.length_append, rngI_len] at hlen
    rw [List.length_cons] at hl
    refine gv_popApp (ds := Fd.map PyData.int) (es := L.map PyData.int) rfl rfl ⟨by rw [List.length_map]; omega, by decide⟩ ?_
    refine gv_fn (gv_cons (gv_var rfl (gv_cons (gv_call (gv_cons (gv_var rfl (gv_nil ⟨_, rfl, gv_nil ⟨rfl, ?_⟩⟩)))))))
    refine (taken_eq ((L.map PyData.int).length : Nat) (by rw [List.length_map]; omega) (by rw [List.length_map]; omega)).mono fun r ⟨i, e, i0, i1⟩ => ?_
    subst e
    rw [List.length_map] at i1
    refine ⟨i, i.toNat, _, rfl, popIx_eq i0 i1 (by omega), ?_⟩
    refine ⟨L.eraseIdx i.toNat, Fd ++ [L[i.toNat]'(by omega)], some (.d x), ?_, ?_, ?_⟩
    · rw [← map_eraseIdx, List.map_append]
      rfl
    · rw [List.append_assoc]
      exact (List.Perm.append_left Fd (eraseIdx_perm L i.toNat (by omega))).trans hp
    · rw [List.length_eraseIdx_of_lt (by omega)]
      omega
  · rintro ρ ⟨L, Fd, y, rfl, hp, hl⟩
    have hL : L = [] := List.eq_nil_of_length_eq_zero hl.symm
    subst hL
    rw [List.append_nil] at hp
    refine gv_rt (gv_call (gv_cons (gv_var rfl (gv_nil ⟨_, rfl, _, rfl, Fd, rfl, hp⟩))))
theorem is_integer_i (i : Int) : m_is_integer [.d (.int i)] = ret (.d (.bool true)) := rfl
theorem is_in_ok {i a b : Int} (h1 : a ≤ i) (h2 : i ≤ b) : m_is_in [.d (.int i), .d (.int a), .d (.int b)] = ret (.d (.bool true)) := by
  simp [m_is_in, runDef, g_is_in, sRet, eIfB, eFn, aCons, aNil, eVar, bnd_bnd, bnd_ret, lft_s, startE, toK, vget, readable, is_integer_i, asBool, eCh, gLe, gI, asInt, h1, h2, toRet]
theorem is_list_ok {ds : List D} {a b : Int} (h1 : a ≤ ds.length) (h2 : (ds.length : Int) ≤ b) : m_is_list [.d (.tuple ds), .d (.int a), .d (.int b)] = ret (.d (.bool true)) := by
  simp [m_is_list, runDef, g_is_list, sRet, eIfB, eCall, aCons, aNil, eVar, eIsT, viewD, isT, bnd_bnd, bnd_ret, lft_s, startE, toK, vget, readable, asBool, eCh, gLe, gI, asInt, gLen, DV.c1, items, h1, h2, toRet]
theorem order_len {p : List Int} {n : Nat} (h : p.Perm (rngI 0 n)) : p.length = n := by rw [h.length_eq, rngI_len]
theorem order_mem {p : List Int} {n : Nat} (h : p.Perm (rngI 0 n)) {k : Int} (hk : k ∈ p) : 0 ≤ k ∧ k < n := by
  have := (mem_rngI k 0 n).mp (h.mem_iff.mp hk)
  omega
theorem order_nodup {p : List Int} {n : Nat} (h : p.Perm (rngI 0 n)) : p.Nodup := h.nodup_iff.mpr (rngI_nodup 0 n)
end DVL

namespace DVL
open PySem L2 DV
def ext (n : Nat) (ps : List (List Int)) : List (List Int) := ps.flatMap fun p => ((rngI 0 n).filter fun j => !p.elem j).map fun j => p ++ [j]
def ordersI (n : Nat) : Nat → List (List Int)
  | 0 => [[]]
  | k + 1 => ext n (ordersI n k)
theorem mem_ordersI (n : Nat) : ∀ (k : Nat) (p : List Int), p ∈ ordersI n k ↔ p.Nodup ∧ p.length = k ∧ ∀ x ∈ p, 0 ≤ x ∧ x < (n : Int)
  | 0, p => by
    unfold ordersI
    rw [List.mem_singleton]
    constructor
    · rintro rfl
      exact ⟨.nil, rfl, fun _ h => nomatch h⟩
    · rintro ⟨_, h, _⟩
      exact List.eq_nil_of_length_eq_zero h
  | k + 1, p => by
    unfold ordersI ext
    rw [List.mem_flatMap]
    constructor
    · rintro ⟨q, hq, hp⟩
      obtain ⟨j, hj, rfl⟩ := List.mem_map.mp hp
      obtain ⟨h1, h2⟩ := List.mem_filter.mp hj
      obtain ⟨n1, l1, m1⟩ := (mem_ordersI n k q).mp hq
      have hjq : j ∉ q := by simpa using h2
      have hj2 := (mem_rngI j 0 n).mp h1
      refine ⟨?_, by rw [List.length_append, l1]; rfl, fun x hx => ?_⟩
      · rw [List.nodup_append]
        refine ⟨n1, by simp, fun a ha b hb => ?_⟩
        rw [List.mem_singleton] at hb
        subst hb
        exact fun e => hjq (e ▸ ha)
      · rcases List.mem_append.mp hx with z | z
        · exact m1 x z
        · rw [List.mem_singleton] at z
          subst z
          omega
    · rintro ⟨nd, hl, hm⟩
      obtain ⟨q, j, rfl⟩ : ∃ q j, p = q ++ [j] := by
        have hne : p ≠ [] := fun e => by subst e; cases hl
        exact ⟨p.dropLast, p.getLast hne, (List.dropLast_concat_getLast hne).symm⟩
      rw [List.nodup_append] at nd
      rw [List.length_append] at hl
      refine ⟨q, (mem_ordersI n k q).mpr ⟨nd.1, by simpa using hl, fun x hx => hm x (List.mem_append_left _ hx)⟩, List.mem_map.mpr ⟨j, List.mem_filter.mpr ⟨?_, ?_⟩, rfl⟩⟩
      · have := hm j (List.mem_append_right _ (List.mem_singleton.mpr rfl))
        exact (mem_rngI j 0 n).mpr (by omega)
      · have : j ∉ q := fun z => nd.2.2 j z j (List.mem_singleton.mpr rfl) rfl
        cases e : q.elem j with
        | false => rfl
        | true => exact absurd (List.elem_iff.mp e) this
theorem nodup_perm : ∀ {p q : List Int}, p.Nodup → (∀ x ∈ p, x ∈ q) → q.length ≤ p.length → p.Perm q
  | [], q, _, _, hl => by
    have : q = [] := List.eq_nil_of_length_eq_zero (Nat.le_zero.mp hl)
    rw [this]
  | x :: p, q, nd, hs, hl => by
    obtain ⟨h1, h2⟩ := List.nodup_cons.mp nd
    have hx := hs x List.mem_cons_self
    have e := List.perm_cons_erase hx
    refine ((nodup_perm h2 (fun y hy => ?_) ?_).cons x).trans e.symm
    · have hy2 := hs y (List.mem_cons_of_mem _ hy)
      rcases List.mem_cons.mp (e.mem_iff.mp hy2) with z | z
      · exact absurd (z ▸ hy) h1
      · exact z
    · have := e.length_eq
      rw [List.length_cons] at this hl
      omega
theorem perm_of_mem {n : Nat} {p : List Int} (h : p ∈ ordersI n n) : p.Perm (rngI 0 n) := by
  obtain ⟨nd, hl, hm⟩ := (mem_ordersI n n p).mp h
  exact nodup_perm nd (fun x hx => (mem_rngI x 0 n).mpr (by have := hm x hx; omega)) (by rw [rngI_len]; omega)
theorem mem_of_perm {n : Nat} {p : List Int} (h : p.Perm (rngI 0 n)) : p ∈ ordersI n n :=
  (mem_ordersI n n p).mpr ⟨order_nodup h, order_len h, fun x hx => order_mem h hx⟩
theorem canLay_ints : ∀ js : List Int, PyData.canLayAll0 (js.map PyData.int) = true
  | [] => by simp [PyData.canLayAll0]
  | j :: js => by
    rw [List.map_cons, PyData.canLayAll0, canLay_ints js]
    simp [PyData.canLay0]
theorem depth_ints : ∀ js : List Int, PyData.depthAll (js.map PyData.int) = 0
  | [] => by simp [PyData.depthAll]
  | j :: js => by
    rw [List.map_cons, PyData.depthAll, depth_ints js]
    simp [PyData.depth]
theorem shaped_ints (js : List Int) : SeqAt.shaped (.list (js.map PyData.int)) = true := by
  unfold SeqAt.shaped
  rw [PyData.canLay0, canLay_ints, PyData.depth, depth_ints]
  rfl
theorem shaped_intsT (js : List Int) : SeqAt.shaped (ti js) = true := by
  unfold SeqAt.shaped ti
  rw [PyData.canLay0, canLay_ints, PyData.depth, depth_ints]
  rfl
theorem shaped_int (j : Int) : SeqAt.shaped (.int j) = true := by
  unfold SeqAt.shaped
  rw [PyData.canLay0, PyData.depth]
  rfl
theorem any_eqv (j : Int) : ∀ p : List Int, ((p.map PyData.int).any fun z => PyData.eqv z (.int j)) = p.elem j
  | [] => rfl
  | x :: p => by
    rw [List.map_cons, List.any_cons, any_eqv j p, eqv_int]
    by_cases h : x = j
    · subst h; simp
    · have h2 : ¬ j = x := fun e => h e.symm
      simp [h, h2]
theorem notIn_eq (j : Int) (p : List Int) : gNotIn (.d (.int j)) (.d (ti p)) = some (.d (.bool (!p.elem j))) := by
  show (if SeqAt.shaped (.int j) = true then if SeqAt.shaped (.list (p.map PyData.int)) = true then some (RV.d (.bool (!((p.map PyData.int).any fun z => PyData.eqv z (.int j))))) else none else none) = _
  rw [if_pos (shaped_int j), if_pos (shaped_ints p), any_eqv]
theorem eqv_intsA : ∀ xs ys : List Int, PyData.eqvAll (xs.map PyData.int) (ys.map PyData.int) = decide (xs = ys)
  | [], [] => by simp [PyData.eqvAll]
  | [], y :: ys => by simp [PyData.eqvAll]
  | x :: xs, [] => by simp [PyData.eqvAll]
  | x :: xs, y :: ys => by
    rw [List.map_cons, List.map_cons, PyData.eqvAll, eqv_intsA xs ys, eqv_int]
    by_cases h : x = y <;> by_cases h2 : xs = ys <;> simp [h, h2]
theorem eq_lists (neg : Bool) (xs ys : List Int) : gEqB neg (.n (xs.map PyData.int)) (.n (ys.map PyData.int)) = some (.d (.bool (if neg then !decide (xs = ys) else decide (xs = ys)))) := by
  show (if SeqAt.shaped (.list (xs.map PyData.int)) = true then if SeqAt.shaped (.list (ys.map PyData.int)) = true then some (RV.d (.bool (if neg then !PyData.eqv (.list (xs.map PyData.int)) (.list (ys.map PyData.int)) else PyData.eqv (.list (xs.map PyData.int)) (.list (ys.map PyData.int))))) else none else none) = _
  rw [if_pos (shaped_ints _), if_pos (shaped_ints _), PyData.eqv, eqv_intsA]
theorem eq_ints (neg : Bool) (x y : Int) : gEqB neg (.d (.int x)) (.d (.int y)) = some (.d (.bool (if neg then !decide (x = y) else decide (x = y)))) := by
  show (if SeqAt.shaped (.int x) = true then if SeqAt.shaped (.int y) = true then some (RV.d (.bool (if neg then !PyData.eqv (.int x) (.int y) else PyData.eqv (.int x) (.int y)))) else none else none) = _
  rw [if_pos (shaped_int _), if_pos (shaped_int _), eqv_int]
def fall (n : Nat) : Nat → Nat
  | 0 => 1
  | k + 1 => fall n k * (n - k)
theorem free_len {n k : Nat} {p : List Int} (h : p ∈ ordersI n k) : ((rngI 0 n).filter fun j => !p.elem j).length = n - k := by
  obtain ⟨nd, hl, hm⟩ := (mem_ordersI n k p).mp h
  have e : (p ++ (rngI 0 n).filter fun j => !p.elem j).Perm (rngI 0 n) := by
    refine (List.perm_ext_iff_of_nodup ?_ (rngI_nodup 0 n)).mpr fun x => ?_
    · rw [List.nodup_append]
      refine ⟨nd, (rngI_nodup 0 n).filter _, fun a ha b hb e => ?_⟩
      subst e
      have := (List.mem_filter.mp hb).2
      simp [ha] at this
    · rw [List.mem_append, List.mem_filter, mem_rngI]
      constructor
      · rintro (z | z)
        · have := hm x z; omega
        · exact z.1
      · intro z
        by_cases q : x ∈ p
        · exact .inl q
        · exact .inr ⟨z, by simp [q]⟩
  have := e.length_eq
  rw [List.length_append, rngI_len] at this
  omega
theorem flat_len {α β : Type} (f : α → List β) (c : Nat) : ∀ l : List α, (∀ x ∈ l, (f x).length = c) → (l.flatMap f).length = l.length * c
  | [], _ => by simp
  | x :: l, h => by
    rw [List.flatMap_cons, List.length_append, h x List.mem_cons_self, flat_len f c l fun y hy => h y (List.mem_cons_of_mem _ hy), List.length_cons, Nat.add_mul]
    omega
theorem orders_len (n : Nat) : ∀ k, (ordersI n k).length = fall n k
  | 0 => rfl
  | k + 1 => by
    unfold ordersI ext fall
    rw [flat_len _ (n - k) _ fun p hp => by rw [List.length_map]; exact free_len hp, orders_len n k]
theorem fall_le : ∀ n : Fin 8, ∀ k : Fin 9, fall n.val k.val ≤ 5040 := by decide +kernel
theorem orders_few {n k : Nat} (hn : n ≤ 7) (hk : k ≤ 8) : (ordersI n k).length ≤ 5040 := by
  rw [orders_len]
  exact fall_le ⟨n, by omega⟩ ⟨k, by omega⟩
def tis (ps : List (List Int)) : List D := ps.map ti
theorem orders_gives (n : Nat) (hn : n ≤ 7) : DV.Gives (m__law_orders [.d (.int (n : Nat)), .d (.tuple [])]) fun r => r = .n (tis (ordersI n n)) := by
  refine gv_run (gv_seq (gv_set (gv_lst (gv_cons (gv_tup (gv_nil ⟨[], rfl, by simp, gv_nil ⟨[.tuple []], rfl, by simp, _, rfl, ?_⟩⟩))))))
  refine gv_seq (gv_for (its := (rngI 0 n).map PyData.int) (lk := none) (by
    have := rng1_eq (f := eVar 0) (ρ := (startE 8 [RV.d (.int (n : Int)), RV.d (.tuple [])]).set 2 (some (.o [.tuple []]))) (n := (n : Int)) (var_eq rfl) (by omega) (by omega)
    rwa [Int.toNat_natCast] at this) ?_)
  refine DV.Gives.loop _ (fun xs ρ => ∃ (k : Nat) (y3 y4 y5 y6 y7 : Option SV), ρ = [some (.d (.int (n : Nat))), some (.d (.tuple [])), some (.o (tis (ordersI n k))), y3, y4, y5, y6, y7] ∧ xs.length + k = n) _ ⟨0, none, none, none, none, none, rfl, by rw [List.length_map, rngI_len]; rfl⟩ ?_ ?_
  · rintro x xs ρ ⟨k, y3, y4, y5, y6, y7, rfl, hk⟩
    rw [List.length_cons] at hk
    have hfew : (ordersI n (k + 1)).length ≤ 5040 := orders_few hn (by omega)
    have hfew0 : (ordersI n k).length ≤ 5040 := orders_few hn (by omega)
    refine ⟨_, rfl, gv_seq (gv_set (gv_lst (gv_nil ⟨[], rfl, by simp, _, rfl, ?_⟩)))⟩
    refine gv_seq (gv_for (its := tis (ordersI n k)) (lk := some 2) rfl ?_)
    -- over the parts
    refine DV.Gives.loop _ (fun zs ρ => ∃ (acc qs : List (List Int)) (z5 z6 z7 : Option SV), ρ = [some (.d (.int (n : Nat))), some (.d (.tuple [])), some (.k (tis (ordersI n k))), some (.d x), some (.o (tis acc)), z5, z6, z7] ∧ zs = tis qs ∧ acc ++ ext n qs = ordersI n (k + 1) ∧ ∀ q ∈ qs, q.length ≤ 100) _ ⟨[], ordersI n k, y5, y6, y7, rfl, rfl, rfl, fun q hq => by have := ((mem_ordersI n k q).mp hq).2.1; omega⟩ ?_ ?_
    · rintro z zs ρ ⟨acc, qs, z5, z6, z7, rfl, ez, hacc, hq100⟩
      cases qs with
      | nil => cases ez
      | cons q qs =>
        cases ez
        have hq := hq100 q List.mem_cons_self
        refine ⟨_, rfl, ?_⟩
        refine gv_for (its := (rngI 0 n).map PyData.int) (lk := none) (by
          have := rng1_eq (f := eVar 0) (ρ := [some (.d (.int (n : Nat))), some (.d (.tuple [])), some (.k (tis (ordersI n k))), some (.d x), some (.o (tis acc)), some (.d (ti q)), z6, z7]) (n := (n : Int)) (var_eq rfl) (by omega) (by omega)
          rwa [Int.toNat_natCast] at this) ?_
        -- over the jobs
        refine DV.Gives.loop _ (fun ws ρ => ∃ (acc2 : List (List Int)) (js : List Int) (z6 z7 : Option SV), ρ = [some (.d (.int (n : Nat))), some (.d (.tuple [])), some (.k (tis (ordersI n k))), some (.d x), some (.o (tis acc2)), some (.d (ti q)), z6, z7] ∧ ws = js.map PyData.int ∧ acc2 ++ ((js.filter fun j => !q.elem j).map fun j => q ++ [j]) ++ ext n qs = ordersI n (k + 1)) _ ⟨acc, rngI 0 n, z6, z7, rfl, rfl, by rw [List.append_assoc]; exact hacc⟩ ?_ ?_
        · rintro w ws ρ ⟨acc2, js, z6, z7, rfl, ew, h2⟩
          cases js with
          | nil => cases ew
          | cons j js =>
            cases ew
            refine ⟨_, rfl, ?_⟩
            refine gv_if (gv_and (gv_T (gv_e2 (gv_var rfl (gv_var rfl ⟨_, notIn_eq j q, _, rfl, fun hb => ?_, fun hb => ?_⟩)))))
            · refine gv_T (gv_e2 (f := eLc _ _ _ _ _) (gv_lc (its := []) (lk := none) rfl (by simp) (gv_eq (a := []) rfl ?_)))
              refine gv_lst (gv_nil ⟨[], rfl, by simp, _, eq_lists false [] [], true, rfl, fun _ => ?_, fun q => nomatch q⟩)
              have hlen : acc2.length < 100000 := by
                have := congrArg List.length h2
                rw [List.length_append, List.length_append] at this
                omega
              refine gv_app (ds := tis acc2) rfl (by unfold tis; rw [List.length_map]; exact hlen) (gv_e2 (gv_var rfl (gv_tup (gv_cons (gv_var rfl (gv_nil ⟨[.int j], rfl, by simp, .d (ti (q ++ [j])), ?_, _, rfl, ?_⟩))))))
              · show (if (q.map PyData.int).length + 1 ≤ 100000 then some (RV.d (.tuple (q.map PyData.int ++ [.int j]))) else none) = _
                rw [if_pos (by rw [List.length_map]; omega)]
                unfold ti
                rw [List.map_append]
                rfl
              · refine ⟨acc2 ++ [q ++ [j]], js, some (SV.d (.int j)), z7, ?_, rfl, ?_⟩
                · show _ = [some (SV.d (.int (n : Nat))), some (SV.d (.tuple [])), some (SV.k (tis (ordersI n k))), some (SV.d x), some (SV.o (tis (acc2 ++ [q ++ [j]]))), some (SV.d (ti q)), some (SV.d (.int j)), z7]
                  unfold tis
                  rw [List.map_append]
                  rfl
                · rw [List.filter_cons_of_pos (p := fun j => !q.elem j) hb] at h2
                  rw [← h2]
                  simp
            · refine ⟨(fun q => nomatch q), fun _ => gv_nop ⟨acc2, js, _, z7, rfl, rfl, ?_⟩⟩
              rw [List.filter_cons_of_neg (p := fun j => !q.elem j) (by show ¬ (!q.elem j) = true; rw [hb]; decide)] at h2
              exact h2
        · rintro ρ ⟨acc2, js, z6, z7, rfl, ew, h2⟩
          cases js with
          | nil => exact ⟨acc2, qs, _, z6, z7, rfl, rfl, by simpa using h2, fun r hr => hq100 r (List.mem_cons_of_mem _ hr)⟩
          | cons j js => cases ew
    · rintro ρ ⟨acc, qs, z5, z6, z7, rfl, ez, hacc, _⟩
      cases qs with
      | cons q qs => cases ez
      | nil =>
        have hacc2 : acc = ordersI n (k + 1) := by simpa [ext] using hacc
        subst hacc2
        refine gv_eq (a := Out.nx [some (.d (.int (n : Nat))), some (.d (.tuple [])), some (.o (tis (ordersI n (k + 1)))), some (.d x), none, z5, z6, z7]) rfl ?_
        exact ⟨k + 1, _, _, _, _, _, rfl, by omega⟩
  · rintro ρ ⟨k, y3, y4, y5, y6, y7, rfl, hk⟩
    have hk2 : k = n := by simpa using hk
    subst hk2
    exact gv_rtV rfl rfl
end DVL

namespace DVL
open PySem L2 DV
def val (ts : List Int) (j : Int) : Int := ts.getD j.toNat 0
theorem ix_map {ts : List Int} {j : Int} (h0 : 0 ≤ j) (h1 : j < ts.length) : atI (ts.map PyData.int) j = some (.int (val ts j)) := by
  have hl : j.toNat < ts.length := by omega
  have e : (ts.map PyData.int)[j.toNat]? = some (.int (val ts j)) := by
    rw [List.getElem?_map, List.getElem?_eq_getElem hl]
    unfold val
    rw [List.getD_eq_getElem?_getD, List.getElem?_eq_getElem hl]
    rfl
  have := atI_nat e
  rwa [Int.toNat_of_nonneg h0] at this
theorem gIx_ti {ts : List Int} {j : Int} (h0 : 0 ≤ j) (h1 : j < ts.length) : gIx (.d (ti ts)) (.d (.int j)) = some (.d (.int (val ts j))) := by
  show (atI (ts.map PyData.int) j).map RV.d = _
  rw [ix_map h0 h1]
  rfl
theorem gIx_b {ts : List Int} {j : Int} (h0 : 0 ≤ j) (h1 : j < ts.length) : gIx (.b (ts.map PyData.int)) (.d (.int j)) = some (.d (.int (val ts j))) := by
  show (atI (ts.map PyData.int) j).map RV.d = _
  rw [ix_map h0 h1]
  rfl
theorem val_mem {ts : List Int} {j : Int} (h0 : 0 ≤ j) (h1 : j < ts.length) : val ts j ∈ ts := by
  have hl : j.toNat < ts.length := by omega
  unfold val
  rw [List.getD_eq_getElem?_getD, List.getElem?_eq_getElem hl]
  exact List.getElem_mem hl
end DVL

namespace DVL
open PySem L2 DV
def fitI : List (Int × Int) → Int → Int → Int
  | [], d, _ => d
  | (b, e) :: r, d, t => if b < d + t ∧ d < e then fitI r e t else fitI r d t
/-- the day behind the order, the sum of ends times weights -/
def fin (ss : List (Int × Int)) (ts : List Int) (d : Int) (p : List Int) : Int := p.foldl (fun d j => fitI ss d (val ts j) + val ts j) d
end DVL

namespace DVL
open PySem L2 DV
abbrev pr (p : Int × Int) : D := .tuple [.int p.1, .int p.2]
abbrev sts (ss : List (Int × Int)) : D := .tuple (ss.map pr)
end DVL

namespace DVL
open PySem L2 DV
theorem ixN_nat {n : Nat} {j : Int} (h0 : 0 ≤ j) (h1 : j < n) : ixN n j = some j.toNat := by
  unfold ixN
  rw [if_pos h0, if_pos h1]
theorem gv_put {i : Nat} {f g : DV.Env → M RV} {ρ : DV.Env} {Q : Out → Prop} {ds : List D} (e1 : sApp.own? ρ i = some ds) (p : DV.Gives (f ρ) fun x => DV.Gives (g ρ) fun y => ∃ j d m, asInt y = some j ∧ toD x = some d ∧ ixN ds.length j = some m ∧ Q (.nx (ρ.set i (some (.o (ds.set m d)))))) : DV.Gives (sPut i f g ρ) Q := by
  unfold sPut
  refine DV.Gives.bnd p fun x q => ?_
  rw [e1, lft_s, bnd_ret]
  refine DV.Gives.bnd q fun y ⟨j, d, m, a1, a2, a3, q⟩ => ?_
  rw [a1, lft_s, bnd_ret, a2, lft_s, bnd_ret, a3, lft_s, bnd_ret]
  exact DV.Gives.ret q
theorem atI_pr (ss : List (Int × Int)) {k : Nat} (hk : k < ss.length) : atI (ss.map pr) (k : Int) = some (pr ss[k]) := by
  refine atI_nat ?_
  rw [List.getElem?_map, List.getElem?_eq_getElem hk]
  rfl
end DVL



namespace DVL
open PySem L2 DV
theorem gv_lcG {t : DV.Env → M Bool} {h : DV.Env → M RV} {ρ : DV.Env} {P : RV → Prop} {fi : DV.Env → M (List D × Option Nat)} {vs : List Nat} {tg : D → DV.Env → Option DV.Env} (p : DV.Gives (fi ρ) fun q => q.1.length ≤ 100000 ∧ DV.Gives (lcF tg t h (wipeE ρ vs) q.1) fun ds => P (.n ds)) : DV.Gives (eLc fi vs tg t h ρ) P := by
  unfold eLc
  refine DV.Gives.bnd p fun q ⟨hl, g⟩ => DV.Gives.bnd g fun ds hp => ?_
  show DV.Gives (if q.1.length ≤ 100000 then DV.ret (RV.n ds) else DV.fail) P
  rw [if_pos hl]
  exact DV.Gives.ret hp
theorem gv_srcE {f : DV.Env → M RV} {ρ : DV.Env} {P : List D × Option Nat → Prop} (p : DV.Gives (f ρ) fun x => ∃ ds, srcOf x = some ds ∧ P (ds, none)) : DV.Gives (srcE f ρ) P :=
  DV.Gives.bnd p fun x ⟨ds, e, q⟩ => by rw [e, lft_s, bnd_ret]; exact DV.Gives.ret q
theorem gv_forG {fi : DV.Env → M (List D × Option Nat)} {tg : D → DV.Env → Option DV.Env} {g : DV.Env → M Out} {ρ : DV.Env} {Q : Out → Prop} (p : DV.Gives (fi ρ) fun q => DV.Gives (loopF tg g q.1 (lockE ρ q.2)) fun o => Q (unlockO ρ q.2 o)) : DV.Gives (sFor fi tg g ρ) Q := by
  unfold sFor
  exact DV.Gives.bnd p fun q h => DV.Gives.bnd h fun o r => DV.Gives.ret r
end DVL










namespace DVL
open PySem L2 DV
/-- jobs as they are drawn -/
structure Wk (ts rs : List Int) : Prop where
  pos : 1 ≤ ts.length
  len : ts.length ≤ 10
  lr : rs.length = ts.length
  tim : ∀ t ∈ ts, 1 ≤ t ∧ t ≤ 60
  rat : ∀ t ∈ rs, 0 ≤ t ∧ t ≤ 60
section
variable {ts rs : List Int}
theorem Wk.r (W : Wk ts rs) {j : Int} (h0 : 0 ≤ j) (h1 : j < ts.length) : 0 ≤ val rs j ∧ val rs j ≤ 60 := W.rat _ (val_mem h0 (by rw [W.lr]; exact h1))
theorem Wk.t (W : Wk ts rs) {j : Int} (h0 : 0 ≤ j) (h1 : j < ts.length) : 1 ≤ val ts j ∧ val ts j ≤ 60 := W.tim _ (val_mem h0 h1)
end
end DVL

namespace DVL
open PySem L2 DV
theorem getD_pre (pre : List Int) (x : Int) (l : List Int) : (pre ++ x :: l).getD pre.length 0 = x := by
  rw [List.getD_eq_getElem?_getD, List.getElem?_append_right (Nat.le_refl _), Nat.sub_self]
  rfl
theorem rng_val : ∀ (ws pre : List Int), (rngI (pre.length : Nat) ws.length).map (fun i => (pre ++ ws).getD i.toNat 0) = ws
  | [], _ => rfl
  | w :: ws, pre => by
    have ih := rng_val ws (pre ++ [w])
    rw [List.length_append, List.length_singleton, List.append_assoc] at ih
    show (pre ++ w :: ws).getD ((pre.length : Nat) : Int).toNat 0 :: (rngI ((pre.length : Int) + 1) ws.length).map (fun i => (pre ++ w :: ws).getD i.toNat 0) = w :: ws
    rw [Int.toNat_natCast, getD_pre]
    congr 1
end DVL


namespace DVL
open PySem L2 DV
abbrev kp (a b : Int) : D := .tuple [.int a, .int b]
end DVL

namespace DVL
open PySem L2 DV
def hitQ (x : Int) (p : Int × Int) : Bool := decide (p.1 ≤ x) && decide (x < p.2)
def hitB (ss : List (Int × Int)) (x : Int) : Bool := ss.any (hitQ x)
def free (ss : List (Int × Int)) (last : Nat) : List Int := (rngI 0 last).filter fun x => !hitB ss x
end DVL


namespace DVL
open PySem L2 DV
def at2 (tb : List (Int × Int)) (j : Int) : Int × Int := tb.getD j.toNat (0, 0)
end DVL

namespace DVL
open PySem L2 DV
section
variable {tb : List (Int × Int)} {ls : List Int}
theorem at2_mem {j : Int} (h0 : 0 ≤ j) (h1 : j < tb.length) : at2 tb j ∈ tb := by
  unfold at2
  rw [List.getD_eq_getElem?_getD, List.getElem?_eq_getElem (by omega)]
  exact List.getElem_mem _
theorem gIx_tb {j : Int} (h0 : 0 ≤ j) (h1 : j < tb.length) : gIx (.d (sts tb)) (.d (.int j)) = some (.d (pr (at2 tb j))) := by
  obtain ⟨k, rfl⟩ : ∃ k : Nat, j = (k : Int) := ⟨j.toNat, by omega⟩
  have hk : k < tb.length := by omega
  show (atI (tb.map pr) (k : Int)).map RV.d = _
  rw [atI_pr tb hk]
  unfold at2
  rw [Int.toNat_natCast, List.getD_eq_getElem?_getD, List.getElem?_eq_getElem hk]
  rfl
end
end DVL



namespace DVL
open PySem L2 DV
def rowA (tb : List (List Int)) (j : Int) : List Int := tb.getD j.toNat []
/-- the ends of a job on all machines: no machine begins ahead of its free day -/
def stepR : Int → List Int → List Int → List Int
  | d, f :: fs, t :: ts => (max d f + t) :: stepR (max d f + t) fs ts
  | _, _, _ => []
def flE (tb : List (List Int)) : List Int → List Int → List Int
  | F, [] => F
  | F, j :: p => flE tb (stepR 0 F (rowA tb j)) p
def lastI (l : List Int) : Int := l.getLastD 0
/-- the last end of an order -/
def flen (m : Nat) (tb : List (List Int)) (p : List Int) : Int := lastI (flE tb (List.replicate m 0) p)
end DVL


namespace DVL
open PySem L2 DV
structure Sp (ss : List (Int × Int)) : Prop where
  pos : 1 ≤ ss.length
  len : ss.length ≤ 14
  rng : ∀ p ∈ ss, 0 ≤ p.1 ∧ p.1 < p.2 ∧ p.2 ≤ 600
section
variable {ss : List (Int × Int)}
theorem Sp.at (S : Sp ss) {j : Int} (h0 : 0 ≤ j) (h1 : j < ss.length) : 0 ≤ (at2 ss j).1 ∧ (at2 ss j).1 < (at2 ss j).2 ∧ (at2 ss j).2 ≤ 600 := S.rng _ (at2_mem h0 h1)
end
end DVL



namespace DVL
open PySem L2 DV
theorem nodup_le : ∀ {p q : List Int}, p.Nodup → (∀ x ∈ p, x ∈ q) → p.length ≤ q.length
  | [], _, _, _ => Nat.zero_le _
  | x :: p, q, nd, hs => by
    obtain ⟨h1, h2⟩ := List.nodup_cons.mp nd
    have hx := hs x List.mem_cons_self
    have e := List.perm_cons_erase hx
    have := nodup_le (q := q.erase x) h2 fun y hy => by
      rcases List.mem_cons.mp (e.mem_iff.mp (hs y (List.mem_cons_of_mem _ hy))) with z | z
      · exact absurd (z ▸ hy) h1
      · exact z
    have h3 := e.length_eq
    rw [List.length_cons] at h3 ⊢
    omega
theorem val_set {l : List Int} {i j x : Int} (h0 : 0 ≤ i) (j0 : 0 ≤ j) (j1 : j < l.length) : val (l.set i.toNat x) j = if j = i then x else val l j := by
  unfold val
  rw [List.getD_eq_getElem?_getD, List.getD_eq_getElem?_getD, List.getElem?_set]
  by_cases h : j = i
  · subst h
    rw [if_pos rfl, if_pos rfl, if_pos (by omega)]
    rfl
  · rw [if_neg (by omega), if_neg h]
section
variable {ss : List (Int × Int)}
variable {dn ms fr : List Int} {j : Int}
theorem vals_at (ms : List Int) : (rngI 0 ms.length).map (val ms) = ms := rng_val ms []
end
end DVL

namespace DVL
open PySem L2 DV
section
variable {ss : List (Int × Int)}
theorem boolsOf_map : ∀ bs : List Bool, boolsOf (bs.map PyData.bool) = some bs
  | [] => rfl
  | b :: bs => by
    show (match boolsOf (bs.map PyData.bool) with | some js => some (b :: js) | none => none) = _
    rw [boolsOf_map bs]
end
end DVL



namespace DVL
open PySem L2 DV
section
variable {ss : List (Int × Int)}
theorem Sp.ne (S : Sp ss) : ss ≠ [] := fun e => by have := S.pos; rw [e] at this; simp at this
end
end DVL

namespace DV
open PySem L2
def KSeq (g2 : Env → M Out) (Q : Out → Prop) : Out → Prop := fun o => match o with
  | .nx ρ' => Gives (g2 ρ') Q
  | o => Q o
def KRun (P : RV → Prop) : Out → Prop := fun o => match o with
  | .nx _ => P (.d .none)
  | .rt r => P r
  | _ => False
def KLoop (J : Env → Prop) (Q : Out → Prop) : Out → Prop := fun o => match o with
  | .nx ρ2 => J ρ2
  | .ct ρ2 => J ρ2
  | .bk ρ2 => Q (.nx ρ2)
  | .rt r => Q (.rt r)
def KTg (o : Option Env) (C : Env → Prop) : Prop := ∃ ρ1, o = some ρ1 ∧ C ρ1
def KSet (i : Nat) (ρ : Env) (Q : Out → Prop) (x : RV) : Prop := ∃ sv, toS x = some sv ∧ Q (.nx (ρ.set i (some sv)))
def KPar (i j : Nat) (ρ : Env) (Q : Out → Prop) (xs : List RV) : Prop := ∃ x y sx sy, xs = [x, y] ∧ toS x = some sx ∧ toS y = some sy ∧ Q (.nx ((ρ.set i (some sx)).set j (some sy)))
def KPar3 (i j l : Nat) (ρ : Env) (Q : Out → Prop) (xs : List RV) : Prop := ∃ x y z sx sy sz, xs = [x, y, z] ∧ toS x = some sx ∧ toS y = some sy ∧ toS z = some sz ∧ Q (.nx (((ρ.set i (some sx)).set j (some sy)).set l (some sz)))
def KPar4 (i j l m : Nat) (ρ : Env) (Q : Out → Prop) (xs : List RV) : Prop := ∃ x y z w sx sy sz sw, xs = [x, y, z, w] ∧ toS x = some sx ∧ toS y = some sy ∧ toS z = some sz ∧ toS w = some sw ∧ Q (.nx ((((ρ.set i (some sx)).set j (some sy)).set l (some sz)).set m (some sw)))
def KRet (Q : Out → Prop) (x : RV) : Prop := ∃ y, toRet x = some y ∧ Q (.rt y)
def KTup (hh : D → Env → Option Env) (ρ : Env) (Q : Out → Prop) (x : RV) : Prop := ∃ d ρ', x = .d d ∧ hh d ρ = some ρ' ∧ Q (.nx ρ')
def KD (C : D → Prop) (x : RV) : Prop := ∃ d, toD x = some d ∧ C d
def KI (C : Int → Prop) (x : RV) : Prop := ∃ d, asInt x = some d ∧ C d
def K2 (gg : RV → RV → Option RV) (P : RV → Prop) (x y : RV) : Prop := ∃ z, gg x y = some z ∧ P z
def KC (gg : List RV → Option RV) (P : RV → Prop) (xs : List RV) : Prop := ∃ z, gg xs = some z ∧ P z
def KF (n : Nat) (m : List RV → M RV) (P : RV → Prop) (xs : List RV) : Prop := xs.length = n ∧ Gives (m (xs.map readable)) P
def KB (PB : Bool → Prop) (x : RV) : Prop := ∃ b, asBool x = some b ∧ PB b
def KIf (A B : Prop) (b : Bool) : Prop := (b = true → A) ∧ (b = false → B)
def KTu (P : RV → Prop) (xs : List RV) : Prop := ∃ ds, toDs xs = some ds ∧ ds.length ≤ 100000 ∧ P (.d (.tuple ds))
def KLs (P : RV → Prop) (xs : List RV) : Prop := ∃ ds, toDs xs = some ds ∧ ds.length ≤ 100000 ∧ P (.n ds)
def KLc (vs : List Nat) (tg : D → Env → Option Env) (t : Env → M Bool) (el : Env → M RV) (ρ : Env) (P : RV → Prop) (q : List D × Option Nat) : Prop := q.1.length ≤ 100000 ∧ Gives (lcF tg t el (wipeE ρ vs) q.1) fun ds => P (.n ds)
def KFor (tg : D → Env → Option Env) (g : Env → M Out) (ρ : Env) (Q : Out → Prop) (q : List D × Option Nat) : Prop := Gives (loopF tg g q.1 (lockE ρ q.2)) fun o => Q (unlockO ρ q.2 o)
def KSrc (C : List D × Option Nat → Prop) (x : RV) : Prop := ∃ ds, srcOf x = some ds ∧ C (ds, none)
def KRng (C : List D × Option Nat → Prop) (x : RV) : Prop := ∃ n, asInt x = some n ∧ n ≤ 100000 ∧ -100000 ≤ n ∧ C ((rngD 0 n.toNat), none)
def KRng2 (C : List D × Option Nat → Prop) (x y : RV) : Prop := ∃ a b, asInt x = some a ∧ asInt y = some b ∧ (a ≤ 100000 ∧ -100000 ≤ a ∧ b ≤ 100000 ∧ -100000 ≤ b) ∧ C ((DVL.rngI a (b - a).toNat).map PyData.int, none)
section
variable {α β : Type} {ρ ρ' : Env} {P : RV → Prop} {Q : Out → Prop} {PA : List RV → Prop} {PB : Bool → Prop} {f h k : Env → M RV} {fa : Env → M (List RV)} {g g2 : Env → M Out} {t t2 : Env → M Bool} {x y : RV} {A B : Prop} {C : List D × Option Nat → Prop} {tg : D → Env → Option Env}
theorem w_is {m : M α} {a : α} {P : α → Prop} (p : Gives m fun r => r = a) (q : P a) : Gives m P := p.mono fun r e => by subst e; exact q
theorem w_use {m : M α} {P0 P : α → Prop} (p : Gives m P0) (q : ∀ r, P0 r → P r) : Gives m P := p.mono q
theorem w_seq (p : Gives (g ρ) (KSeq g2 Q)) : Gives (sSeq g g2 ρ) Q := gv_seq p
theorem w_seqN (p : Gives (g2 ρ') Q) : KSeq g2 Q (.nx ρ') := p
theorem w_seqR (p : Q (.rt x)) : KSeq g2 Q (.rt x) := p
theorem w_seqB (p : Q (.bk ρ)) : KSeq g2 Q (.bk ρ) := p
theorem w_seqC (p : Q (.ct ρ)) : KSeq g2 Q (.ct ρ) := p
theorem w_loopN {J : Env → Prop} (p : J ρ) : KLoop J Q (.nx ρ) := p
theorem w_loopC {J : Env → Prop} (p : J ρ) : KLoop J Q (.ct ρ) := p
theorem w_loopB {J : Env → Prop} (p : Q (.nx ρ)) : KLoop J Q (.bk ρ) := p
theorem w_loopR {J : Env → Prop} (p : Q (.rt x)) : KLoop J Q (.rt x) := p
theorem w_runN (p : P (.d .none)) : KRun P (.nx ρ) := p
theorem w_runR (p : P x) : KRun P (.rt x) := p
theorem w_tg {o : Option Env} {C : Env → Prop} (e : o = some ρ) (p : C ρ) : KTg o C := ⟨ρ, e, p⟩
theorem w_nop (p : Q (.nx ρ)) : Gives (sNil ρ) Q := Gives.ret p
theorem w_set {i : Nat} (p : Gives (f ρ) (KSet i ρ Q)) : Gives (sSet i f ρ) Q := gv_set p
theorem w_setX {i : Nat} {sv : SV} (e1 : toS x = some sv) (e : ρ.set i (some sv) = ρ') (p : Q (.nx ρ')) : KSet i ρ Q x := ⟨sv, e1, by rw [e]; exact p⟩
theorem w_rt (p : Gives (f ρ) (KRet Q)) : Gives (sRet f ρ) Q := gv_rt p
theorem w_rtD {d : D} (p : Q (.rt (.d d))) : KRet Q (.d d) := ⟨_, rfl, p⟩
theorem w_rtN {d : List D} (p : Q (.rt (.n d))) : KRet Q (.n d) := ⟨_, rfl, p⟩
theorem w_rtV {i : Nat} (e : vown ρ i = some x) (p : Q (.rt x)) : Gives (sRetV i ρ) Q := gv_rtV e p
theorem w_if (p : Gives (t ρ) fun b => KIf (Gives (g ρ) Q) (Gives (g2 ρ) Q) b) : Gives (sIf t g g2 ρ) Q := gv_if p
theorem w_drop (p : Gives (f ρ) fun _ => Q (.nx ρ)) : Gives (sDrop f ρ) Q := gv_drop p
theorem w_stup {hh : D → Env → Option Env} (p : Gives (f ρ) (KTup hh ρ Q)) : Gives (sTup f hh ρ) Q := gv_stup p
theorem w_stupD {hh : D → Env → Option Env} {d : D} (e : hh d ρ = some ρ') (p : Q (.nx ρ')) : KTup hh ρ Q (.d d) := ⟨d, ρ', rfl, e, p⟩
theorem w_aug {i : Nat} {kf : Int → Int → Int} {a : Int} (e1 : vget ρ i = some (.d (.int a))) (p : Gives (f ρ) (KI fun b => KSet i ρ Q (.d (.int (kf a b))))) : Gives (sAug i kf f ρ) Q :=
  gv_aug e1 rfl (p.mono fun x ⟨b, e, sv, e2, q⟩ => ⟨b, e, by cases e2; exact q⟩)
theorem w_I {C : Int → Prop} {i : Int} (p : C i) : KI C (.d (.int i)) := ⟨i, rfl, p⟩
theorem w_app {i : Nat} {ds : List D} (e1 : sApp.own? ρ i = some ds) (hl : ds.length < 100000) (p : Gives (f ρ) (KD fun d => KSet i ρ Q (.n (ds ++ [d])))) : Gives (sApp i f ρ) Q :=
  gv_app e1 hl (p.mono fun x ⟨d, e, sv, e2, q⟩ => ⟨d, e, by cases e2; exact q⟩)
theorem w_D {C : D → Prop} {d : D} (p : C d) : KD C (.d d) := ⟨d, rfl, p⟩
theorem w_for {fi : Env → M (List D × Option Nat)} (p : Gives (fi ρ) (KFor tg g ρ Q)) : Gives (sFor fi tg g ρ) Q := DVL.gv_forG p
/-- several names at once -/
theorem w_par {i j : Nat} (p : Gives (fa ρ) (KPar i j ρ Q)) : Gives (sPar i j fa ρ) Q := gv_par p
theorem w_parX {i j : Nat} {sx sy : SV} (e1 : toS x = some sx) (e2 : toS y = some sy) (e : (ρ.set i (some sx)).set j (some sy) = ρ') (q : Q (.nx ρ')) : KPar i j ρ Q [x, y] := ⟨x, y, sx, sy, rfl, e1, e2, by rw [e]; exact q⟩
theorem w_par3 {i j l : Nat} (p : Gives (fa ρ) (KPar3 i j l ρ Q)) : Gives (sPar3 i j l fa ρ) Q := gv_par3 p
theorem w_par3X {i j l : Nat} {z : RV} {sx sy sz : SV} (e1 : toS x = some sx) (e2 : toS y = some sy) (e3 : toS z = some sz) (e : ((ρ.set i (some sx)).set j (some sy)).set l (some sz) = ρ') (q : Q (.nx ρ')) : KPar3 i j l ρ Q [x, y, z] := ⟨x, y, z, sx, sy, sz, rfl, e1, e2, e3, by rw [e]; exact q⟩
theorem w_par4 {i j l m : Nat} (p : Gives (fa ρ) (KPar4 i j l m ρ Q)) : Gives (sPar4 i j l m fa ρ) Q :=
  Gives.bnd p fun xs ⟨x, y, z, w, sx, sy, sz, sw, e, e1, e2, e3, e4, q⟩ => by
    subst e
    show Gives (bnd (lft (toS x)) fun sx => bnd (lft (toS y)) fun sy => bnd (lft (toS z)) fun sz => bnd (lft (toS w)) fun sw => ret (.nx ((((ρ.set i (some sx)).set j (some sy)).set l (some sz)).set m (some sw)))) Q
    rw [e1, lft_s, bnd_ret, e2, lft_s, bnd_ret, e3, lft_s, bnd_ret, e4, lft_s, bnd_ret]
    exact Gives.ret q
theorem w_par4X {i j l m : Nat} {z w : RV} {sx sy sz sw : SV} (e1 : toS x = some sx) (e2 : toS y = some sy) (e3 : toS z = some sz) (e4 : toS w = some sw) (e : (((ρ.set i (some sx)).set j (some sy)).set l (some sz)).set m (some sw) = ρ') (q : Q (.nx ρ')) : KPar4 i j l m ρ Q [x, y, z, w] := ⟨x, y, z, w, sx, sy, sz, sw, rfl, e1, e2, e3, e4, by rw [e]; exact q⟩
theorem w_var {i : Nat} (e : vget ρ i = some x) (p : P x) : Gives (eVar i ρ) P := gv_var e p
theorem w_c {d : D} (p : P (.d d)) : Gives (eC d ρ) P := Gives.ret p
theorem w_e2 {gg : RV → RV → Option RV} (p : Gives (f ρ) fun x => Gives (h ρ) fun y => K2 gg P x y) : Gives (e2 gg f h ρ) P := gv_e2 p
theorem w_nil (p : PA []) : Gives (aNil ρ) PA := Gives.ret p
theorem w_cons (p : Gives (f ρ) fun x => Gives (fa ρ) fun xs => PA (x :: xs)) : Gives (aCons f fa ρ) PA := gv_cons p
theorem w_call {gg : List RV → Option RV} (p : Gives (fa ρ) (KC gg P)) : Gives (eCall gg fa ρ) P := gv_call p
theorem w_fn {m : List RV → M RV} {n : Nat} (p : Gives (fa ρ) (KF n m P)) : Gives (eFn (fun xs => if xs.length = n then m xs else fail) fa ρ) P := gv_fn p
theorem w_f1 {m : List RV → M RV} {x1 : RV} (p : Gives (m [readable x1]) P) : KF 1 m P [x1] := ⟨rfl, p⟩
theorem w_f2 {m : List RV → M RV} {x1 x2 : RV} (p : Gives (m [readable x1, readable x2]) P) : KF 2 m P [x1, x2] := ⟨rfl, p⟩
theorem w_f3 {m : List RV → M RV} {x1 x2 x3 : RV} (p : Gives (m [readable x1, readable x2, readable x3]) P) : KF 3 m P [x1, x2, x3] := ⟨rfl, p⟩
theorem w_f4 {m : List RV → M RV} {x1 x2 x3 x4 : RV} (p : Gives (m [readable x1, readable x2, readable x3, readable x4]) P) : KF 4 m P [x1, x2, x3, x4] := ⟨rfl, p⟩
theorem w_f5 {m : List RV → M RV} {x1 x2 x3 x4 x5 : RV} (p : Gives (m [readable x1, readable x2, readable x3, readable x4, readable x5]) P) : KF 5 m P [x1, x2, x3, x4, x5] := ⟨rfl, p⟩
theorem w_f6 {m : List RV → M RV} {x1 x2 x3 x4 x5 x6 : RV} (p : Gives (m [readable x1, readable x2, readable x3, readable x4, readable x5, readable x6]) P) : KF 6 m P [x1, x2, x3, x4, x5, x6] := ⟨rfl, p⟩
theorem w_tup (p : Gives (fa ρ) (KTu P)) : Gives (eTup fa ρ) P := gv_tup p
theorem w_lst (p : Gives (fa ρ) (KLs P)) : Gives (eLst fa ρ) P := gv_lst p
theorem w_tu {xs : List RV} {ds : List D} (e : toDs xs = some ds) (hl : ds.length ≤ 100000) (p : P (.d (.tuple ds))) : KTu P xs := ⟨ds, e, hl, p⟩
theorem w_ls {xs : List RV} {ds : List D} (e : toDs xs = some ds) (hl : ds.length ≤ 100000) (p : P (.n ds)) : KLs P xs := ⟨ds, e, hl, p⟩
theorem w_neg (p : Gives (f ρ) (KI fun i => P (.d (.int (-i))))) : Gives (eNeg f ρ) P := gv_neg p
theorem w_ifB (p : Gives (f ρ) (KB fun b => KIf (Gives (h ρ) P) (Gives (k ρ) P) b)) : Gives (eIfB f h k ρ) P := gv_ifB p
theorem w_ifE (p : Gives (t ρ) fun b => KIf (Gives (h ρ) P) (Gives (k ρ) P) b) : Gives (eIf t h k ρ) P := gv_ifE p
theorem w_notB (p : Gives (f ρ) (KB fun b => P (.d (.bool (!b))))) : Gives (eNotB f ρ) P := gv_notB p
theorem w_T (p : Gives (f ρ) (KB PB)) : Gives (eT f ρ) PB := gv_T p
theorem w_B {b : Bool} (p : PB b) : KB PB (.d (.bool b)) := ⟨b, rfl, p⟩
theorem w_not (p : Gives (t ρ) fun b => PB (!b)) : Gives (tNotF t ρ) PB := gv_not p
theorem w_and (p : Gives (t ρ) fun b => KIf (Gives (t2 ρ) PB) (PB false) b) : Gives (tIfT t t2 (tRetB false) ρ) PB := gv_and p
theorem w_or (p : Gives (t ρ) fun b => KIf (PB true) (Gives (t2 ρ) PB) b) : Gives (tIfT t (tRetB true) t2 ρ) PB := gv_or p
theorem w_tt (p : PB true) : Gives (tTrue ρ) PB := Gives.ret p
theorem w_ch {gg g' : RV → RV → Option RV} (p : Gives (f ρ) fun x => Gives (h ρ) fun y => K2 gg (KB fun b => KIf (Gives (k ρ) fun w => K2 g' P y w) (P (.d (.bool false))) b) x y) : Gives (eCh gg g' f h k ρ) P :=
  gv_ch (p.mono fun x q => q.mono fun y ⟨z, e, b, e2, q1, q2⟩ => by
    cases z with
    | d z =>
      cases z with
      | bool c => cases e2; exact ⟨_, e, q1, q2⟩
      | _ => cases e2
    | _ => cases e2)
theorem w_ifT (p : A) : KIf A B true := ⟨fun _ => p, fun q => nomatch q⟩
theorem w_ifF (p : B) : KIf A B false := ⟨fun q => (nomatch q), fun _ => p⟩
theorem w_ifNT (p : B) : KIf A B (!true) := w_ifF p
theorem w_ifNF (p : A) : KIf A B (!false) := w_ifT p
theorem w_dec {a : Prop} [Decidable a] (p : a → A) (q : ¬a → B) : KIf A B (decide a) := ⟨fun e => p (of_decide_eq_true e), fun e => q (of_decide_eq_false e)⟩
theorem w_ndec {a : Prop} [Decidable a] (p : ¬a → A) (q : a → B) : KIf A B (!decide a) := ⟨fun e => p (by simpa using e), fun e => q (by simpa using e)⟩
theorem w_decT {a : Prop} [Decidable a] (e : a) (p : A) : KIf A B (decide a) := by rw [decide_eq_true e]; exact w_ifT p
theorem w_decF {a : Prop} [Decidable a] (e : ¬a) (p : B) : KIf A B (decide a) := by rw [decide_eq_false e]; exact w_ifF p
theorem w_ndecT {a : Prop} [Decidable a] (e : a) (p : B) : KIf A B (!decide a) := by rw [decide_eq_true e]; exact w_ifF p
theorem w_add {a b : Int} (p : P (.d (.int (a + b)))) : K2 gAddA P (.d (.int a)) (.d (.int b)) := ⟨_, rfl, p⟩
theorem w_sub {a b : Int} (p : P (.d (.int (a - b)))) : K2 gSubI P (.d (.int a)) (.d (.int b)) := ⟨_, rfl, p⟩
theorem w_mul {a b : Int} (c : (-18446744073709551616 < a ∧ a < 18446744073709551616) ∨ (-18446744073709551616 < b ∧ b < 18446744073709551616)) (p : P (.d (.int (a * b)))) : K2 gMulA P (.d (.int a)) (.d (.int b)) :=
  ⟨_, gMulI_eq (c.elim (fun q => cMul_l q.1 q.2) fun q => cMul_r q.1 q.2), p⟩
theorem w_mod {a b : Int} (c : 0 < b) (p : P (.d (.int (a % b)))) : K2 gMod P (.d (.int a)) (.d (.int b)) := ⟨_, gMod_eq c, p⟩
theorem w_div {a b : Int} (c : 0 < b ∧ b < 1073741824) (p : P (.d (.int (a / b)))) : K2 gFdiv P (.d (.int a)) (.d (.int b)) := ⟨_, gFdiv_eq c.1 c.2, p⟩
theorem w_lt {a b : Int} (p : P (.d (.bool (decide (a < b))))) : K2 gLt P (.d (.int a)) (.d (.int b)) := ⟨_, rfl, p⟩
theorem w_le {a b : Int} (p : P (.d (.bool (decide (a ≤ b))))) : K2 gLe P (.d (.int a)) (.d (.int b)) := ⟨_, rfl, p⟩
theorem w_gt {a b : Int} (p : P (.d (.bool (decide (b < a))))) : K2 gGt P (.d (.int a)) (.d (.int b)) := ⟨_, rfl, p⟩
theorem w_ge {a b : Int} (p : P (.d (.bool (decide (b ≤ a))))) : K2 gGe P (.d (.int a)) (.d (.int b)) := ⟨_, rfl, p⟩
theorem w_ltA {a b : Int} (p : P (.d (.bool (decide (a < b))))) : K2 gLtA P (.d (.int a)) (.d (.int b)) := ⟨_, rfl, p⟩
theorem w_leA {a b : Int} (p : P (.d (.bool (decide (a ≤ b))))) : K2 gLeA P (.d (.int a)) (.d (.int b)) := ⟨_, rfl, p⟩
theorem w_gtA {a b : Int} (p : P (.d (.bool (decide (b < a))))) : K2 gGtA P (.d (.int a)) (.d (.int b)) := ⟨_, rfl, p⟩
theorem w_geA {a b : Int} (p : P (.d (.bool (decide (b ≤ a))))) : K2 gGeA P (.d (.int a)) (.d (.int b)) := ⟨_, rfl, p⟩
theorem w_eq {a b : Int} (p : P (.d (.bool (decide (a = b))))) : K2 gEq P (.d (.int a)) (.d (.int b)) := ⟨_, DVL.eq_ints false a b, p⟩
theorem w_ne {a b : Int} (p : P (.d (.bool (!decide (a = b))))) : K2 gNe P (.d (.int a)) (.d (.int b)) := ⟨_, DVL.eq_ints true a b, p⟩
theorem eq_bls (neg a b : Bool) : gEqB neg (.d (.bool a)) (.d (.bool b)) = some (.d (.bool (if neg then !(decide (a = b)) else decide (a = b)))) := by
  simp [gEqB, viewD, SeqAt.shaped, PyData.canLay0, PyData.depth, PyData.eqv]
  cases neg <;> cases a <;> cases b <;> rfl
theorem w_eqB {a b : Bool} (p : P (.d (.bool (decide (a = b))))) : K2 gEq P (.d (.bool a)) (.d (.bool b)) := ⟨_, eq_bls false a b, p⟩
theorem w_neB {a b : Bool} (p : P (.d (.bool (!decide (a = b))))) : K2 gNe P (.d (.bool a)) (.d (.bool b)) := ⟨_, eq_bls true a b, p⟩
theorem w_eqN {a b : List Int} (p : P (.d (.bool (decide (a = b))))) : K2 gEq P (.n (a.map PyData.int)) (.n (b.map PyData.int)) := ⟨_, DVL.eq_lists false a b, p⟩
theorem w_neN {a b : List Int} (p : P (.d (.bool (!decide (a = b))))) : K2 gNe P (.n (a.map PyData.int)) (.n (b.map PyData.int)) := ⟨_, DVL.eq_lists true a b, p⟩
theorem w_neN0 {a : List Int} (p : P (.d (.bool (!decide (a = []))))) : K2 gNe P (.n (a.map PyData.int)) (.n []) := ⟨_, DVL.eq_lists true a [], p⟩
theorem w_eqN0 {a : List Int} (p : P (.d (.bool (decide (a = []))))) : K2 gEq P (.n (a.map PyData.int)) (.n []) := ⟨_, DVL.eq_lists false a [], p⟩
theorem in_eq (j : Int) (q : List Int) : gIn (.d (.int j)) (.d (ti q)) = some (.d (.bool (q.elem j))) := by
  show (if SeqAt.shaped (.int j) = true then if SeqAt.shaped (.list (q.map PyData.int)) = true then some (RV.d (.bool ((q.map PyData.int).any fun z => PyData.eqv z (.int j)))) else none else none) = _
  rw [if_pos (DVL.shaped_int j), if_pos (DVL.shaped_ints q), DVL.any_eqv]
theorem w_in {j : Int} {q : List Int} (p : P (.d (.bool (q.elem j)))) : K2 gIn P (.d (.int j)) (.d (ti q)) := ⟨_, in_eq j q, p⟩
theorem w_inB {j : Int} {q : List Int} (p : P (.d (.bool (q.elem j)))) : K2 gIn P (.d (.int j)) (.b (q.map PyData.int)) := ⟨_, in_eq j q, p⟩
theorem w_notInB {j : Int} {q : List Int} (p : P (.d (.bool (!q.elem j)))) : K2 gNotIn P (.d (.int j)) (.b (q.map PyData.int)) := ⟨_, DVL.notIn_eq j q, p⟩
theorem w_notIn {j : Int} {q : List Int} (p : P (.d (.bool (!q.elem j)))) : K2 gNotIn P (.d (.int j)) (.d (ti q)) := ⟨_, DVL.notIn_eq j q, p⟩
theorem w_ix {ts : List Int} {j : Int} (c : 0 ≤ j ∧ j < ts.length) (p : P (.d (.int (DVL.val ts j)))) : K2 gIx P (.d (ti ts)) (.d (.int j)) := ⟨_, DVL.gIx_ti c.1 c.2, p⟩
theorem w_ixB {ts : List Int} {j : Int} (c : 0 ≤ j ∧ j < ts.length) (p : P (.d (.int (DVL.val ts j)))) : K2 gIx P (.b (ts.map PyData.int)) (.d (.int j)) := ⟨_, DVL.gIx_b c.1 c.2, p⟩
theorem w_ix0 {d : D} {ds : List D} (p : P (.d d)) : K2 gIx P (.d (.tuple (d :: ds))) (.d (.int 0)) := by
  refine ⟨.d d, ?_, p⟩
  show (atI (d :: ds) ((0 : Nat) : Int)).map RV.d = _
  rw [atI_nat (v := d) rfl]; rfl
theorem w_ix1 {d e : D} {ds : List D} (p : P (.d e)) : K2 gIx P (.d (.tuple (d :: e :: ds))) (.d (.int 1)) := by
  refine ⟨.d e, ?_, p⟩
  show (atI (d :: e :: ds) ((1 : Nat) : Int)).map RV.d = _
  rw [atI_nat (v := e) rfl]; rfl
theorem w_len {ts : List Int} (p : P (.d (.int (ts.length : Nat)))) : KC gLen P [.d (ti ts)] := ⟨.d (.int (ts.length : Nat)), by show some (RV.d (.int (((ts.map PyData.int).length : Nat) : Int))) = _; rw [List.length_map], p⟩
theorem w_lenB {ts : List Int} (p : P (.d (.int (ts.length : Nat)))) : KC gLen P [.b (ts.map PyData.int)] := ⟨.d (.int (ts.length : Nat)), by show some (RV.d (.int (((ts.map PyData.int).length : Nat) : Int))) = _; rw [List.length_map], p⟩
theorem w_lenN {ts : List Int} (p : P (.d (.int (ts.length : Nat)))) : KC gLen P [.n (ts.map PyData.int)] := ⟨.d (.int (ts.length : Nat)), by show some (RV.d (.int (((ts.map PyData.int).length : Nat) : Int))) = _; rw [List.length_map], p⟩
theorem w_lenD {ts : List D} (p : P (.d (.int (ts.length : Nat)))) : KC gLen P [.d (.tuple ts)] := ⟨_, rfl, p⟩
theorem w_lenDB {ts : List D} (p : P (.d (.int (ts.length : Nat)))) : KC gLen P [.b ts] := ⟨_, rfl, p⟩
theorem w_lenDN {ts : List D} (p : P (.d (.int (ts.length : Nat)))) : KC gLen P [.n ts] := ⟨_, rfl, p⟩
theorem w_tupN {ds : List D} (p : P (.d (.tuple ds))) : KC gTuple P [.n ds] := ⟨_, rfl, p⟩
theorem w_tupB {ds : List D} (p : P (.d (.tuple ds))) : KC gTuple P [.b ds] := ⟨_, rfl, p⟩
theorem w_tupD {ds : List D} (p : P (.d (.tuple ds))) : KC gTuple P [.d (.tuple ds)] := ⟨_, rfl, p⟩
theorem w_lstD {ds : List D} (p : P (.n ds)) : KC gList P [.d (.tuple ds)] := ⟨_, rfl, p⟩
theorem w_lstB {ds : List D} (p : P (.n ds)) : KC gList P [.b ds] := ⟨_, rfl, p⟩
theorem w_lstN {ds : List D} (p : P (.n ds)) : KC gList P [.n ds] := ⟨_, rfl, p⟩
theorem w_sum {ts : List Int} (p : P (.d (.int ts.sum))) : KC gSum P [.d (ti ts)] := ⟨_, DVL.gSum_eq ts, p⟩
theorem w_sumN {ts : List Int} (p : P (.d (.int ts.sum))) : KC gSum P [.n (ts.map PyData.int)] := ⟨_, DVL.gSum_eq ts, p⟩
theorem w_sumB {ts : List Int} (p : P (.d (.int ts.sum))) : KC gSum P [.b (ts.map PyData.int)] := ⟨_, DVL.gSum_eq ts, p⟩
theorem w_max2 {a b : Int} (p : P (.d (.int (max a b)))) : KC gMax2 P [.d (.int a), .d (.int b)] := by
  refine ⟨.d (.int (max a b)), ?_, p⟩
  show some (RV.d (.int (if b > a then b else a))) = _
  congr 3
  split <;> omega
theorem w_min2 {a b : Int} (p : P (.d (.int (min a b)))) : KC gMin2 P [.d (.int a), .d (.int b)] := by
  refine ⟨.d (.int (min a b)), ?_, p⟩
  show some (RV.d (.int (if b < a then b else a))) = _
  congr 3
  split <;> omega
theorem w_int {a : Int} (p : P (.d (.int a))) : KC gInt P [.d (.int a)] := ⟨_, rfl, p⟩
theorem w_sortN {a : List Int} (p : P (.n ((DV.sortI a).map PyData.int))) : KC gSort P [.n (a.map PyData.int)] := by
  refine ⟨_, ?_, p⟩
  show (match intsOf (a.map PyData.int) with | some js => some (RV.n ((DV.sortI js).map PyData.int)) | none => _) = _
  rw [DVL.intsOf_map]
theorem w_sortB {a : List Int} (p : P (.n ((DV.sortI a).map PyData.int))) : KC gSort P [.b (a.map PyData.int)] := by
  obtain ⟨z, e, q⟩ := w_sortN (a := a) p
  exact ⟨z, e, q⟩
theorem w_sort {a : List Int} (p : P (.n ((DV.sortI a).map PyData.int))) : KC gSort P [.d (ti a)] := by
  obtain ⟨z, e, q⟩ := w_sortN (a := a) p
  exact ⟨z, e, q⟩
theorem w_rep {x : Int} {n : Nat} (c : 1 ≤ n ∧ n ≤ 1000) (p : P (.d (ti (List.replicate n x)))) : K2 gMulA P (.d (.tuple [.int x])) (.d (.int (n : Nat))) := by
  refine ⟨_, ?_, p⟩
  show (if 1 ≤ (n : Int) ∧ (n : Int) ≤ 1000 ∧ ([PyData.int x] : List D).length ≤ 1000 ∧ [PyData.int x] ≠ [] then some (RV.d (.tuple (List.replicate (n : Int).toNat [PyData.int x]).flatten)) else none) = _
  rw [if_pos ⟨by omega, by omega, by simp, by simp⟩, Int.toNat_natCast, List.flatten_replicate_singleton]
  show _ = some (RV.d (.tuple ((List.replicate n x).map PyData.int)))
  rw [List.map_replicate]
theorem w_repN {x : Int} {n : Nat} (c : n ≤ 1000) (p : P (.n ((List.replicate n x).map PyData.int))) : K2 gMulA P (.n [.int x]) (.d (.int (n : Nat))) := by
  refine ⟨_, ?_, p⟩
  show (if -1000 ≤ (n : Int) ∧ (n : Int) ≤ 1000 ∧ ([PyData.int x] : List D).length ≤ 1000 then some (RV.n (List.replicate (n : Int).toNat [PyData.int x]).flatten) else none) = _
  rw [if_pos ⟨by omega, by omega, by simp⟩, Int.toNat_natCast, List.flatten_replicate_singleton, List.map_replicate]
theorem w_catT {a b : List D} (c : a.length + b.length ≤ 100000) (p : P (.d (.tuple (a ++ b)))) : K2 gAddA P (.d (.tuple a)) (.d (.tuple b)) := by
  refine ⟨_, ?_, p⟩
  show (if a.length + b.length ≤ 100000 then some (RV.d (.tuple (a ++ b))) else none) = _
  rw [if_pos c]
theorem w_lc {fi : Env → M (List D × Option Nat)} {vs : List Nat} (p : Gives (fi ρ) (KLc vs tg t h ρ P)) : Gives (eLc fi vs tg t h ρ) P := DVL.gv_lcG p
theorem w_srcE (p : Gives (f ρ) (KSrc C)) : Gives (srcE f ρ) C := DVL.gv_srcE p
theorem w_srcV {i : Nat} {q : List D × Option Nat} (e : srcV i ρ = DV.ret q) (p : C q) : Gives (srcV i ρ) C := gv_eq e p
theorem w_src {ds : List D} (e : srcOf x = some ds) (p : C (ds, none)) : KSrc C x := ⟨ds, e, p⟩
theorem w_rng1 (p : Gives (f ρ) (KRng C)) : Gives (iRng1F f ρ) C := by
  unfold iRng1F
  refine Gives.bnd p fun x ⟨n, e, h1, h2, q⟩ => ?_
  rw [e, lft_s, bnd_ret, if_pos ⟨h1, h2⟩]
  exact Gives.ret q
theorem w_rngN {n : Nat} (c : n ≤ 100000) (p : C ((DVL.rngI 0 n).map PyData.int, none)) : KRng C (.d (.int (n : Nat))) := ⟨n, rfl, by omega, by omega, by rw [DVL.rngD_eq, Int.toNat_natCast]; exact p⟩
theorem w_rngI {n : Int} (c : n ≤ 100000 ∧ -100000 ≤ n) (p : C ((DVL.rngI 0 n.toNat).map PyData.int, none)) : KRng C (.d (.int n)) := ⟨n, rfl, c.1, c.2, by rw [DVL.rngD_eq]; exact p⟩
theorem w_rng2 (p : Gives (f ρ) fun x => Gives (h ρ) fun y => KRng2 C x y) : Gives (iRng2F f h ρ) C := by
  unfold iRng2F
  refine Gives.bnd p fun x q => ?_
  intro rs
  obtain ⟨y, rs1, e1, a, b, ea, eb, hc, q⟩ := q rs
  refine ⟨_, rs1, ?_, q⟩
  rw [ea, lft_s, bnd_ret]
  unfold bnd
  simp only [e1, eb, lft_s]
  show (if _ then _ else _ : M (List D × Option Nat)) rs1 = _
  rw [if_pos hc, DVL.rngD_eq]
  rfl
theorem w_rng2I {a b : Int} (c : a ≤ 100000 ∧ -100000 ≤ a ∧ b ≤ 100000 ∧ -100000 ≤ b) (p : C ((DVL.rngI a (b - a).toNat).map PyData.int, none)) : KRng2 C (.d (.int a)) (.d (.int b)) := ⟨a, b, rfl, rfl, c, p⟩
theorem lcF_mk {el : Env → M RV} (mk : α → D) (p : α → Bool) (φ : α → D) : ∀ L : List α, (∀ a ∈ L, KTg (tg (mk a) ρ) fun ρ1 => Gives (t ρ1) fun b => b = p a ∧ (p a = true → Gives (el ρ1) fun r => toD r = some (φ a))) →
    Gives (lcF tg t el ρ (L.map mk)) fun ds => ds = (L.filter p).map φ
  | [], _ => Gives.ret rfl
  | a :: L, h => by
    obtain ⟨ρ1, e1, g1⟩ := h a List.mem_cons_self
    show Gives (lcF tg t el ρ (mk a :: L.map mk)) _
    unfold lcF
    rw [e1, lft_s, bnd_ret]
    refine Gives.bnd g1 fun b ⟨eb, g2⟩ => ?_
    have ih := lcF_mk mk p φ L fun y hy => h y (List.mem_cons_of_mem _ hy)
    subst eb
    cases hp : p a with
    | true =>
      rw [if_pos rfl]
      refine Gives.bnd (g2 hp) fun r er => ?_
      rw [er, lft_s, bnd_ret]
      refine Gives.bnd ih fun ds hds => Gives.ret ?_
      rw [List.filter_cons_of_pos hp, hds]; rfl
    | false =>
      rw [if_neg (by decide), List.filter_cons_of_neg (by rw [hp]; decide)]
      exact ih
/-- a filter and a map over any list -/
theorem w_lcD {vs : List Nat} {el : Env → M RV} (L : List α) (mk : α → D) (p : α → Bool) (φ : α → D) {lk : Option Nat} (c : L.length ≤ 100000)
    (hh : ∀ a ∈ L, KTg (tg (mk a) (wipeE ρ vs)) fun ρ1 => Gives (t ρ1) fun b => b = p a ∧ (p a = true → Gives (el ρ1) fun r => toD r = some (φ a)))
    (k : P (.n ((L.filter p).map φ))) : KLc vs tg t el ρ P (L.map mk, lk) :=
  ⟨by show (L.map mk).length ≤ 100000; rw [List.length_map]; exact c, (lcF_mk mk p φ L hh).mono fun ds e => by subst e; exact k⟩
/-- to ints, with a test -/
theorem w_lcP {vs : List Nat} {el : Env → M RV} {mk : α → D} {lk : Option Nat} {L : List α} (p : α → Bool) (φ : α → Int) (c : L.length ≤ 100000)
    (hh : ∀ a ∈ L, KTg (tg (mk a) (wipeE ρ vs)) fun ρ1 => Gives (t ρ1) fun b => b = p a ∧ (p a = true → Gives (el ρ1) fun r => r = .d (.int (φ a))))
    (k : P (.n (((L.filter p).map φ).map PyData.int))) : KLc vs tg t el ρ P (L.map mk, lk) :=
  w_lcD L mk p (fun a => .int (φ a)) c (fun a ha => by
    obtain ⟨ρ1, e, g⟩ := hh a ha
    exact ⟨ρ1, e, g.mono fun b ⟨e1, g1⟩ => ⟨e1, fun hp => (g1 hp).mono fun r er => by rw [er]; rfl⟩⟩) (by
    have e : (L.filter p).map (fun a => PyData.int (φ a)) = ((L.filter p).map φ).map PyData.int := by rw [List.map_map]; rfl
    rw [e]; exact k)
/-- to ints, without a test -/
theorem w_lcI {vs : List Nat} {el : Env → M RV} {mk : α → D} {lk : Option Nat} {L : List α} (φ : α → Int) (c : L.length ≤ 100000)
    (hh : ∀ a ∈ L, KTg (tg (mk a) (wipeE ρ vs)) fun ρ1 => Gives (el ρ1) fun r => r = .d (.int (φ a)))
    (k : P (.n ((L.map φ).map PyData.int))) : KLc vs tg tTrue el ρ P (L.map mk, lk) :=
  w_lcP (fun _ => true) φ c (fun a ha => by
    obtain ⟨ρ1, e, g⟩ := hh a ha
    exact ⟨ρ1, e, Gives.ret ⟨rfl, fun _ => g⟩⟩) (by rw [List.filter_eq_self.mpr (fun _ _ => rfl)]; exact k)
/-- to any data, without a test -/
theorem w_lcM {vs : List Nat} {el : Env → M RV} {mk : α → D} {lk : Option Nat} {L : List α} (φ : α → D) (c : L.length ≤ 100000)
    (hh : ∀ a ∈ L, KTg (tg (mk a) (wipeE ρ vs)) fun ρ1 => Gives (el ρ1) fun r => toD r = some (φ a))
    (k : P (.n (L.map φ))) : KLc vs tg tTrue el ρ P (L.map mk, lk) :=
  w_lcD L mk (fun _ => true) φ c (fun a ha => by
    obtain ⟨ρ1, e, g⟩ := hh a ha
    exact ⟨ρ1, e, Gives.ret ⟨rfl, fun _ => g⟩⟩) (by rw [List.filter_eq_self.mpr (fun _ _ => rfl)]; exact k)
/-- draws: each item an int of a kind -/
theorem w_lcA {vs : List Nat} {el : Env → M RV} {mk : α → D} {lk : Option Nat} {L : List α} (p : α → Int → Prop) (c : L.length ≤ 100000)
    (hh : ∀ a ∈ L, KTg (tg (mk a) (wipeE ρ vs)) fun ρ1 => Gives (el ρ1) fun r => ∃ i, r = .d (.int i) ∧ p a i)
    (k : ∀ js : List Int, All2 p L js → P (.n (js.map PyData.int))) : KLc vs tg tTrue el ρ P (L.map mk, lk) := by
  refine ⟨by show (L.map mk).length ≤ 100000; rw [List.length_map]; exact c, ?_⟩
  have main : ∀ L : List α, (∀ a ∈ L, KTg (tg (mk a) (wipeE ρ vs)) fun ρ1 => Gives (el ρ1) fun r => ∃ i, r = .d (.int i) ∧ p a i) → Gives (lcF tg tTrue el (wipeE ρ vs) (L.map mk)) fun ds => ∃ js : List Int, ds = js.map PyData.int ∧ All2 p L js := by
    intro L
    induction L with
    | nil => exact fun _ => Gives.ret ⟨[], rfl, .nil⟩
    | cons a L ih =>
      intro hh
      obtain ⟨ρ1, e1, g1⟩ := hh a List.mem_cons_self
      show Gives (lcF tg tTrue el (wipeE ρ vs) (mk a :: L.map mk)) _
      unfold lcF
      rw [e1, lft_s, bnd_ret]
      show Gives (DV.bnd (el ρ1) _) _
      refine Gives.bnd g1 fun r ⟨i, er, pi⟩ => ?_
      subst er
      show Gives (DV.bnd (lft (some (PyData.int i))) _) _
      rw [lft_s, bnd_ret]
      refine Gives.bnd (ih fun y hy => hh y (List.mem_cons_of_mem _ hy)) fun ds ⟨js, e, h2⟩ => Gives.ret ⟨i :: js, by rw [e]; rfl, .cons pi h2⟩
  exact (main L hh).mono fun ds ⟨js, e, h2⟩ => by subst e; exact k js h2
theorem w_loop {mk : α → D} {lk : Option Nat} {L : List α} (I : List α → Env → Prop) (h0 : I L (lockE ρ lk))
    (hs : ∀ a rest ρ1, I (a :: rest) ρ1 → KTg (tg (mk a) ρ1) fun ρ2 => Gives (g ρ2) (KLoop (I rest) fun o => Q (unlockO ρ lk o))) (hd : ∀ ρ1, I [] ρ1 → Q (.nx (unlockE ρ ρ1 lk))) : KFor tg g ρ Q (L.map mk, lk) := by
  show Gives (loopF tg g (L.map mk) (lockE ρ lk)) _
  refine Gives.loop _ (fun xs ρ1 => ∃ r, xs = r.map mk ∧ I r ρ1) _ ⟨L, rfl, h0⟩ ?_ ?_
  · rintro x xs ρ1 ⟨r, e, hi⟩
    cases r with
    | nil => cases e
    | cons a r =>
      cases e
      obtain ⟨ρ2, e2, g2⟩ := hs a r ρ1 hi
      refine ⟨ρ2, e2, g2.mono fun o ho => ?_⟩
      cases o with
      | nx _ => exact ⟨r, rfl, ho⟩
      | ct _ => exact ⟨r, rfl, ho⟩
      | bk _ => exact ho
      | rt _ => exact ho
  · rintro ρ1 ⟨r, e, hi⟩
    cases r with
    | nil => exact hd ρ1 hi
    | cons _ _ => cases e
theorem w_loop0 {mk : α → D} {L : List α} (I : List α → Env → Prop) (h0 : I L ρ)
    (hs : ∀ a rest ρ1, I (a :: rest) ρ1 → KTg (tg (mk a) ρ1) fun ρ2 => Gives (g ρ2) (KLoop (I rest) Q)) (hd : ∀ ρ1, I [] ρ1 → Q (.nx ρ1)) : KFor tg g ρ Q (L.map mk, none) :=
  w_loop I h0 (fun a rest ρ1 hi => by
    obtain ⟨ρ2, e2, g2⟩ := hs a rest ρ1 hi
    exact ⟨ρ2, e2, g2.mono fun o ho => by cases o <;> exact ho⟩) hd
theorem w_run {n : Nat} {xs : List RV} (e : startE n xs = ρ) (p : Gives (g ρ) (KRun P)) : Gives (runDef n g xs) P := by
  rw [← e] at p
  exact gv_run p
theorem w_env {g : Env → M Out} (e : ρ = ρ') (p : Gives (g ρ') Q) : Gives (g ρ) Q := by rw [e]; exact p
end
end DV

namespace DV
open PySem L2
/-- a kind of key -/
structure Key (κ : Type) where
  t : Bool
  enc : κ → D
  inj : ∀ a b, nk (enc a) = nk (enc b) → a = b
  ok : ∀ a, keyOk t (enc a) = true
theorem kint_inj {a b : Int} (h : nk (.int a) = nk (.int b)) : a = b := by
  have h2 : some (NestedKey.num a) = some (NestedKey.num b) := h
  have h3 := Option.some.inj h2
  cases h3
  rfl
def kInt : Key Int := ⟨false, PyData.int, fun _ _ h => kint_inj h, fun _ => rfl⟩
section
variable {κ β : Type} [DecidableEq κ]
def getA (M : List (κ × β)) (k : κ) : Option β := (M.find? fun p => decide (p.1 = k)).map (·.2)
def putA (M : List (κ × β)) (k : κ) (b : β) : List (κ × β) := if (getA M k).isSome = true then M.map fun p => if p.1 = k then (k, b) else p else M ++ [(k, b)]
def encT (E : Key κ) (v : β → D) (M : List (κ × β)) : List (D × D) := M.map fun p => (E.enc p.1, v p.2)
abbrev dT (E : Key κ) (v : β → D) (M : List (κ × β)) : DC := ⟨E.t, encT E v M⟩
variable {E : Key κ} {v : β → D} {M : List (κ × β)} {k k2 : κ} {b : β}
theorem enc_iff : nk (E.enc k) = nk (E.enc k2) ↔ k = k2 := ⟨E.inj _ _, fun h => by rw [h]⟩
theorem look_enc : lookK (encT E v M) (nk (E.enc k)) = (getA M k).map v := by
  induction M with
  | nil => rfl
  | cons q l ih =>
    unfold lookK getA at ih ⊢
    show ((((E.enc q.1, v q.2) :: encT E v l).find? fun x => decide (nk x.1 = nk (E.enc k))).map fun x => x.2) = _
    by_cases h : q.1 = k
    · rw [List.find?_cons_of_pos (by rw [decide_eq_true_eq]; exact enc_iff.mpr h), List.find?_cons_of_pos (by rw [decide_eq_true_eq]; exact h)]
      rfl
    · rw [List.find?_cons_of_neg (by rw [decide_eq_true_eq]; exact fun z => h (enc_iff.mp z)), List.find?_cons_of_neg (by rw [decide_eq_true_eq]; exact h)]
      exact ih
theorem put_enc : putD (encT E v M) (E.enc k) (v b) = encT E v (putA M k b) := by
  unfold putD putA
  rw [look_enc]
  cases h : getA M k with
  | none =>
    show encT E v M ++ _ = encT E v (M ++ [(k, b)])
    unfold encT
    rw [List.map_append]
    rfl
  | some m =>
    show (encT E v M).map _ = encT E v (M.map fun p => if p.1 = k then (k, b) else p)
    unfold encT
    rw [List.map_map, List.map_map]
    refine List.map_congr_left fun q _ => ?_
    show (if nk (E.enc q.1) = nk (E.enc k) then (E.enc q.1, v b) else (E.enc q.1, v q.2)) = (E.enc (if q.1 = k then (k, b) else q).1, v (if q.1 = k then (k, b) else q).2)
    by_cases e : q.1 = k
    · rw [if_pos (enc_iff.mpr e), if_pos e, e]
    · rw [if_neg (fun z => e (enc_iff.mp z)), if_neg e]
theorem getA_cons (p : κ × β) (M : List (κ × β)) : getA (p :: M) k = if p.1 = k then some p.2 else getA M k := by
  unfold getA
  by_cases h : p.1 = k
  · rw [List.find?_cons_of_pos (by rw [decide_eq_true_eq]; exact h), if_pos h]
    rfl
  · rw [List.find?_cons_of_neg (by rw [decide_eq_true_eq]; exact h), if_neg h]
theorem getA_mem (h : getA M k = some b) : (k, b) ∈ M := by
  induction M with
  | nil => cases h
  | cons p M ih =>
    rw [getA_cons] at h
    by_cases e : p.1 = k
    · rw [if_pos e] at h
      cases h
      subst e
      exact List.mem_cons_self
    · rw [if_neg e] at h
      exact List.mem_cons_of_mem _ (ih h)
theorem getA_none : getA M k = none ↔ k ∉ M.map (·.1) := by
  induction M with
  | nil => simp [getA]
  | cons p M ih =>
    rw [getA_cons, List.map_cons, List.mem_cons]
    by_cases e : p.1 = k
    · rw [if_pos e]
      simp [e]
    · rw [if_neg e, ih]
      constructor
      · rintro h (z | z)
        · exact e z.symm
        · exact h z
      · exact fun h z => h (.inr z)
theorem getA_isSome : (getA M k).isSome = true ↔ k ∈ M.map (·.1) := by
  cases h : getA M k with
  | none => simp [getA_none.mp h]
  | some b => simp only [Option.isSome_some, true_iff]; exact List.mem_map.mpr ⟨_, getA_mem h, rfl⟩
/-- no key twice -/
def Uq (M : List (κ × β)) : Prop := (M.map (·.1)).Nodup
theorem Uq.nil : Uq ([] : List (κ × β)) := List.nodup_nil
theorem Uq.one (p : κ × β) : Uq [p] := by unfold Uq; simp
theorem Uq.get (U : Uq M) (h : (k, b) ∈ M) : getA M k = some b := by
  induction M with
  | nil => cases h
  | cons p M ih =>
    obtain ⟨h1, h2⟩ := List.nodup_cons.mp (show ((p :: M).map (·.1)).Nodup from U)
    rw [getA_cons]
    rcases List.mem_cons.mp h with e | e
    · subst e
      rw [if_pos rfl]
    · rw [if_neg fun z => h1 (by show p.1 ∈ _; rw [z]; exact List.mem_map.mpr ⟨_, e, rfl⟩)]
      exact ih h2 e
theorem keys_put : (putA M k b).map (·.1) = if (getA M k).isSome = true then M.map (·.1) else M.map (·.1) ++ [k] := by
  unfold putA
  split
  · rw [List.map_map]
    refine List.map_congr_left fun q _ => ?_
    show (if q.1 = k then (k, b) else q).1 = q.1
    split
    · rename_i h
      exact h.symm
    · rfl
  · rw [List.map_append]
    rfl
theorem Uq.put (U : Uq M) : Uq (putA M k b) := by
  unfold Uq
  rw [keys_put]
  split
  · exact U
  · rename_i h
    refine List.nodup_append.mpr ⟨U, by simp, fun a ha c hc e => ?_⟩
    rw [List.mem_singleton.mp hc] at e
    subst e
    exact h (getA_isSome.mpr ha)
end
def KG (C : D → Prop) (x : RV) : Prop := ∃ d, asKey x = some d ∧ C d
def KGget (k : DC) (P : RV → Prop) (d : D) : Prop := keyOk k.t d = true ∧ ∃ w, lookK k.kv (nk d) = some w ∧ P (.d w)
def KGput (i : Nat) (ρ : Env) (Q : Out → Prop) (w d : D) : Prop := ∃ c : DC, own_g ρ i = some c ∧ c.kv.length ≤ 100000 ∧ keyOk c.t d = true ∧ Q (.nx (ρ.set i (some (.g ⟨c.t, putD c.kv d w⟩))))
section
variable {κ β : Type} [DecidableEq κ] {E : Key κ} {v : β → D} {M : List (κ × β)} {key : κ} {b : β}
variable {ρ ρ' : Env} {P : RV → Prop} {Q : Out → Prop} {f h : Env → DV.M RV} {g : Env → DV.M Out} {x y : RV} {tg : D → Env → Option Env} {vs : List Nat} {t : Env → DV.M Bool}
theorem w_G {C : D → Prop} {d : D} (p : C d) : KG C (.d d) := ⟨d, rfl, p⟩
/-- d[k] -/
theorem w_gget {f h : Env → DV.M RV} (p : Gives (f ρ) fun x => ∃ c, dcOf x = some c ∧ Gives (h ρ) (KG (KGget c P))) : Gives (eGGet f h ρ) P := by
  unfold eGGet
  refine Gives.bnd p fun x ⟨c, e, q⟩ => ?_
  rw [e, lft_s, bnd_ret]
  refine Gives.bnd q fun y ⟨d, e2, h1, w, h2, q⟩ => ?_
  rw [e2, lft_s, bnd_ret, if_pos h1, h2, lft_s, bnd_ret]
  exact Gives.ret q
theorem w_dc {c : DC} {C : DC → Prop} (p : C c) : ∃ c', dcOf (.gb c) = some c' ∧ C c' := ⟨c, rfl, p⟩
theorem w_dcN {c : DC} {C : DC → Prop} (p : C c) : ∃ c', dcOf (.gn c) = some c' ∧ C c' := ⟨c, rfl, p⟩
theorem w_ggetT (E : Key κ) (v : β → D) {key : κ} (e : getA M key = some b) (p : P (.d (v b))) : KGget (dT E v M) P (E.enc key) := ⟨E.ok _, v b, by show lookK (encT E v M) _ = _; rw [look_enc, e]; rfl, p⟩
/-- d[k] = x -/
theorem w_gput {i : Nat} {f h : Env → DV.M RV} (p : Gives (f ρ) (KD fun w => Gives (h ρ) (KG (KGput i ρ Q w)))) : Gives (sGPut i f h ρ) Q := by
  unfold sGPut
  refine Gives.bnd p fun x ⟨w, e, q⟩ => ?_
  rw [e, lft_s, bnd_ret]
  refine Gives.bnd q fun y ⟨d, e2, c, h1, h2, h3, q⟩ => ?_
  rw [e2, lft_s, bnd_ret, h1, lft_s, bnd_ret, if_pos ⟨h3, h2⟩]
  exact Gives.ret q
/-- {} and {k: x} -/
theorem w_gnew {tt : Bool} (p : P (.gn ⟨tt, []⟩)) : Gives (eGNew tt ρ) P := Gives.ret p
theorem w_g1 {tt : Bool} {f h : Env → DV.M RV} (p : Gives (f ρ) (KG fun kd => Gives (h ρ) (KD fun w => keyOk tt kd = true ∧ P (.gn ⟨tt, [(kd, w)]⟩)))) : Gives (eG1 tt f h ρ) P := by
  unfold eG1
  refine Gives.bnd p fun x ⟨kd, e, q⟩ => ?_
  rw [e, lft_s, bnd_ret]
  refine Gives.bnd q fun y ⟨w, e2, h1, h2⟩ => ?_
  rw [e2, lft_s, bnd_ret, if_pos h1]
  exact Gives.ret h2
end
end DV

namespace DV
open PySem L2
def KSl (P : RV → Prop) (x : RV) (l u : Option Int) : Prop := Gives (eSlice (fun _ => ret x) (fun _ => ret l) (fun _ => ret u) []) P
def KStar (fa : Env → M (List RV)) (ρ : Env) (PA : List RV → Prop) (x : RV) : Prop := ∃ ds, items x = some ds ∧ Gives (fa ρ) fun xs => PA (ds.map RV.d ++ xs)
def KRg (P : RV → Prop) (w : List D → RV) (x : RV) : Prop := ∃ n : Nat, x = .d (.int (n : Int)) ∧ n ≤ 100000 ∧ P (w ((DVL.rngI 0 n).map PyData.int))
def KZip (C : List D × Option Nat → Prop) (p q : List D × Option Nat) : Prop := ∃ l, joinLk p.2 q.2 = some l ∧ C (zipD p.1 q.1, l)
def enI {α : Type} : Int → List α → List (Int × α)
  | _, [] => []
  | k, a :: L => (k, a) :: enI (k + 1) L
section
variable {α β : Type} {ρ ρ' : Env} {P : RV → Prop} {Q : Out → Prop} {PA : List RV → Prop} {f h k : Env → M RV} {fa : Env → M (List RV)} {g : Env → M Out} {t : Env → M Bool} {x y : RV} {C : List D × Option Nat → Prop}
theorem w_ret {m : α} {P : α → Prop} (p : P m) : Gives (ret m) P := Gives.ret p
theorem w_slice {lo hi : Env → M (Option Int)} (p : Gives (f ρ) fun x => Gives (lo ρ) fun l => Gives (hi ρ) fun u => KSl P x l u) : Gives (eSlice f lo hi ρ) P :=
  Gives.bnd p fun x q => Gives.bnd q fun l r => Gives.bnd r fun u s => s
theorem w_part {C : Option Int → Prop} (p : Gives (f ρ) (KI fun i => C (some i))) : Gives (ePart f ρ) C :=
  Gives.bnd p fun x ⟨i, e, q⟩ => by rw [e, lft_s, bnd_ret]; exact Gives.ret q
theorem cut_to (ds : List D) {m : Int} (h : 0 ≤ m) : cutD ds none (some m) = ds.take m.toNat := by
  unfold cutD
  rw [HT.sIx_none, List.drop_zero]
  obtain ⟨n, rfl⟩ : ∃ n : Nat, m = (n : Int) := ⟨m.toNat, by omega⟩
  rw [HT.sIx_nat, Int.toNat_natCast, Nat.sub_zero]
  by_cases h : n ≤ ds.length
  · rw [Nat.min_eq_left h]
  · rw [Nat.min_eq_right (by omega), List.take_of_length_le (Nat.le_refl _), List.take_of_length_le (by omega)]
theorem cut_from (ds : List D) {m : Int} (h : 0 ≤ m) : cutD ds (some m) none = ds.drop m.toNat := by
  unfold cutD
  rw [HT.sIx_none]
  obtain ⟨n, rfl⟩ : ∃ n : Nat, m = (n : Int) := ⟨m.toNat, by omega⟩
  rw [HT.sIx_nat, Int.toNat_natCast]
  by_cases h : n ≤ ds.length
  · rw [Nat.min_eq_left h, List.take_of_length_le (by rw [List.length_drop]; exact Nat.le_refl _)]
  · rw [Nat.min_eq_right (by omega), List.drop_of_length_le (Nat.le_refl _), List.drop_of_length_le (by omega), List.take_nil]
theorem w_slTo {ds : List D} {m : Int} (c : 0 ≤ m) (p : P (.d (.tuple (ds.take m.toNat)))) : KSl P (.d (.tuple ds)) none (some m) := Gives.ret (by rw [cut_to ds c]; exact p)
theorem w_slFrom {ds : List D} {m : Int} (c : 0 ≤ m) (p : P (.d (.tuple (ds.drop m.toNat)))) : KSl P (.d (.tuple ds)) (some m) none := Gives.ret (by rw [cut_from ds c]; exact p)
theorem w_slToI {L : List Int} {m : Int} (c : 0 ≤ m) (p : P (.d (ti (L.take m.toNat)))) : KSl P (.d (ti L)) none (some m) := w_slTo c (by rw [← List.map_take]; exact p)
theorem w_slFromI {L : List Int} {m : Int} (c : 0 ≤ m) (p : P (.d (ti (L.drop m.toNat)))) : KSl P (.d (ti L)) (some m) none := w_slFrom c (by rw [← List.map_drop]; exact p)
theorem w_slToB {ds : List D} {m : Int} (c : 0 ≤ m) (p : P (.n (ds.take m.toNat))) : KSl P (.b ds) none (some m) := Gives.ret (by rw [cut_to ds c]; exact p)
theorem w_slFromB {ds : List D} {m : Int} (c : 0 ≤ m) (p : P (.n (ds.drop m.toNat))) : KSl P (.b ds) (some m) none := Gives.ret (by rw [cut_from ds c]; exact p)
theorem w_slToBI {L : List Int} {m : Int} (c : 0 ≤ m) (p : P (.n ((L.take m.toNat).map PyData.int))) : KSl P (.b (L.map PyData.int)) none (some m) := w_slToB c (by rw [← List.map_take]; exact p)
theorem w_slFromBI {L : List Int} {m : Int} (c : 0 ≤ m) (p : P (.n ((L.drop m.toNat).map PyData.int))) : KSl P (.b (L.map PyData.int)) (some m) none := w_slFromB c (by rw [← List.map_drop]; exact p)
theorem w_star (p : Gives (f ρ) (KStar fa ρ PA)) : Gives (aStar f fa ρ) PA := gv_star p
theorem w_starT {ds : List D} (p : Gives (fa ρ) fun xs => PA (ds.map RV.d ++ xs)) : KStar fa ρ PA (.d (.tuple ds)) := ⟨ds, rfl, p⟩
theorem w_starB {ds : List D} (p : Gives (fa ρ) fun xs => PA (ds.map RV.d ++ xs)) : KStar fa ρ PA (.b ds) := ⟨ds, rfl, p⟩
theorem w_starN {ds : List D} (p : Gives (fa ρ) fun xs => PA (ds.map RV.d ++ xs)) : KStar fa ρ PA (.n ds) := ⟨ds, rfl, p⟩
theorem toDs_pre : ∀ (ds : List D) (xs : List RV), toDs (ds.map RV.d ++ xs) = (toDs xs).map (ds ++ ·)
  | [], xs => by
    show toDs xs = (toDs xs).map fun z => [] ++ z
    cases toDs xs <;> rfl
  | d :: ds, xs => by
    have ih := toDs_pre ds xs
    show (match toD (.d d), toDs (ds.map RV.d ++ xs) with | some d, some ds => some (d :: ds) | _, _ => none) = _
    rw [ih]
    cases toDs xs <;> rfl
theorem w_tuS1 {A : List Int} {b : Int} (c : A.length < 100000) (p : P (.d (ti (A ++ [b])))) : KTu P ((A.map PyData.int).map RV.d ++ [.d (.int b)]) :=
  w_tu (ds := (A ++ [b]).map PyData.int) (by rw [toDs_pre, List.map_append]; rfl) (by rw [List.length_map, List.length_append]; exact c) p
theorem w_catTI {a b : List Int} (c : a.length + b.length ≤ 100000) (p : P (.d (ti (a ++ b)))) : K2 gAddA P (.d (ti a)) (.d (ti b)) := w_catT (by rw [List.length_map, List.length_map]; exact c) (by rw [← List.map_append]; exact p)
theorem w_catT1 {a : List Int} {b : Int} (c : a.length < 100000) (p : P (.d (ti (a ++ [b])))) : K2 gAddA P (.d (ti a)) (.d (.tuple [.int b])) := w_catTI (b := [b]) c p
theorem w_listG {b : Bool} (p : Gives (f ρ) fun x => ∃ c, dcOf x = some c ∧ P (.n (c.kv.map (wkB b)))) : Gives (eListG b f ρ) P :=
  Gives.bnd p fun x ⟨c, e, q⟩ => by
    rw [e, lft_s, bnd_ret]
    exact Gives.ret q
theorem boolsOf_map (F : α → Bool) : ∀ L : List α, boolsOf (L.map fun a => PyData.bool (F a)) = some (L.map F)
  | [] => rfl
  | a :: L => by
    show (match boolsOf (L.map fun a => PyData.bool (F a)) with | some js => some (F a :: js) | none => none) = _
    rw [boolsOf_map F L]
    rfl
theorem w_all {L : List α} (F : α → Bool) (p : P (.d (.bool (L.all F)))) : KC gAll P [.n (L.map fun a => PyData.bool (F a))] := by
  refine ⟨.d (.bool (L.all F)), ?_, p⟩
  show (boolsOf (L.map fun a => PyData.bool (F a))).map (fun js => RV.d (.bool (js.all id))) = _
  rw [boolsOf_map]
  show some (RV.d (.bool ((L.map F).all id))) = _
  rw [List.all_map]
  rfl
theorem w_eqm {m : M α} {a : α} {P : α → Prop} (e : m = ret a) (p : P a) : Gives m P := gv_eq e p
theorem w_moveG {i j : Nat} {c : DC} (e1 : ρ[j]? = some (some (.g c))) (e : (ρ.set j none).set i (some (.g c)) = ρ') (p : Q (.nx ρ')) : Gives (sMove i j ρ) Q := gv_eq (by unfold sMove; rw [e1]) (by rw [e]; exact p)
theorem w_moveO {i j : Nat} {c : List D} (e1 : ρ[j]? = some (some (.o c))) (e : (ρ.set j none).set i (some (.o c)) = ρ') (p : Q (.nx ρ')) : Gives (sMove i j ρ) Q := gv_eq (by unfold sMove; rw [e1]) (by rw [e]; exact p)
theorem w_moveD {i j : Nat} {c : D} (e1 : ρ[j]? = some (some (.d c))) (e : ρ.set i (some (.d c)) = ρ') (p : Q (.nx ρ')) : Gives (sMove i j ρ) Q := gv_eq (by unfold sMove; rw [e1]) (by rw [e]; exact p)
theorem w_ext {i : Nat} {ds : List D} (e1 : sApp.own? ρ i = some ds) (p : Gives (f ρ) fun x => ∃ es, extL x = some es ∧ ds.length + es.length ≤ 100000 ∧ KSet i ρ Q (.n (ds ++ es))) : Gives (sExt i f ρ) Q := by
  unfold sExt
  rw [e1, lft_s, bnd_ret]
  refine Gives.bnd p fun x ⟨es, e, hl, sv, e2, q⟩ => ?_
  rw [e, lft_s, bnd_ret, if_pos hl]
  cases e2
  exact Gives.ret q
theorem w_while (I : Nat → Env → Prop) (k n : Nat) (hk : k < n) (h0 : I k ρ)
    (hs : ∀ k ρ, I k ρ → Gives (t ρ) (KIf (∃ j, k = j + 1 ∧ Gives (g ρ) (KLoop (I j) Q)) (Q (.nx ρ)))) : Gives (wloopF t g n ρ) Q :=
  Gives.wh I (fun k ρ hi => (hs k ρ hi).mono fun b ⟨h1, h2⟩ => ⟨h2, fun hb => by
    obtain ⟨j, e, q⟩ := h1 hb
    exact ⟨j, e, q.mono fun o ho => by cases o <;> exact ho⟩⟩) k n ρ hk h0
def rowA (T : List (List Int)) (j : Int) : List Int := T.getD j.toNat []
theorem w_ixR {T : List (List Int)} {j : Int} (c : 0 ≤ j ∧ j < T.length) (p : P (.d (ti (rowA T j)))) : K2 gIx P (.d (.tuple (T.map ti))) (.d (.int j)) := by
  refine ⟨.d (ti (rowA T j)), ?_, p⟩
  show (atI (T.map ti) j).map RV.d = _
  obtain ⟨n, rfl⟩ : ∃ n : Nat, j = (n : Int) := ⟨j.toNat, by omega⟩
  have h : (T.map ti)[n]? = some (ti (rowA T n)) := by
    unfold rowA
    rw [List.getElem?_map, Int.toNat_natCast, List.getD_eq_getElem?_getD, List.getElem?_eq_getElem (by omega)]
    rfl
  rw [atI_nat h]
  rfl
theorem w_ixRB {T : List (List Int)} {j : Int} (c : 0 ≤ j ∧ j < T.length) (p : P (.d (ti (rowA T j)))) : K2 gIx P (.b (T.map ti)) (.d (.int j)) := by
  obtain ⟨z, e, q⟩ := w_ixR c p
  exact ⟨z, e, q⟩
/-- an item of any list of a kind -/
theorem w_ixM {L : List α} {mk : α → D} {j : Int} {a : α} (c : 0 ≤ j) (e : L[j.toNat]? = some a) (p : P (.d (mk a))) : K2 gIx P (.d (.tuple (L.map mk))) (.d (.int j)) := by
  refine ⟨.d (mk a), ?_, p⟩
  show (atI (L.map mk) j).map RV.d = _
  obtain ⟨n, rfl⟩ : ∃ n : Nat, j = (n : Int) := ⟨j.toNat, by omega⟩
  rw [Int.toNat_natCast] at e
  rw [atI_nat (v := mk a) (by rw [List.getElem?_map, e]; rfl)]
  rfl
theorem w_lenM {L : List α} {mk : α → D} (p : P (.d (.int (L.length : Nat)))) : KC gLen P [.d (.tuple (L.map mk))] := ⟨.d (.int (L.length : Nat)), by show some (RV.d (.int (((L.map mk).length : Nat) : Int))) = _; rw [List.length_map], p⟩
theorem w_lenMB {L : List α} {mk : α → D} (p : P (.d (.int (L.length : Nat)))) : KC gLen P [.b (L.map mk)] := ⟨.d (.int (L.length : Nat)), by show some (RV.d (.int (((L.map mk).length : Nat) : Int))) = _; rw [List.length_map], p⟩
theorem w_lenMN {L : List α} {mk : α → D} (p : P (.d (.int (L.length : Nat)))) : KC gLen P [.n (L.map mk)] := ⟨.d (.int (L.length : Nat)), by show some (RV.d (.int (((L.map mk).length : Nat) : Int))) = _; rw [List.length_map], p⟩
theorem w_lrg (p : Gives (f ρ) (KRg P RV.n)) : Gives (eListRg (rg1F f) ρ) P := by
  intro rs
  obtain ⟨x, rs1, e, n, rfl, hn, q⟩ := p rs
  refine ⟨_, rs1, ?_, q⟩
  unfold eListRg rg1F bnd
  simp only [e]
  show (if okRg 0 (n : Int) = true then ret (RV.n (rngD 0 ((n : Int) - 0).toNat)) else fail) rs1 = _
  rw [if_pos (by unfold okRg; simp; omega), DVL.rngD_eq]
  have e1 : ((n : Int) - 0).toNat = n := by omega
  rw [e1]
  rfl
theorem w_trg (p : Gives (f ρ) (KRg P fun ds => .d (.tuple ds))) : Gives (eTupRg (rg1F f) ρ) P := by
  intro rs
  obtain ⟨x, rs1, e, n, rfl, hn, q⟩ := p rs
  refine ⟨_, rs1, ?_, q⟩
  unfold eTupRg rg1F bnd
  simp only [e]
  show (if okRg 0 (n : Int) = true then ret (RV.d (.tuple (rngD 0 ((n : Int) - 0).toNat))) else fail) rs1 = _
  rw [if_pos (by unfold okRg; simp; omega), DVL.rngD_eq]
  have e1 : ((n : Int) - 0).toNat = n := by omega
  rw [e1]
  rfl
theorem w_rg {n : Nat} {w : List D → RV} (c : n ≤ 100000) (p : P (w ((DVL.rngI 0 n).map PyData.int))) : KRg P w (.d (.int (n : Int))) := ⟨n, rfl, c, p⟩
theorem w_enum {s : Env → M (List D × Option Nat)} (p : Gives (s ρ) fun q => C (enumD 0 q.1, q.2)) : Gives (iEnumF s ρ) C := Gives.bnd p fun q r => Gives.ret r
theorem enI_map (mk : α → D) : ∀ (L : List α) (k : Nat), enumD k (L.map mk) = (enI (k : Int) L).map fun p => PyData.tuple [.int p.1, mk p.2]
  | [], _ => rfl
  | a :: L, k => by
    show PyData.tuple [.int (k : Nat), mk a] :: enumD (k + 1) (L.map mk) = PyData.tuple [.int (k : Nat), mk a] :: (enI ((k : Int) + 1) L).map _
    rw [enI_map mk L (k + 1)]
    rfl
theorem w_enM {L : List α} {mk : α → D} {lk : Option Nat} (p : C ((enI 0 L).map (fun p => PyData.tuple [.int p.1, mk p.2]), lk)) : C (enumD 0 (L.map mk), lk) := by
  rw [enI_map mk L 0]
  exact p
theorem enI_get : ∀ (L : List α) (k : Int) (p : Int × α), p ∈ enI k L → k ≤ p.1 ∧ p.1 < k + L.length ∧ L[(p.1 - k).toNat]? = some p.2
  | [], _, _, h => nomatch h
  | a :: L, k, p, h => by
    rcases List.mem_cons.mp h with e | e
    · subst e
      refine ⟨Int.le_refl _, by rw [List.length_cons]; omega, ?_⟩
      show (a :: L)[(k - k).toNat]? = some a
      rw [Int.sub_self]
      rfl
    · obtain ⟨h1, h2, h3⟩ := enI_get L (k + 1) p e
      refine ⟨by omega, by rw [List.length_cons]; omega, ?_⟩
      rw [show (p.1 - k).toNat = (p.1 - (k + 1)).toNat + 1 by omega, List.getElem?_cons_succ]
      exact h3
theorem w_zip {s1 s2 : Env → M (List D × Option Nat)} (p : Gives (s1 ρ) fun a => Gives (s2 ρ) fun b => KZip C a b) : Gives (iZipF s1 s2 ρ) C :=
  Gives.bnd p fun a q => Gives.bnd q fun b ⟨l, e, r⟩ => by rw [e, lft_s, bnd_ret]; exact Gives.ret r
theorem w_inN {j : Int} {q : List Int} (p : P (.d (.bool (q.elem j)))) : K2 gIn P (.d (.int j)) (.n (q.map PyData.int)) := ⟨_, in_eq j q, p⟩
theorem w_notInN {j : Int} {q : List Int} (p : P (.d (.bool (!q.elem j)))) : K2 gNotIn P (.d (.int j)) (.n (q.map PyData.int)) := ⟨_, DVL.notIn_eq j q, p⟩
end
end DV

namespace DV
open PySem L2
def KSk (el : Env → M RV) (ip : Nat) (ρ : Env) (P : RV → Prop) (its : List D) : Prop := its.length ≤ 100000 ∧ Gives (keysF el ρ ip its) fun kz => okKeys kz = true ∧ P (.n (sortK its kz))
section
variable {α : Type} {ρ : Env} {P : RV → Prop} {f el : Env → M RV} {ip : Nat} {x : RV}
theorem w_sortK {fi : Env → M (List D)} (p : Gives (fi ρ) (KSk el ip ρ P)) : Gives (eSortK fi el ip ρ) P := by
  unfold eSortK
  refine Gives.bnd p fun its ⟨hl, q⟩ => Gives.bnd q fun kz ⟨h, r⟩ => ?_
  rw [if_pos ⟨h, hl⟩]
  exact Gives.ret r
theorem w_colS {C : List D → Prop} (p : Gives (f ρ) fun x => ∃ ds, items x = some ds ∧ C ds) : Gives (colS f ρ) C := Gives.bnd p fun x ⟨ds, e, q⟩ => by rw [e, lft_s]; exact Gives.ret q
theorem w_itT {C : List D → Prop} {ds : List D} (p : C ds) : ∃ es, items (.d (.tuple ds)) = some es ∧ C es := ⟨ds, rfl, p⟩
theorem w_itB {C : List D → Prop} {ds : List D} (p : C ds) : ∃ es, items (.b ds) = some es ∧ C es := ⟨ds, rfl, p⟩
theorem w_itN {C : List D → Prop} {ds : List D} (p : C ds) : ∃ es, items (.n ds) = some es ∧ C es := ⟨ds, rfl, p⟩
theorem w_colR {C : List D → Prop} (p : Gives (f ρ) fun x => ∃ n : Nat, x = .d (.int (n : Int)) ∧ n ≤ 100000 ∧ C ((DVL.rngI 0 n).map PyData.int)) : Gives (colR (rg1F f) ρ) C := by
  intro rs
  obtain ⟨x, rs1, e, n, rfl, hn, q⟩ := p rs
  refine ⟨_, rs1, ?_, q⟩
  unfold colR rg1F bnd
  simp only [e]
  show (if okRg 0 (n : Int) = true then ret (rngD 0 ((n : Int) - 0).toNat) else fail) rs1 = _
  rw [if_pos (by unfold okRg; simp; omega), DVL.rngD_eq]
  have e1 : ((n : Int) - 0).toNat = n := by omega
  rw [e1]
  rfl
theorem w_colRN {n : Nat} {C : List D → Prop} (c : n ≤ 100000) (p : C ((DVL.rngI 0 n).map PyData.int)) : ∃ m : Nat, RV.d (.int (n : Int)) = .d (.int (m : Int)) ∧ m ≤ 100000 ∧ C ((DVL.rngI 0 m).map PyData.int) := ⟨n, rfl, c, p⟩
def byP (F G : α → Int) (a b : α) : Prop := F a < F b ∨ (F a = F b ∧ G a ≤ G b)
instance (F G : α → Int) (a b : α) : Decidable (byP F G a b) := by unfold byP; exact inferInstance
def sbP (F G : α → Int) (L : List α) : List α := L.mergeSort fun a b => decide (byP F G a b)
def byT (F G H : α → Int) (a b : α) : Prop := F a < F b ∨ (F a = F b ∧ (G a < G b ∨ (G a = G b ∧ H a ≤ H b)))
instance (F G H : α → Int) (a b : α) : Decidable (byT F G H a b) := by unfold byT; exact inferInstance
theorem eqvP (a b c d : Int) : PyData.eqv (.tuple [.int a, .int b]) (.tuple [.int c, .int d]) = decide (a = c ∧ b = d) := by
  simp only [PyData.eqv, PyData.eqvAll]
  by_cases h1 : a = c <;> by_cases h2 : b = d <;> simp [h1, h2]
end
end DV

namespace DV
open PySem L2
def KLc2 (vs : List Nat) (tg : D → Env → Option Env) (t : Env → M Bool) (fi1 : Env → M (List D × Option Nat)) (vs1 : List Nat) (tg1 : D → Env → Option Env) (t1 : Env → M Bool) (el : Env → M RV) (ρ : Env) (P : RV → Prop) (q : List D × Option Nat) : Prop :=
  Gives (lc2F tg t fi1 vs1 tg1 t1 el (wipeE ρ vs) q.1) fun ds => ds.length ≤ 100000 ∧ P (.n ds)
/-- the inner loop's list -/
def KIn (vs1 : List Nat) (tg1 : D → Env → Option Env) (t1 : Env → M Bool) (el : Env → M RV) (ρ1 : Env) (C : List D → Prop) (q : List D × Option Nat) : Prop := Gives (lcF tg1 t1 el (wipeE ρ1 vs1) q.1) C
section
variable {α β : Type} {ρ : Env} {P : RV → Prop} {tg tg1 : D → Env → Option Env} {t t1 : Env → M Bool} {fi fi1 : Env → M (List D × Option Nat)} {vs vs1 : List Nat} {el : Env → M RV}
theorem w_lc2 (p : Gives (fi ρ) (KLc2 vs tg t fi1 vs1 tg1 t1 el ρ P)) : Gives (eLc2 fi vs tg t fi1 vs1 tg1 t1 el ρ) P := by
  unfold eLc2
  refine Gives.bnd p fun q r => Gives.bnd r fun ds ⟨hl, k⟩ => ?_
  rw [if_pos hl]
  exact Gives.ret k
theorem lc2F_mk (mk : α → D) (pr : α → Bool) (φ : α → List D) : ∀ L : List α, (∀ a ∈ L, KTg (tg (mk a) ρ) fun ρ1 => Gives (t ρ1) fun b => b = pr a ∧ (pr a = true → Gives (fi1 ρ1) (KIn vs1 tg1 t1 el ρ1 fun ds => ds = φ a))) → Gives (lc2F tg t fi1 vs1 tg1 t1 el ρ (L.map mk)) fun ds => ds = (L.filter pr).flatMap φ
  | [], _ => Gives.ret rfl
  | a :: L, h => by
    obtain ⟨ρ1, e1, g⟩ := h a List.mem_cons_self
    have ih := lc2F_mk mk pr φ L fun y hy => h y (List.mem_cons_of_mem _ hy)
    show Gives (lc2F tg t fi1 vs1 tg1 t1 el ρ (mk a :: L.map mk)) _
    unfold lc2F
    rw [e1, lft_s, bnd_ret]
    refine Gives.bnd g fun b ⟨eb, g2⟩ => ?_
    subst eb
    cases hp : pr a with
    | true =>
      rw [if_pos rfl]
      refine Gives.bnd (g2 hp) fun q gq => Gives.bnd gq fun d1 ed => Gives.bnd ih fun ds eds => ?_
      subst ed eds
      exact Gives.ret (by rw [List.filter_cons_of_pos hp, List.flatMap_cons])
    | false =>
      rw [if_neg (by decide), List.filter_cons_of_neg (by rw [hp]; decide)]
      exact ih
/-- no test outside -/
theorem w_lc2M {L : List α} {mk : α → D} {lk : Option Nat} (φ : α → List D) (c : (L.flatMap φ).length ≤ 100000)
    (hh : ∀ a ∈ L, KTg (tg (mk a) (wipeE ρ vs)) fun ρ1 => Gives (fi1 ρ1) (KIn vs1 tg1 t1 el ρ1 fun ds => ds = φ a)) (k : P (.n (L.flatMap φ))) : KLc2 vs tg tTrue fi1 vs1 tg1 t1 el ρ P (L.map mk, lk) :=
  (lc2F_mk mk (fun _ => true) φ L fun a ha => by
    obtain ⟨ρ1, e, g⟩ := hh a ha
    exact ⟨ρ1, e, Gives.ret ⟨rfl, fun _ => g⟩⟩).mono fun ds e => by
      rw [List.filter_eq_self.mpr (fun _ _ => rfl)] at e
      subst e
      exact ⟨c, k⟩
/-- the inner list -/
theorem w_in1 {C : List D → Prop} {L : List β} {mk : β → D} {lk : Option Nat} (pr : β → Bool) (φ : β → D) (hh : ∀ b ∈ L, KTg (tg1 (mk b) (wipeE ρ vs1)) fun ρ2 => Gives (t1 ρ2) fun c => c = pr b ∧ (pr b = true → Gives (el ρ2) fun r => toD r = some (φ b))) (k : C ((L.filter pr).map φ)) : KIn vs1 tg1 t1 el ρ C (L.map mk, lk) :=
  (lcF_mk mk pr φ L hh).mono fun ds e => by subst e; exact k
theorem All2.mem {p : α → β → Prop} : ∀ {L : List α} {bs : List β}, All2 p L bs → ∀ b ∈ bs, ∃ a ∈ L, p a b
  | _, _, .nil, _, h => nomatch h
  | _, _, .cons h t, b, hb => by
    rcases List.mem_cons.mp hb with e | e
    · subst e; exact ⟨_, List.mem_cons_self, h⟩
    · obtain ⟨a, ha, pa⟩ := All2.mem t b e
      exact ⟨a, List.mem_cons_of_mem _ ha, pa⟩
theorem w_isNN (p : P (.d (.bool true))) : K2 gIs P (.d .none) (.d .none) := ⟨_, rfl, p⟩
theorem w_isNI {a : Int} (p : P (.d (.bool false))) : K2 gIs P (.d (.int a)) (.d .none) := ⟨_, rfl, p⟩
theorem w_isNT {a : List D} (p : P (.d (.bool false))) : K2 gIs P (.d (.tuple a)) (.d .none) := ⟨_, rfl, p⟩
theorem w_ntNN (p : P (.d (.bool false))) : K2 gIsNot P (.d .none) (.d .none) := ⟨_, rfl, p⟩
theorem w_ntNI {a : Int} (p : P (.d (.bool true))) : K2 gIsNot P (.d (.int a)) (.d .none) := ⟨_, rfl, p⟩
theorem w_ntNT {a : List D} (p : P (.d (.bool true))) : K2 gIsNot P (.d (.tuple a)) (.d .none) := ⟨_, rfl, p⟩
theorem w_repND {x : D} {n : Nat} (c : n ≤ 1000) (p : P (.n (List.replicate n x))) : K2 gMulA P (.n [x]) (.d (.int (n : Nat))) := by
  refine ⟨_, ?_, p⟩
  show (if -1000 ≤ (n : Int) ∧ (n : Int) ≤ 1000 ∧ ([x] : List D).length ≤ 1000 then some (RV.n (List.replicate (n : Int).toNat [x]).flatten) else none) = _
  rw [if_pos ⟨by omega, by omega, by simp⟩, Int.toNat_natCast, List.flatten_replicate_singleton]
def KPut (i : Nat) (ds : List D) (ρ : Env) (Q : Out → Prop) (d : D) (j : Int) : Prop := ∃ m, ixN ds.length j = some m ∧ KSet i ρ Q (.n (ds.set m d))
theorem w_put {i : Nat} {f g : Env → M RV} {Q : Out → Prop} {ds : List D} (e1 : sApp.own? ρ i = some ds) (p : Gives (f ρ) (KD fun d => Gives (g ρ) (KI fun j => KPut i ds ρ Q d j))) : Gives (sPut i f g ρ) Q :=
  DVL.gv_put e1 (p.mono fun x ⟨d, e, q⟩ => q.mono fun y ⟨j, e2, m, e3, sv, e4, q⟩ => ⟨j, d, m, e2, e, e3, by cases e4; exact q⟩)
theorem w_putM {i : Nat} {Q : Out → Prop} {L : List α} {mk : α → D} {d : D} {j : Int} (b : α) (ed : d = mk b) (c : 0 ≤ j ∧ j < L.length) (p : KSet i ρ Q (.n ((L.set j.toNat b).map mk))) : KPut i (L.map mk) ρ Q d j := by
  subst ed
  refine ⟨j.toNat, DVL.ixN_nat c.1 (by rw [List.length_map]; exact c.2), ?_⟩
  rw [← List.map_set]
  exact p
theorem w_putI {i : Nat} {Q : Out → Prop} {L : List Int} {b j : Int} (c : 0 ≤ j ∧ j < L.length) (p : KSet i ρ Q (.n ((L.set j.toNat b).map PyData.int))) : KPut i (L.map PyData.int) ρ Q (.int b) j := w_putM b rfl c p
/-- a walk over a list of one's own -/
theorem w_loopK {g : Env → M Out} {Q : Out → Prop} {mk : α → D} {lk : Option Nat} {L : List α} (I : List α → Env → Prop) (h0 : KTg (some (lockE ρ lk)) (I L))
    (hs : ∀ a rest ρ1, I (a :: rest) ρ1 → KTg (tg (mk a) ρ1) fun ρ2 => Gives (g ρ2) (KLoop (I rest) fun o => Q (unlockO ρ lk o))) (hd : ∀ ρ1, I [] ρ1 → KTg (some (unlockE ρ ρ1 lk)) fun ρ2 => Q (.nx ρ2)) : KFor tg g ρ Q (L.map mk, lk) :=
  w_loop I (by obtain ⟨_, e, h⟩ := h0; obtain rfl := Option.some.inj e; exact h) hs fun ρ1 h => by
    obtain ⟨_, e, q⟩ := hd ρ1 h
    obtain rfl := Option.some.inj e
    exact q
theorem w_eqB0 {a : List Int} (p : P (.d (.bool (decide (a = []))))) : K2 gEq P (.b (a.map PyData.int)) (.n []) := ⟨_, DVL.eq_lists false a [], p⟩
theorem w_neB0 {a : List Int} (p : P (.d (.bool (!decide (a = []))))) : K2 gNe P (.b (a.map PyData.int)) (.n []) := ⟨_, DVL.eq_lists true a [], p⟩
theorem w_eqBB {a b : List Int} (p : P (.d (.bool (decide (a = b))))) : K2 gEq P (.b (a.map PyData.int)) (.b (b.map PyData.int)) := ⟨_, DVL.eq_lists false a b, p⟩
theorem w_neBB {a b : List Int} (p : P (.d (.bool (!decide (a = b))))) : K2 gNe P (.b (a.map PyData.int)) (.b (b.map PyData.int)) := ⟨_, DVL.eq_lists true a b, p⟩
theorem w_eqNB {a b : List Int} (p : P (.d (.bool (decide (a = b))))) : K2 gEq P (.n (a.map PyData.int)) (.b (b.map PyData.int)) := ⟨_, DVL.eq_lists false a b, p⟩
theorem w_neNB {a b : List Int} (p : P (.d (.bool (!decide (a = b))))) : K2 gNe P (.n (a.map PyData.int)) (.b (b.map PyData.int)) := ⟨_, DVL.eq_lists true a b, p⟩
theorem w_eqBN {a b : List Int} (p : P (.d (.bool (decide (a = b))))) : K2 gEq P (.b (a.map PyData.int)) (.n (b.map PyData.int)) := ⟨_, DVL.eq_lists false a b, p⟩
theorem w_neBN {a b : List Int} (p : P (.d (.bool (!decide (a = b))))) : K2 gNe P (.b (a.map PyData.int)) (.n (b.map PyData.int)) := ⟨_, DVL.eq_lists true a b, p⟩
theorem eq_tis (neg : Bool) (a b : List Int) : gEqB neg (.d (ti a)) (.d (ti b)) = some (.d (.bool (if neg then !decide (a = b) else decide (a = b)))) := by
  show (if SeqAt.shaped (ti a) = true then if SeqAt.shaped (ti b) = true then some (RV.d (.bool (if neg then !PyData.eqv (ti a) (ti b) else PyData.eqv (ti a) (ti b)))) else none else none) = _
  rw [if_pos (DVL.shaped_intsT a), if_pos (DVL.shaped_intsT b)]
  have e : PyData.eqv (ti a) (ti b) = decide (a = b) := by
    show PyData.eqv (.tuple _) (.tuple _) = _
    rw [PyData.eqv]
    exact DVL.eqv_intsA a b
  rw [e]
theorem w_eqT {a b : List Int} (p : P (.d (.bool (decide (a = b))))) : K2 gEq P (.d (ti a)) (.d (ti b)) := ⟨_, eq_tis false a b, p⟩
theorem w_neT {a b : List Int} (p : P (.d (.bool (!decide (a = b))))) : K2 gNe P (.d (ti a)) (.d (ti b)) := ⟨_, eq_tis true a b, p⟩
theorem w_eqT0 {a : List Int} (p : P (.d (.bool (decide (a = []))))) : K2 gEq P (.d (ti a)) (.d (.tuple [])) := ⟨_, eq_tis false a [], p⟩
theorem w_neT0 {a : List Int} (p : P (.d (.bool (!decide (a = []))))) : K2 gNe P (.d (ti a)) (.d (.tuple [])) := ⟨_, eq_tis true a [], p⟩
theorem w_setApp {i : Nat} {Q : Out → Prop} {A : List Int} {b : Int} (p : KSet i ρ Q (.n ((A ++ [b]).map PyData.int))) : KSet i ρ Q (.n (A.map PyData.int ++ [PyData.int b])) := by rw [List.map_append] at p; exact p
theorem w_isT {T : TyT} {f : Env → M RV} (p : Gives (f ρ) fun x => ∃ d, viewD x = some d ∧ P (.d (.bool (isT T d)))) : Gives (eIsT T f ρ) P := gv_isT p
end
end DV

namespace DVL
open PySem L2 DV
section
variable {κ : Type} [DecidableEq κ]
def pm (M : List (κ × Int)) (k : κ) (w : Int) : List (κ × Int) := putA M k (max ((getA M k).getD w) w)
variable {M : List (κ × Int)} {k : κ} {w : Int} {p : κ × Int}
end
abbrev HM := List (List Int × Int)
end DVL

namespace DVL
open PySem L2 DV
theorem rng_get : ∀ (n : Nat) (lo : Int) (i : Nat), i < n → (rngI lo n)[i]? = some (lo + i)
  | 0, _, _, h => absurd h (Nat.not_lt_zero _)
  | n + 1, lo, 0, _ => by simp [rngI]
  | n + 1, lo, i + 1, h => by
    show (rngI (lo + 1) n)[i]? = _
    rw [rng_get n (lo + 1) i (by omega)]
    congr 1
    omega
theorem rng_snoc (m : Nat) : rngI 0 (m + 1) = rngI 0 m ++ [(m : Int)] := by
  have : ∀ (q : Nat) (lo : Int), rngI lo (q + 1) = rngI lo q ++ [lo + q] := fun q => by
    induction q with
    | zero => exact fun lo => by simp [rngI]
    | succ q ih =>
      intro lo
      rw [rngI, ih (lo + 1)]
      show lo :: (rngI (lo + 1) q ++ [lo + 1 + (q : Int)]) = lo :: rngI (lo + 1) q ++ [lo + ((q + 1 : Nat) : Int)]
      rw [show lo + 1 + (q : Int) = lo + ((q + 1 : Nat) : Int) by omega]
      rfl
  have := this m 0
  rwa [Int.zero_add] at this
/-- a walk over a range: the next one -/
theorem rng_step {j : Int} {rest : List Int} {u n : Nat} (h : j :: rest = rngI (u : Int) (n - u)) : j = (u : Int) ∧ u < n ∧ rest = rngI ((u + 1 : Nat) : Int) (n - (u + 1)) := by
  obtain ⟨w, hw⟩ : ∃ w, n - u = w + 1 := by
    cases e : n - u with
    | zero => rw [e] at h; cases h
    | succ w => exact ⟨w, rfl⟩
  rw [hw] at h
  obtain ⟨e1, e2⟩ := List.cons.inj (show j :: rest = (u : Int) :: rngI ((u : Int) + 1) w from h)
  exact ⟨e1, by omega, by rw [e2, show n - (u + 1) = w by omega]; rfl⟩
theorem rng_end {u n : Nat} (h : [] = rngI (u : Int) (n - u)) (hu : u ≤ n) : u = n := by
  have := congrArg List.length h
  rw [rngI_len] at this
  have h0 : 0 = n - u := this
  omega
theorem val_get {L : List Int} {i : Nat} (h : i < L.length) : val L (i : Int) = L[i] := by
  unfold val
  rw [List.getD_eq_getElem?_getD, Int.toNat_natCast, List.getElem?_eq_getElem h]
  rfl
end DVL

namespace DVG
open PySem L2 DV DVL
/-- what some jobs weigh on a machine -/
def gs (a : List Int) (w : Int → Int) (S : List Int) (m : Int) : Int := ((S.filter fun i => decide (val a i = m)).map w).sum
end DVG

namespace DV
open PySem L2
section
variable {ρ ρ' : Env} {P : RV → Prop} {Q : Out → Prop} {f g : Env → M RV}
def KAx (i : Nat) (kf : Int → Int → Int) (ds : List D) (f : Env → M RV) (ρ : Env) (Q : Out → Prop) (j : Int) : Prop := ∃ m a, ixN ds.length j = some m ∧ (ds[m]?).bind dI = some a ∧ Gives (f ρ) (KI fun b => KSet i ρ Q (.n (ds.set m (.int (kf a b)))))
theorem w_augIx {i : Nat} {kf : Int → Int → Int} {ds : List D} (e1 : sApp.own? ρ i = some ds) (p : Gives (g ρ) (KI (KAx i kf ds f ρ Q))) : Gives (sAugIx i kf g f ρ) Q := by
  unfold sAugIx
  rw [e1, lft_s, bnd_ret]
  refine Gives.bnd p fun y ⟨j, e2, m, a, e3, e4, q⟩ => ?_
  rw [e2, lft_s, bnd_ret, e3, lft_s, bnd_ret, e4, lft_s, bnd_ret]
  refine Gives.bnd q fun x ⟨b, e5, sv, e6, q⟩ => ?_
  rw [e5, lft_s, bnd_ret]
  cases e6
  exact Gives.ret q
theorem w_isBl {a b : Bool} (p : P (.d (.bool (a == b)))) : K2 (gIsBl false) P (.d (.bool a)) (.d (.bool b)) := ⟨.d (.bool (a == b)), by cases a <;> cases b <;> rfl, p⟩
theorem w_ntBl {a b : Bool} (p : P (.d (.bool (a != b)))) : K2 (gIsBl true) P (.d (.bool a)) (.d (.bool b)) := ⟨.d (.bool (a != b)), by cases a <;> cases b <;> rfl, p⟩
theorem w_isTT (p : P (.d (.bool true))) : K2 (gIsBl false) P (.d (.bool true)) (.d (.bool true)) := w_isBl p
theorem w_ntTT (p : P (.d (.bool false))) : K2 (gIsBl true) P (.d (.bool true)) (.d (.bool true)) := w_ntBl p
theorem w_isFT (p : P (.d (.bool false))) : K2 (gIsBl false) P (.d (.bool false)) (.d (.bool true)) := w_isBl p
theorem w_ntFT (p : P (.d (.bool true))) : K2 (gIsBl true) P (.d (.bool false)) (.d (.bool true)) := w_ntBl p
theorem w_isTF (p : P (.d (.bool false))) : K2 (gIsBl false) P (.d (.bool true)) (.d (.bool false)) := w_isBl p
theorem w_ntTF (p : P (.d (.bool true))) : K2 (gIsBl true) P (.d (.bool true)) (.d (.bool false)) := w_ntBl p
theorem w_isFF (p : P (.d (.bool true))) : K2 (gIsBl false) P (.d (.bool false)) (.d (.bool false)) := w_isBl p
theorem w_ntFF (p : P (.d (.bool false))) : K2 (gIsBl true) P (.d (.bool false)) (.d (.bool false)) := w_ntBl p
def KZip3 (C : List D × Option Nat → Prop) (p q r : List D × Option Nat) : Prop := ∃ l l2, joinLk p.2 q.2 = some l ∧ joinLk l r.2 = some l2 ∧ C (zip3D p.1 q.1 r.1, l2)
theorem w_zip3 {C : List D × Option Nat → Prop} {s1 s2 s3 : Env → M (List D × Option Nat)} (p : Gives (s1 ρ) fun a => Gives (s2 ρ) fun b => Gives (s3 ρ) fun c => KZip3 C a b c) : Gives (iZip3F s1 s2 s3 ρ) C :=
  Gives.bnd p fun a q => Gives.bnd q fun b q => Gives.bnd q fun c ⟨l, l2, e, e2, r⟩ => by rw [e, lft_s, bnd_ret, e2, lft_s, bnd_ret]; exact Gives.ret r
end
end DV

namespace DV
open PySem L2
section
variable {ρ ρ' : Env} {P : RV → Prop} {Q : Out → Prop} {f g : Env → M RV}
def KStep (P : RV → Prop) (x : RV) (l k : Option Int) : Prop := ∃ ds a b, newL x = some ds ∧ l = some a ∧ k = some b ∧ b ≠ 0 ∧ P (.n (pickA ds a b))
theorem w_step {lo st : Env → M (Option Int)} (p : Gives (f ρ) fun x => Gives (lo ρ) fun l => Gives (st ρ) fun k => KStep P x l k) : Gives (eStep f lo st ρ) P := by
  unfold eStep
  refine Gives.bnd p fun x q1 => Gives.bnd q1 fun l q2 => Gives.bnd q2 fun k ⟨ds, a, b, e, e1, e2, h, q4⟩ => ?_
  subst e1 e2
  show Gives (if b = 0 then fail else bnd (lft (newL x)) fun ds => ret (.n (pickA ds a b))) P
  rw [if_neg h, e, lft_s, bnd_ret]
  exact Gives.ret q4
theorem pickA_map {α β : Type} (h : α → β) (L : List α) (a b : Int) : pickA (L.map h) a b = (pickA L a b).map h := by
  unfold pickA
  rw [List.length_map, List.map_filterMap]
  congr 1
  funext i
  exact List.getElem?_map
theorem w_stepB {α : Type} {mk : α → D} {L : List α} {a b : Int} (h : b ≠ 0) (p : P (.n ((pickA L a b).map mk))) : KStep P (.b (L.map mk)) (some a) (some b) := ⟨_, a, b, rfl, rfl, rfl, h, by rw [pickA_map]; exact p⟩
theorem w_srev (p : Gives (f ρ) fun x => ∃ js, items x = some (js.map PyData.int) ∧ P (.n ((sortI js).reverse.map PyData.int))) : Gives (eSortRev f ρ) P := by
  unfold eSortRev
  refine Gives.bnd p fun x ⟨js, e, q⟩ => ?_
  rw [e, lft_s, bnd_ret, DVL.intsOf_map, lft_s, bnd_ret]
  exact Gives.ret q
theorem w_srevT {js : List Int} (p : P (.n ((sortI js).reverse.map PyData.int))) : ∃ js', items (.d (ti js)) = some (js'.map PyData.int) ∧ P (.n ((sortI js').reverse.map PyData.int)) := ⟨js, rfl, p⟩
end
end DV

namespace DV
open PySem L2
section
variable {P : RV → Prop} {f h : Env → DV.M RV} {ρ : Env} {Q : Out → Prop}
theorem w_met {gg : RV → RV → Option RV} (p : Gives (f ρ) fun x => ∃ ds, itemsL x = some ds ∧ Gives (h ρ) fun y => K2 gg P x y) : Gives (eMet gg f h ρ) P := by
  unfold eMet
  refine Gives.bnd p fun x ⟨ds, e, q⟩ => ?_
  rw [e, lft_s, bnd_ret]
  refine Gives.bnd q fun y ⟨z, e2, q2⟩ => ?_
  rw [e2]
  exact Gives.ret q2
theorem w_itL {C : Prop} {ds : List D} (p : C) : ∃ es, itemsL (.b ds) = some es ∧ C := ⟨ds, rfl, p⟩
theorem findIdx_map (m : Int) : ∀ L : List Int, (L.map PyData.int).findIdx? (fun z => PyData.eqv z (.int m)) = L.findIdx? (fun z => decide (z = m))
  | [] => rfl
  | a :: L => by
    rw [List.map_cons, List.findIdx?_cons, List.findIdx?_cons, DVL.eqv_int, findIdx_map m L]
/-- x[i], y[j] = a, b of ints -/
def KTwo (t1 t2 : Tgt) (ρ : Env) (Q : Out → Prop) (xs : List RV) : Prop := ∃ d e, xs = [.d d, .d e] ∧ Gives (tgtF t1 d ρ) fun ρ1 => Gives (tgtF t2 e ρ1) fun ρ2 => Q (.nx ρ2)
theorem w_two {t1 t2 : Tgt} {fa : Env → DV.M (List RV)} (p : Gives (fa ρ) (KTwo t1 t2 ρ Q)) : Gives (sTwo t1 t2 fa ρ) Q := by
  unfold sTwo
  refine Gives.bnd p fun xs ⟨d, e, ex, q⟩ => ?_
  subst ex
  show Gives (bnd (lft (some d)) fun d => bnd (lft (some e)) fun e => bnd (tgtF t1 d ρ) fun ρ1 => bnd (tgtF t2 e ρ1) fun ρ2 => ret (.nx ρ2)) Q
  rw [lft_s, bnd_ret, lft_s, bnd_ret]
  refine Gives.bnd q fun ρ1 q1 => ?_
  exact Gives.bnd q1 fun ρ2 q2 => Gives.ret q2
theorem w_twoX {t1 t2 : Tgt} {d e : D} (p : Gives (tgtF t1 d ρ) fun ρ1 => Gives (tgtF t2 e ρ1) fun ρ2 => Q (.nx ρ2)) : KTwo t1 t2 ρ Q [.d d, .d e] := ⟨d, e, rfl, p⟩
end
end DV


namespace DV
open PySem L2
section
variable {κ : Type} [DecidableEq κ] {E : Key κ} {ρ ρ' : Env} {P : RV → Prop} {Q : Out → Prop} {f h k : Env → DV.M RV} {x y : RV}
theorem w_ixS {tb : List (Int × Int)} {j : Int} (c : 0 ≤ j ∧ j < tb.length) (p : P (.d (DVL.pr (DVL.at2 tb j)))) : K2 gIx P (.d (DVL.sts tb)) (.d (.int j)) := ⟨_, DVL.gIx_tb c.1 c.2, p⟩
theorem w_ix2 {d e g : D} {ds : List D} (p : P (.d g)) : K2 gIx P (.d (.tuple (d :: e :: g :: ds))) (.d (.int 2)) := by
  refine ⟨.d g, ?_, p⟩
  show (atI (d :: e :: g :: ds) ((2 : Nat) : Int)).map RV.d = _
  rw [atI_nat (v := g) rfl]; rfl
/-- d.get(k, x) -/
def KGg2 (c : DC) (k : Env → DV.M RV) (ρ : Env) (P : RV → Prop) (d : D) : Prop := keyOk c.t d = true ∧ Gives (k ρ) fun z => P (match lookK c.kv (nk d) with | some vd => .d vd | none => z)
theorem w_gget2 (p : Gives (f ρ) fun x => ∃ c, dcOf x = some c ∧ Gives (h ρ) (KG (KGg2 c k ρ P))) : Gives (eGGet2 f h k ρ) P := by
  unfold eGGet2
  refine Gives.bnd p fun x ⟨c, e, q⟩ => ?_
  rw [e, lft_s, bnd_ret]
  refine Gives.bnd q fun y ⟨d, e2, h1, q2⟩ => ?_
  rw [e2, lft_s, bnd_ret]
  refine Gives.bnd q2 fun z hz => ?_
  rw [if_pos h1]
  revert hz
  cases lookK c.kv (nk d) with
  | none => exact fun hz => Gives.ret hz
  | some vd => exact fun hz => Gives.ret hz
end
end DV

namespace DVR
open PySem L2 DV DVL
abbrev Lk := Int × Int × Int × Int
def at4 (ls : List Lk) (i : Int) : Lk := ls.getD i.toNat (0, 0, 0, 0)
def src (ls : List Lk) (i : Int) : Int := (at4 ls i).1
def tgt (ls : List Lk) (i : Int) : Int := (at4 ls i).2.1
def tim (ls : List Lk) (i : Int) : Int := (at4 ls i).2.2.1
def rnd (ls : List Lk) (i : Int) : Int := (at4 ls i).2.2.2
structure Ln (n : Nat) (ls : List Lk) : Prop where
  n1 : 1 ≤ n
  rng : ∀ i, 0 ≤ i → i < (ls.length : Int) → (0 ≤ src ls i ∧ src ls i < (n : Int)) ∧ (0 ≤ tgt ls i ∧ tgt ls i < (n : Int))
def Wk (ls : List Lk) : Int → List Int → Int → Prop
  | x, [], y => x = y
  | x, i :: p, y => ((0 ≤ i ∧ i < (ls.length : Int)) ∧ src ls i = x) ∧ Wk ls (tgt ls i) p y
def wt (w : Int → Int) (p : List Int) : Int := (p.map w).sum
theorem wt_app (w : Int → Int) (p q : List Int) : wt w (p ++ q) = wt w p + wt w q := by unfold wt; rw [List.map_append, List.sum_append]
theorem wt_cons (w : Int → Int) (i : Int) (q : List Int) : wt w (i :: q) = w i + wt w q := rfl
section
variable {ls : List Lk} {n : Nat} {w : Int → Int}
theorem wk_app : ∀ {p q : List Int} {x y : Int}, Wk ls x (p ++ q) y ↔ ∃ z, Wk ls x p z ∧ Wk ls z q y
  | [], q, x, y => ⟨fun h => ⟨x, rfl, h⟩, fun ⟨z, h1, h2⟩ => by cases h1; exact h2⟩
  | i :: p, q, x, y => by
    constructor
    · rintro ⟨h1, h2⟩
      obtain ⟨z, a, b⟩ := wk_app.mp h2
      exact ⟨z, ⟨h1, a⟩, b⟩
    · rintro ⟨z, ⟨h1, a⟩, b⟩
      exact ⟨h1, wk_app.mpr ⟨z, a, b⟩⟩
theorem wk_in : ∀ {p : List Int} {x y : Int}, Wk ls x p y → ∀ i ∈ p, 0 ≤ i ∧ i < (ls.length : Int)
  | [], _, _, _, _, h => nomatch h
  | j :: p, x, y, ⟨h1, h2⟩, i, hi => by
    rcases List.mem_cons.mp hi with z | z
    · rw [z]; exact h1.1
    · exact wk_in h2 i z
theorem dup {f : Int → Int} : ∀ {L : List Int}, ¬ (L.map f).Nodup → ∃ A a B b C, L = A ++ a :: (B ++ b :: C) ∧ f a = f b
  | [], h => absurd List.nodup_nil h
  | x :: L, h => by
    by_cases hL : (L.map f).Nodup
    · have hx : f x ∈ L.map f := Decidable.byContradiction fun z => h (by rw [List.map_cons]; exact List.nodup_cons.mpr ⟨z, hL⟩)
      obtain ⟨b, hb, e⟩ := List.mem_map.mp hx
      obtain ⟨B, C, rfl⟩ := List.append_of_mem hb
      exact ⟨[], x, B, b, C, rfl, e.symm⟩
    · obtain ⟨A, a, B, b, C, e, hf⟩ := dup hL
      exact ⟨x :: A, a, B, b, C, by rw [e]; rfl, hf⟩
/-- a walk that meets an event twice, cut -/
theorem cut2 {p : List Int} {x y : Int} (h : Wk ls x p y) (hd : ¬ (p.map (src ls)).Nodup) : ∃ A a B b C, p = A ++ a :: (B ++ b :: C) ∧ Wk ls (src ls a) (a :: B) (src ls a) ∧ Wk ls x (A ++ b :: C) y := by
  obtain ⟨A, a, B, b, C, e, hf⟩ := dup hd
  rw [e] at h
  obtain ⟨z1, h1, h2, h3⟩ := wk_app.mp h
  obtain ⟨z2, h4, h5, h6⟩ := wk_app.mp h3
  refine ⟨A, a, B, b, C, e, ⟨⟨h2.1, rfl⟩, ?_⟩, wk_app.mpr ⟨z1, h1, ⟨h5.1, ?_⟩, h6⟩⟩
  · rw [hf, h5.2]; exact h4
  · rw [← hf]; exact h2.2
theorem cyc_simple : ∀ (k : Nat) (x : Int) (p : List Int), p.length ≤ k → p ≠ [] → Wk ls x p x → 0 < wt w p → ∃ y q, q ≠ [] ∧ Wk ls y q y ∧ 0 < wt w q ∧ (q.map (src ls)).Nodup
  | 0, x, p, hk, hp, _, _ => absurd (List.eq_nil_of_length_eq_zero (Nat.le_zero.mp hk)) hp
  | k + 1, x, p, hk, hp, h, hw => by
    by_cases hd : (p.map (src ls)).Nodup
    · exact ⟨x, p, hp, h, hw, hd⟩
    · obtain ⟨A, a, B, b, C, e, h1, h2⟩ := cut2 h hd
      have e2 : wt w p = wt w (a :: B) + wt w (A ++ b :: C) := by
        rw [e, wt_app, wt_cons, wt_app, wt_app, wt_cons w a]
        omega
      have hl : p.length = (a :: B).length + (A ++ b :: C).length := by
        rw [e]
        simp only [List.length_append, List.length_cons]
        omega
      have hl1 : (a :: B).length = B.length + 1 := rfl
      have hl2 : (A ++ b :: C).length = A.length + (C.length + 1) := by rw [List.length_append, List.length_cons]
      by_cases c : 0 < wt w (a :: B)
      · exact cyc_simple k _ (a :: B) (by omega) (by simp) h1 c
      · exact cyc_simple k x (A ++ b :: C) (by omega) (by simp) h2 (by omega)
/-- no positive ring -/
def NoPos (ls : List Lk) (w : Int → Int) : Prop := ∀ x p, Wk ls x p x → wt w p ≤ 0
theorem src_in (G : Ln n ls) {p : List Int} {x y : Int} (h : Wk ls x p y) : ∀ v ∈ p.map (src ls), v ∈ rngI 0 n := fun v hv => by
  obtain ⟨i, hi, rfl⟩ := List.mem_map.mp hv
  have h1 := wk_in h i hi
  have := (G.rng i h1.1 h1.2).1
  exact (mem_rngI _ _ _).mpr (by omega)
theorem shorten (G : Ln n ls) (N : NoPos ls w) : ∀ (k : Nat) (x y : Int) (p : List Int), p.length ≤ k → 0 ≤ y → y < (n : Int) → Wk ls x p y → ∃ q, Wk ls x q y ∧ wt w p ≤ wt w q ∧ q.length < n
  | 0, x, y, p, hk, _, _, h => ⟨p, h, Int.le_refl _, by have := G.n1; omega⟩
  | k + 1, x, y, p, hk, y0, y1, h => by
    by_cases hl : p.length < n
    · exact ⟨p, h, Int.le_refl _, hl⟩
    · by_cases hd : (p.map (src ls)).Nodup
      · have hin := src_in G h
        have h1 := nodup_le hd hin
        rw [List.length_map, rngI_len] at h1
        have hy : y ∈ p.map (src ls) := Decidable.byContradiction fun z => by
          have h2 := nodup_le (p := y :: p.map (src ls)) (q := rngI 0 n) (List.nodup_cons.mpr ⟨z, hd⟩) fun v hv => by
            rcases List.mem_cons.mp hv with e | e
            · rw [e]; exact (mem_rngI _ _ _).mpr (by omega)
            · exact hin v e
          rw [List.length_cons, List.length_map, rngI_len] at h2
          omega
        obtain ⟨a, ha, e⟩ := List.mem_map.mp hy
        obtain ⟨A, B, rfl⟩ := List.append_of_mem ha
        obtain ⟨z, h3, h4, h5⟩ := wk_app.mp h
        have ez : z = y := by rw [← e, h4.2]
        subst ez
        refine ⟨A, h3, ?_, by rw [List.length_append, List.length_cons] at h1; omega⟩
        have := N z (a :: B) ⟨h4, h5⟩
        rw [wt_app]
        omega
      · obtain ⟨A, a, B, b, C, e, h1, h2⟩ := cut2 h hd
        have hl2 : p.length = (a :: B).length + (A ++ b :: C).length := by
          rw [e]
          simp only [List.length_append, List.length_cons]
          omega
        have hl1 : (a :: B).length = B.length + 1 := rfl
        obtain ⟨q, q1, q2, q3⟩ := shorten G N k x y (A ++ b :: C) (by omega) y0 y1 h2
        refine ⟨q, q1, ?_, q3⟩
        have h3 := N _ _ h1
        have e2 : wt w p = wt w (a :: B) + wt w (A ++ b :: C) := by
          rw [e, wt_app, wt_cons, wt_app, wt_app, wt_cons w a]
          omega
        omega
def stepB (ls : List Lk) (w : Int → Int) (b : List Int) (i : Int) : List Int := b.set (tgt ls i).toNat (max (val b (tgt ls i)) (val b (src ls i) + w i))
def foldB (ls : List Lk) (w : Int → Int) (I : List Int) (b : List Int) : List Int := I.foldl (stepB ls w) b
def roundB (ls : List Lk) (w : Int → Int) (b : List Int) : List Int := foldB ls w (rngI 0 ls.length) b
theorem foldB_snoc (I : List Int) (i : Int) (b : List Int) : foldB ls w (I ++ [i]) b = stepB ls w (foldB ls w I b) i := by unfold foldB; rw [List.foldl_append]; rfl
theorem stepB_len (b : List Int) (i : Int) : (stepB ls w b i).length = b.length := List.length_set
theorem foldB_len : ∀ (I : List Int) (b : List Int), (foldB ls w I b).length = b.length
  | [], _ => rfl
  | i :: I, b => (foldB_len I (stepB ls w b i)).trans (stepB_len b i)
theorem roundB_len (b : List Int) : (roundB ls w b).length = b.length := foldB_len _ b
theorem stepB_at (G : Ln n ls) {b : List Int} (hb : b.length = n) {i : Int} (hi : 0 ≤ i ∧ i < (ls.length : Int)) {v : Int} (v0 : 0 ≤ v) (v1 : v < (n : Int)) : val (stepB ls w b i) v = if v = tgt ls i then max (val b (tgt ls i)) (val b (src ls i) + w i) else val b v := by
  have h := (G.rng i hi.1 hi.2).2
  unfold stepB
  rw [val_set h.1 v0 (by omega)]
theorem stepB_mono (G : Ln n ls) {b : List Int} (hb : b.length = n) {i : Int} (hi : 0 ≤ i ∧ i < (ls.length : Int)) {v : Int} (v0 : 0 ≤ v) (v1 : v < (n : Int)) : val b v ≤ val (stepB ls w b i) v := by
  rw [stepB_at G hb hi v0 v1]
  split
  · rename_i e; rw [e]; omega
  · exact Int.le_refl _
theorem foldB_mono (G : Ln n ls) : ∀ (I : List Int) {b : List Int} (hb : b.length = n) (hI : ∀ i ∈ I, 0 ≤ i ∧ i < (ls.length : Int)) {v : Int} (v0 : 0 ≤ v) (v1 : v < (n : Int)), val b v ≤ val (foldB ls w I b) v
  | [], b, _, _, v, _, _ => Int.le_refl _
  | i :: I, b, hb, hI, v, v0, v1 => Int.le_trans (stepB_mono G hb (hI i List.mem_cons_self) v0 v1) (foldB_mono G I (by rw [stepB_len]; exact hb) (fun k hk => hI k (List.mem_cons_of_mem _ hk)) v0 v1)
theorem foldB_relax (G : Ln n ls) : ∀ (I : List Int) {b : List Int} (hb : b.length = n) (hI : ∀ i ∈ I, 0 ≤ i ∧ i < (ls.length : Int)), ∀ i ∈ I, val b (src ls i) + w i ≤ val (foldB ls w I b) (tgt ls i)
  | j :: I, b, hb, hI, i, hi => by
    have hj := hI j List.mem_cons_self
    have hI2 : ∀ k ∈ I, 0 ≤ k ∧ k < (ls.length : Int) := fun k hk => hI k (List.mem_cons_of_mem _ hk)
    have hb2 : (stepB ls w b j).length = n := by rw [stepB_len]; exact hb
    rcases List.mem_cons.mp hi with z | z
    · subst z
      have hr := G.rng i hj.1 hj.2
      have h1 := foldB_mono (w := w) G I hb2 hI2 hr.2.1 hr.2.2
      rw [stepB_at G hb hj hr.2.1 hr.2.2, if_pos rfl] at h1
      show _ ≤ val (foldB ls w I (stepB ls w b i)) _
      omega
    · have hi2 := hI2 i z
      have hr := G.rng i hi2.1 hi2.2
      have h1 := foldB_relax G I hb2 hI2 i z
      have h2 := stepB_mono (w := w) G hb hj hr.1.1 hr.1.2
      show _ ≤ val (foldB ls w I (stepB ls w b j)) _
      omega
/-- each is what a walk weighs -/
def ByWalk (ls : List Lk) (w : Int → Int) (n : Nat) (b : List Int) : Prop := ∀ v, 0 ≤ v → v < (n : Int) → ∃ x p, Wk ls x p v ∧ val b v = wt w p
theorem stepB_walk (G : Ln n ls) {b : List Int} (hb : b.length = n) {i : Int} (hi : 0 ≤ i ∧ i < (ls.length : Int)) (h : ByWalk ls w n b) : ByWalk ls w n (stepB ls w b i) := fun v v0 v1 => by
  rw [stepB_at G hb hi v0 v1]
  by_cases e : v = tgt ls i
  · rw [if_pos e]
    by_cases c : val b (tgt ls i) ≤ val b (src ls i) + w i
    · have hr := (G.rng i hi.1 hi.2).1
      obtain ⟨x, p, h1, h2⟩ := h (src ls i) hr.1 hr.2
      refine ⟨x, p ++ [i], wk_app.mpr ⟨_, h1, ⟨hi, rfl⟩, e.symm⟩, ?_⟩
      rw [wt_app, wt_cons, ← h2]
      show _ = _ + (w i + 0)
      omega
    · obtain ⟨x, p, h1, h2⟩ := h v v0 v1
      refine ⟨x, p, h1, ?_⟩
      rw [← h2, e]
      omega
  · rw [if_neg e]
    exact h v v0 v1
theorem foldB_walk (G : Ln n ls) : ∀ (I : List Int) {b : List Int} (hb : b.length = n) (hI : ∀ i ∈ I, 0 ≤ i ∧ i < (ls.length : Int)), ByWalk ls w n b → ByWalk ls w n (foldB ls w I b)
  | [], _, _, _, h => h
  | i :: I, b, hb, hI, h => foldB_walk G I (by rw [stepB_len]; exact hb) (fun k hk => hI k (List.mem_cons_of_mem _ hk)) (stepB_walk G hb (hI i List.mem_cons_self) h)
theorem idx_in : ∀ i ∈ rngI 0 ls.length, 0 ≤ i ∧ i < (ls.length : Int) := fun i hi => by
  have := (mem_rngI _ _ _).mp hi
  omega
def runB (ls : List Lk) (w : Int → Int) : Nat → List Int → Option (List Int)
  | 0, _ => none
  | k + 1, b => if roundB ls w b = b then some b else runB ls w k (roundB ls w b)
theorem runB_fix : ∀ {k : Nat} {b c : List Int}, runB ls w k b = some c → roundB ls w c = c ∧ c.length = b.length
  | 0, _, _, h => nomatch h
  | k + 1, b, c, h => by
    unfold runB at h
    by_cases e : roundB ls w b = b
    · rw [if_pos e] at h
      cases h
      exact ⟨e, rfl⟩
    · rw [if_neg e] at h
      obtain ⟨h1, h2⟩ := runB_fix h
      exact ⟨h1, by rw [h2, roundB_len]⟩
theorem fix_nopos (G : Ln n ls) {c : List Int} (hc : c.length = n) (h : roundB ls w c = c) : NoPos ls w := by
  have hr : ∀ i, 0 ≤ i → i < (ls.length : Int) → val c (src ls i) + w i ≤ val c (tgt ls i) := fun i i0 i1 => by
    have := foldB_relax (w := w) G (rngI 0 ls.length) hc idx_in i ((mem_rngI _ _ _).mpr (by omega))
    have e : foldB ls w (rngI 0 ls.length) c = c := h
    rw [e] at this
    exact this
  have main : ∀ (p : List Int) (x y : Int), Wk ls x p y → wt w p ≤ val c y - val c x := fun p => by
    induction p with
    | nil => intro x y e; cases e; show (0 : Int) ≤ _; omega
    | cons i p ih =>
      rintro x y ⟨⟨h1, h2⟩, h3⟩
      have a := ih _ _ h3
      have b := hr i h1.1 h1.2
      rw [wt_cons, ← h2]
      omega
  exact fun x p hp => by have := main p x x hp; omega
def itB (ls : List Lk) (w : Int → Int) : Nat → List Int → List Int
  | 0, b => b
  | j + 1, b => itB ls w j (roundB ls w b)
theorem runB_some : ∀ (j m : Nat) (b : List Int), j < m → roundB ls w (itB ls w j b) = itB ls w j b → ∃ c, runB ls w m b = some c
  | 0, m + 1, b, _, h => ⟨b, by
    have h : roundB ls w b = b := h
    unfold runB
    rw [if_pos h]⟩
  | j + 1, m + 1, b, hj, h => by
    unfold runB
    by_cases e : roundB ls w b = b
    · rw [if_pos e]; exact ⟨b, rfl⟩
    · rw [if_neg e]
      exact runB_some j m (roundB ls w b) (by omega) h
theorem itB_len : ∀ (j : Nat) (b : List Int), (itB ls w j b).length = b.length
  | 0, _ => rfl
  | j + 1, b => (itB_len j (roundB ls w b)).trans (roundB_len b)
theorem itB_walk (G : Ln n ls) : ∀ (j : Nat) {b : List Int} (hb : b.length = n), ByWalk ls w n b → ByWalk ls w n (itB ls w j b)
  | 0, _, _, h => h
  | j + 1, b, hb, h => itB_walk G j (by rw [roundB_len]; exact hb) (foldB_walk G _ hb idx_in h)
/-- the greatest of the short walks -/
def Short (ls : List Lk) (w : Int → Int) (n k : Nat) (b : List Int) : Prop := ∀ x y p, Wk ls x p y → p.length ≤ k → 0 ≤ x → x < (n : Int) → 0 ≤ y → y < (n : Int) → wt w p ≤ val b y
theorem short_next (G : Ln n ls) {b : List Int} (hb : b.length = n) {k : Nat} (h : Short ls w n k b) : Short ls w n (k + 1) (roundB ls w b) := fun x y p hp hl x0 x1 y0 y1 => by
  by_cases hne : p = []
  · subst hne
    have h1 := h x y [] hp (Nat.zero_le _) x0 x1 y0 y1
    exact Int.le_trans h1 (foldB_mono G _ hb idx_in y0 y1)
  · obtain ⟨q, i, rfl⟩ : ∃ q i, p = q ++ [i] := ⟨p.dropLast, p.getLast hne, (List.dropLast_concat_getLast hne).symm⟩
    obtain ⟨z, h1, ⟨h2, h3⟩, h4⟩ := wk_app.mp hp
    have h4 : tgt ls i = y := h4
    subst h3 h4
    have hr := (G.rng i h2.1 h2.2).1
    rw [List.length_append, List.length_singleton] at hl
    have h5 := h x _ q h1 (by omega) x0 x1 hr.1 hr.2
    have h6 := foldB_relax (w := w) G (rngI 0 ls.length) hb idx_in i ((mem_rngI _ _ _).mpr (by omega))
    rw [wt_app, wt_cons]
    show wt w q + (w i + 0) ≤ val (foldB ls w (rngI 0 ls.length) b) (tgt ls i)
    omega
theorem itB_short (G : Ln n ls) : ∀ (j k : Nat) {b : List Int} (hb : b.length = n), Short ls w n k b → Short ls w n (k + j) (itB ls w j b)
  | 0, _, _, _, h => h
  | j + 1, k, b, hb, h => by
    have := itB_short G j (k + 1) (b := roundB ls w b) (by rw [roundB_len]; exact hb) (short_next G hb h)
    rw [show k + (j + 1) = k + 1 + j by omega]
    exact this
theorem val_zero {v : Int} (v0 : 0 ≤ v) (v1 : v < (n : Int)) : val (List.replicate n 0) v = 0 := List.eq_of_mem_replicate (val_mem (ts := List.replicate n 0) v0 (by rw [List.length_replicate]; exact v1))
theorem nopos_run (G : Ln n ls) (N : NoPos ls w) : ∃ c, runB ls w (n + 1) (List.replicate n 0) = some c := by
  have hn := G.n1
  refine runB_some (n - 1) (n + 1) _ (by omega) ?_
  have hb : (List.replicate n (0 : Int)).length = n := List.length_replicate
  have h1 : ByWalk ls w n (List.replicate n 0) := fun v v0 v1 => ⟨v, [], rfl, by rw [val_zero v0 v1]; rfl⟩
  have h2 : Short ls w n 0 (List.replicate n 0) := fun x y p hp hl _ _ y0 y1 => by
    rw [List.eq_nil_of_length_eq_zero (Nat.le_zero.mp hl), val_zero y0 y1]
    exact Int.le_refl _
  have hl := itB_len (ls := ls) (w := w) (n - 1) (List.replicate n 0)
  rw [hb] at hl
  have h3 := itB_walk (w := w) G (n - 1) hb h1
  have h4 := itB_short (w := w) G (n - 1) 0 hb h2
  generalize itB ls w (n - 1) (List.replicate n 0) = b at *
  have h5 := foldB_walk (w := w) G (rngI 0 ls.length) hl idx_in h3
  refine List.ext_getElem (roundB_len b) fun i i1 i2 => ?_
  have hi : (i : Int) < (n : Int) := by omega
  have h6 := foldB_mono (w := w) G (rngI 0 ls.length) hl idx_in (v := (i : Int)) (by omega) hi
  obtain ⟨x, p, hp, he⟩ := h5 (i : Int) (by omega) hi
  obtain ⟨q, q1, q2, q3⟩ := shorten G N p.length x (i : Int) p (Nat.le_refl _) (by omega) hi hp
  have hx : 0 ≤ x ∧ x < (n : Int) := by
    cases q with
    | nil => cases q1; omega
    | cons a q =>
      have := (G.rng a q1.1.1.1 q1.1.1.2).1
      rw [q1.1.2] at this
      exact this
  have h7 := h4 x (i : Int) q q1 (by omega) hx.1 hx.2 (by omega) hi
  have h8 : val (roundB ls w b) (i : Int) = wt w p := he
  have h9 : val b (i : Int) ≤ val (roundB ls w b) (i : Int) := h6
  have h10 : val (roundB ls w b) (i : Int) = val b (i : Int) := by omega
  rw [val_get i1, val_get i2] at h10
  exact h10
def Hd (ls : List Lk) (s : Int) (p : List Int) : Int := match p.getLast? with
  | none => s
  | some i => tgt ls i
def Mt4 (ls : List Lk) (s : Int) (p : List Int) : List Int := s :: p.map (tgt ls)
theorem hd_nil (s : Int) : Hd ls s [] = s := rfl
theorem hd_snoc (s : Int) (p : List Int) (i : Int) : Hd ls s (p ++ [i]) = tgt ls i := by unfold Hd; rw [List.getLast?_concat]
theorem mt_snoc (s : Int) (p : List Int) (i : Int) : Mt4 ls s (p ++ [i]) = Mt4 ls s p ++ [tgt ls i] := by unfold Mt4; rw [List.map_append]; rfl
/-- a path from s over greater events, none twice -/
structure PV (ls : List Lk) (s : Int) (p : List Int) : Prop where
  wk : Wk ls s p (Hd ls s p)
  nd : (Mt4 ls s p).Nodup
  gt : ∀ i ∈ p, s < tgt ls i
def Closes (ls : List Lk) (s : Int) (p : List Int) (i : Int) : Prop := (0 ≤ i ∧ i < (ls.length : Int)) ∧ src ls i = Hd ls s p ∧ tgt ls i = s
def Extends (ls : List Lk) (s : Int) (p : List Int) (i : Int) : Prop := (0 ≤ i ∧ i < (ls.length : Int)) ∧ src ls i = Hd ls s p ∧ s < tgt ls i ∧ tgt ls i ∉ Mt4 ls s p
theorem PV.nil (s : Int) : PV ls s [] := ⟨rfl, List.nodup_cons.mpr ⟨(fun h => nomatch h), List.nodup_nil⟩, fun _ h => nomatch h⟩
theorem PV.ext {s i : Int} {p : List Int} (h : PV ls s p) (e : Extends ls s p i) : PV ls s (p ++ [i]) := by
  refine ⟨?_, ?_, fun j hj => ?_⟩
  · rw [hd_snoc]
    exact wk_app.mpr ⟨_, h.wk, ⟨e.1, e.2.1⟩, rfl⟩
  · rw [mt_snoc]
    exact List.nodup_append.mpr ⟨h.nd, List.nodup_cons.mpr ⟨(fun h => nomatch h), List.nodup_nil⟩, fun a ha b hb e2 => by
      rw [List.mem_singleton.mp hb] at e2
      exact e.2.2.2 (e2 ▸ ha)⟩
  · rcases List.mem_append.mp hj with z | z
    · exact h.gt j z
    · rw [List.mem_singleton.mp z]; exact e.2.2.1
theorem wk_end : ∀ {p : List Int} {x y : Int}, Wk ls x p y → y = Hd ls x p
  | p, x, y, h => by
    by_cases hne : p = []
    · subst hne; exact Eq.symm h
    · obtain ⟨q, i, rfl⟩ : ∃ q i, p = q ++ [i] := ⟨p.dropLast, p.getLast hne, (List.dropLast_concat_getLast hne).symm⟩
      obtain ⟨z, _, _, h2⟩ := wk_app.mp h
      rw [hd_snoc]
      exact Eq.symm h2
theorem PV.pre {s i : Int} {p : List Int} (h : PV ls s (p ++ [i])) : PV ls s p ∧ Extends ls s p i := by
  obtain ⟨z, h1, h2, h3⟩ := wk_app.mp h.wk
  have ez := wk_end h1
  have hn := h.nd
  rw [mt_snoc, List.nodup_append] at hn
  refine ⟨⟨ez ▸ h1, hn.1, fun j hj => h.gt j (List.mem_append_left _ hj)⟩, h2.1, by rw [h2.2, ez], h.gt i (by simp), fun hm => hn.2.2 _ hm _ (List.mem_singleton.mpr rfl) rfl⟩
theorem PV.prefix {s : Int} : ∀ {q x : List Int}, PV ls s (x ++ q) → PV ls s x := fun {q} => by
  induction hk : q.length generalizing q with
  | zero =>
    intro x h
    rw [List.eq_nil_of_length_eq_zero hk, List.append_nil] at h
    exact h
  | succ k ih =>
    intro x h
    have hne : q ≠ [] := fun z => by rw [z] at hk; cases hk
    obtain ⟨q0, i, rfl⟩ : ∃ q0 i, q = q0 ++ [i] := ⟨q.dropLast, q.getLast hne, (List.dropLast_concat_getLast hne).symm⟩
    rw [← List.append_assoc] at h
    exact ih (by rw [List.length_append, List.length_singleton] at hk; omega) h.pre.1
theorem src_mt : ∀ {p : List Int} {s i y : Int}, Wk ls s (p ++ [i]) y → (p ++ [i]).map (src ls) = Mt4 ls s p
  | [], s, i, y, h => by
    have h2 := h.1.2
    show [src ls i] = [s]
    rw [h2]
  | j :: p, s, i, y, h => by
    have h2 := h.1.2
    have ih := src_mt (p := p) (i := i) h.2
    rw [List.cons_append, List.map_cons, ih, h2]
    rfl
/-- a ring from its least event -/
structure Ring (ls : List Lk) (s : Int) (p : List Int) : Prop where
  wk : Wk ls s p s
  ne : p ≠ []
  nd : (p.map (src ls)).Nodup
  lo : ∀ i ∈ p, s ≤ src ls i
theorem Ring.cut {s : Int} {p : List Int} (R : Ring ls s p) : ∃ q i, p = q ++ [i] ∧ PV ls s q ∧ Closes ls s q i := by
  obtain ⟨q, i, rfl⟩ : ∃ q i, p = q ++ [i] := ⟨p.dropLast, p.getLast R.ne, (List.dropLast_concat_getLast R.ne).symm⟩
  have hs := src_mt R.wk
  obtain ⟨z, h1, h2, h3⟩ := wk_app.mp R.wk
  have ez := wk_end h1
  have hn := R.nd
  rw [hs] at hn
  refine ⟨q, i, rfl, ⟨ez ▸ h1, hn, fun j hj => ?_⟩, h2.1, by rw [h2.2, ez], h3⟩
  have hm : tgt ls j ∈ q.map (tgt ls) := List.mem_map.mpr ⟨j, hj, rfl⟩
  have hm2 : tgt ls j ∈ (q ++ [i]).map (src ls) := by rw [hs]; exact List.mem_cons_of_mem _ hm
  obtain ⟨k, hk, e⟩ := List.mem_map.mp hm2
  have h4 := R.lo k hk
  have h5 : s ≠ tgt ls j := fun e => (List.nodup_cons.mp hn).1 (e ▸ hm)
  omega
theorem least_of (f : Int → Int) : ∀ {L : List Int}, L ≠ [] → ∃ k ∈ L, ∀ j ∈ L, f k ≤ f j
  | [], h => absurd rfl h
  | [a], _ => ⟨a, List.mem_cons_self, fun j hj => by rw [List.mem_singleton.mp hj]; exact Int.le_refl _⟩
  | a :: b :: L, _ => by
    obtain ⟨k, hk, hm⟩ := least_of f (L := b :: L) (by simp)
    by_cases c : f a ≤ f k
    · refine ⟨a, List.mem_cons_self, fun j hj => ?_⟩
      rcases List.mem_cons.mp hj with z | z
      · rw [z]; exact Int.le_refl _
      · have := hm j z; omega
    · refine ⟨k, List.mem_cons_of_mem _ hk, fun j hj => ?_⟩
      rcases List.mem_cons.mp hj with z | z
      · rw [z]; omega
      · exact hm j z
theorem ring_of {y : Int} {q : List Int} (h1 : q ≠ []) (h2 : Wk ls y q y) (h3 : (q.map (src ls)).Nodup) : ∃ s p, Ring ls s p ∧ p.Perm q := by
  obtain ⟨a, ha, hm⟩ := least_of (src ls) h1
  obtain ⟨A, B, rfl⟩ := List.append_of_mem ha
  obtain ⟨z, h4, h5, h6⟩ := wk_app.mp h2
  have hp : ((a :: B) ++ A).Perm (A ++ a :: B) := List.perm_append_comm
  refine ⟨src ls a, (a :: B) ++ A, ⟨?_, by simp, ((hp.map _).nodup_iff).mpr h3, fun i hi => hm i (hp.mem_iff.mp hi)⟩, hp⟩
  refine wk_app.mpr ⟨y, ⟨⟨h5.1, rfl⟩, h6⟩, ?_⟩
  rw [h5.2]
  exact h4
theorem wt_perm {p q : List Int} (h : p.Perm q) : wt w p = wt w q := by
  unfold wt
  induction h with
  | nil => rfl
  | cons x _ ih => rw [List.map_cons, List.map_cons, List.sum_cons, List.sum_cons, ih]
  | swap x y l => rw [List.map_cons, List.map_cons, List.map_cons, List.map_cons, List.sum_cons, List.sum_cons, List.sum_cons, List.sum_cons]; omega
  | trans _ _ h1 h2 => rw [h1, h2]
/-- no ring weighs more than nothing: no closed walk does -/
theorem nopos_of (h : ∀ s p, Ring ls s p → wt w p ≤ 0) : NoPos ls w := fun x p hp => by
  by_cases hne : p = []
  · subst hne; exact Int.le_refl _
  · refine Decidable.byContradiction fun hc => ?_
    obtain ⟨y, q, h1, h2, h3, h4⟩ := cyc_simple (w := w) p.length x p (Nat.le_refl _) hne hp (by omega)
    obtain ⟨s, r, R, e⟩ := ring_of h1 h2 h4
    have := h s r R
    rw [wt_perm e] at this
    omega
end
end DVR

namespace DVR
open PySem L2 DV DVL
section
variable {ls : List Lk} {n : Nat} {s : Int} {p : List Int}
def clB (ls : List Lk) (s : Int) (p : List Int) (i : Int) : Bool := decide (src ls i = Hd ls s p) && decide (tgt ls i = s)
def exB (ls : List Lk) (s : Int) (p : List Int) (i : Int) : Bool := decide (src ls i = Hd ls s p) && (decide (s < tgt ls i) && !(Mt4 ls s p).elem (tgt ls i))
/-- the rings that a path closes to, the paths that it goes on to -/
def cls (ls : List Lk) (s : Int) (p I : List Int) : List (List Int) := (I.filter (clB ls s p)).map fun i => p ++ [i]
def exs (ls : List Lk) (s : Int) (p I : List Int) : List (List Int) := (I.filter (exB ls s p)).map fun i => p ++ [i]
theorem clB_iff {i : Int} (hi : 0 ≤ i ∧ i < (ls.length : Int)) : clB ls s p i = true ↔ Closes ls s p i := by
  unfold clB Closes
  rw [Bool.and_eq_true, decide_eq_true_eq, decide_eq_true_eq]
  exact ⟨fun h => ⟨hi, h⟩, fun h => h.2⟩
theorem exB_iff {i : Int} (hi : 0 ≤ i ∧ i < (ls.length : Int)) : exB ls s p i = true ↔ Extends ls s p i := by
  unfold exB Extends
  rw [Bool.and_eq_true, Bool.and_eq_true, decide_eq_true_eq, decide_eq_true_eq, Bool.not_eq_true', ← Bool.not_eq_true, List.elem_iff]
  exact ⟨fun h => ⟨hi, h⟩, fun h => h.2⟩
/-- links that leave an event -/
def dg (ls : List Lk) (v : Int) : Nat := ((rngI 0 ls.length).filter fun i => decide (src ls i = v)).length
def prodN : List Nat → Nat
  | [] => 1
  | a :: L => a * prodN L
def Un (ls : List Lk) (n : Nat) (M : List Int) : Nat := prodN (((rngI 0 n).filter fun v => !M.elem v).map fun v => 1 + dg ls v)
def Ee (ls : List Lk) (n : Nat) (s : Int) (p : List Int) : Nat := (1 + dg ls (Hd ls s p)) * Un ls n (Mt4 ls s p)
/-- more than all walks from an event that meet none twice -/
def PT (ls : List Lk) (n : Nat) : Nat := prodN ((rngI 0 n).map fun v => 1 + dg ls v)
def pot (ls : List Lk) (n : Nat) (s : Int) (P : List (List Int)) : Nat := (P.map fun p => Ee ls n s p).sum
theorem prodN_pos : ∀ L : List Nat, (∀ x ∈ L, 1 ≤ x) → 1 ≤ prodN L
  | [], _ => Nat.le_refl _
  | a :: L, h => Nat.le_trans (prodN_pos L fun x hx => h x (List.mem_cons_of_mem _ hx)) (Nat.le_mul_of_pos_left _ (h a List.mem_cons_self))
theorem Un_pos (ls : List Lk) (n : Nat) (M : List Int) : 1 ≤ Un ls n M := prodN_pos _ fun x hx => by
  obtain ⟨v, _, rfl⟩ := List.mem_map.mp hx
  omega
theorem Ee_pos (ls : List Lk) (n : Nat) (s : Int) (p : List Int) : 1 ≤ Ee ls n s p := Nat.le_trans (Un_pos ls n _) (Nat.le_mul_of_pos_left _ (by omega))
theorem prod_le {f : Int → Nat} (b : Nat) (hb : ∀ k, 1 + f k ≤ b ^ f k) : ∀ L : List Int, prodN (L.map fun v => 1 + f v) ≤ b ^ (L.map f).sum
  | [] => Nat.le_refl _
  | v :: L => by
    rw [List.map_cons, List.map_cons, List.sum_cons, Nat.pow_add]
    exact Nat.mul_le_mul (hb v) (prod_le b hb L)
theorem sum_split (f : Int → Nat) : ∀ (L M : List Int) (v : Int), L.Nodup → v ∈ L → v ∉ M → prodN ((L.filter fun x => !M.elem x).map f) = f v * prodN ((L.filter fun x => !(M ++ [v]).elem x).map f)
  | x :: L, M, v, hn, hv, hm => by
    rw [List.nodup_cons] at hn
    have el : ∀ y, (M ++ [v]).elem y = (M.elem y || decide (y = v)) := fun y => by
      rw [List.elem_eq_mem, List.elem_eq_mem, Bool.eq_iff_iff, Bool.or_eq_true, decide_eq_true_eq, decide_eq_true_eq, decide_eq_true_eq, List.mem_append, List.mem_singleton]
    by_cases e : x = v
    · subst e
      have h1 : (!M.elem x) = true := by rw [List.elem_eq_mem, decide_eq_false hm]; rfl
      have h2 : ¬ (!(M ++ [x]).elem x) = true := by rw [el]; simp
      rw [List.filter_cons_of_pos (p := fun x => !M.elem x) h1, List.filter_cons_of_neg (p := fun y => !(M ++ [x]).elem y) h2, List.map_cons]
      show f x * prodN _ = _
      congr 3
      refine List.filter_congr fun y hy => ?_
      have : y ≠ x := fun e => hn.1 (e ▸ hy)
      rw [el]
      simp [this]
    · have hv2 := (List.mem_cons.mp hv).resolve_left fun z => e z.symm
      have ih := sum_split f L M v hn.2 hv2 hm
      have h3 : (!(M ++ [v]).elem x) = !M.elem x := by rw [el]; simp [e]
      by_cases c : (!M.elem x) = true
      · rw [List.filter_cons_of_pos (p := fun x => !M.elem x) c, List.filter_cons_of_pos (p := fun y => !(M ++ [v]).elem y) (by rw [h3]; exact c), List.map_cons, List.map_cons]
        show f x * prodN _ = f v * (f x * prodN _)
        rw [ih]
        ac_rfl
      · rw [List.filter_cons_of_neg (p := fun x => !M.elem x) c, List.filter_cons_of_neg (p := fun y => !(M ++ [v]).elem y) (by rw [h3]; exact c), ih]
theorem Ee_ext (G : Ln n ls) {i : Int} (h : Extends ls s p i) : Ee ls n s (p ++ [i]) = Un ls n (Mt4 ls s p) := by
  unfold Ee Un
  rw [hd_snoc, mt_snoc]
  have hr := (G.rng i h.1.1 h.1.2).2
  exact (sum_split (fun v => 1 + dg ls v) (rngI 0 n) (Mt4 ls s p) (tgt ls i) (rngI_nodup 0 n) ((mem_rngI _ _ _).mpr (by omega)) h.2.2.2).symm
theorem pot_app (P Q : List (List Int)) : pot ls n s (P ++ Q) = pot ls n s P + pot ls n s Q := by
  unfold pot
  rw [List.map_append, List.sum_append]
theorem pot_exs (G : Ln n ls) : ∀ I : List Int, (∀ i ∈ I, 0 ≤ i ∧ i < (ls.length : Int)) → pot ls n s (exs ls s p I) = (I.filter (exB ls s p)).length * Un ls n (Mt4 ls s p)
  | [], _ => by show 0 = 0 * _; rw [Nat.zero_mul]
  | i :: I, h => by
    have ih := pot_exs G I fun k hk => h k (List.mem_cons_of_mem _ hk)
    have hi := h i List.mem_cons_self
    unfold exs at *
    by_cases c : exB ls s p i = true
    · rw [List.filter_cons_of_pos c, List.map_cons, List.length_cons]
      have e : pot ls n s ((p ++ [i]) :: (I.filter (exB ls s p)).map fun i => p ++ [i]) = Ee ls n s (p ++ [i]) + pot ls n s ((I.filter (exB ls s p)).map fun i => p ++ [i]) := rfl
      rw [e, ih, Ee_ext G ((exB_iff hi).mp c), Nat.add_mul, Nat.one_mul]
      omega
    · rw [List.filter_cons_of_neg c]
      exact ih
theorem cl_ex_le : ∀ I : List Int, (I.filter (clB ls s p)).length + (I.filter (exB ls s p)).length ≤ (I.filter fun i => decide (src ls i = Hd ls s p)).length
  | [] => Nat.le_refl _
  | i :: I => by
    have ih := cl_ex_le I
    by_cases c : src ls i = Hd ls s p
    · rw [List.filter_cons_of_pos (p := fun i => decide (src ls i = Hd ls s p)) (decide_eq_true c), List.length_cons]
      by_cases a : clB ls s p i = true
      · have b : ¬ exB ls s p i = true := fun b => by
          unfold clB at a
          unfold exB at b
          simp only [Bool.and_eq_true, decide_eq_true_eq] at a b
          omega
        rw [List.filter_cons_of_pos a, List.filter_cons_of_neg b, List.length_cons]
        omega
      · rw [List.filter_cons_of_neg a]
        have := List.length_filter_le (exB ls s p) [i]
        by_cases b : exB ls s p i = true
        · rw [List.filter_cons_of_pos b, List.length_cons]; omega
        · rw [List.filter_cons_of_neg b]; omega
    · have a : ¬ clB ls s p i = true := fun a => by
        unfold clB at a
        simp only [Bool.and_eq_true, decide_eq_true_eq] at a
        exact c a.1
      have b : ¬ exB ls s p i = true := fun b => by
        unfold exB at b
        simp only [Bool.and_eq_true, decide_eq_true_eq] at b
        exact c b.1
      rw [List.filter_cons_of_neg a, List.filter_cons_of_neg b, List.filter_cons_of_neg (p := fun i => decide (src ls i = Hd ls s p)) (by rw [decide_eq_true_eq]; exact c)]
      exact ih
theorem pot_step (G : Ln n ls) : 1 + (cls ls s p (rngI 0 ls.length)).length + pot ls n s (exs ls s p (rngI 0 ls.length)) ≤ Ee ls n s p := by
  rw [pot_exs G _ idx_in]
  unfold cls
  rw [List.length_map]
  have h1 := cl_ex_le (ls := ls) (s := s) (p := p) (rngI 0 ls.length)
  have h2 : ((rngI 0 ls.length).filter fun i => decide (src ls i = Hd ls s p)).length = dg ls (Hd ls s p) := rfl
  rw [h2] at h1
  unfold Ee
  have h3 := Un_pos ls n (Mt4 ls s p)
  generalize dg ls (Hd ls s p) = d at *
  generalize Un ls n (Mt4 ls s p) = u at *
  generalize ((rngI 0 ls.length).filter (clB ls s p)).length = c at *
  generalize ((rngI 0 ls.length).filter (exB ls s p)).length = x at *
  have h6 : (c + x) * u ≤ d * u := Nat.mul_le_mul_right _ h1
  have h7 : c * 1 ≤ c * u := Nat.mul_le_mul_left _ h3
  rw [Nat.add_mul] at h6
  rw [Nat.add_mul]
  omega
theorem one_sumN : ∀ (n : Nat) (x : Int), 0 ≤ x → x < (n : Int) → ((rngI 0 n).map fun m => if x = m then 1 else 0).sum = 1
  | 0, x, h0, h1 => by omega
  | n + 1, x, h0, h1 => by
    rw [rng_snoc, List.map_append, List.sum_append]
    by_cases e : x = (n : Int)
    · have z : ((rngI 0 n).map fun m => if x = m then 1 else 0) = (rngI 0 n).map fun _ => (0 : Nat) := List.map_congr_left fun m hm => by
        have := (mem_rngI _ _ _).mp hm
        rw [if_neg (by omega)]
      have z2 : ∀ K : List Int, (K.map fun _ => (0 : Nat)).sum = 0 := fun K => by
        induction K with
        | nil => rfl
        | cons a K ih => rw [List.map_cons, List.sum_cons, ih]
      rw [z, z2]
      simp [e]
    · rw [one_sumN n x h0 (by omega)]
      simp [e]
theorem map_addN (f g : Int → Nat) : ∀ L : List Int, (L.map fun m => f m + g m).sum = (L.map f).sum + (L.map g).sum
  | [] => rfl
  | a :: L => by
    rw [List.map_cons, List.map_cons, List.map_cons, List.sum_cons, List.sum_cons, List.sum_cons, map_addN f g L]
    omega
theorem dg_sum (n : Nat) : ∀ I : List Int, (∀ i ∈ I, 0 ≤ src ls i ∧ src ls i < (n : Int)) → ((rngI 0 n).map fun v => (I.filter fun i => decide (src ls i = v)).length).sum = I.length
  | [], _ => by
    have : ∀ K : List Int, (K.map fun v => (([] : List Int).filter fun i => decide (src ls i = v)).length).sum = 0 := fun K => by
      induction K with
      | nil => rfl
      | cons a K ih => rw [List.map_cons, List.sum_cons, ih]; rfl
    exact this _
  | i :: I, h => by
    have h1 := dg_sum n I fun k hk => h k (List.mem_cons_of_mem _ hk)
    have h2 := h i List.mem_cons_self
    have e : ((rngI 0 n).map fun v => ((i :: I).filter fun i => decide (src ls i = v)).length) = (rngI 0 n).map fun v => (if src ls i = v then 1 else 0) + (I.filter fun i => decide (src ls i = v)).length := List.map_congr_left fun v _ => by
      by_cases c : src ls i = v
      · rw [List.filter_cons_of_pos (p := fun i => decide (src ls i = v)) (decide_eq_true c), if_pos c, List.length_cons]
        omega
      · rw [List.filter_cons_of_neg (p := fun i => decide (src ls i = v)) (by rw [decide_eq_true_eq]; exact c), if_neg c]
        omega
    rw [e, map_addN, one_sumN _ _ h2.1 h2.2, h1, List.length_cons]
    omega
theorem Ee_nil (h0 : 0 ≤ s) (h1 : s < (n : Int)) : Ee ls n s [] = PT ls n := by
  unfold Ee Un PT
  rw [hd_nil]
  have h2 := sum_split (fun v => 1 + dg ls v) (rngI 0 n) [] s (rngI_nodup 0 n) ((mem_rngI _ _ _).mpr (by omega)) (fun h => nomatch h)
  have h3 : (Mt4 ls s []) = [] ++ [s] := rfl
  rw [h3, ← h2]
  have h4 : ((rngI 0 n).filter fun x => !([] : List Int).elem x) = rngI 0 n := List.filter_eq_self.mpr fun _ _ => rfl
  rw [h4]
theorem dg_all (G : Ln n ls) : ((rngI 0 n).map (dg ls)).sum = ls.length := by
  have h5 := dg_sum (ls := ls) n (rngI 0 ls.length) fun i hi => (G.rng i (idx_in i hi).1 (idx_in i hi).2).1
  rw [rngI_len] at h5
  exact h5
theorem PT_le (G : Ln n ls) : PT ls n ≤ 2 ^ ls.length := by
  have h := prod_le (f := dg ls) 2 (fun k => by
    have := Nat.lt_two_pow_self (n := dg ls k)
    omega) (rngI 0 n)
  rw [dg_all G] at h
  exact h
/-- a closed walk that leaves no event twice -/
def Cyc (ls : List Lk) (q : List Int) : Prop := q ≠ [] ∧ ∃ t, Wk ls t q t ∧ (q.map (src ls)).Nodup
/-- what waits, what is found, from one event -/
structure DF (ls : List Lk) (n : Nat) (s : Int) (Q0 P Q : List (List Int)) : Prop where
  pv : ∀ p ∈ P, PV ls s p
  cyc : ∀ q ∈ Q, Cyc ls q
  mon : ∀ q ∈ Q0, q ∈ Q
  cpl : ∀ p, PV ls s p → (∃ x ∈ P, ∃ r, p = x ++ r) ∨ ∀ i, Closes ls s p i → p ++ [i] ∈ Q
  bud : ∃ k, Q.length + pot ls n s P + k = Q0.length + PT ls n
theorem DF.start (h0 : 0 ≤ s) (h1 : s < (n : Int)) {Q0 : List (List Int)} (h : ∀ q ∈ Q0, Cyc ls q) : DF ls n s Q0 [[]] Q0 := by
  refine ⟨fun p hp => ?_, h, fun q hq => hq, fun p _ => .inl ⟨[], List.mem_singleton.mpr rfl, p, rfl⟩, 0, ?_⟩
  · rw [List.mem_singleton.mp hp]; exact PV.nil s
  · show Q0.length + (Ee ls n s [] + 0) + 0 = _
    rw [Ee_nil h0 h1]
    omega
theorem DF.next (G : Ln n ls) {Q0 P Q : List (List Int)} {p : List Int} (D : DF ls n s Q0 (P ++ [p]) Q) : DF ls n s Q0 (P ++ exs ls s p (rngI 0 ls.length)) (Q ++ cls ls s p (rngI 0 ls.length)) := by
  have hp := D.pv p (by simp)
  have hcl : ∀ {q : List Int}, q ∈ cls ls s p (rngI 0 ls.length) ↔ ∃ i, Closes ls s p i ∧ q = p ++ [i] := fun {q} => by
    unfold cls
    rw [List.mem_map]
    constructor
    · rintro ⟨i, hi, rfl⟩
      obtain ⟨h1, h2⟩ := List.mem_filter.mp hi
      exact ⟨i, (clB_iff (idx_in i h1)).mp h2, rfl⟩
    · rintro ⟨i, hi, rfl⟩
      exact ⟨i, List.mem_filter.mpr ⟨(mem_rngI _ _ _).mpr (by have := hi.1; omega), (clB_iff hi.1).mpr hi⟩, rfl⟩
  have hex : ∀ {q : List Int}, q ∈ exs ls s p (rngI 0 ls.length) ↔ ∃ i, Extends ls s p i ∧ q = p ++ [i] := fun {q} => by
    unfold exs
    rw [List.mem_map]
    constructor
    · rintro ⟨i, hi, rfl⟩
      obtain ⟨h1, h2⟩ := List.mem_filter.mp hi
      exact ⟨i, (exB_iff (idx_in i h1)).mp h2, rfl⟩
    · rintro ⟨i, hi, rfl⟩
      exact ⟨i, List.mem_filter.mpr ⟨(mem_rngI _ _ _).mpr (by have := hi.1; omega), (exB_iff hi.1).mpr hi⟩, rfl⟩
  refine ⟨fun x hx => ?_, fun q hq => ?_, fun q hq => List.mem_append_left _ (D.mon q hq), fun x hx => ?_, ?_⟩
  · rcases List.mem_append.mp hx with z | z
    · exact D.pv x (List.mem_append_left _ z)
    · obtain ⟨i, hi, rfl⟩ := hex.mp z
      exact hp.ext hi
  · rcases List.mem_append.mp hq with z | z
    · exact D.cyc q z
    · obtain ⟨i, hi, rfl⟩ := hcl.mp z
      have hw : Wk ls s (p ++ [i]) s := wk_app.mpr ⟨_, hp.wk, ⟨hi.1, hi.2.1⟩, hi.2.2⟩
      exact ⟨by simp, s, hw, by rw [src_mt hw]; exact hp.nd⟩
  · rcases D.cpl x hx with ⟨y, hy, r, e⟩ | h
    · rcases List.mem_append.mp hy with z | z
      · exact .inl ⟨y, List.mem_append_left _ z, r, e⟩
      · rw [List.mem_singleton.mp z] at e
        cases r with
        | nil =>
          rw [List.append_nil] at e
          subst e
          exact .inr fun i hi => List.mem_append_right _ (hcl.mpr ⟨i, hi, rfl⟩)
        | cons i r =>
          have e2 : x = (p ++ [i]) ++ r := by rw [e, List.append_assoc]; rfl
          rw [e2] at hx
          exact .inl ⟨p ++ [i], List.mem_append_right _ (hex.mpr ⟨i, hx.prefix.pre.2, rfl⟩), r, e2⟩
    · exact .inr fun i hi => List.mem_append_left _ (h i hi)
  · obtain ⟨k, hk⟩ := D.bud
    have h1 := pot_step (ls := ls) (n := n) (s := s) (p := p) G
    rw [pot_app] at hk ⊢
    have h2 : pot ls n s [p] = Ee ls n s p + 0 := rfl
    rw [List.length_append]
    exact ⟨k + (Ee ls n s p - (cls ls s p (rngI 0 ls.length)).length - pot ls n s (exs ls s p (rngI 0 ls.length))), by omega⟩
/-- the steps that are left -/
theorem DF.left (G : Ln n ls) {Q0 P Q : List (List Int)} {p : List Int} (D : DF ls n s Q0 (P ++ [p]) Q) : (Q ++ cls ls s p (rngI 0 ls.length)).length + pot ls n s (P ++ exs ls s p (rngI 0 ls.length)) + 1 ≤ Q.length + pot ls n s (P ++ [p]) := by
  have h1 := pot_step (ls := ls) (n := n) (s := s) (p := p) G
  have h2 : pot ls n s [p] = Ee ls n s p + 0 := rfl
  rw [pot_app, pot_app, List.length_append]
  omega
theorem DF.fin {Q0 Q : List (List Int)} (D : DF ls n s Q0 [] Q) : (∀ q ∈ Q, Cyc ls q) ∧ (∀ q ∈ Q0, q ∈ Q) ∧ (∀ p, Ring ls s p → p ∈ Q) ∧ Q.length ≤ Q0.length + PT ls n := by
  refine ⟨D.cyc, D.mon, fun p R => ?_, ?_⟩
  · obtain ⟨q, i, rfl, h1, h2⟩ := R.cut
    rcases D.cpl q h1 with ⟨x, hx, _⟩ | h
    · exact nomatch hx
    · exact h i h2
  · obtain ⟨k, hk⟩ := D.bud
    omega
end
end DVR

namespace DVL
open PySem L2 DV
local macro_rules
  | `(tactic| get_elem_tactic_trivial) => `(tactic| first
    | (simp only [List.set_cons_succ, List.set_cons_zero, DV.startE, DV.lawE, DV.toK, DV.lockE, DV.wipeE, List.map_cons, List.map_nil, List.length_cons, List.length_nil, List.replicate_zero, List.replicate_succ, Nat.reduceSub, Nat.reduceAdd, List.append_nil, List.cons_append, List.nil_append]; rfl)
    | exact rfl)
local macro_rules
  | `(tactic| infer_instance) => `(tactic| first
    | with_reducible refine DV.w_cons ?_
    | with_reducible refine DV.w_var (by with_unfolding_all exact rfl) ?_
    | with_reducible refine DV.w_c ?_
    | with_reducible refine DV.w_nil ?_
    | with_reducible refine DV.w_e2 ?_
    | with_reducible refine DV.w_seq ?_
    | with_reducible refine DV.w_seqN ?_
    | with_reducible refine DV.w_seqR ?_
    | with_reducible refine DV.w_seqB ?_
    | with_reducible refine DV.w_seqC ?_
    | with_reducible refine DV.w_call ?_
    | with_reducible refine DV.w_fn ?_
    | with_reducible refine DV.w_f1 ?_
    | with_reducible refine DV.w_f2 ?_
    | with_reducible refine DV.w_f3 ?_
    | with_reducible refine DV.w_f4 ?_
    | with_reducible refine DV.w_f5 ?_
    | with_reducible refine DV.w_f6 ?_
    | with_reducible refine DV.w_set ?_
    | with_reducible refine DV.w_setApp ?_
    | with_reducible refine DV.w_setX (by with_unfolding_all exact rfl) (by with_unfolding_all (simp only [List.set_cons_succ, List.set_cons_zero]; rfl)) ?_
    | with_reducible refine DV.w_rt ?_
    | with_reducible refine DV.w_rtD ?_
    | with_reducible refine DV.w_rtN ?_
    | with_reducible refine DV.w_rtV (by with_unfolding_all exact rfl) ?_
    | with_reducible refine DV.w_if ?_
    | with_reducible refine DV.w_drop ?_
    | with_reducible refine DV.w_nop ?_
    | with_reducible refine DV.w_T ?_
    | with_reducible refine DV.w_B ?_
    | with_reducible refine DV.w_not ?_
    | with_reducible refine DV.w_and ?_
    | with_reducible refine DV.w_or ?_
    | with_reducible refine DV.w_ifT ?_
    | with_reducible refine DV.w_ifF ?_
    | with_reducible refine DV.w_ifNT ?_
    | with_reducible refine DV.w_ifNF ?_
    | with_reducible refine DV.w_stup ?_
    | with_reducible refine DV.w_stupD (by with_unfolding_all (simp only [DV.wipeE, DV.gTupF, DV.gMore, DV.gNone, DV.gNm, List.set_cons_succ, List.set_cons_zero, List.length]; rfl)) ?_
    | with_reducible refine DV.w_aug (by with_unfolding_all exact rfl) ?_
    | with_reducible refine DV.w_I ?_
    | with_reducible refine DV.w_app (by with_unfolding_all exact rfl) (by simp only [List.length_map]; omega) ?_
    | with_reducible refine DV.w_D ?_
    | with_reducible refine DV.w_for ?_
    | with_reducible refine DV.w_lc ?_
    | with_reducible refine DV.w_par ?_
    | with_reducible refine DV.w_par3 ?_
    | with_reducible refine DV.w_par4 ?_
    | with_reducible refine DV.w_parX (by with_unfolding_all exact rfl) (by with_unfolding_all exact rfl) (by with_unfolding_all (simp only [List.set_cons_succ, List.set_cons_zero]; rfl)) ?_
    | with_reducible refine DV.w_par3X (by with_unfolding_all exact rfl) (by with_unfolding_all exact rfl) (by with_unfolding_all exact rfl) (by with_unfolding_all (simp only [List.set_cons_succ, List.set_cons_zero]; rfl)) ?_
    | with_reducible refine DV.w_par4X (by with_unfolding_all exact rfl) (by with_unfolding_all exact rfl) (by with_unfolding_all exact rfl) (by with_unfolding_all exact rfl) (by with_unfolding_all (simp only [List.set_cons_succ, List.set_cons_zero]; rfl)) ?_
    | with_reducible refine DV.w_tup ?_
    | with_reducible refine DV.w_lst ?_
    | with_reducible refine DV.w_tu (by with_unfolding_all exact rfl) (by with_unfolding_all exact Nat.le_of_ble_eq_true rfl) ?_
    | with_reducible refine DV.w_ls (by with_unfolding_all exact rfl) (by with_unfolding_all exact Nat.le_of_ble_eq_true rfl) ?_
    | with_reducible refine DV.w_neg ?_
    | with_reducible refine DV.w_ifB ?_
    | with_reducible refine DV.w_ifE ?_
    | with_reducible refine DV.w_notB ?_
    | with_reducible refine DV.w_tt ?_
    | with_reducible refine DV.w_ch ?_
    | with_reducible refine DV.w_add ?_
    | with_reducible refine DV.w_sub ?_
    | with_reducible refine DV.w_mul (by first | omega | (left; constructor <;> omega) | (right; constructor <;> omega)) ?_
    | with_reducible refine DV.w_mod (by omega) ?_
    | with_reducible refine DV.w_div (by omega) ?_
    | with_reducible refine DV.w_lt ?_
    | with_reducible refine DV.w_le ?_
    | with_reducible refine DV.w_gt ?_
    | with_reducible refine DV.w_ge ?_
    | with_reducible refine DV.w_ltA ?_
    | with_reducible refine DV.w_leA ?_
    | with_reducible refine DV.w_gtA ?_
    | with_reducible refine DV.w_geA ?_
    | with_reducible refine DV.w_eq ?_
    | with_reducible refine DV.w_ne ?_
    | with_reducible refine DV.w_eqB ?_
    | with_reducible refine DV.w_neB ?_
    | with_reducible refine DV.w_eqN ?_
    | with_reducible refine DV.w_neN ?_
    | with_reducible refine DV.w_eqN0 ?_
    | with_reducible refine DV.w_neN0 ?_
    | with_reducible refine DV.w_in ?_
    | with_reducible refine DV.w_inB ?_
    | with_reducible refine DV.w_notIn ?_
    | with_reducible refine DV.w_notInB ?_
    | with_reducible refine DV.w_ix0 ?_
    | with_reducible refine DV.w_ix1 ?_
    | with_reducible refine DV.w_ix (by omega) ?_
    | with_reducible refine DV.w_ixB (by omega) ?_
    | with_reducible refine DV.w_len ?_
    | with_reducible refine DV.w_lenB ?_
    | with_reducible refine DV.w_lenN ?_
    | with_reducible refine DV.w_lenM ?_
    | with_reducible refine DV.w_lenMB ?_
    | with_reducible refine DV.w_lenMN ?_
    | with_reducible refine DV.w_lenD ?_
    | with_reducible refine DV.w_lenDB ?_
    | with_reducible refine DV.w_lenDN ?_
    | with_reducible refine DV.w_tupN ?_
    | with_reducible refine DV.w_tupB ?_
    | with_reducible refine DV.w_tupD ?_
    | with_reducible refine DV.w_lstD ?_
    | with_reducible refine DV.w_lstB ?_
    | with_reducible refine DV.w_lstN ?_
    | with_reducible refine DV.w_sum ?_
    | with_reducible refine DV.w_sumN ?_
    | with_reducible refine DV.w_sumB ?_
    | with_reducible refine DV.w_max2 ?_
    | with_reducible refine DV.w_min2 ?_
    | with_reducible refine DV.w_int ?_
    | with_reducible refine DV.w_sort ?_
    | with_reducible refine DV.w_sortN ?_
    | with_reducible refine DV.w_sortB ?_
    | with_reducible refine DV.w_rep (by omega) ?_
    | with_reducible refine DV.w_repN (by omega) ?_
    | with_reducible refine DV.w_moveG (by with_unfolding_all exact rfl) (by with_unfolding_all (simp only [List.set_cons_succ, List.set_cons_zero]; rfl)) ?_
    | with_reducible refine DV.w_moveO (by with_unfolding_all exact rfl) (by with_unfolding_all (simp only [List.set_cons_succ, List.set_cons_zero]; rfl)) ?_
    | with_reducible refine DV.w_moveD (by with_unfolding_all exact rfl) (by with_unfolding_all (simp only [List.set_cons_succ, List.set_cons_zero]; rfl)) ?_
    | with_reducible refine DV.w_catTI (by (try simp only [List.length_append, List.length_take, List.length_drop, List.length_cons, List.length_nil]); omega) ?_
    | with_reducible refine DV.w_catT1 (by (try simp only [List.length_append, List.length_take, List.length_drop, List.length_cons, List.length_nil]); omega) ?_
    | with_reducible refine DV.w_listG ?_
    | with_reducible refine DV.w_sortK ?_
    | with_reducible refine DV.w_colS ?_
    | with_reducible refine DV.w_itT ?_
    | with_reducible refine DV.w_itB ?_
    | with_reducible refine DV.w_itN ?_
    | with_reducible refine DV.w_colR ?_
    | with_reducible refine DV.w_colRN (by omega) ?_
    | with_reducible refine DV.w_ext (by with_unfolding_all exact rfl) ?_
    | with_reducible refine DV.w_lc2 ?_
    | with_reducible refine DV.w_isT ?_
    | with_reducible refine DV.w_isNN ?_
    | with_reducible refine DV.w_isNI ?_
    | with_reducible refine DV.w_isNT ?_
    | with_reducible refine DV.w_ntNN ?_
    | with_reducible refine DV.w_ntNI ?_
    | with_reducible refine DV.w_ntNT ?_
    | with_reducible refine DV.w_repND (by omega) ?_
    | with_reducible refine DV.w_put (by with_unfolding_all exact rfl) ?_
    | with_reducible refine DV.w_putI (by (try simp only [List.length_set, List.length_replicate, List.length_map]); omega) ?_
    | with_reducible refine DV.w_eqB0 ?_
    | with_reducible refine DV.w_neB0 ?_
    | with_reducible refine DV.w_eqBB ?_
    | with_reducible refine DV.w_neBB ?_
    | with_reducible refine DV.w_eqNB ?_
    | with_reducible refine DV.w_neNB ?_
    | with_reducible refine DV.w_eqBN ?_
    | with_reducible refine DV.w_neBN ?_
    | with_reducible refine DV.w_eqT0 ?_
    | with_reducible refine DV.w_neT0 ?_
    | with_reducible refine DV.w_eqT ?_
    | with_reducible refine DV.w_neT ?_
    | with_reducible refine DV.w_gget ?_
    | with_reducible refine DV.w_dc ?_
    | with_reducible refine DV.w_dcN ?_
    | with_reducible refine DV.w_G ?_
    | with_reducible refine DV.w_gput ?_
    | with_reducible refine DV.w_gnew ?_
    | with_reducible refine DV.w_g1 ?_
    | with_reducible refine DV.w_ret ?_
    | with_reducible refine DV.w_slice ?_
    | with_reducible refine DV.w_part ?_
    | with_reducible refine DV.w_slToI (by omega) ?_
    | with_reducible refine DV.w_slFromI (by omega) ?_
    | with_reducible refine DV.w_slToBI (by omega) ?_
    | with_reducible refine DV.w_slFromBI (by omega) ?_
    | with_reducible refine DV.w_star ?_
    | with_reducible refine DV.w_starT ?_
    | with_reducible refine DV.w_starB ?_
    | with_reducible refine DV.w_starN ?_
    | with_reducible refine DV.w_ixR (by omega) ?_
    | with_reducible refine DV.w_ixRB (by omega) ?_
    | with_reducible refine DV.w_lrg ?_
    | with_reducible refine DV.w_trg ?_
    | with_reducible refine DV.w_rg (by omega) ?_
    | with_reducible refine DV.w_enum ?_
    | with_reducible refine DV.w_zip ?_
    | with_reducible refine DV.w_zip3 ?_
    | with_reducible refine DV.w_step ?_
    | with_reducible refine DV.w_stepB (by omega) ?_
    | with_reducible refine DV.w_srev ?_
    | with_reducible refine DV.w_srevT ?_
    | with_reducible refine DV.w_isTT ?_
    | with_reducible refine DV.w_ntTT ?_
    | with_reducible refine DV.w_isFT ?_
    | with_reducible refine DV.w_ntFT ?_
    | with_reducible refine DV.w_isTF ?_
    | with_reducible refine DV.w_ntTF ?_
    | with_reducible refine DV.w_isFF ?_
    | with_reducible refine DV.w_ntFF ?_
    | with_reducible refine DV.w_ixS (by omega) ?_
    | with_reducible refine DV.w_ix2 ?_
    | with_reducible refine DV.w_gget2 ?_
    | with_reducible refine DV.w_notInTs ?_
    | with_reducible refine DV.w_inTs ?_
    | with_reducible refine DV.w_inTsN ?_
    | with_reducible refine DV.w_sset ?_
    | with_reducible refine DV.w_ssetU (by omega) (by assumption) ?_
    | with_reducible refine DV.w_met ?_
    | with_reducible refine DV.w_itL ?_
    | with_reducible refine DV.w_two ?_
    | with_reducible refine DV.w_twoX ?_
    | with_reducible refine DV.w_neS ?_
    | with_reducible refine DV.w_eqS ?_
    | with_reducible refine DV.w_rev ?_
    | with_reducible refine DV.w_revN ?_
    | with_reducible refine DV.w_lset ?_
    | with_reducible refine DV.w_isNL ?_
    | with_reducible refine DV.w_isBL ?_
    | with_reducible refine DV.w_ntNL ?_
    | with_reducible refine DV.w_ntBL ?_
    | with_reducible refine DV.w_abs ?_
    | with_reducible refine DV.w_neBl ?_
    | with_reducible refine DV.w_eqBl ?_
    | with_reducible refine DV.w_eqIP ?_
    | with_reducible refine DV.w_neIP ?_
    | with_reducible refine DV.w_ix3 ?_
    | with_reducible refine DVR.w_neW ?_
    | with_reducible refine DVR.w_ixL (by omega) ?_
    | with_reducible refine DV.w_dcomp ?_
    | with_reducible refine DV.w_intB ?_
    | with_reducible refine DV.w_augIx (by with_unfolding_all exact rfl) ?_
    | with_reducible refine DV.w_inN ?_
    | with_reducible refine DV.w_notInN ?_
    | with_reducible refine DV.w_srcE ?_
    | with_reducible refine DV.w_srcV (by with_unfolding_all exact rfl) ?_
    | with_reducible refine DV.w_src (by with_unfolding_all exact rfl) ?_
    | with_reducible refine DV.w_rng1 ?_
    | with_reducible refine DV.w_rng2 ?_
    | with_reducible refine DV.w_rng2I (by omega) ?_
    | with_reducible refine DV.w_rngN (by omega) ?_
    | with_reducible refine DV.w_rngI (by omega) ?_
    | with_reducible refine DV.w_loopN ?_
    | with_reducible refine DV.w_loopC ?_
    | with_reducible refine DV.w_loopB ?_
    | with_reducible refine DV.w_loopR ?_
    | with_reducible refine DV.w_runN ?_
    | with_reducible refine DV.w_runR ?_
    | with_reducible refine DV.w_tg (by with_unfolding_all (simp only [DV.lockE, DV.unlockE, List.getElem?_cons_succ, List.getElem?_cons_zero, DV.wipeE, DV.gTupF, DV.gMore, DV.gNone, DV.gNm, List.set_cons_succ, List.set_cons_zero, List.length]; rfl)) ?_)
def g_rat : DV.Env → M Out :=
  (sSeq (sPar 2 3 (aCons (eCall gAbs (aCons (eVar 0) aNil)) (aCons (eVar 1) aNil)))
  (sSeq (wloopF (eT (e2 gNe (eVar 3) (eC (.int 0)))) (sPar 2 3 (aCons (eVar 3) (aCons (e2 gMod (eVar 2) (eVar 3)) aNil))) 100000)
  (sRet (eIf (eT (e2 gGt (eVar 2) (eC (.int 0)))) (eTup (aCons (e2 gFdiv (eVar 0) (eVar 2)) (aCons (e2 gFdiv (eVar 1) (eVar 2)) aNil))) (eTup (aCons (eC (.int 0)) (aCons (eC (.int 1)) aNil)))))))
def m_rat : List RV → M RV := runDef 4 g_rat
/-- in lowest terms -/
def rtT (a b : Int) : Int := a / (Int.gcd a b : Int)
def rtB (a b : Int) : Int := b / (Int.gcd a b : Int)
def rtD (a b : Int) : D := .tuple [.int (rtT a b), .int (rtB a b)]
theorem rat_gives (a b : Int) (h0 : 0 < b) (h1 : b < 90000) : DV.Gives (m_rat [.d (.int a), .d (.int b)]) fun r => r = .d (rtD a b) := by
  unfold m_rat
  refine DV.w_run (by get_elem_tactic_trivial) ?_
  unfold g_rat
  repeat infer_instance
  refine ⟨.d (.int (a.natAbs : Int)), ?_, ?_⟩
  · show some (RV.d (.int (if a < 0 then -a else a))) = _
    congr 3
    split <;> omega
  repeat infer_instance
  refine DV.w_while (fun k ρ => ∃ x y : Nat, ρ = [some (.d (.int a)), some (.d (.int b)), some (.d (.int (x : Nat))), some (.d (.int (y : Nat)))] ∧ y ≤ k ∧ Nat.gcd x y = Int.gcd a b) b.toNat 100000 (by omega) ⟨a.natAbs, b.toNat, by
    have : ((b.toNat : Nat) : Int) = b := by omega
    rw [this], Nat.le_refl _, by
    unfold Int.gcd
    congr 1
    omega⟩ ?_
  rintro k ρ ⟨x, y, rfl, hy, hg⟩
  repeat infer_instance
  refine DV.w_ndec (fun hne => ?_) (fun he => ?_)
  · have hy0 : 0 < y := by omega
    obtain ⟨j, rfl⟩ : ∃ j, k = j + 1 := ⟨k - 1, by omega⟩
    refine ⟨j, rfl, ?_⟩
    repeat infer_instance
    refine ⟨y, x % y, by rw [Int.natCast_emod], by have := Nat.mod_lt x hy0; omega, ?_⟩
    rw [← hg, Nat.gcd_comm x y, Nat.gcd_rec y x, Nat.gcd_comm]
  · have hy0 : y = 0 := by omega
    subst hy0
    rw [Nat.gcd_zero_right] at hg
    have hgp : 0 < Int.gcd a b := Int.gcd_pos_of_ne_zero_right _ (by omega)
    have hgl : Int.gcd a b ≤ b.natAbs := Nat.le_of_dvd (by omega) (Int.gcd_dvd_natAbs_right a b)
    subst hg
    repeat infer_instance
    refine DV.w_decT (by omega) ?_
    repeat infer_instance
    rfl
theorem rt_pos {a b : Int} (h0 : 0 < b) : 0 < (Int.gcd a b : Int) := by
  have := Int.gcd_pos_of_ne_zero_right a (show b ≠ 0 by omega)
  omega
theorem rtT_mul (a b : Int) : rtT a b * (Int.gcd a b : Int) = a := Int.ediv_mul_cancel (Int.gcd_dvd_left ..)
theorem rtB_mul (a b : Int) : rtB a b * (Int.gcd a b : Int) = b := Int.ediv_mul_cancel (Int.gcd_dvd_right ..)
end DVL

namespace DV
open PySem L2
section
variable {P : RV → Prop} {f h : Env → DV.M RV} {ρ ρ' : Env} {Q : Out → Prop} {α : Type} {mk : α → D}
theorem w_popG {i : Nat} {hh : D → Env → Option Env} {L : List α} {a : α} (e1 : sApp.own? ρ i = some ((L ++ [a]).map mk)) (e2 : hh (mk a) (ρ.set i (some (.o (L.map mk)))) = some ρ') (p : Q (.nx ρ')) : Gives (sPopG i hh ρ) Q := by
  unfold sPopG
  rw [e1, lft_s, bnd_ret]
  have e3 : popLast ((L ++ [a]).map mk) = some (L.map mk, mk a) := by
    unfold popLast
    rw [List.map_append, List.map_singleton, List.getLast?_concat, List.dropLast_concat]
  rw [e3, lft_s, bnd_ret, e2, lft_s, bnd_ret]
  exact Gives.ret p
theorem w_isNL {ds : List D} (p : P (.d (.bool false))) : K2 gIs P (.n ds) (.d .none) := ⟨_, rfl, p⟩
theorem w_isBL {ds : List D} (p : P (.d (.bool false))) : K2 gIs P (.b ds) (.d .none) := ⟨_, rfl, p⟩
theorem w_ntNL {ds : List D} (p : P (.d (.bool true))) : K2 gIsNot P (.n ds) (.d .none) := ⟨_, rfl, p⟩
theorem w_ntBL {ds : List D} (p : P (.d (.bool true))) : K2 gIsNot P (.b ds) (.d .none) := ⟨_, rfl, p⟩
theorem w_abs {i : Int} (p : P (.d (.int (i.natAbs : Int)))) : KC gAbs P [.d (.int i)] := by
  refine ⟨.d (.int (i.natAbs : Int)), ?_, p⟩
  show some (RV.d (.int (if i < 0 then -i else i))) = _
  congr 3
  split <;> omega
theorem eq_blB (neg x y : Bool) : gEqB neg (.d (.bool x)) (.d (.bool y)) = some (.d (.bool (if neg then !decide (x = y) else decide (x = y)))) := by
  cases neg <;> cases x <;> cases y <;> rfl
theorem w_neBl {x y : Bool} (p : P (.d (.bool (!decide (x = y))))) : K2 gNe P (.d (.bool x)) (.d (.bool y)) := ⟨_, eq_blB true x y, p⟩
theorem w_eqBl {x y : Bool} (p : P (.d (.bool (decide (x = y))))) : K2 gEq P (.d (.bool x)) (.d (.bool y)) := ⟨_, eq_blB false x y, p⟩
theorem eq_ip (neg : Bool) (a b c d : Int) : gEqB neg (.d (.tuple [.int a, .int b])) (.d (.tuple [.int c, .int d])) = some (.d (.bool (if neg then !decide (a = c ∧ b = d) else decide (a = c ∧ b = d)))) := by
  have hs : ∀ a b : Int, SeqAt.shaped (.tuple [.int a, .int b]) = true := fun a b => DVL.shaped_intsT [a, b]
  show (if SeqAt.shaped (.tuple [.int a, .int b]) = true then if SeqAt.shaped (.tuple [.int c, .int d]) = true then some (RV.d (.bool (if neg then !PyData.eqv (.tuple [.int a, .int b]) (.tuple [.int c, .int d]) else PyData.eqv (.tuple [.int a, .int b]) (.tuple [.int c, .int d])))) else none else none) = _
  rw [if_pos (hs a b), if_pos (hs c d), eqvP]
theorem w_eqIP {a b c d : Int} (p : P (.d (.bool (decide (a = c ∧ b = d))))) : K2 gEq P (.d (.tuple [.int a, .int b])) (.d (.tuple [.int c, .int d])) := ⟨_, eq_ip false a b c d, p⟩
theorem w_neIP {a b c d : Int} (p : P (.d (.bool (!decide (a = c ∧ b = d))))) : K2 gNe P (.d (.tuple [.int a, .int b])) (.d (.tuple [.int c, .int d])) := ⟨_, eq_ip true a b c d, p⟩
theorem w_ix3 {d e g x : D} {ds : List D} (p : P (.d x)) : K2 gIx P (.d (.tuple (d :: e :: g :: x :: ds))) (.d (.int 3)) := by
  refine ⟨.d x, ?_, p⟩
  show (atI (d :: e :: g :: x :: ds) ((3 : Nat) : Int)).map RV.d = _
  rw [atI_nat (v := x) rfl]; rfl
end
end DV
namespace DVR
open PySem L2 DV DVL
/-- links as data -/
abbrev mkL (l : Lk) : D := .tuple [.int l.1, .int l.2.1, .int l.2.2.1, .int l.2.2.2]
/-- what waits -/
abbrev mkW (ls : List Lk) (s : Int) (p : List Int) : D := .tuple [.int (Hd ls s p), .int (wt (tim ls) p), .int (wt (rnd ls) p), ti p, ti (Mt4 ls s p)]
/-- what is found -/
abbrev mkQ (ls : List Lk) (p : List Int) : D := .tuple [.int (wt (tim ls) p), .int (wt (rnd ls) p), ti p]
theorem at4_in {ls : List Lk} {i : Int} (h0 : 0 ≤ i) (h1 : i < (ls.length : Int)) : ls[i.toNat]? = some (at4 ls i) := by
  have h : i.toNat < ls.length := by omega
  unfold at4
  rw [List.getD_eq_getElem?_getD, List.getElem?_eq_getElem h]
  rfl
theorem ls_rng (ls : List Lk) : ls = (rngI 0 ls.length).map (at4 ls) := by
  refine List.ext_getElem (by rw [List.length_map, rngI_len]) fun i h1 h2 => ?_
  rw [List.getElem_map]
  have hr := rng_get ls.length 0 i h1
  rw [List.getElem?_eq_getElem (by rw [rngI_len]; exact h1)] at hr
  rw [Option.some.inj hr, Int.zero_add]
  have := at4_in (ls := ls) (i := (i : Int)) (by omega) (by omega)
  rw [Int.toNat_natCast, List.getElem?_eq_getElem h1] at this
  exact Option.some.inj this
theorem enI_mapR {α : Type} (f : Int → α) : ∀ (n : Nat) (k : Int), enI k ((rngI k n).map f) = (rngI k n).map fun i => (i, f i)
  | 0, _ => rfl
  | n + 1, k => by
    show (k, f k) :: enI (k + 1) ((rngI (k + 1) n).map f) = (k, f k) :: (rngI (k + 1) n).map fun i => (i, f i)
    rw [enI_mapR f n (k + 1)]
theorem en_ls (ls : List Lk) : (enI 0 ls).map (fun p => PyData.tuple [.int p.1, mkL p.2]) = (rngI 0 ls.length).map fun i => PyData.tuple [.int i, mkL (at4 ls i)] := by
  have h := enI_mapR (at4 ls) ls.length 0
  rw [← ls_rng] at h
  rw [h, List.map_map]
  rfl
theorem ls_map (ls : List Lk) : ls.map mkL = (rngI 0 ls.length).map fun i => mkL (at4 ls i) := by
  have h := congrArg (List.map mkL) (ls_rng ls)
  rw [List.map_map] at h
  exact h
theorem canLay_W (ls : List Lk) (s : Int) : ∀ P : List (List Int), PyData.canLayAll0 (P.map (mkW ls s)) = true
  | [] => by simp [PyData.canLayAll0]
  | p :: P => by
    rw [List.map_cons, PyData.canLayAll0, canLay_W ls s P]
    have h1 := canLay_ints p
    have h2 := canLay_ints (Mt4 ls s p)
    simp [PyData.canLay0, PyData.canLayAll0, h1, h2]
theorem depth_W (ls : List Lk) (s : Int) : ∀ P : List (List Int), PyData.depthAll (P.map (mkW ls s)) ≤ 2
  | [] => by simp [PyData.depthAll]
  | p :: P => by
    rw [List.map_cons, PyData.depthAll]
    have h1 := depth_W ls s P
    have h2 : (mkW ls s p).depth ≤ 2 := by
      have a := depth_ints p
      have b := depth_ints (Mt4 ls s p)
      show PyData.depth (.tuple _) ≤ 2
      simp only [PyData.depth, PyData.depthAll, a, b]
      omega
    omega
theorem w_neW {P : RV → Prop} {ls : List Lk} {s : Int} {L : List (List Int)} (p : P (.d (.bool (!decide (L = []))))) : DV.K2 gNe P (.b (L.map (mkW ls s))) (.n []) := by
  refine ⟨_, ?_, p⟩
  have hs : SeqAt.shaped (.list (L.map (mkW ls s))) = true := by
    unfold SeqAt.shaped
    have h := depth_W ls s L
    rw [PyData.canLay0, canLay_W, PyData.depth]
    simp
    omega
  have hn : SeqAt.shaped (.list []) = true := rfl
  show (if SeqAt.shaped (.list (L.map (mkW ls s))) = true then if SeqAt.shaped (.list []) = true then some (RV.d (.bool (!PyData.eqv (.list (L.map (mkW ls s))) (.list [])))) else none else none) = _
  rw [if_pos hs, if_pos hn]
  have e : PyData.eqv (.list (L.map (mkW ls s))) (.list []) = decide (L = []) := by
    rw [PyData.eqv]
    cases L with
    | nil => rfl
    | cons a L => simp [PyData.eqvAll]
  rw [e]
theorem w_ixL {P : RV → Prop} {ls : List Lk} {j : Int} (c : 0 ≤ j ∧ j < ls.length) (p : P (.d (mkL (at4 ls j)))) : DV.K2 gIx P (.d (.tuple (ls.map mkL))) (.d (.int j)) := w_ixM c.1 (at4_in c.1 c.2) p
end DVR

namespace Lk63
open PySem L2 DV DVL DVR
local macro_rules
  | `(tactic| get_elem_tactic_trivial) => `(tactic| first
    | (simp only [List.set_cons_succ, List.set_cons_zero, DV.startE, DV.lawE, DV.toK, DV.lockE, DV.wipeE, List.map_cons, List.map_nil, List.length_cons, List.length_nil, List.replicate_zero, List.replicate_succ, Nat.reduceSub, Nat.reduceAdd, List.append_nil, List.cons_append, List.nil_append]; rfl)
    | exact rfl)
local macro_rules
  | `(tactic| infer_instance) => `(tactic| first
    | with_reducible refine DV.w_cons ?_
    | with_reducible refine DV.w_var (by with_unfolding_all exact rfl) ?_
    | with_reducible refine DV.w_c ?_
    | with_reducible refine DV.w_nil ?_
    | with_reducible refine DV.w_e2 ?_
    | with_reducible refine DV.w_seq ?_
    | with_reducible refine DV.w_seqN ?_
    | with_reducible refine DV.w_seqR ?_
    | with_reducible refine DV.w_seqB ?_
    | with_reducible refine DV.w_seqC ?_
    | with_reducible refine DV.w_call ?_
    | with_reducible refine DV.w_fn ?_
    | with_reducible refine DV.w_f1 ?_
    | with_reducible refine DV.w_f2 ?_
    | with_reducible refine DV.w_f3 ?_
    | with_reducible refine DV.w_f4 ?_
    | with_reducible refine DV.w_f5 ?_
    | with_reducible refine DV.w_f6 ?_
    | with_reducible refine DV.w_set ?_
    | with_reducible refine DV.w_setApp ?_
    | with_reducible refine DV.w_setX (by with_unfolding_all exact rfl) (by with_unfolding_all (simp only [List.set_cons_succ, List.set_cons_zero]; rfl)) ?_
    | with_reducible refine DV.w_rt ?_
    | with_reducible refine DV.w_rtD ?_
    | with_reducible refine DV.w_rtN ?_
    | with_reducible refine DV.w_rtV (by with_unfolding_all exact rfl) ?_
    | with_reducible refine DV.w_if ?_
    | with_reducible refine DV.w_drop ?_
    | with_reducible refine DV.w_nop ?_
    | with_reducible refine DV.w_T ?_
    | with_reducible refine DV.w_B ?_
    | with_reducible refine DV.w_not ?_
    | with_reducible refine DV.w_and ?_
    | with_reducible refine DV.w_or ?_
    | with_reducible refine DV.w_ifT ?_
    | with_reducible refine DV.w_ifF ?_
    | with_reducible refine DV.w_ifNT ?_
    | with_reducible refine DV.w_ifNF ?_
    | with_reducible refine DV.w_stup ?_
    | with_reducible refine DV.w_stupD (by with_unfolding_all (simp only [DV.wipeE, DV.gTupF, DV.gMore, DV.gNone, DV.gNm, List.set_cons_succ, List.set_cons_zero, List.length]; rfl)) ?_
    | with_reducible refine DV.w_aug (by with_unfolding_all exact rfl) ?_
    | with_reducible refine DV.w_I ?_
    | with_reducible refine DV.w_app (by with_unfolding_all exact rfl) (by simp only [List.length_map]; omega) ?_
    | with_reducible refine DV.w_D ?_
    | with_reducible refine DV.w_for ?_
    | with_reducible refine DV.w_lc ?_
    | with_reducible refine DV.w_par ?_
    | with_reducible refine DV.w_par3 ?_
    | with_reducible refine DV.w_par4 ?_
    | with_reducible refine DV.w_parX (by with_unfolding_all exact rfl) (by with_unfolding_all exact rfl) (by with_unfolding_all (simp only [List.set_cons_succ, List.set_cons_zero]; rfl)) ?_
    | with_reducible refine DV.w_par3X (by with_unfolding_all exact rfl) (by with_unfolding_all exact rfl) (by with_unfolding_all exact rfl) (by with_unfolding_all (simp only [List.set_cons_succ, List.set_cons_zero]; rfl)) ?_
    | with_reducible refine DV.w_par4X (by with_unfolding_all exact rfl) (by with_unfolding_all exact rfl) (by with_unfolding_all exact rfl) (by with_unfolding_all exact rfl) (by with_unfolding_all (simp only [List.set_cons_succ, List.set_cons_zero]; rfl)) ?_
    | with_reducible refine DV.w_tup ?_
    | with_reducible refine DV.w_lst ?_
    | with_reducible refine DV.w_tu (by with_unfolding_all exact rfl) (by with_unfolding_all exact Nat.le_of_ble_eq_true rfl) ?_
    | with_reducible refine DV.w_ls (by with_unfolding_all exact rfl) (by with_unfolding_all exact Nat.le_of_ble_eq_true rfl) ?_
    | with_reducible refine DV.w_neg ?_
    | with_reducible refine DV.w_ifB ?_
    | with_reducible refine DV.w_ifE ?_
    | with_reducible refine DV.w_notB ?_
    | with_reducible refine DV.w_tt ?_
    | with_reducible refine DV.w_ch ?_
    | with_reducible refine DV.w_add ?_
    | with_reducible refine DV.w_sub ?_
    | with_reducible refine DV.w_mul (by first | omega | (left; constructor <;> omega) | (right; constructor <;> omega)) ?_
    | with_reducible refine DV.w_mod (by omega) ?_
    | with_reducible refine DV.w_div (by omega) ?_
    | with_reducible refine DV.w_lt ?_
    | with_reducible refine DV.w_le ?_
    | with_reducible refine DV.w_gt ?_
    | with_reducible refine DV.w_ge ?_
    | with_reducible refine DV.w_ltA ?_
    | with_reducible refine DV.w_leA ?_
    | with_reducible refine DV.w_gtA ?_
    | with_reducible refine DV.w_geA ?_
    | with_reducible refine DV.w_eq ?_
    | with_reducible refine DV.w_ne ?_
    | with_reducible refine DV.w_eqB ?_
    | with_reducible refine DV.w_neB ?_
    | with_reducible refine DV.w_eqN ?_
    | with_reducible refine DV.w_neN ?_
    | with_reducible refine DV.w_eqN0 ?_
    | with_reducible refine DV.w_neN0 ?_
    | with_reducible refine DV.w_in ?_
    | with_reducible refine DV.w_inB ?_
    | with_reducible refine DV.w_notIn ?_
    | with_reducible refine DV.w_notInB ?_
    | with_reducible refine DV.w_ix0 ?_
    | with_reducible refine DV.w_ix1 ?_
    | with_reducible refine DV.w_ix (by omega) ?_
    | with_reducible refine DV.w_ixB (by omega) ?_
    | with_reducible refine DV.w_len ?_
    | with_reducible refine DV.w_lenB ?_
    | with_reducible refine DV.w_lenN ?_
    | with_reducible refine DV.w_lenM ?_
    | with_reducible refine DV.w_lenMB ?_
    | with_reducible refine DV.w_lenMN ?_
    | with_reducible refine DV.w_lenD ?_
    | with_reducible refine DV.w_lenDB ?_
    | with_reducible refine DV.w_lenDN ?_
    | with_reducible refine DV.w_tupN ?_
    | with_reducible refine DV.w_tupB ?_
    | with_reducible refine DV.w_tupD ?_
    | with_reducible refine DV.w_lstD ?_
    | with_reducible refine DV.w_lstB ?_
    | with_reducible refine DV.w_lstN ?_
    | with_reducible refine DV.w_sum ?_
    | with_reducible refine DV.w_sumN ?_
    | with_reducible refine DV.w_sumB ?_
    | with_reducible refine DV.w_max2 ?_
    | with_reducible refine DV.w_min2 ?_
    | with_reducible refine DV.w_int ?_
    | with_reducible refine DV.w_sort ?_
    | with_reducible refine DV.w_sortN ?_
    | with_reducible refine DV.w_sortB ?_
    | with_reducible refine DV.w_rep (by omega) ?_
    | with_reducible refine DV.w_repN (by omega) ?_
    | with_reducible refine DV.w_moveG (by with_unfolding_all exact rfl) (by with_unfolding_all (simp only [List.set_cons_succ, List.set_cons_zero]; rfl)) ?_
    | with_reducible refine DV.w_moveO (by with_unfolding_all exact rfl) (by with_unfolding_all (simp only [List.set_cons_succ, List.set_cons_zero]; rfl)) ?_
    | with_reducible refine DV.w_moveD (by with_unfolding_all exact rfl) (by with_unfolding_all (simp only [List.set_cons_succ, List.set_cons_zero]; rfl)) ?_
    | with_reducible refine DV.w_catTI (by (try simp only [List.length_append, List.length_take, List.length_drop, List.length_cons, List.length_nil]); omega) ?_
    | with_reducible refine DV.w_catT1 (by (try simp only [List.length_append, List.length_take, List.length_drop, List.length_cons, List.length_nil]); omega) ?_
    | with_reducible refine DV.w_listG ?_
    | with_reducible refine DV.w_sortK ?_
    | with_reducible refine DV.w_colS ?_
    | with_reducible refine DV.w_itT ?_
    | with_reducible refine DV.w_itB ?_
    | with_reducible refine DV.w_itN ?_
    | with_reducible refine DV.w_colR ?_
    | with_reducible refine DV.w_colRN (by omega) ?_
    | with_reducible refine DV.w_ext (by with_unfolding_all exact rfl) ?_
    | with_reducible refine DV.w_lc2 ?_
    | with_reducible refine DV.w_isT ?_
    | with_reducible refine DV.w_isNN ?_
    | with_reducible refine DV.w_isNI ?_
    | with_reducible refine DV.w_isNT ?_
    | with_reducible refine DV.w_ntNN ?_
    | with_reducible refine DV.w_ntNI ?_
    | with_reducible refine DV.w_ntNT ?_
    | with_reducible refine DV.w_repND (by omega) ?_
    | with_reducible refine DV.w_put (by with_unfolding_all exact rfl) ?_
    | with_reducible refine DV.w_putI (by (try simp only [List.length_set, List.length_replicate, List.length_map]); omega) ?_
    | with_reducible refine DV.w_eqB0 ?_
    | with_reducible refine DV.w_neB0 ?_
    | with_reducible refine DV.w_eqBB ?_
    | with_reducible refine DV.w_neBB ?_
    | with_reducible refine DV.w_eqNB ?_
    | with_reducible refine DV.w_neNB ?_
    | with_reducible refine DV.w_eqBN ?_
    | with_reducible refine DV.w_neBN ?_
    | with_reducible refine DV.w_eqT0 ?_
    | with_reducible refine DV.w_neT0 ?_
    | with_reducible refine DV.w_eqT ?_
    | with_reducible refine DV.w_neT ?_
    | with_reducible refine DV.w_gget ?_
    | with_reducible refine DV.w_dc ?_
    | with_reducible refine DV.w_dcN ?_
    | with_reducible refine DV.w_G ?_
    | with_reducible refine DV.w_gput ?_
    | with_reducible refine DV.w_gnew ?_
    | with_reducible refine DV.w_g1 ?_
    | with_reducible refine DV.w_ret ?_
    | with_reducible refine DV.w_slice ?_
    | with_reducible refine DV.w_part ?_
    | with_reducible refine DV.w_slToI (by omega) ?_
    | with_reducible refine DV.w_slFromI (by omega) ?_
    | with_reducible refine DV.w_slToBI (by omega) ?_
    | with_reducible refine DV.w_slFromBI (by omega) ?_
    | with_reducible refine DV.w_star ?_
    | with_reducible refine DV.w_starT ?_
    | with_reducible refine DV.w_starB ?_
    | with_reducible refine DV.w_starN ?_
    | with_reducible refine DV.w_ixR (by omega) ?_
    | with_reducible refine DV.w_ixRB (by omega) ?_
    | with_reducible refine DV.w_lrg ?_
    | with_reducible refine DV.w_trg ?_
    | with_reducible refine DV.w_rg (by omega) ?_
    | with_reducible refine DV.w_enum ?_
    | with_reducible refine DV.w_zip ?_
    | with_reducible refine DV.w_zip3 ?_
    | with_reducible refine DV.w_step ?_
    | with_reducible refine DV.w_stepB (by omega) ?_
    | with_reducible refine DV.w_srev ?_
    | with_reducible refine DV.w_srevT ?_
    | with_reducible refine DV.w_isTT ?_
    | with_reducible refine DV.w_ntTT ?_
    | with_reducible refine DV.w_isFT ?_
    | with_reducible refine DV.w_ntFT ?_
    | with_reducible refine DV.w_isTF ?_
    | with_reducible refine DV.w_ntTF ?_
    | with_reducible refine DV.w_isFF ?_
    | with_reducible refine DV.w_ntFF ?_
    | with_reducible refine DV.w_ixS (by omega) ?_
    | with_reducible refine DV.w_ix2 ?_
    | with_reducible refine DV.w_gget2 ?_
    | with_reducible refine DV.w_notInTs ?_
    | with_reducible refine DV.w_inTs ?_
    | with_reducible refine DV.w_inTsN ?_
    | with_reducible refine DV.w_sset ?_
    | with_reducible refine DV.w_ssetU (by omega) (by assumption) ?_
    | with_reducible refine DV.w_met ?_
    | with_reducible refine DV.w_itL ?_
    | with_reducible refine DV.w_two ?_
    | with_reducible refine DV.w_twoX ?_
    | with_reducible refine DV.w_neS ?_
    | with_reducible refine DV.w_eqS ?_
    | with_reducible refine DV.w_rev ?_
    | with_reducible refine DV.w_revN ?_
    | with_reducible refine DV.w_lset ?_
    | with_reducible refine DV.w_isNL ?_
    | with_reducible refine DV.w_isBL ?_
    | with_reducible refine DV.w_ntNL ?_
    | with_reducible refine DV.w_ntBL ?_
    | with_reducible refine DV.w_abs ?_
    | with_reducible refine DV.w_neBl ?_
    | with_reducible refine DV.w_eqBl ?_
    | with_reducible refine DV.w_eqIP ?_
    | with_reducible refine DV.w_neIP ?_
    | with_reducible refine DV.w_ix3 ?_
    | with_reducible refine DVR.w_neW ?_
    | with_reducible refine DVR.w_ixL (by omega) ?_
    | with_reducible refine DV.w_dcomp ?_
    | with_reducible refine DV.w_intB ?_
    | with_reducible refine DV.w_augIx (by with_unfolding_all exact rfl) ?_
    | with_reducible refine DV.w_inN ?_
    | with_reducible refine DV.w_notInN ?_
    | with_reducible refine DV.w_srcE ?_
    | with_reducible refine DV.w_srcV (by with_unfolding_all exact rfl) ?_
    | with_reducible refine DV.w_src (by with_unfolding_all exact rfl) ?_
    | with_reducible refine DV.w_rng1 ?_
    | with_reducible refine DV.w_rng2 ?_
    | with_reducible refine DV.w_rng2I (by omega) ?_
    | with_reducible refine DV.w_rngN (by omega) ?_
    | with_reducible refine DV.w_rngI (by omega) ?_
    | with_reducible refine DV.w_loopN ?_
    | with_reducible refine DV.w_loopC ?_
    | with_reducible refine DV.w_loopB ?_
    | with_reducible refine DV.w_loopR ?_
    | with_reducible refine DV.w_runN ?_
    | with_reducible refine DV.w_runR ?_
    | with_reducible refine DV.w_tg (by with_unfolding_all (simp only [DV.lockE, DV.unlockE, List.getElem?_cons_succ, List.getElem?_cons_zero, DV.wipeE, DV.gTupF, DV.gMore, DV.gNone, DV.gNm, List.set_cons_succ, List.set_cons_zero, List.length]; rfl)) ?_)
section
variable {n : Nat} {ls : List Lk}
theorem pot_len {s : Int} : ∀ P : List (List Int), P.length ≤ pot ls n s P
  | [] => Nat.zero_le _
  | p :: P => by
    have h := pot_len (s := s) P
    have h1 : 1 ≤ Ee ls n s p := Ee_pos ls n s p
    show P.length + 1 ≤ Ee ls n s p + pot ls n s P
    omega
theorem pv_len (G : Ln n ls) {s : Int} (s0 : 0 ≤ s) (s1 : s < (n : Int)) {p : List Int} (h : PV ls s p) : p.length < n := by
  have h1 := nodup_le h.nd (q := rngI 0 n) fun v hv => by
    rcases List.mem_cons.mp hv with z | z
    · rw [z]; exact (mem_rngI _ _ _).mpr (by omega)
    · obtain ⟨i, hi, rfl⟩ := List.mem_map.mp z
      have h2 := wk_in h.wk i hi
      have := (G.rng i h2.1 h2.2).2
      exact (mem_rngI _ _ _).mpr (by omega)
  have h2 : (Mt4 ls s p).length = p.length + 1 := by unfold Mt4; rw [List.length_cons, List.length_map]
  rw [rngI_len] at h1
  omega
theorem cls_snoc {s : Int} {p I : List Int} {i : Int} : cls ls s p (I ++ [i]) = cls ls s p I ++ if clB ls s p i = true then [p ++ [i]] else [] := by
  unfold cls
  rw [List.filter_append, List.map_append]
  congr 1
  by_cases h : clB ls s p i = true
  · rw [if_pos h, List.filter_cons_of_pos h]; rfl
  · rw [if_neg h, List.filter_cons_of_neg h]; rfl
theorem exs_snoc {s : Int} {p I : List Int} {i : Int} : exs ls s p (I ++ [i]) = exs ls s p I ++ if exB ls s p i = true then [p ++ [i]] else [] := by
  unfold exs
  rw [List.filter_append, List.map_append]
  congr 1
  by_cases h : exB ls s p i = true
  · rw [if_pos h, List.filter_cons_of_pos h]; rfl
  · rw [if_neg h, List.filter_cons_of_neg h]; rfl
theorem wt_snoc (w : Int → Int) (p : List Int) (i : Int) : wt w (p ++ [i]) = wt w p + w i := by
  rw [wt_app, wt_cons]
  show _ = _
  have : wt w [] = 0 := rfl
  omega
theorem rings_gives (G : Ln n ls) (hn : n ≤ 8) (hl : PT ls n * n ≤ 50000) (hll : ls.length ≤ 30) : DV.Gives (m_rings_of [.d (.int (n : Nat)), .d (.tuple (ls.map mkL))]) fun r => ∃ Q : List (List Int), r = .n (Q.map (mkQ ls)) ∧ (∀ q ∈ Q, Cyc ls q) ∧ (∀ s p, Ring ls s p → p ∈ Q) ∧ Q.length ≤ 50000 := by
  have hn1 := G.n1
  unfold m_rings_of
  refine DV.w_run (by get_elem_tactic_trivial) ?_
  unfold g_rings_of
  repeat infer_instance
  refine w_loop0 (fun rest ρ => ∃ (u : Nat) (Q : List (List Int)) (y3 y4 y5 y6 y7 y8 y9 y10 y11 y12 y13 y14 : Option SV), rest = rngI (u : Int) (n - u) ∧ u ≤ n ∧ (∀ q ∈ Q, Cyc ls q) ∧ (∀ s p, s < (u : Int) → Ring ls s p → p ∈ Q) ∧ Q.length ≤ u * PT ls n ∧ ρ = [some (.d (.int (n : Nat))), some (.d (.tuple (ls.map mkL))), some (.o (Q.map (mkQ ls))), y3, y4, y5, y6, y7, y8, y9, y10, y11, y12, y13, y14]) ⟨0, [], _, _, _, _, _, _, _, _, _, _, _, _, rfl, Nat.zero_le _, (fun _ h => nomatch h), fun s p hs R => ?_, Nat.zero_le _, rfl⟩ ?_ ?_
  · have h := R.wk
    cases p with
    | nil => exact absurd rfl R.ne
    | cons i p =>
      have h1 := (G.rng i h.1.1.1 h.1.1.2).1
      rw [h.1.2] at h1
      omega
  · rintro j rest ρ ⟨u, Q0, y3, y4, y5, y6, y7, y8, y9, y10, y11, y12, y13, y14, hr, hu, hc, hR, hQ, rfl⟩
    obtain ⟨e1, hun, e2⟩ := rng_step hr
    subst e1
    have hu1 : (u + 1) * PT ls n ≤ 50000 := by
      have : (u + 1) * PT ls n ≤ n * PT ls n := Nat.mul_le_mul_right _ hun
      rw [Nat.mul_comm] at hl
      omega
    rw [Nat.add_mul, Nat.one_mul] at hu1
    repeat infer_instance
    refine w_while (fun k ρ => ∃ (P Q : List (List Int)) (y5 y6 y7 y8 y9 y10 y11 y12 y13 y14 : Option SV), DF ls n (u : Int) Q0 P Q ∧ Q0.length ≤ Q.length ∧ Q.length + pot ls n (u : Int) P ≤ k + Q0.length ∧ ρ = [some (.d (.int (n : Nat))), some (.d (.tuple (ls.map mkL))), some (.o (Q.map (mkQ ls))), some (.d (.int (u : Nat))), some (.o (P.map (mkW ls (u : Int)))), y5, y6, y7, y8, y9, y10, y11, y12, y13, y14]) (PT ls n) 100000 (by omega) ⟨[[]], Q0, _, _, _, _, _, _, _, _, _, _, DF.start (by omega) (by omega) hc, Nat.le_refl _, ?_, rfl⟩ ?_
    · show Q0.length + (Ee ls n (u : Int) [] + 0) ≤ _
      rw [Ee_nil (by omega) (by omega)]
      omega
    · rintro k ρ ⟨P, Q, y5, y6, y7, y8, y9, y10, y11, y12, y13, y14, D, hq0, hk, rfl⟩
      obtain ⟨kk, hkk⟩ := D.bud
      repeat infer_instance
      refine w_ndec (fun hne => ?_) (fun he => ?_)
      · obtain ⟨P0, p, rfl⟩ : ∃ P0 p, P = P0 ++ [p] := ⟨P.dropLast, P.getLast hne, (List.dropLast_concat_getLast hne).symm⟩
        have hleft := D.left G
        have hPp := D.pv p (by simp)
        have hpl := pv_len G (by omega) (by omega) hPp
        have hcl2 : (Q ++ cls ls (u : Int) p (rngI 0 ls.length)).length = Q.length + (cls ls (u : Int) p (rngI 0 ls.length)).length := List.length_append
        have hpl2 := pot_len (ls := ls) (n := n) (s := (u : Int)) (P0 ++ [p])
        rw [List.length_append, List.length_singleton] at hpl2
        obtain ⟨j, rfl⟩ : ∃ j, k = j + 1 := ⟨k - 1, by omega⟩
        refine ⟨j, rfl, ?_⟩
        have Dn := D.next G
        repeat infer_instance
        refine w_popG (L := P0) (a := p) (mk := mkW ls (u : Int)) rfl (by with_unfolding_all (simp only [DV.wipeE, DV.gTupF, DV.gMore, DV.gNone, DV.gNm, List.set_cons_succ, List.set_cons_zero, List.length]; rfl)) ?_
        repeat infer_instance
        refine w_enM ?_
        rw [en_ls]
        refine w_loop0 (L := rngI 0 ls.length) (mk := fun i => PyData.tuple [.int i, mkL (at4 ls i)]) (fun rest ρ => ∃ (I : List Int) (y10 y11 y12 y13 y14 : Option SV), rngI 0 ls.length = I ++ rest ∧ ρ = [some (.d (.int (n : Nat))), some (.d (.tuple (ls.map mkL))), some (.o ((Q ++ cls ls (u : Int) p I).map (mkQ ls))), some (.d (.int (u : Nat))), some (.o ((P0 ++ exs ls (u : Int) p I).map (mkW ls (u : Int)))), some (.d (.int (Hd ls (u : Int) p))), some (.d (.int (wt (tim ls) p))), some (.d (.int (wt (rnd ls) p))), some (.d (ti p)), some (.d (ti (Mt4 ls (u : Int) p))), y10, y11, y12, y13, y14]) ⟨[], _, _, _, _, _, rfl, by
          have a1 : cls ls (u : Int) p [] = [] := rfl
          have a2 : exs ls (u : Int) p [] = [] := rfl
          rw [a1, a2, List.append_nil, List.append_nil]⟩ ?_ ?_
        · rintro i rest ρ ⟨I, y10, y11, y12, y13, y14, hI, rfl⟩
          have hi : 0 ≤ i ∧ i < (ls.length : Int) := idx_in i (by rw [hI]; simp)
          have hIl : I.length ≤ ls.length := by
            have := congrArg List.length hI
            rw [rngI_len, List.length_append] at this
            omega
          have hQl : (Q ++ cls ls (u : Int) p I).length ≤ 60000 := by
            rw [List.length_append]
            have : (cls ls (u : Int) p I).length ≤ I.length := by unfold cls; rw [List.length_map]; exact List.length_filter_le _ _
            omega
          have hPl : (P0 ++ exs ls (u : Int) p I).length ≤ 60000 := by
            rw [List.length_append]
            have : (exs ls (u : Int) p I).length ≤ I.length := by unfold exs; rw [List.length_map]; exact List.length_filter_le _ _
            omega
          have hMl : (Mt4 ls (u : Int) p).length < 100000 := by
            have : (Mt4 ls (u : Int) p).length = p.length + 1 := by unfold Mt4; rw [List.length_cons, List.length_map]
            omega
          have ec := cls_snoc (ls := ls) (s := (u : Int)) (p := p) (I := I) (i := i)
          have ex := exs_snoc (ls := ls) (s := (u : Int)) (p := p) (I := I) (i := i)
          have same : clB ls (u : Int) p i = false → exB ls (u : Int) p i = false → cls ls (u : Int) p (I ++ [i]) = cls ls (u : Int) p I ∧ exs ls (u : Int) p (I ++ [i]) = exs ls (u : Int) p I := fun h1 h2 => by
            rw [ec, ex, h1, h2]
            simp
          by_cases c1 : src ls i = Hd ls (u : Int) p
          · by_cases c2 : tgt ls i = (u : Int)
            · have hc1 : clB ls (u : Int) p i = true := by unfold clB; rw [decide_eq_true c1, decide_eq_true c2]; rfl
              have hx1 : exB ls (u : Int) p i = false := by
                unfold exB
                rw [decide_eq_false (show ¬ (u : Int) < tgt ls i by omega)]
                simp
              rw [if_pos hc1] at ec
              rw [hx1, if_neg (by simp), List.append_nil] at ex
              repeat infer_instance
              refine w_decT c1 ?_
              repeat infer_instance
              refine w_decT c2 ?_
              repeat infer_instance
              refine w_tuS1 (by omega) ?_
              repeat infer_instance
              have ea : (Q ++ cls ls (u : Int) p I).map (mkQ ls) ++ [PyData.tuple [.int (wt (tim ls) p + (at4 ls i).2.2.1), .int (wt (rnd ls) p + (at4 ls i).2.2.2), ti (p ++ [i])]] = (Q ++ cls ls (u : Int) p (I ++ [i])).map (mkQ ls) := by
                rw [ec, ← List.append_assoc, List.map_append (l₂ := [p ++ [i]])]
                congr 1
                show _ = [PyData.tuple [.int (wt (tim ls) (p ++ [i])), .int (wt (rnd ls) (p ++ [i])), ti (p ++ [i])]]
                rw [wt_snoc, wt_snoc]
                rfl
              rw [ea, ← ex]
              exact ⟨I ++ [i], _, _, _, _, _, by rw [List.append_assoc]; exact hI, rfl⟩
            · have hc1 : clB ls (u : Int) p i = false := by unfold clB; rw [decide_eq_false c2]; simp
              rw [hc1, if_neg (by simp), List.append_nil] at ec
              repeat infer_instance
              refine w_decT c1 ?_
              repeat infer_instance
              refine w_decF c2 ?_
              repeat infer_instance
              refine w_decT c1 ?_
              repeat infer_instance
              by_cases c3 : (u : Int) < tgt ls i
              · refine w_decT c3 ?_
                repeat infer_instance
                by_cases c4 : tgt ls i ∈ Mt4 ls (u : Int) p
                · have h4 : (Mt4 ls (u : Int) p).elem (tgt ls i) = true := List.elem_iff.mpr c4
                  have hx1 : exB ls (u : Int) p i = false := by unfold exB; rw [h4]; simp
                  obtain ⟨s1, s2⟩ := same hc1 hx1
                  have h5 : (Mt4 ls (u : Int) p).elem (at4 ls i).2.1 = true := h4
                  rw [h5]
                  repeat infer_instance
                  rw [← s1, ← s2]
                  exact ⟨I ++ [i], _, _, _, _, _, by rw [List.append_assoc]; exact hI, rfl⟩
                · have h4 : (Mt4 ls (u : Int) p).elem (tgt ls i) = false := by
                    rw [List.elem_eq_mem, decide_eq_false c4]
                  have hx1 : exB ls (u : Int) p i = true := by unfold exB; rw [h4, decide_eq_true c1, decide_eq_true c3]; rfl
                  rw [if_pos hx1] at ex
                  have h5 : (Mt4 ls (u : Int) p).elem (at4 ls i).2.1 = false := h4
                  rw [h5]
                  repeat infer_instance
                  refine w_tuS1 (by omega) ?_
                  repeat infer_instance
                  refine w_tuS1 (by omega) ?_
                  repeat infer_instance
                  have ea : (P0 ++ exs ls (u : Int) p I).map (mkW ls (u : Int)) ++ [PyData.tuple [.int (at4 ls i).2.1, .int (wt (tim ls) p + (at4 ls i).2.2.1), .int (wt (rnd ls) p + (at4 ls i).2.2.2), ti (p ++ [i]), ti (Mt4 ls (u : Int) p ++ [(at4 ls i).2.1])]] = (P0 ++ exs ls (u : Int) p (I ++ [i])).map (mkW ls (u : Int)) := by
                    rw [ex, ← List.append_assoc, List.map_append (l₂ := [p ++ [i]])]
                    congr 1
                    show _ = [PyData.tuple [.int (Hd ls (u : Int) (p ++ [i])), .int (wt (tim ls) (p ++ [i])), .int (wt (rnd ls) (p ++ [i])), ti (p ++ [i]), ti (Mt4 ls (u : Int) (p ++ [i]))]]
                    rw [wt_snoc, wt_snoc, hd_snoc, mt_snoc]
                    rfl
                  rw [ea, ← ec]
                  exact ⟨I ++ [i], _, _, _, _, _, by rw [List.append_assoc]; exact hI, rfl⟩
              · have hx1 : exB ls (u : Int) p i = false := by unfold exB; rw [decide_eq_false c3]; simp
                obtain ⟨s1, s2⟩ := same hc1 hx1
                refine w_decF c3 ?_
                repeat infer_instance
                rw [← s1, ← s2]
                exact ⟨I ++ [i], _, _, _, _, _, by rw [List.append_assoc]; exact hI, rfl⟩
          · have hc1 : clB ls (u : Int) p i = false := by unfold clB; rw [decide_eq_false c1]; simp
            have hx1 : exB ls (u : Int) p i = false := by unfold exB; rw [decide_eq_false c1]; simp
            obtain ⟨s1, s2⟩ := same hc1 hx1
            repeat infer_instance
            refine w_decF c1 ?_
            repeat infer_instance
            refine w_decF c1 ?_
            repeat infer_instance
            rw [← s1, ← s2]
            exact ⟨I ++ [i], _, _, _, _, _, by rw [List.append_assoc]; exact hI, rfl⟩
        · rintro ρ ⟨I, y10, y11, y12, y13, y14, hI, rfl⟩
          rw [List.append_nil] at hI
          subst hI
          repeat infer_instance
          exact ⟨_, _, _, _, _, _, _, _, _, _, _, _, Dn, by omega, by omega, rfl⟩
      · subst he
        obtain ⟨f1, f2, f3, f4⟩ := D.fin
        repeat infer_instance
        refine ⟨u + 1, Q, _, _, _, _, _, _, _, _, _, _, _, _, e2, hun, f1, fun s p hs R => ?_, by rw [Nat.add_mul, Nat.one_mul]; omega, rfl⟩
        by_cases e : s = (u : Int)
        · subst e
          exact f3 p R
        · exact f2 p (hR s p (by omega) R)
  · rintro ρ ⟨u, Q, y3, y4, y5, y6, y7, y8, y9, y10, y11, y12, y13, y14, hr, hu, hc, hR, hQ, rfl⟩
    have hun := rng_end hr hu
    subst hun
    repeat infer_instance
    refine ⟨Q, rfl, hc, fun s p R => hR s p ?_ R, by rw [Nat.mul_comm] at hl; omega⟩
    have h := R.wk
    cases p with
    | nil => exact absurd rfl R.ne
    | cons i p =>
      have h1 := (G.rng i h.1.1.1 h.1.1.2).1
      rw [h.1.2] at h1
      omega
end
end Lk63

namespace DVR
open PySem L2 DV DVL
/-- what a link asks, times the bottom -/
def wgt (ls : List Lk) (tp bt : Int) (i : Int) : Int := tim ls i * bt - rnd ls i * tp
theorem wt_wgt {ls : List Lk} (tp bt : Int) : ∀ p : List Int, wt (wgt ls tp bt) p = wt (tim ls) p * bt - wt (rnd ls) p * tp
  | [] => by
    show (0 : Int) = 0 * bt - 0 * tp
    simp
  | i :: p => by
    rw [wt_cons, wt_cons, wt_cons, wt_wgt tp bt p, Int.add_mul, Int.add_mul]
    unfold wgt
    omega
/-- each link is a walk over other links that asks as much -/
theorem nopos_sub {ls ls' : List Lk} {w w' : Int → Int} (h : ∀ i, 0 ≤ i → i < (ls.length : Int) → ∃ q, Wk ls' (src ls i) q (tgt ls i) ∧ w i ≤ wt w' q) (N : NoPos ls' w') : NoPos ls w := by
  have main : ∀ (p : List Int) (x y : Int), Wk ls x p y → ∃ q, Wk ls' x q y ∧ wt w p ≤ wt w' q := fun p => by
    induction p with
    | nil => exact fun x y e => ⟨[], e, Int.le_refl _⟩
    | cons i p ih =>
      rintro x y ⟨⟨h1, h2⟩, h3⟩
      obtain ⟨q1, a1, a2⟩ := h i h1.1 h1.2
      obtain ⟨q2, b1, b2⟩ := ih _ _ h3
      rw [h2] at a1
      refine ⟨q1 ++ q2, wk_app.mpr ⟨_, a1, b1⟩, ?_⟩
      rw [wt_cons, wt_app]
      omega
  intro x p hp
  obtain ⟨q, h1, h2⟩ := main p x x hp
  exact Int.le_trans h2 (N x q h1)
/-- the round time bt / bb, in lowest terms, of links -/
structure Val (ls : List Lk) (bt bb : Int) : Prop where
  b0 : 0 < bb
  no : NoPos ls (wgt ls bt bb)
  at_ : ∃ x K, K ≠ [] ∧ Wk ls x K x ∧ wt (tim ls) K * bb = bt * wt (rnd ls) K ∧ 1 ≤ wt (rnd ls) K
  lw : Int.gcd bt bb = 1
theorem gcd_rt {a b : Int} (h : 0 < b) : Int.gcd (rtT a b) (rtB a b) = 1 := by
  have hg := rt_pos (a := a) h
  have h1 := rtT_mul a b
  have h2 := rtB_mul a b
  have h3 : Int.gcd (rtT a b * (Int.gcd a b : Int)) (rtB a b * (Int.gcd a b : Int)) = Int.gcd (rtT a b) (rtB a b) * Int.gcd a b := by
    rw [Int.gcd_mul_right]
    simp
  rw [h1, h2] at h3
  have h4 : 0 < Int.gcd a b := by omega
  have h5 : 1 * Int.gcd a b = Int.gcd (rtT a b) (rtB a b) * Int.gcd a b := by omega
  exact (Nat.eq_of_mul_eq_mul_right h4 h5).symm
theorem cross_eq {a b c d : Int} (hb : 0 < b) (hd : 0 < d) (h : a * d = c * b) (h1 : Int.gcd a b = 1) (h2 : Int.gcd c d = 1) : a = c ∧ b = d := by
  have hn : a.natAbs * d.natAbs = c.natAbs * b.natAbs := by rw [← Int.natAbs_mul, ← Int.natAbs_mul, h]
  have k1 : b.natAbs ∣ d.natAbs := by
    have : b.natAbs ∣ a.natAbs * d.natAbs := ⟨c.natAbs, by rw [hn, Nat.mul_comm]⟩
    exact Nat.Coprime.dvd_of_dvd_mul_left (Nat.Coprime.symm (show Nat.Coprime a.natAbs b.natAbs from h1)) this
  have k2 : d.natAbs ∣ b.natAbs := by
    have : d.natAbs ∣ c.natAbs * b.natAbs := ⟨a.natAbs, by rw [← hn, Nat.mul_comm]⟩
    exact Nat.Coprime.dvd_of_dvd_mul_left (Nat.Coprime.symm (show Nat.Coprime c.natAbs d.natAbs from h2)) this
  have k3 := Nat.dvd_antisymm k1 k2
  have e : b = d := by omega
  subst e
  exact ⟨Int.eq_of_mul_eq_mul_right (by omega) h, rfl⟩
theorem Val.le {ls : List Lk} {a b c d : Int} (h : Val ls a b) (h2 : Val ls c d) : a * d ≤ c * b := by
  obtain ⟨x, K, _, k1, k2, k3⟩ := h.at_
  have n := h2.no x K k1
  rw [wt_wgt] at n
  generalize wt (tim ls) K = T at *
  generalize wt (rnd ls) K = Y at *
  refine Decidable.byContradiction fun hc => ?_
  have h5 : c * b * Y < a * d * Y := Int.mul_lt_mul_of_pos_right (by omega) (by omega)
  have h6 : T * d * b ≤ Y * c * b := Int.mul_le_mul_of_nonneg_right (by omega) (by have := h.b0; omega)
  have e1 : T * d * b = T * b * d := by ac_rfl
  have e2 : Y * c * b = c * b * Y := by ac_rfl
  have e3 : a * Y * d = a * d * Y := by ac_rfl
  rw [k2] at e1
  omega
theorem Val.uniq {ls : List Lk} {a b c d : Int} (h : Val ls a b) (h2 : Val ls c d) : a = c ∧ b = d := by
  have k1 := h.le h2
  have k2 := h2.le h
  exact cross_eq h.b0 h2.b0 (by omega) h.lw h2.lw
theorem mem_idx {ls : List Lk} {l : Lk} (h : l ∈ ls) : ∃ i, (0 ≤ i ∧ i < (ls.length : Int)) ∧ at4 ls i = l := by
  obtain ⟨k, hk, e⟩ := List.mem_iff_getElem.mp h
  refine ⟨(k : Int), by omega, ?_⟩
  unfold at4
  rw [Int.toNat_natCast, List.getD_eq_getElem?_getD, List.getElem?_eq_getElem hk]
  exact e
theorem at4_mem {ls : List Lk} {i : Int} (h0 : 0 ≤ i) (h1 : i < (ls.length : Int)) : at4 ls i ∈ ls := by
  have hk : i.toNat < ls.length := by omega
  have e : at4 ls i = ls[i.toNat] := by
    unfold at4
    rw [List.getD_eq_getElem?_getD, List.getElem?_eq_getElem hk]
    rfl
  rw [e]
  exact List.getElem_mem hk
/-- where a move stands -/
def pl (o : List Int) (v : Int) : Int := (o.idxOf v : Nat)
def lt1 (o : List Int) (m : Int) : Int := if pl o (m + 1) < pl o m then 1 else 0
/-- the links of the order -/
def oLk (ms : List Int) (wk : Int) (o : List Int) (k : Int) : Lk := (val o k, val o ((k + 1) % (o.length : Int)), val ms (val o k) + wk * ((val o k + 1 - val o ((k + 1) % (o.length : Int))).natAbs : Int), if k + 1 = (o.length : Int) then 1 else 0)
def mLk (ts ms o : List Int) (m : Int) : Lk := (m, m + 1, val ms m + val ts m, lt1 o m)
def bLk (o : List Int) (m : Int) : Lk := (m + 1, m, 0, 1 - lt1 o m)
/-- all links; those that the law asks -/
def RL (ts ms : List Int) (wk : Int) (o : List Int) : List Lk := (rngI 0 o.length).map (oLk ms wk o) ++ (rngI 0 ts.length).flatMap fun m => [mLk ts ms o m, bLk o m]
def LL (ts ms : List Int) (wk : Int) (o : List Int) : List Lk := (rngI 0 o.length).map (oLk ms wk o) ++ (rngI 0 ts.length).map (mLk ts ms o)
structure Rb (ts ms : List Int) (wk : Int) (o : List Int) : Prop where
  n1 : 1 ≤ ts.length
  n4 : ts.length ≤ 4
  ml : ms.length = ts.length + 1
  t : ∀ x ∈ ts, 0 ≤ x ∧ x ≤ 60
  m : ∀ x ∈ ms, 1 ≤ x ∧ x ≤ 6
  w : 0 ≤ wk ∧ wk ≤ 4
  ho : o.Perm (rngI 0 (ts.length + 1))
section
variable {ts ms o : List Int} {wk : Int}
theorem Rb.ol (B : Rb ts ms wk o) : o.length = ts.length + 1 := by rw [B.ho.length_eq, rngI_len]
theorem Rb.in_ (B : Rb ts ms wk o) {k : Int} (h0 : 0 ≤ k) (h1 : k < (o.length : Int)) : 0 ≤ val o k ∧ val o k < (ts.length : Int) + 1 := by
  have := (mem_rngI _ _ _).mp (B.ho.mem_iff.mp (val_mem (ts := o) h0 h1))
  omega
theorem Rb.pl_at (B : Rb ts ms wk o) {k : Int} (h0 : 0 ≤ k) (h1 : k < (o.length : Int)) : pl o (val o k) = k := by
  have hn : o.Nodup := B.ho.nodup_iff.mpr (rngI_nodup 0 _)
  have hk : k.toNat < o.length := by omega
  unfold pl
  have e : val o k = o[k.toNat] := by
    have := val_get hk
    rw [← this]
    congr 1
    omega
  rw [e, List.Nodup.idxOf_getElem hn k.toNat hk]
  omega
theorem Rb.at_pl (B : Rb ts ms wk o) {v : Int} (h0 : 0 ≤ v) (h1 : v < (ts.length : Int) + 1) : (0 ≤ pl o v ∧ pl o v < (o.length : Int)) ∧ val o (pl o v) = v := by
  have hm : v ∈ o := B.ho.mem_iff.mpr ((mem_rngI _ _ _).mpr (by omega))
  have hl : o.idxOf v < o.length := List.idxOf_lt_length_of_mem hm
  refine ⟨by unfold pl; omega, ?_⟩
  unfold pl
  rw [val_get hl]
  exact List.getElem_idxOf hl
theorem Rb.lt (B : Rb ts ms wk o) {m : Int} (h0 : 0 ≤ m) (h1 : m < (ts.length : Int)) : (lt1 o m = 1 ∧ pl o (m + 1) < pl o m) ∨ (lt1 o m = 0 ∧ pl o m < pl o (m + 1)) := by
  unfold lt1
  by_cases c : pl o (m + 1) < pl o m
  · exact .inl ⟨if_pos c, c⟩
  · refine .inr ⟨if_neg c, ?_⟩
    have a := (B.at_pl h0 (by omega)).2
    have b := (B.at_pl (v := m + 1) (by omega) (by omega)).2
    have : pl o m ≠ pl o (m + 1) := fun e => by rw [e, b] at a; omega
    omega
theorem mod_at {k n : Int} (h0 : 0 ≤ k) (h1 : k < n) : (k + 1 < n ∧ (k + 1) % n = k + 1) ∨ (k + 1 = n ∧ (k + 1) % n = 0) := by
  by_cases c : k + 1 < n
  · exact .inl ⟨c, Int.emod_eq_of_lt (by omega) c⟩
  · have e : k + 1 = n := by omega
    exact .inr ⟨e, by rw [e, Int.emod_self]⟩
theorem LL_mem {l : Lk} : l ∈ LL ts ms wk o ↔ (∃ k, (0 ≤ k ∧ k < (o.length : Int)) ∧ l = oLk ms wk o k) ∨ ∃ m, (0 ≤ m ∧ m < (ts.length : Int)) ∧ l = mLk ts ms o m := by
  unfold LL
  rw [List.mem_append, List.mem_map, List.mem_map]
  constructor
  · rintro (⟨k, hk, e⟩ | ⟨m, hm, e⟩)
    · exact .inl ⟨k, by have := (mem_rngI _ _ _).mp hk; omega, e.symm⟩
    · exact .inr ⟨m, by have := (mem_rngI _ _ _).mp hm; omega, e.symm⟩
  · rintro (⟨k, hk, e⟩ | ⟨m, hm, e⟩)
    · exact .inl ⟨k, (mem_rngI _ _ _).mpr (by omega), e.symm⟩
    · exact .inr ⟨m, (mem_rngI _ _ _).mpr (by omega), e.symm⟩
theorem RL_mem {l : Lk} : l ∈ RL ts ms wk o ↔ l ∈ LL ts ms wk o ∨ ∃ m, (0 ≤ m ∧ m < (ts.length : Int)) ∧ l = bLk o m := by
  rw [LL_mem]
  unfold RL
  rw [List.mem_append, List.mem_map, List.mem_flatMap]
  constructor
  · rintro (⟨k, hk, e⟩ | ⟨m, hm, e⟩)
    · exact .inl (.inl ⟨k, by have := (mem_rngI _ _ _).mp hk; omega, e.symm⟩)
    · have hmr := (mem_rngI _ _ _).mp hm
      rcases List.mem_cons.mp e with z | z
      · exact .inl (.inr ⟨m, by omega, z⟩)
      · exact .inr ⟨m, by omega, List.mem_singleton.mp z⟩
  · rintro ((⟨k, hk, e⟩ | ⟨m, hm, e⟩) | ⟨m, hm, e⟩)
    · exact .inl ⟨k, (mem_rngI _ _ _).mpr (by omega), e.symm⟩
    · exact .inr ⟨m, (mem_rngI _ _ _).mpr (by omega), by rw [e]; simp⟩
    · exact .inr ⟨m, (mem_rngI _ _ _).mpr (by omega), by rw [e]; simp⟩
theorem LL_len (B : Rb ts ms wk o) : (LL ts ms wk o).length = 2 * ts.length + 1 := by
  unfold LL
  rw [List.length_append, List.length_map, List.length_map, rngI_len, rngI_len, B.ol]
  omega
theorem RL_len (B : Rb ts ms wk o) : (RL ts ms wk o).length = 3 * ts.length + 1 := by
  unfold RL
  have : ∀ K : List Int, (K.flatMap fun m => [mLk ts ms o m, bLk o m]).length = 2 * K.length := fun K => by
    induction K with
    | nil => rfl
    | cons a K ih =>
      rw [List.flatMap_cons, List.length_append, ih, List.length_cons]
      show 2 + 2 * K.length = 2 * (K.length + 1)
      omega
  rw [List.length_append, List.length_map, this, rngI_len, rngI_len, B.ol]
  omega
/-- what any of the links is like -/
structure L2 (ts o : List Int) (l : Lk) : Prop where
  a : 0 ≤ l.1 ∧ l.1 < ((ts.length + 1 : Nat) : Int)
  b : 0 ≤ l.2.1 ∧ l.2.1 < ((ts.length + 1 : Nat) : Int)
  t : 0 ≤ l.2.2.1 ∧ l.2.2.1 ≤ 100
  r : 0 ≤ l.2.2.2 ∧ l.2.2.2 ≤ 3
  k : pl o l.2.1 ≤ pl o l.1 → 1 ≤ l.2.2.2
theorem Rb.oo (B : Rb ts ms wk o) {k : Int} (h0 : 0 ≤ k) (h1 : k < (o.length : Int)) : L2 ts o (oLk ms wk o k) := by
  have hol := B.ol
  have ha := B.in_ h0 h1
  have hn4 := B.n4
  have hm := B.m _ (val_mem (ts := ms) (j := val o k) ha.1 (by rw [B.ml]; omega))
  have hw := B.w
  have hp : 0 ≤ (k + 1) % (o.length : Int) ∧ (k + 1) % (o.length : Int) < (o.length : Int) := by
    rcases mod_at h0 h1 with ⟨_, e⟩ | ⟨_, e⟩ <;> rw [e] <;> omega
  have hb := B.in_ hp.1 hp.2
  have hd : ((val o k + 1 - val o ((k + 1) % (o.length : Int))).natAbs : Int) ≤ 5 := by omega
  have hmul : 0 ≤ wk * ((val o k + 1 - val o ((k + 1) % (o.length : Int))).natAbs : Int) ∧ wk * ((val o k + 1 - val o ((k + 1) % (o.length : Int))).natAbs : Int) ≤ 4 * 5 := ⟨Int.mul_nonneg hw.1 (by omega), Int.mul_le_mul hw.2 hd (by omega) (by omega)⟩
  refine ⟨?_, ?_, ?_, ?_, ?_⟩
  · show 0 ≤ val o k ∧ val o k < _
    omega
  · show 0 ≤ val o ((k + 1) % (o.length : Int)) ∧ val o ((k + 1) % (o.length : Int)) < _
    omega
  · show 0 ≤ val ms (val o k) + _ ∧ val ms (val o k) + _ ≤ 100
    omega
  · show 0 ≤ (if k + 1 = (o.length : Int) then (1 : Int) else 0) ∧ (if k + 1 = (o.length : Int) then (1 : Int) else 0) ≤ 3
    split <;> omega
  · intro h
    have h : pl o (val o ((k + 1) % (o.length : Int))) ≤ pl o (val o k) := h
    rw [B.pl_at h0 h1, B.pl_at hp.1 hp.2] at h
    show 1 ≤ (if k + 1 = (o.length : Int) then (1 : Int) else 0)
    rcases mod_at h0 h1 with ⟨_, e⟩ | ⟨c, e⟩
    · omega
    · rw [if_pos c]; omega
theorem Rb.mm (B : Rb ts ms wk o) {m : Int} (h0 : 0 ≤ m) (h1 : m < (ts.length : Int)) : L2 ts o (mLk ts ms o m) := by
  have hm := B.m _ (val_mem (ts := ms) (j := m) h0 (by rw [B.ml]; omega))
  have ht := B.t _ (val_mem (ts := ts) (j := m) h0 h1)
  have hl := B.lt h0 h1
  refine ⟨?_, ?_, ?_, ?_, fun h => ?_⟩
  · show 0 ≤ m ∧ m < _
    omega
  · show 0 ≤ m + 1 ∧ m + 1 < _
    omega
  · show 0 ≤ val ms m + val ts m ∧ val ms m + val ts m ≤ 100
    omega
  · show 0 ≤ lt1 o m ∧ lt1 o m ≤ 3
    omega
  · have h : pl o (m + 1) ≤ pl o m := h
    show 1 ≤ lt1 o m
    omega
theorem Rb.bb (B : Rb ts ms wk o) {m : Int} (h0 : 0 ≤ m) (h1 : m < (ts.length : Int)) : L2 ts o (bLk o m) := by
  have hl := B.lt h0 h1
  refine ⟨?_, ?_, ?_, ?_, fun h => ?_⟩
  · show 0 ≤ m + 1 ∧ m + 1 < _
    omega
  · show 0 ≤ m ∧ m < _
    omega
  · show (0 : Int) ≤ 0 ∧ (0 : Int) ≤ 100
    omega
  · show 0 ≤ 1 - lt1 o m ∧ 1 - lt1 o m ≤ 3
    omega
  · have h : pl o m ≤ pl o (m + 1) := h
    show 1 ≤ 1 - lt1 o m
    omega
theorem Rb.ll (B : Rb ts ms wk o) : ∀ l ∈ LL ts ms wk o, L2 ts o l := fun l hl => by
  rcases LL_mem.mp hl with ⟨k, hk, rfl⟩ | ⟨m, hm, rfl⟩
  · exact B.oo hk.1 hk.2
  · exact B.mm hm.1 hm.2
theorem Rb.rl (B : Rb ts ms wk o) : ∀ l ∈ RL ts ms wk o, L2 ts o l := fun l hl => by
  rcases RL_mem.mp hl with h | ⟨m, hm, rfl⟩
  · exact B.ll l h
  · exact B.bb hm.1 hm.2
/-- the k-th link of the order -/
theorem LL_at (B : Rb ts ms wk o) {k : Int} (h0 : 0 ≤ k) (h1 : k < (o.length : Int)) : at4 (LL ts ms wk o) k = oLk ms wk o k := by
  have hk : k.toNat < o.length := by omega
  unfold at4 LL
  rw [List.getD_eq_getElem?_getD, List.getElem?_append_left (by rw [List.length_map, rngI_len]; exact hk), List.getElem?_map, rng_get _ 0 k.toNat hk]
  show oLk ms wk o (0 + (k.toNat : Int)) = _
  congr 1
  omega
/-- along the order, from one place to a later one -/
theorem up_path (B : Rb ts ms wk o) : ∀ (d : Nat) (a : Int), 0 ≤ a → a + d < (o.length : Int) → Wk (LL ts ms wk o) (val o a) (rngI a d) (val o (a + d)) ∧ wt (rnd (LL ts ms wk o)) (rngI a d) = 0 ∧ 0 ≤ wt (tim (LL ts ms wk o)) (rngI a d)
  | 0, a, h0, h1 => ⟨by show val o a = val o (a + ((0 : Nat) : Int)); simp, rfl, Int.le_refl _⟩
  | d + 1, a, h0, h1 => by
    have ha : a < (o.length : Int) := by omega
    obtain ⟨i1, i2, i3⟩ := up_path B d (a + 1) (by omega) (by omega)
    have e := LL_at B h0 ha
    have hl := LL_len B
    have hol := B.ol
    have hL := B.oo h0 ha
    have hmod : (a + 1) % (o.length : Int) = a + 1 := Int.emod_eq_of_lt (by omega) (by omega)
    have s1 : src (LL ts ms wk o) a = val o a := by unfold src; rw [e]; rfl
    have s2 : tgt (LL ts ms wk o) a = val o (a + 1) := by
      unfold tgt
      rw [e]
      show val o ((a + 1) % (o.length : Int)) = _
      rw [hmod]
    have s3 : rnd (LL ts ms wk o) a = 0 := by
      unfold rnd
      rw [e]
      exact if_neg (by omega)
    have s4 : 0 ≤ tim (LL ts ms wk o) a := by unfold tim; rw [e]; exact hL.t.1
    refine ⟨⟨⟨⟨h0, by omega⟩, s1⟩, ?_⟩, ?_, ?_⟩
    · rw [s2]
      have : a + ((d + 1 : Nat) : Int) = a + 1 + (d : Int) := by omega
      rw [this]
      exact i1
    · show rnd (LL ts ms wk o) a + wt (rnd (LL ts ms wk o)) (rngI (a + 1) d) = 0
      omega
    · show 0 ≤ tim (LL ts ms wk o) a + wt (tim (LL ts ms wk o)) (rngI (a + 1) d)
      omega
/-- the last link, back to the first move -/
theorem last_link (B : Rb ts ms wk o) : Wk (LL ts ms wk o) (val o ((o.length : Int) - 1)) [(o.length : Int) - 1] (val o 0) ∧ wt (rnd (LL ts ms wk o)) [(o.length : Int) - 1] = 1 ∧ 0 ≤ wt (tim (LL ts ms wk o)) [(o.length : Int) - 1] := by
  have hol := B.ol
  have h0 : (0 : Int) ≤ (o.length : Int) - 1 := by omega
  have h1 : (o.length : Int) - 1 < (o.length : Int) := by omega
  have e := LL_at B h0 h1
  have hl := LL_len B
  have hL := B.oo h0 h1
  have hmod : ((o.length : Int) - 1 + 1) % (o.length : Int) = 0 := by
    rw [show (o.length : Int) - 1 + 1 = (o.length : Int) by omega, Int.emod_self]
  refine ⟨⟨⟨⟨h0, by omega⟩, by unfold src; rw [e]; rfl⟩, ?_⟩, ?_, ?_⟩
  · show tgt (LL ts ms wk o) _ = _
    unfold tgt
    rw [e]
    show val o (((o.length : Int) - 1 + 1) % (o.length : Int)) = _
    rw [hmod]
  · show rnd (LL ts ms wk o) _ + 0 = 1
    unfold rnd
    rw [e]
    have : (if (o.length : Int) - 1 + 1 = (o.length : Int) then (1 : Int) else 0) = 1 := if_pos (by omega)
    show (if (o.length : Int) - 1 + 1 = (o.length : Int) then (1 : Int) else 0) + 0 = 1
    rw [this]
    rfl
  · show 0 ≤ tim (LL ts ms wk o) _ + 0
    unfold tim
    rw [e]
    have := hL.t.1
    omega
/-- a link back is a walk along the order -/
theorem back_path (B : Rb ts ms wk o) {m : Int} (h0 : 0 ≤ m) (h1 : m < (ts.length : Int)) : ∃ q, Wk (LL ts ms wk o) (m + 1) q m ∧ wt (rnd (LL ts ms wk o)) q = 1 - lt1 o m ∧ 0 ≤ wt (tim (LL ts ms wk o)) q := by
  obtain ⟨p1, p2⟩ := B.at_pl h0 (by omega)
  obtain ⟨q1, q2⟩ := B.at_pl (v := m + 1) (by omega) (by omega)
  rcases B.lt h0 h1 with ⟨e, hlt⟩ | ⟨e, hlt⟩
  · obtain ⟨a1, a2, a3⟩ := up_path B (pl o m - pl o (m + 1)).toNat (pl o (m + 1)) q1.1 (by omega)
    have es : pl o (m + 1) + ((pl o m - pl o (m + 1)).toNat : Int) = pl o m := by omega
    rw [es, q2, p2] at a1
    exact ⟨_, a1, by rw [a2, e]; rfl, a3⟩
  · have hol := B.ol
    obtain ⟨a1, a2, a3⟩ := up_path B ((o.length : Int) - 1 - pl o (m + 1)).toNat (pl o (m + 1)) q1.1 (by omega)
    have es : pl o (m + 1) + (((o.length : Int) - 1 - pl o (m + 1)).toNat : Int) = (o.length : Int) - 1 := by omega
    rw [es, q2] at a1
    obtain ⟨b1, b2, b3⟩ := last_link B
    obtain ⟨c1, c2, c3⟩ := up_path B (pl o m).toNat 0 (by omega) (by omega)
    have es2 : (0 : Int) + ((pl o m).toNat : Int) = pl o m := by omega
    rw [es2, p2] at c1
    refine ⟨_ ++ (_ ++ _), wk_app.mpr ⟨_, a1, wk_app.mpr ⟨_, b1, c1⟩⟩, ?_, ?_⟩
    · rw [wt_app, wt_app, a2, b2, c2, e]; rfl
    · rw [wt_app, wt_app]; omega
theorem RL_of_LL (B : Rb ts ms wk o) (bt bb : Int) (hb : 0 ≤ bb) (N : NoPos (LL ts ms wk o) (wgt (LL ts ms wk o) bt bb)) : NoPos (RL ts ms wk o) (wgt (RL ts ms wk o) bt bb) := by
  refine nopos_sub (fun i i0 i1 => ?_) N
  rcases RL_mem.mp (at4_mem i0 i1) with h | ⟨m, hm, e⟩
  · obtain ⟨j, hj, e⟩ := mem_idx h
    refine ⟨[j], ⟨⟨hj, by unfold src; rw [e]⟩, by show tgt _ j = tgt _ i; unfold tgt; rw [e]⟩, ?_⟩
    show wgt _ bt bb i ≤ wgt _ bt bb j + 0
    unfold wgt tim rnd
    rw [e]
    omega
  · obtain ⟨q, h1, h2, h3⟩ := back_path B hm.1 hm.2
    have es : src (RL ts ms wk o) i = m + 1 := by unfold src; rw [e]; rfl
    have eg : tgt (RL ts ms wk o) i = m := by unfold tgt; rw [e]; rfl
    refine ⟨q, by rw [es, eg]; exact h1, ?_⟩
    rw [wt_wgt, h2]
    have et : tim (RL ts ms wk o) i = 0 := by unfold tim; rw [e]; rfl
    have er : rnd (RL ts ms wk o) i = 1 - lt1 o m := by unfold rnd; rw [e]; rfl
    unfold wgt
    rw [et, er, Int.zero_mul]
    have := Int.mul_nonneg h3 hb
    omega
theorem LL_of_RL (bt bb : Int) (N : NoPos (RL ts ms wk o) (wgt (RL ts ms wk o) bt bb)) : NoPos (LL ts ms wk o) (wgt (LL ts ms wk o) bt bb) := by
  refine nopos_sub (fun i i0 i1 => ?_) N
  obtain ⟨j, hj, e⟩ := mem_idx (RL_mem.mpr (.inl (at4_mem i0 i1)))
  refine ⟨[j], ⟨⟨hj, by unfold src; rw [e]⟩, by show tgt _ j = tgt _ i; unfold tgt; rw [e]⟩, ?_⟩
  show wgt _ bt bb i ≤ wgt _ bt bb j + 0
  unfold wgt tim rnd
  rw [e]
  omega
/-- the whole order is a round -/
theorem order_ring (B : Rb ts ms wk o) : ∃ q, Wk (LL ts ms wk o) (val o 0) q (val o 0) ∧ q ≠ [] ∧ wt (rnd (LL ts ms wk o)) q = 1 ∧ ms.sum ≤ wt (tim (LL ts ms wk o)) q := by
  have hol := B.ol
  obtain ⟨a1, a2, a3⟩ := up_path B (o.length - 1) 0 (by omega) (by omega)
  have es : (0 : Int) + ((o.length - 1 : Nat) : Int) = (o.length : Int) - 1 := by omega
  rw [es] at a1
  obtain ⟨b1, b2, b3⟩ := last_link B
  refine ⟨rngI 0 (o.length - 1) ++ [(o.length : Int) - 1], wk_app.mpr ⟨_, a1, b1⟩, by simp, by rw [wt_app, a2, b2]; rfl, ?_⟩
  have er : rngI 0 (o.length - 1) ++ [(o.length : Int) - 1] = rngI 0 o.length := by
    have h := rng_snoc (o.length - 1)
    rw [show o.length - 1 + 1 = o.length by omega] at h
    rw [h]
    congr 2
    omega
  rw [er]
  have h1 : ms.sum = ((rngI 0 o.length).map fun k => val ms (val o k)).sum := by
    have e1 : (rngI 0 o.length).map (fun k => val ms (val o k)) = (o.map (val ms)) := by
      have := congrArg (List.map (val ms)) (vals_at o)
      rw [List.map_map] at this
      exact this
    rw [e1]
    have e2 : (o.map (val ms)).sum = ((rngI 0 (ts.length + 1)).map (val ms)).sum := wt_perm (w := val ms) B.ho
    rw [e2, ← B.ml, vals_at]
  rw [h1]
  unfold wt
  have main : ∀ K : List Int, (∀ k ∈ K, 0 ≤ k ∧ k < (o.length : Int)) → (K.map fun k => val ms (val o k)).sum ≤ (K.map (tim (LL ts ms wk o))).sum := fun K => by
    induction K with
    | nil => exact fun _ => Int.le_refl _
    | cons k K ih =>
      intro h
      have i1 := ih fun x hx => h x (List.mem_cons_of_mem _ hx)
      have i2 := h k List.mem_cons_self
      have i3 : val ms (val o k) ≤ tim (LL ts ms wk o) k := by
        unfold tim
        rw [LL_at B i2.1 i2.2]
        show val ms (val o k) ≤ val ms (val o k) + wk * ((val o k + 1 - val o ((k + 1) % (o.length : Int))).natAbs : Int)
        have := Int.mul_nonneg B.w.1 (show (0 : Int) ≤ ((val o k + 1 - val o ((k + 1) % (o.length : Int))).natAbs : Int) by omega)
        omega
      rw [List.map_cons, List.map_cons, List.sum_cons, List.sum_cons]
      omega
  exact main _ fun k hk => by
    have := (mem_rngI _ _ _).mp hk
    omega
end
end DVR

namespace DV
open PySem L2
def KDc (vs : List Nat) (tg : D → Env → Option Env) (t : Env → M Bool) (kf vf : Env → DV.M RV) (ρ : Env) (P : RV → Prop) (q : List D × Option Nat) : Prop := q.1.length ≤ 50000 ∧ Gives (dcF tg t kf vf (wipeE ρ vs) q.1 []) fun kv => P (.gn ⟨false, kv⟩)
section
variable {α : Type} {P : RV → Prop} {ρ : Env} {fi : Env → M (List D × Option Nat)} {vs : List Nat} {tg : D → Env → Option Env} {t : Env → M Bool} {kf vf : Env → DV.M RV}
theorem w_dcomp (p : Gives (fi ρ) (KDc vs tg t kf vf ρ P)) : Gives (eDc fi vs tg t kf vf ρ) P := by
  unfold eDc
  refine Gives.bnd p fun q ⟨h1, h2⟩ => ?_
  rw [if_pos h1]
  exact Gives.bnd h2 fun kv h => Gives.ret h
theorem dcF_mk (mk : α → D) (kk v : α → Int) : ∀ (L : List α) (M : List (Int × Int)), (∀ a ∈ L, KTg (tg (mk a) ρ) fun ρ1 => Gives (kf ρ1) (fun r => r = .d (.int (kk a))) ∧ Gives (vf ρ1) fun r => r = .d (.int (v a))) → Gives (dcF tg tTrue kf vf ρ (L.map mk) (encT kInt PyData.int M)) fun kv => kv = encT kInt PyData.int (L.foldl (fun M a => putA M (kk a) (v a)) M)
  | [], M, _ => Gives.ret rfl
  | a :: L, M, h => by
    obtain ⟨ρ1, e1, g1, g2⟩ := h a List.mem_cons_self
    show Gives (dcF tg tTrue kf vf ρ (mk a :: L.map mk) _) _
    unfold dcF
    rw [e1, lft_s, bnd_ret]
    show Gives (bnd (kf ρ1) _) _
    refine Gives.bnd g1 fun r er => ?_
    subst er
    show Gives (bnd (lft (some (kk a))) _) _
    rw [lft_s, bnd_ret]
    refine Gives.bnd g2 fun r er => ?_
    subst er
    show Gives (bnd (lft (some (PyData.int (v a)))) _) _
    rw [lft_s, bnd_ret]
    have e := put_enc (E := kInt) (v := PyData.int) (M := M) (k := kk a) (b := v a)
    have e2 : putD (encT kInt PyData.int M) (.int (kk a)) (.int (v a)) = encT kInt PyData.int (putA M (kk a) (v a)) := e
    rw [e2]
    exact dcF_mk mk kk v L (putA M (kk a) (v a)) fun b hb => h b (List.mem_cons_of_mem _ hb)
theorem w_dcM {L : List α} {mk : α → D} {lk : Option Nat} (kk v : α → Int) (c : L.length ≤ 50000) (hh : ∀ a ∈ L, KTg (tg (mk a) (wipeE ρ vs)) fun ρ1 => Gives (kf ρ1) (fun r => r = .d (.int (kk a))) ∧ Gives (vf ρ1) fun r => r = .d (.int (v a)))
    (p : P (.gn (dT kInt PyData.int (L.foldl (fun M a => putA M (kk a) (v a)) [])))) : KDc vs tg tTrue kf vf ρ P (L.map mk, lk) :=
  ⟨by show (L.map mk).length ≤ 50000; rw [List.length_map]; exact c, (dcF_mk mk kk v L [] hh).mono fun kv e => by subst e; exact p⟩
theorem w_intB {b : Bool} (p : P (.d (.int (if b = true then 1 else 0)))) : KC gInt P [.d (.bool b)] := ⟨.d (.int (if b = true then 1 else 0)), by cases b <;> rfl, p⟩
end
theorem fold_put {α : Type} (kk v : α → Int) : ∀ (L : List α) (M : List (Int × Int)), (L.map kk).Nodup → (∀ a ∈ L, kk a ∉ M.map (·.1)) → L.foldl (fun M a => putA M (kk a) (v a)) M = M ++ L.map fun a => (kk a, v a)
  | [], M, _, _ => (List.append_nil M).symm
  | a :: L, M, hn, hm => by
    rw [List.map_cons, List.nodup_cons] at hn
    have e : putA M (kk a) (v a) = M ++ [(kk a, v a)] := by
      unfold putA
      have := getA_none.mpr (hm a List.mem_cons_self)
      rw [if_neg (by rw [this]; decide)]
    rw [List.foldl_cons, e, fold_put kk v L _ hn.2 fun b hb h => by
      rw [List.map_append] at h
      rcases List.mem_append.mp h with z | z
      · exact hm b (List.mem_cons_of_mem _ hb) z
      · have : kk b = kk a := by simpa using z
        exact hn.1 (this ▸ List.mem_map.mpr ⟨b, hb, rfl⟩), List.append_assoc]
    rfl
end DV
namespace DVR
open PySem L2 DV DVL
theorem en_val (o : List Int) : (enI 0 o).map (fun p => PyData.tuple [.int p.1, .int p.2]) = (rngI 0 o.length).map fun k => PyData.tuple [.int k, .int (val o k)] := by
  have h := enI_mapR (val o) o.length 0
  rw [vals_at] at h
  rw [h, List.map_map]
  rfl
/-- the places of the moves -/
theorem places_at {ts ms o : List Int} {wk : Int} (B : Rb ts ms wk o) : (rngI 0 o.length).foldl (fun M k => putA M (val o k) k) [] = (rngI 0 o.length).map fun k => (val o k, k) := by
  have hn : o.Nodup := B.ho.nodup_iff.mpr (rngI_nodup 0 _)
  have := fold_put (val o) (fun k => k) (rngI 0 o.length) [] (by rw [vals_at]; exact hn) fun a _ h => nomatch h
  rw [this, List.nil_append]
theorem place_get {ts ms o : List Int} {wk : Int} (B : Rb ts ms wk o) {v : Int} (h0 : 0 ≤ v) (h1 : v < (ts.length : Int) + 1) : getA ((rngI 0 o.length).map fun k => (val o k, k)) v = some (pl o v) := by
  have hn : o.Nodup := B.ho.nodup_iff.mpr (rngI_nodup 0 _)
  obtain ⟨p1, p2⟩ := B.at_pl h0 h1
  have U : Uq ((rngI 0 o.length).map fun k => (val o k, k)) := by
    unfold Uq
    rw [List.map_map]
    show ((rngI 0 o.length).map (val o)).Nodup
    rw [vals_at]
    exact hn
  exact U.get (List.mem_map.mpr ⟨pl o v, (mem_rngI _ _ _).mpr (by omega), by rw [p2]⟩)
end DVR

namespace Lk63.U
open PySem L2 DV DVL DVR
local macro_rules
  | `(tactic| get_elem_tactic_trivial) => `(tactic| first
    | (simp only [List.set_cons_succ, List.set_cons_zero, DV.startE, DV.lawE, DV.toK, DV.lockE, DV.wipeE, List.map_cons, List.map_nil, List.length_cons, List.length_nil, List.replicate_zero, List.replicate_succ, Nat.reduceSub, Nat.reduceAdd, List.append_nil, List.cons_append, List.nil_append]; rfl)
    | exact rfl)
local macro_rules
  | `(tactic| infer_instance) => `(tactic| first
    | with_reducible refine DV.w_cons ?_
    | with_reducible refine DV.w_var (by with_unfolding_all exact rfl) ?_
    | with_reducible refine DV.w_c ?_
    | with_reducible refine DV.w_nil ?_
    | with_reducible refine DV.w_e2 ?_
    | with_reducible refine DV.w_seq ?_
    | with_reducible refine DV.w_seqN ?_
    | with_reducible refine DV.w_seqR ?_
    | with_reducible refine DV.w_seqB ?_
    | with_reducible refine DV.w_seqC ?_
    | with_reducible refine DV.w_call ?_
    | with_reducible refine DV.w_fn ?_
    | with_reducible refine DV.w_f1 ?_
    | with_reducible refine DV.w_f2 ?_
    | with_reducible refine DV.w_f3 ?_
    | with_reducible refine DV.w_f4 ?_
    | with_reducible refine DV.w_f5 ?_
    | with_reducible refine DV.w_f6 ?_
    | with_reducible refine DV.w_set ?_
    | with_reducible refine DV.w_setApp ?_
    | with_reducible refine DV.w_setX (by with_unfolding_all exact rfl) (by with_unfolding_all (simp only [List.set_cons_succ, List.set_cons_zero]; rfl)) ?_
    | with_reducible refine DV.w_rt ?_
    | with_reducible refine DV.w_rtD ?_
    | with_reducible refine DV.w_rtN ?_
    | with_reducible refine DV.w_rtV (by with_unfolding_all exact rfl) ?_
    | with_reducible refine DV.w_if ?_
    | with_reducible refine DV.w_drop ?_
    | with_reducible refine DV.w_nop ?_
    | with_reducible refine DV.w_T ?_
    | with_reducible refine DV.w_B ?_
    | with_reducible refine DV.w_not ?_
    | with_reducible refine DV.w_and ?_
    | with_reducible refine DV.w_or ?_
    | with_reducible refine DV.w_ifT ?_
    | with_reducible refine DV.w_ifF ?_
    | with_reducible refine DV.w_ifNT ?_
    | with_reducible refine DV.w_ifNF ?_
    | with_reducible refine DV.w_stup ?_
    | with_reducible refine DV.w_stupD (by with_unfolding_all (simp only [DV.wipeE, DV.gTupF, DV.gMore, DV.gNone, DV.gNm, List.set_cons_succ, List.set_cons_zero, List.length]; rfl)) ?_
    | with_reducible refine DV.w_aug (by with_unfolding_all exact rfl) ?_
    | with_reducible refine DV.w_I ?_
    | with_reducible refine DV.w_app (by with_unfolding_all exact rfl) (by simp only [List.length_map]; omega) ?_
    | with_reducible refine DV.w_D ?_
    | with_reducible refine DV.w_for ?_
    | with_reducible refine DV.w_lc ?_
    | with_reducible refine DV.w_par ?_
    | with_reducible refine DV.w_par3 ?_
    | with_reducible refine DV.w_par4 ?_
    | with_reducible refine DV.w_parX (by with_unfolding_all exact rfl) (by with_unfolding_all exact rfl) (by with_unfolding_all (simp only [List.set_cons_succ, List.set_cons_zero]; rfl)) ?_
    | with_reducible refine DV.w_par3X (by with_unfolding_all exact rfl) (by with_unfolding_all exact rfl) (by with_unfolding_all exact rfl) (by with_unfolding_all (simp only [List.set_cons_succ, List.set_cons_zero]; rfl)) ?_
    | with_reducible refine DV.w_par4X (by with_unfolding_all exact rfl) (by with_unfolding_all exact rfl) (by with_unfolding_all exact rfl) (by with_unfolding_all exact rfl) (by with_unfolding_all (simp only [List.set_cons_succ, List.set_cons_zero]; rfl)) ?_
    | with_reducible refine DV.w_tup ?_
    | with_reducible refine DV.w_lst ?_
    | with_reducible refine DV.w_tu (by with_unfolding_all exact rfl) (by with_unfolding_all exact Nat.le_of_ble_eq_true rfl) ?_
    | with_reducible refine DV.w_ls (by with_unfolding_all exact rfl) (by with_unfolding_all exact Nat.le_of_ble_eq_true rfl) ?_
    | with_reducible refine DV.w_neg ?_
    | with_reducible refine DV.w_ifB ?_
    | with_reducible refine DV.w_ifE ?_
    | with_reducible refine DV.w_notB ?_
    | with_reducible refine DV.w_tt ?_
    | with_reducible refine DV.w_ch ?_
    | with_reducible refine DV.w_add ?_
    | with_reducible refine DV.w_sub ?_
    | with_reducible refine DV.w_mul (by first | omega | (left; constructor <;> omega) | (right; constructor <;> omega)) ?_
    | with_reducible refine DV.w_mod (by omega) ?_
    | with_reducible refine DV.w_div (by omega) ?_
    | with_reducible refine DV.w_lt ?_
    | with_reducible refine DV.w_le ?_
    | with_reducible refine DV.w_gt ?_
    | with_reducible refine DV.w_ge ?_
    | with_reducible refine DV.w_ltA ?_
    | with_reducible refine DV.w_leA ?_
    | with_reducible refine DV.w_gtA ?_
    | with_reducible refine DV.w_geA ?_
    | with_reducible refine DV.w_eq ?_
    | with_reducible refine DV.w_ne ?_
    | with_reducible refine DV.w_eqB ?_
    | with_reducible refine DV.w_neB ?_
    | with_reducible refine DV.w_eqN ?_
    | with_reducible refine DV.w_neN ?_
    | with_reducible refine DV.w_eqN0 ?_
    | with_reducible refine DV.w_neN0 ?_
    | with_reducible refine DV.w_in ?_
    | with_reducible refine DV.w_inB ?_
    | with_reducible refine DV.w_notIn ?_
    | with_reducible refine DV.w_notInB ?_
    | with_reducible refine DV.w_ix0 ?_
    | with_reducible refine DV.w_ix1 ?_
    | with_reducible refine DV.w_ix (by omega) ?_
    | with_reducible refine DV.w_ixB (by omega) ?_
    | with_reducible refine DV.w_len ?_
    | with_reducible refine DV.w_lenB ?_
    | with_reducible refine DV.w_lenN ?_
    | with_reducible refine DV.w_lenM ?_
    | with_reducible refine DV.w_lenMB ?_
    | with_reducible refine DV.w_lenMN ?_
    | with_reducible refine DV.w_lenD ?_
    | with_reducible refine DV.w_lenDB ?_
    | with_reducible refine DV.w_lenDN ?_
    | with_reducible refine DV.w_tupN ?_
    | with_reducible refine DV.w_tupB ?_
    | with_reducible refine DV.w_tupD ?_
    | with_reducible refine DV.w_lstD ?_
    | with_reducible refine DV.w_lstB ?_
    | with_reducible refine DV.w_lstN ?_
    | with_reducible refine DV.w_sum ?_
    | with_reducible refine DV.w_sumN ?_
    | with_reducible refine DV.w_sumB ?_
    | with_reducible refine DV.w_max2 ?_
    | with_reducible refine DV.w_min2 ?_
    | with_reducible refine DV.w_int ?_
    | with_reducible refine DV.w_sort ?_
    | with_reducible refine DV.w_sortN ?_
    | with_reducible refine DV.w_sortB ?_
    | with_reducible refine DV.w_rep (by omega) ?_
    | with_reducible refine DV.w_repN (by omega) ?_
    | with_reducible refine DV.w_moveG (by with_unfolding_all exact rfl) (by with_unfolding_all (simp only [List.set_cons_succ, List.set_cons_zero]; rfl)) ?_
    | with_reducible refine DV.w_moveO (by with_unfolding_all exact rfl) (by with_unfolding_all (simp only [List.set_cons_succ, List.set_cons_zero]; rfl)) ?_
    | with_reducible refine DV.w_moveD (by with_unfolding_all exact rfl) (by with_unfolding_all (simp only [List.set_cons_succ, List.set_cons_zero]; rfl)) ?_
    | with_reducible refine DV.w_catTI (by (try simp only [List.length_append, List.length_take, List.length_drop, List.length_cons, List.length_nil]); omega) ?_
    | with_reducible refine DV.w_catT1 (by (try simp only [List.length_append, List.length_take, List.length_drop, List.length_cons, List.length_nil]); omega) ?_
    | with_reducible refine DV.w_listG ?_
    | with_reducible refine DV.w_sortK ?_
    | with_reducible refine DV.w_colS ?_
    | with_reducible refine DV.w_itT ?_
    | with_reducible refine DV.w_itB ?_
    | with_reducible refine DV.w_itN ?_
    | with_reducible refine DV.w_colR ?_
    | with_reducible refine DV.w_colRN (by omega) ?_
    | with_reducible refine DV.w_ext (by with_unfolding_all exact rfl) ?_
    | with_reducible refine DV.w_lc2 ?_
    | with_reducible refine DV.w_isT ?_
    | with_reducible refine DV.w_isNN ?_
    | with_reducible refine DV.w_isNI ?_
    | with_reducible refine DV.w_isNT ?_
    | with_reducible refine DV.w_ntNN ?_
    | with_reducible refine DV.w_ntNI ?_
    | with_reducible refine DV.w_ntNT ?_
    | with_reducible refine DV.w_repND (by omega) ?_
    | with_reducible refine DV.w_put (by with_unfolding_all exact rfl) ?_
    | with_reducible refine DV.w_putI (by (try simp only [List.length_set, List.length_replicate, List.length_map]); omega) ?_
    | with_reducible refine DV.w_eqB0 ?_
    | with_reducible refine DV.w_neB0 ?_
    | with_reducible refine DV.w_eqBB ?_
    | with_reducible refine DV.w_neBB ?_
    | with_reducible refine DV.w_eqNB ?_
    | with_reducible refine DV.w_neNB ?_
    | with_reducible refine DV.w_eqBN ?_
    | with_reducible refine DV.w_neBN ?_
    | with_reducible refine DV.w_eqT0 ?_
    | with_reducible refine DV.w_neT0 ?_
    | with_reducible refine DV.w_eqT ?_
    | with_reducible refine DV.w_neT ?_
    | with_reducible refine DV.w_gget ?_
    | with_reducible refine DV.w_dc ?_
    | with_reducible refine DV.w_dcN ?_
    | with_reducible refine DV.w_G ?_
    | with_reducible refine DV.w_gput ?_
    | with_reducible refine DV.w_gnew ?_
    | with_reducible refine DV.w_g1 ?_
    | with_reducible refine DV.w_ret ?_
    | with_reducible refine DV.w_slice ?_
    | with_reducible refine DV.w_part ?_
    | with_reducible refine DV.w_slToI (by omega) ?_
    | with_reducible refine DV.w_slFromI (by omega) ?_
    | with_reducible refine DV.w_slToBI (by omega) ?_
    | with_reducible refine DV.w_slFromBI (by omega) ?_
    | with_reducible refine DV.w_star ?_
    | with_reducible refine DV.w_starT ?_
    | with_reducible refine DV.w_starB ?_
    | with_reducible refine DV.w_starN ?_
    | with_reducible refine DV.w_ixR (by omega) ?_
    | with_reducible refine DV.w_ixRB (by omega) ?_
    | with_reducible refine DV.w_lrg ?_
    | with_reducible refine DV.w_trg ?_
    | with_reducible refine DV.w_rg (by omega) ?_
    | with_reducible refine DV.w_enum ?_
    | with_reducible refine DV.w_zip ?_
    | with_reducible refine DV.w_zip3 ?_
    | with_reducible refine DV.w_step ?_
    | with_reducible refine DV.w_stepB (by omega) ?_
    | with_reducible refine DV.w_srev ?_
    | with_reducible refine DV.w_srevT ?_
    | with_reducible refine DV.w_isTT ?_
    | with_reducible refine DV.w_ntTT ?_
    | with_reducible refine DV.w_isFT ?_
    | with_reducible refine DV.w_ntFT ?_
    | with_reducible refine DV.w_isTF ?_
    | with_reducible refine DV.w_ntTF ?_
    | with_reducible refine DV.w_isFF ?_
    | with_reducible refine DV.w_ntFF ?_
    | with_reducible refine DV.w_ixS (by omega) ?_
    | with_reducible refine DV.w_ix2 ?_
    | with_reducible refine DV.w_gget2 ?_
    | with_reducible refine DV.w_notInTs ?_
    | with_reducible refine DV.w_inTs ?_
    | with_reducible refine DV.w_inTsN ?_
    | with_reducible refine DV.w_sset ?_
    | with_reducible refine DV.w_ssetU (by omega) (by assumption) ?_
    | with_reducible refine DV.w_met ?_
    | with_reducible refine DV.w_itL ?_
    | with_reducible refine DV.w_two ?_
    | with_reducible refine DV.w_twoX ?_
    | with_reducible refine DV.w_neS ?_
    | with_reducible refine DV.w_eqS ?_
    | with_reducible refine DV.w_rev ?_
    | with_reducible refine DV.w_revN ?_
    | with_reducible refine DV.w_lset ?_
    | with_reducible refine DV.w_isNL ?_
    | with_reducible refine DV.w_isBL ?_
    | with_reducible refine DV.w_ntNL ?_
    | with_reducible refine DV.w_ntBL ?_
    | with_reducible refine DV.w_abs ?_
    | with_reducible refine DV.w_neBl ?_
    | with_reducible refine DV.w_eqBl ?_
    | with_reducible refine DV.w_eqIP ?_
    | with_reducible refine DV.w_neIP ?_
    | with_reducible refine DV.w_ix3 ?_
    | with_reducible refine DVR.w_neW ?_
    | with_reducible refine DVR.w_ixL (by omega) ?_
    | with_reducible refine DV.w_dcomp ?_
    | with_reducible refine DV.w_intB ?_
    | with_reducible refine DV.w_augIx (by with_unfolding_all exact rfl) ?_
    | with_reducible refine DV.w_inN ?_
    | with_reducible refine DV.w_notInN ?_
    | with_reducible refine DV.w_srcE ?_
    | with_reducible refine DV.w_srcV (by with_unfolding_all exact rfl) ?_
    | with_reducible refine DV.w_src (by with_unfolding_all exact rfl) ?_
    | with_reducible refine DV.w_rng1 ?_
    | with_reducible refine DV.w_rng2 ?_
    | with_reducible refine DV.w_rng2I (by omega) ?_
    | with_reducible refine DV.w_rngN (by omega) ?_
    | with_reducible refine DV.w_rngI (by omega) ?_
    | with_reducible refine DV.w_loopN ?_
    | with_reducible refine DV.w_loopC ?_
    | with_reducible refine DV.w_loopB ?_
    | with_reducible refine DV.w_loopR ?_
    | with_reducible refine DV.w_runN ?_
    | with_reducible refine DV.w_runR ?_
    | with_reducible refine DV.w_tg (by with_unfolding_all (simp only [DV.lockE, DV.unlockE, List.getElem?_cons_succ, List.getElem?_cons_zero, DV.wipeE, DV.gTupF, DV.gMore, DV.gNone, DV.gNm, List.set_cons_succ, List.set_cons_zero, List.length]; rfl)) ?_)
section
variable {ts ms o : List Int} {wk : Int}
theorem lowest_gives (a b : Int) (h0 : 0 < b) (h1 : b < 90000) : DV.Gives (m_lowest [.d (.int a), .d (.int b)]) fun r => r = .d (rtD a b) := by
  have e : m_lowest = m_rat := rfl
  rw [e]
  exact rat_gives a b h0 h1
theorem wt_bnd {w : Int → Int} {a b : Int} : ∀ p : List Int, (∀ i ∈ p, a ≤ w i ∧ w i ≤ b) → a * p.length ≤ wt w p ∧ wt w p ≤ b * p.length
  | [], _ => by
    show a * ((0 : Nat) : Int) ≤ 0 ∧ (0 : Int) ≤ b * ((0 : Nat) : Int)
    simp
  | i :: p, h => by
    obtain ⟨h1, h2⟩ := wt_bnd p fun k hk => h k (List.mem_cons_of_mem _ hk)
    have h3 := h i List.mem_cons_self
    rw [wt_cons, List.length_cons, Int.natCast_add, Int.mul_add, Int.mul_add]
    simp only [Int.natCast_one, Int.mul_one]
    omega
theorem cyc_len {n : Nat} {ls : List Lk} (G : Ln n ls) {q : List Int} (h : Cyc ls q) : q.length ≤ n := by
  obtain ⟨_, t, h1, h2⟩ := h
  have := nodup_le h2 (src_in G h1)
  rw [List.length_map, rngI_len] at this
  exact this
theorem rt_le {a b : Int} (h0 : 0 < b) : 0 < rtB a b ∧ rtB a b ≤ b ∧ (0 < a → 0 < rtT a b) ∧ rtT a b * b = a * rtB a b := by
  have hg := rt_pos (a := a) h0
  have hB := rtB_mul a b
  have hT := rtT_mul a b
  generalize rtB a b = B at *
  generalize rtT a b = T at *
  generalize (Int.gcd a b : Int) = g at *
  have h1 : 0 < B := by
    refine Decidable.byContradiction fun hc => ?_
    have : B * g ≤ 0 := Int.mul_nonpos_of_nonpos_of_nonneg (by omega) (by omega)
    omega
  refine ⟨h1, ?_, fun ha => ?_, ?_⟩
  · have : B * 1 ≤ B * g := Int.mul_le_mul_of_nonneg_left (by omega) (by omega)
    omega
  · refine Decidable.byContradiction fun hc => ?_
    have : T * g ≤ 0 := Int.mul_nonpos_of_nonpos_of_nonneg (by omega) (by omega)
    omega
  · rw [← hB, ← hT]
    ac_rfl
theorem sum_ge_minM : ∀ L : List Int, (∀ x ∈ L, 1 ≤ x) → (L.length : Int) ≤ L.sum
  | [], _ => by simp
  | a :: L, h => by
    have h1 := sum_ge_minM L fun x hx => h x (List.mem_cons_of_mem _ hx)
    have h2 := h a List.mem_cons_self
    rw [List.length_cons, List.sum_cons]
    omega
/-- links of events of a robot -/
structure Ev (ts o : List Int) (ls : List Lk) : Prop where
  n1 : 1 ≤ ts.length
  n4 : ts.length ≤ 4
  len : ls.length ≤ 13
  l2 : ∀ l ∈ ls, DVR.L2 ts o l
theorem Ev.at_ {ls : List Lk} (V : Ev ts o ls) {i : Int} (i0 : 0 ≤ i) (i1 : i < (ls.length : Int)) : DVR.L2 ts o (at4 ls i) := V.l2 _ (at4_mem i0 i1)
theorem Ev.g {ls : List Lk} (V : Ev ts o ls) : Ln (ts.length + 1) ls := ⟨by omega, fun i i0 i1 => ⟨(V.at_ i0 i1).a, (V.at_ i0 i1).b⟩⟩
theorem up_walk {ls : List Lk} (f : Int → Int) : ∀ (p : List Int) (x y : Int), Wk ls x p y → (∀ i ∈ p, f (src ls i) < f (tgt ls i)) → p ≠ [] → f x < f y
  | [], _, _, _, _, h => absurd rfl h
  | i :: p, x, y, h, hu, _ => by
    have h1 := hu i List.mem_cons_self
    rw [h.1.2] at h1
    by_cases e : p = []
    · subst e
      have : tgt ls i = y := h.2
      rw [this] at h1
      exact h1
    · have := up_walk f p _ y h.2 (fun k hk => hu k (List.mem_cons_of_mem _ hk)) e
      omega
theorem cyc_rnd {ls : List Lk} (V : Ev ts o ls) {q : List Int} (hne : q ≠ []) {t : Int} (h1 : Wk ls t q t) : 1 ≤ wt (rnd ls) q := by
  have hin := wk_in h1
  have nn : ∀ p : List Int, (∀ i ∈ p, 0 ≤ i ∧ i < (ls.length : Int)) → 0 ≤ wt (rnd ls) p := fun p => by
    induction p with
    | nil => exact fun _ => Int.le_refl _
    | cons i p ih =>
      intro hp
      have a := ih fun k hk => hp k (List.mem_cons_of_mem _ hk)
      have b := hp i List.mem_cons_self
      have c : 0 ≤ rnd ls i := (V.at_ b.1 b.2).r.1
      rw [wt_cons]
      omega
  refine Decidable.byContradiction fun hc => ?_
  refine absurd (up_walk (pl o) q t t h1 (fun i hi => ?_) hne) (Int.lt_irrefl _)
  refine Decidable.byContradiction fun hge => ?_
  have hi2 := hin i hi
  have h2 : 1 ≤ rnd ls i := (V.at_ hi2.1 hi2.2).k (show pl o (tgt ls i) ≤ pl o (src ls i) by omega)
  obtain ⟨A, C, rfl⟩ := List.append_of_mem hi
  rw [wt_app, wt_cons] at hc
  have a := nn A fun k hk => hin k (List.mem_append_left _ hk)
  have c := nn C fun k hk => hin k (List.mem_append_right _ (List.mem_cons_of_mem _ hk))
  omega
theorem Rb.ev (B : Rb ts ms wk o) : Ev ts o (RL ts ms wk o) := ⟨B.n1, B.n4, by rw [RL_len B]; have := B.n4; omega, B.rl⟩
theorem Rb.evl (B : Rb ts ms wk o) : Ev ts o (LL ts ms wk o) := ⟨B.n1, B.n4, by rw [LL_len B]; have := B.n4; omega, B.ll⟩
/-- a fact of two ratios -/
theorem ratio_le {X Y T Rr bt bb A D : Int} (h3 : X * bb ≤ bt * Y) (hlt : bt * Rr < T * bb) (hb : 0 < bb) (hr : 0 < Rr) (hy : 0 < Y) (hd : 0 < D) (he : A * Rr = T * D) : X * D ≤ A * Y := by
  refine Decidable.byContradiction fun hcon => ?_
  have h5 : A * Y < X * D := by omega
  have h6 : A * Y * (bb * Rr) < X * D * (bb * Rr) := Int.mul_lt_mul_of_pos_right h5 (Int.mul_pos hb hr)
  have h7 : X * bb * (D * Rr) ≤ bt * Y * (D * Rr) := Int.mul_le_mul_of_nonneg_right h3 (Int.mul_nonneg (by omega) (by omega))
  have h8 : bt * Rr * (Y * D) ≤ T * bb * (Y * D) := Int.mul_le_mul_of_nonneg_right (by omega) (Int.mul_nonneg (by omega) (by omega))
  have e1 : A * Y * (bb * Rr) = (A * Rr) * (Y * bb) := by ac_rfl
  have e2 : T * bb * (Y * D) = (T * D) * (Y * bb) := by ac_rfl
  have e3 : X * D * (bb * Rr) = X * bb * (D * Rr) := by ac_rfl
  have e4 : bt * Y * (D * Rr) = bt * Rr * (Y * D) := by ac_rfl
  rw [he] at e1
  omega
theorem robot_links_gives (B : Rb ts ms wk o) : DV.Gives (m_robot_links [.d (ti ts), .d (ti ms), .d (.int wk), .d (ti o)]) fun r => r = .d (.tuple ((RL ts ms wk o).map mkL)) := by
  have hol := B.ol
  have hn1 := B.n1
  have hn4 := B.n4
  have hml := B.ml
  have hw := B.w
  unfold m_robot_links
  refine DV.w_run (by get_elem_tactic_trivial) ?_
  unfold g_robot_links
  repeat infer_instance
  refine w_enM ?_
  rw [en_val]
  refine w_dcM (val o) (fun k => k) (by rw [rngI_len]; omega) (fun k hk => ?_) ?_
  · have hkr := (mem_rngI _ _ _).mp hk
    refine w_tg (by with_unfolding_all (simp only [DV.lockE, DV.unlockE, List.getElem?_cons_succ, List.getElem?_cons_zero, DV.wipeE, DV.gTupF, DV.gMore, DV.gNone, DV.gNm, List.set_cons_succ, List.set_cons_zero, List.length]; rfl)) ?_
    refine ⟨?_, ?_⟩
    · repeat infer_instance
      rfl
    · repeat infer_instance
      rfl
  rw [places_at B]
  repeat infer_instance
  refine w_enM ?_
  rw [en_val]
  refine w_loop0 (L := rngI 0 o.length) (mk := fun k => PyData.tuple [.int k, .int (val o k)]) (fun rest ρ => ∃ (I : List Int) (y7 y8 y9 y10 y11 : Option SV), rngI 0 o.length = I ++ rest ∧ ρ = [some (.d (ti ts)), some (.d (ti ms)), some (.d (.int wk)), some (.d (ti o)), some (.d (.int (ts.length : Nat))), some (.g (dT kInt PyData.int ((rngI 0 o.length).map fun k => (val o k, k)))), some (.o ((I.map (oLk ms wk o)).map mkL)), y7, y8, y9, y10, y11]) ⟨[], _, _, _, _, _, rfl, rfl⟩ ?_ ?_
  · rintro k rest ρ ⟨I, y7, y8, y9, y10, y11, hI, rfl⟩
    have hk := (mem_rngI _ _ _).mp (show k ∈ rngI 0 o.length by rw [hI]; simp)
    have hk1 : k < (o.length : Int) := by omega
    have hin := B.in_ hk.1 hk1
    have hIl : I.length ≤ o.length := by
      have := congrArg List.length hI
      rw [rngI_len, List.length_append] at this
      omega
    have hIl2 : (I.map (oLk ms wk o)).length ≤ 100 := by rw [List.length_map]; omega
    have hp : 0 ≤ (k + 1) % (o.length : Int) ∧ (k + 1) % (o.length : Int) < (o.length : Int) := by
      rcases mod_at hk.1 hk1 with ⟨_, e⟩ | ⟨_, e⟩ <;> rw [e] <;> omega
    repeat infer_instance
    have ea : (I.map (oLk ms wk o)).map mkL ++ [PyData.tuple [.int (val o k), .int (val o ((k + 1) % (o.length : Int))), .int (val ms (val o k) + wk * ((val o k + 1 - val o ((k + 1) % (o.length : Int))).natAbs : Int)), .int (if decide (k + 1 = (o.length : Int)) = true then 1 else 0)]] = ((I ++ [k]).map (oLk ms wk o)).map mkL := by
      rw [List.map_append, List.map_append]
      congr 1
      show _ = [mkL (oLk ms wk o k)]
      unfold oLk
      simp only [decide_eq_true_eq]
    rw [ea]
    exact ⟨I ++ [k], _, _, _, _, _, by rw [List.append_assoc]; exact hI, rfl⟩
  · rintro ρ ⟨I, y7, y8, y9, y10, y11, hI, rfl⟩
    rw [List.append_nil] at hI
    subst hI
    repeat infer_instance
    refine w_loop0 (fun rest ρ => ∃ (J : List Int) (y10 y11 : Option SV), rngI 0 ts.length = J ++ rest ∧ ρ = [some (.d (ti ts)), some (.d (ti ms)), some (.d (.int wk)), some (.d (ti o)), some (.d (.int (ts.length : Nat))), some (.g (dT kInt PyData.int ((rngI 0 o.length).map fun k => (val o k, k)))), some (.o ((((rngI 0 o.length).map (oLk ms wk o)) ++ J.flatMap fun m => [mLk ts ms o m, bLk o m]).map mkL)), y7, y8, y9, y10, y11]) ⟨[], _, _, rfl, by rw [List.flatMap_nil, List.append_nil]⟩ ?_ ?_
    · rintro m rest ρ ⟨J, y10, y11, hJ, rfl⟩
      have hm := (mem_rngI _ _ _).mp (show m ∈ rngI 0 ts.length by rw [hJ]; simp)
      have hm1 : m < (ts.length : Int) := by omega
      have g1 := place_get B (v := m + 1) (by omega) (by omega)
      have g2 := place_get B (v := m) (by omega) (by omega)
      have hJl : J.length ≤ ts.length := by
        have := congrArg List.length hJ
        rw [rngI_len, List.length_append] at this
        omega
      have hfl : ∀ K : List Int, (K.flatMap fun m => [mLk ts ms o m, bLk o m]).length = 2 * K.length := fun K => by
        induction K with
        | nil => rfl
        | cons a K ih =>
          rw [List.flatMap_cons, List.length_append, ih, List.length_cons]
          show 2 + 2 * K.length = 2 * (K.length + 1)
          omega
      have hLl : (((rngI 0 o.length).map (oLk ms wk o)) ++ J.flatMap fun m => [mLk ts ms o m, bLk o m]).length ≤ 100 := by
        rw [List.length_append, List.length_map, rngI_len, hfl]
        omega
      have elt : (if decide (pl o (m + 1) < pl o m) = true then (1 : Int) else 0) = lt1 o m := by
        unfold lt1
        simp only [decide_eq_true_eq]
      repeat infer_instance
      refine w_ggetT kInt PyData.int (key := m + 1) g1 ?_
      repeat infer_instance
      refine w_ggetT kInt PyData.int (key := m) g2 ?_
      repeat infer_instance
      rw [elt]
      repeat infer_instance
      have ea : (((rngI 0 o.length).map (oLk ms wk o)) ++ J.flatMap fun m => [mLk ts ms o m, bLk o m]).map mkL ++ [PyData.tuple [.int m, .int (m + 1), .int (val ms m + val ts m), .int (lt1 o m)]] = ((((rngI 0 o.length).map (oLk ms wk o)) ++ J.flatMap fun m => [mLk ts ms o m, bLk o m]) ++ [mLk ts ms o m]).map mkL := by
        rw [List.map_append (l₂ := [mLk ts ms o m])]
        rfl
      rw [ea]
      have hLl2 : ((((rngI 0 o.length).map (oLk ms wk o)) ++ J.flatMap fun m => [mLk ts ms o m, bLk o m]) ++ [mLk ts ms o m]).length ≤ 101 := by
        rw [List.length_append, List.length_singleton]
        omega
      repeat infer_instance
      have eb : ((((rngI 0 o.length).map (oLk ms wk o)) ++ J.flatMap fun m => [mLk ts ms o m, bLk o m]) ++ [mLk ts ms o m]).map mkL ++ [PyData.tuple [.int (m + 1), .int m, .int 0, .int (1 - lt1 o m)]] = (((rngI 0 o.length).map (oLk ms wk o)) ++ (J ++ [m]).flatMap fun m => [mLk ts ms o m, bLk o m]).map mkL := by
        rw [List.flatMap_append]
        simp only [List.map_append, List.append_assoc, List.flatMap_cons, List.flatMap_nil, List.append_nil]
        rfl
      rw [eb]
      exact ⟨J ++ [m], _, _, by rw [List.append_assoc]; exact hJ, rfl⟩
    · rintro ρ ⟨J, y10, y11, hJ, rfl⟩
      rw [List.append_nil] at hJ
      subst hJ
      repeat infer_instance
      rfl
theorem robot_in_gives (B : Rb ts ms wk o) : DV.Gives (m_robot_in [.d (ti ts), .d (ti ms), .d (.int wk), .d (ti o)]) fun r => ∃ bt bb, r = .d (.tuple [.int bt, .int bb]) ∧ Val (RL ts ms wk o) bt bb ∧ 0 ≤ bt ∧ bt ≤ 500 ∧ bb ≤ 30 := by
  have V := Rb.ev B
  have hn1 := B.n1
  have hn4 := B.n4
  have hml := B.ml
  have hl := RL_len B
  have hpw : PT (RL ts ms wk o) (ts.length + 1) * (ts.length + 1) ≤ 50000 := by
    have h0 := PT_le V.g
    have h1 : 2 ^ (RL ts ms wk o).length ≤ 2 ^ 13 := Nat.pow_le_pow_right (by decide) (by omega)
    have h2 : (2 : Nat) ^ 13 = 8192 := by decide
    have h3 : PT (RL ts ms wk o) (ts.length + 1) * (ts.length + 1) ≤ 8192 * 5 := Nat.mul_le_mul (by omega) (by omega)
    omega
  unfold m_robot_in
  refine DV.w_run (by get_elem_tactic_trivial) ?_
  unfold g_robot_in
  repeat infer_instance
  refine w_is (robot_links_gives B) ?_
  repeat infer_instance
  have en : ((ts.length : Nat) : Int) + 1 = ((ts.length + 1 : Nat) : Int) := by omega
  rw [en]
  have hring := rings_gives (n := ts.length + 1) V.g (by omega) hpw (by omega)
  obtain ⟨x0, hx0, hx1, hx2, hx3⟩ := (show ∃ q, Wk (LL ts ms wk o) (val o 0) q (val o 0) ∧ q ≠ [] ∧ wt (rnd (LL ts ms wk o)) q = 1 ∧ ms.sum ≤ wt (tim (LL ts ms wk o)) q from order_ring B)
  have hmsum : 0 < ms.sum := by
    have h := sum_ge_minM ms fun x hx => (B.m x hx).1
    omega
  -- no closed walk of the links asks more than nothing at 0 / 1: not so
  have hpos : ¬ NoPos (RL ts ms wk o) (wgt (RL ts ms wk o) 0 1) := fun N => by
    have h1 := LL_of_RL 0 1 N _ _ hx0
    rw [wt_wgt, Int.mul_one, Int.mul_zero] at h1
    omega
  generalize RL ts ms wk o = ls at *
  repeat infer_instance
  refine w_use hring fun r ⟨Q, e, hc, hR, hQl⟩ => ?_
  subst e
  repeat infer_instance
  refine w_loop0 (mk := mkQ ls) (fun rest ρ => ∃ (D : List (List Int)) (bt bb : Int) (y6 y7 y8 : Option SV), Q = D ++ rest ∧ 0 ≤ bt ∧ (0 < bb ∧ bb ≤ 30) ∧ (∀ q ∈ D, wt (tim ls) q * bb ≤ bt * wt (rnd ls) q) ∧ ((bt = 0 ∧ bb = 1) ∨ ∃ K ∈ D, bt = rtT (wt (tim ls) K) (wt (rnd ls) K) ∧ bb = rtB (wt (tim ls) K) (wt (rnd ls) K)) ∧ ρ = [some (.d (ti ts)), some (.d (ti ms)), some (.d (.int wk)), some (.d (ti o)), some (.d (.tuple (ls.map mkL))), some (.d (.tuple [.int bt, .int bb])), y6, y7, y8]) ⟨[], 0, 1, _, _, _, rfl, Int.le_refl _, by omega, (fun _ h => nomatch h), .inl ⟨rfl, rfl⟩, rfl⟩ ?_ ?_
  · rintro q rest ρ ⟨D, bt, bb, y6, y7, y8, hD, r1, r2, r3, r4, rfl⟩
    have hq := hc q (by rw [hD]; simp)
    have hql := cyc_len V.g hq
    obtain ⟨hqne, t, hqw, _⟩ := hq
    have hr := cyc_rnd V hqne hqw
    have hin := wk_in hqw
    have b1 := wt_bnd (w := rnd ls) (a := 0) (b := 3) q fun i hi => (V.at_ (hin i hi).1 (hin i hi).2).r
    have b2 := wt_bnd (w := tim ls) (a := 0) (b := 100) q fun i hi => (V.at_ (hin i hi).1 (hin i hi).2).t
    obtain ⟨T, hT⟩ : ∃ T, wt (tim ls) q = T := ⟨_, rfl⟩
    obtain ⟨Rr, hRr⟩ : ∃ Rr, wt (rnd ls) q = Rr := ⟨_, rfl⟩
    have em : mkQ ls q = PyData.tuple [.int T, .int Rr, ti q] := by rw [← hT, ← hRr]
    rw [hT] at b2
    rw [hRr] at b1 hr
    rw [em]
    repeat infer_instance
    refine w_decT (by omega) ?_
    repeat infer_instance
    refine w_dec (fun hlt => ?_) (fun hge => ?_)
    · repeat infer_instance
      refine w_is (lowest_gives T Rr (by omega) (by omega)) ?_
      obtain ⟨p1, p2, p3, p4⟩ := rt_le (a := T) (b := Rr) (by omega)
      have hTp : 0 < T := by
        refine Decidable.byContradiction fun hc => ?_
        have a1 : T * bb ≤ 0 := Int.mul_nonpos_of_nonpos_of_nonneg (by omega) (by omega)
        have a2 : 0 ≤ bt * Rr := Int.mul_nonneg r1 (by omega)
        omega
      repeat infer_instance
      refine ⟨D ++ [q], rtT T Rr, rtB T Rr, _, _, _, by rw [List.append_assoc]; exact hD, by have := p3 hTp; omega, by omega, fun x hx => ?_, .inr ⟨q, by simp, by rw [hT, hRr], by rw [hT, hRr]⟩, rfl⟩
      rcases List.mem_append.mp hx with z | z
      · obtain ⟨xne, t2, xw, _⟩ := hc x (by rw [hD]; exact List.mem_append_left _ z)
        have hxr := cyc_rnd V xne xw
        exact ratio_le (r3 x z) hlt r2.1 (by omega) (by omega) p1 p4
      · rw [List.mem_singleton.mp z, hT, hRr, ← p4]
        exact Int.le_refl _
    · repeat infer_instance
      refine ⟨D ++ [q], bt, bb, _, _, _, by rw [List.append_assoc]; exact hD, r1, r2, fun x hx => ?_, ?_, rfl⟩
      · rcases List.mem_append.mp hx with z | z
        · exact r3 x z
        · rw [List.mem_singleton.mp z, hT, hRr]; omega
      · rcases r4 with h | ⟨K, h1, h2⟩
        · exact .inl h
        · exact .inr ⟨K, List.mem_append_left _ h1, h2⟩
  · rintro ρ ⟨D, bt, bb, y6, y7, y8, hD, r1, r2, r3, r4, rfl⟩
    rw [List.append_nil] at hD
    subst hD
    repeat infer_instance
    have hno : NoPos ls (wgt ls bt bb) := nopos_of fun s p hp => by
      rw [wt_wgt, Int.mul_comm (wt (rnd ls) p)]
      have := r3 p (hR s p hp)
      omega
    rcases r4 with ⟨h1, h2⟩ | ⟨K, h1, h2, h3⟩
    · rw [h1, h2] at hno
      exact absurd hno hpos
    · have hK := hc K h1
      have hkl := cyc_len V.g hK
      obtain ⟨kne, t, kw, _⟩ := hK
      have hr := cyc_rnd V kne kw
      have hin := wk_in kw
      have b2 := wt_bnd (w := tim ls) (a := 0) (b := 100) K fun i hi => (V.at_ (hin i hi).1 (hin i hi).2).t
      obtain ⟨p1, p2, p3, p4⟩ := rt_le (a := wt (tim ls) K) (b := wt (rnd ls) K) (by omega)
      refine ⟨bt, bb, rfl, ⟨r2.1, hno, ⟨t, K, kne, kw, by rw [h2, h3, p4], hr⟩, by rw [h2, h3]; exact gcd_rt (by omega)⟩, r1, ?_, r2.2⟩
      have hg := rtT_mul (wt (tim ls) K) (wt (rnd ls) K)
      have hgp := rt_pos (a := wt (tim ls) K) (b := wt (rnd ls) K) (by omega)
      rw [← h2] at hg
      have : bt * 1 ≤ bt * (Int.gcd (wt (tim ls) K) (wt (rnd ls) K) : Int) := Int.mul_le_mul_of_nonneg_left (by omega) r1
      omega
end
end Lk63.U

namespace Lk63.U
open PySem L2 DV DVL DVR
local macro_rules
  | `(tactic| get_elem_tactic_trivial) => `(tactic| first
    | (simp only [List.set_cons_succ, List.set_cons_zero, DV.startE, DV.lawE, DV.toK, DV.lockE, DV.wipeE, List.map_cons, List.map_nil, List.length_cons, List.length_nil, List.replicate_zero, List.replicate_succ, Nat.reduceSub, Nat.reduceAdd, List.append_nil, List.cons_append, List.nil_append]; rfl)
    | exact rfl)
local macro_rules
  | `(tactic| infer_instance) => `(tactic| first
    | with_reducible refine DV.w_cons ?_
    | with_reducible refine DV.w_var (by with_unfolding_all exact rfl) ?_
    | with_reducible refine DV.w_c ?_
    | with_reducible refine DV.w_nil ?_
    | with_reducible refine DV.w_e2 ?_
    | with_reducible refine DV.w_seq ?_
    | with_reducible refine DV.w_seqN ?_
    | with_reducible refine DV.w_seqR ?_
    | with_reducible refine DV.w_seqB ?_
    | with_reducible refine DV.w_seqC ?_
    | with_reducible refine DV.w_call ?_
    | with_reducible refine DV.w_fn ?_
    | with_reducible refine DV.w_f1 ?_
    | with_reducible refine DV.w_f2 ?_
    | with_reducible refine DV.w_f3 ?_
    | with_reducible refine DV.w_f4 ?_
    | with_reducible refine DV.w_f5 ?_
    | with_reducible refine DV.w_f6 ?_
    | with_reducible refine DV.w_set ?_
    | with_reducible refine DV.w_setApp ?_
    | with_reducible refine DV.w_setX (by with_unfolding_all exact rfl) (by with_unfolding_all (simp only [List.set_cons_succ, List.set_cons_zero]; rfl)) ?_
    | with_reducible refine DV.w_rt ?_
    | with_reducible refine DV.w_rtD ?_
    | with_reducible refine DV.w_rtN ?_
    | with_reducible refine DV.w_rtV (by with_unfolding_all exact rfl) ?_
    | with_reducible refine DV.w_if ?_
    | with_reducible refine DV.w_drop ?_
    | with_reducible refine DV.w_nop ?_
    | with_reducible refine DV.w_T ?_
    | with_reducible refine DV.w_B ?_
    | with_reducible refine DV.w_not ?_
    | with_reducible refine DV.w_and ?_
    | with_reducible refine DV.w_or ?_
    | with_reducible refine DV.w_ifT ?_
    | with_reducible refine DV.w_ifF ?_
    | with_reducible refine DV.w_ifNT ?_
    | with_reducible refine DV.w_ifNF ?_
    | with_reducible refine DV.w_stup ?_
    | with_reducible refine DV.w_stupD (by with_unfolding_all (simp only [DV.wipeE, DV.gTupF, DV.gMore, DV.gNone, DV.gNm, List.set_cons_succ, List.set_cons_zero, List.length]; rfl)) ?_
    | with_reducible refine DV.w_aug (by with_unfolding_all exact rfl) ?_
    | with_reducible refine DV.w_I ?_
    | with_reducible refine DV.w_app (by with_unfolding_all exact rfl) (by simp only [List.length_map]; omega) ?_
    | with_reducible refine DV.w_D ?_
    | with_reducible refine DV.w_for ?_
    | with_reducible refine DV.w_lc ?_
    | with_reducible refine DV.w_par ?_
    | with_reducible refine DV.w_par3 ?_
    | with_reducible refine DV.w_par4 ?_
    | with_reducible refine DV.w_parX (by with_unfolding_all exact rfl) (by with_unfolding_all exact rfl) (by with_unfolding_all (simp only [List.set_cons_succ, List.set_cons_zero]; rfl)) ?_
    | with_reducible refine DV.w_par3X (by with_unfolding_all exact rfl) (by with_unfolding_all exact rfl) (by with_unfolding_all exact rfl) (by with_unfolding_all (simp only [List.set_cons_succ, List.set_cons_zero]; rfl)) ?_
    | with_reducible refine DV.w_par4X (by with_unfolding_all exact rfl) (by with_unfolding_all exact rfl) (by with_unfolding_all exact rfl) (by with_unfolding_all exact rfl) (by with_unfolding_all (simp only [List.set_cons_succ, List.set_cons_zero]; rfl)) ?_
    | with_reducible refine DV.w_tup ?_
    | with_reducible refine DV.w_lst ?_
    | with_reducible refine DV.w_tu (by with_unfolding_all exact rfl) (by with_unfolding_all exact Nat.le_of_ble_eq_true rfl) ?_
    | with_reducible refine DV.w_ls (by with_unfolding_all exact rfl) (by with_unfolding_all exact Nat.le_of_ble_eq_true rfl) ?_
    | with_reducible refine DV.w_neg ?_
    | with_reducible refine DV.w_ifB ?_
    | with_reducible refine DV.w_ifE ?_
    | with_reducible refine DV.w_notB ?_
    | with_reducible refine DV.w_tt ?_
    | with_reducible refine DV.w_ch ?_
    | with_reducible refine DV.w_add ?_
    | with_reducible refine DV.w_sub ?_
    | with_reducible refine DV.w_mul (by first | omega | (left; constructor <;> omega) | (right; constructor <;> omega)) ?_
    | with_reducible refine DV.w_mod (by omega) ?_
    | with_reducible refine DV.w_div (by omega) ?_
    | with_reducible refine DV.w_lt ?_
    | with_reducible refine DV.w_le ?_
    | with_reducible refine DV.w_gt ?_
    | with_reducible refine DV.w_ge ?_
    | with_reducible refine DV.w_ltA ?_
    | with_reducible refine DV.w_leA ?_
    | with_reducible refine DV.w_gtA ?_
    | with_reducible refine DV.w_geA ?_
    | with_reducible refine DV.w_eq ?_
    | with_reducible refine DV.w_ne ?_
    | with_reducible refine DV.w_eqB ?_
    | with_reducible refine DV.w_neB ?_
    | with_reducible refine DV.w_eqN ?_
    | with_reducible refine DV.w_neN ?_
    | with_reducible refine DV.w_eqN0 ?_
    | with_reducible refine DV.w_neN0 ?_
    | with_reducible refine DV.w_in ?_
    | with_reducible refine DV.w_inB ?_
    | with_reducible refine DV.w_notIn ?_
    | with_reducible refine DV.w_notInB ?_
    | with_reducible refine DV.w_ix0 ?_
    | with_reducible refine DV.w_ix1 ?_
    | with_reducible refine DV.w_ix (by omega) ?_
    | with_reducible refine DV.w_ixB (by omega) ?_
    | with_reducible refine DV.w_len ?_
    | with_reducible refine DV.w_lenB ?_
    | with_reducible refine DV.w_lenN ?_
    | with_reducible refine DV.w_lenM ?_
    | with_reducible refine DV.w_lenMB ?_
    | with_reducible refine DV.w_lenMN ?_
    | with_reducible refine DV.w_lenD ?_
    | with_reducible refine DV.w_lenDB ?_
    | with_reducible refine DV.w_lenDN ?_
    | with_reducible refine DV.w_tupN ?_
    | with_reducible refine DV.w_tupB ?_
    | with_reducible refine DV.w_tupD ?_
    | with_reducible refine DV.w_lstD ?_
    | with_reducible refine DV.w_lstB ?_
    | with_reducible refine DV.w_lstN ?_
    | with_reducible refine DV.w_sum ?_
    | with_reducible refine DV.w_sumN ?_
    | with_reducible refine DV.w_sumB ?_
    | with_reducible refine DV.w_max2 ?_
    | with_reducible refine DV.w_min2 ?_
    | with_reducible refine DV.w_int ?_
    | with_reducible refine DV.w_sort ?_
    | with_reducible refine DV.w_sortN ?_
    | with_reducible refine DV.w_sortB ?_
    | with_reducible refine DV.w_rep (by omega) ?_
    | with_reducible refine DV.w_repN (by omega) ?_
    | with_reducible refine DV.w_moveG (by with_unfolding_all exact rfl) (by with_unfolding_all (simp only [List.set_cons_succ, List.set_cons_zero]; rfl)) ?_
    | with_reducible refine DV.w_moveO (by with_unfolding_all exact rfl) (by with_unfolding_all (simp only [List.set_cons_succ, List.set_cons_zero]; rfl)) ?_
    | with_reducible refine DV.w_moveD (by with_unfolding_all exact rfl) (by with_unfolding_all (simp only [List.set_cons_succ, List.set_cons_zero]; rfl)) ?_
    | with_reducible refine DV.w_catTI (by (try simp only [List.length_append, List.length_take, List.length_drop, List.length_cons, List.length_nil]); omega) ?_
    | with_reducible refine DV.w_catT1 (by (try simp only [List.length_append, List.length_take, List.length_drop, List.length_cons, List.length_nil]); omega) ?_
    | with_reducible refine DV.w_listG ?_
    | with_reducible refine DV.w_sortK ?_
    | with_reducible refine DV.w_colS ?_
    | with_reducible refine DV.w_itT ?_
    | with_reducible refine DV.w_itB ?_
    | with_reducible refine DV.w_itN ?_
    | with_reducible refine DV.w_colR ?_
    | with_reducible refine DV.w_colRN (by omega) ?_
    | with_reducible refine DV.w_ext (by with_unfolding_all exact rfl) ?_
    | with_reducible refine DV.w_lc2 ?_
    | with_reducible refine DV.w_isT ?_
    | with_reducible refine DV.w_isNN ?_
    | with_reducible refine DV.w_isNI ?_
    | with_reducible refine DV.w_isNT ?_
    | with_reducible refine DV.w_ntNN ?_
    | with_reducible refine DV.w_ntNI ?_
    | with_reducible refine DV.w_ntNT ?_
    | with_reducible refine DV.w_repND (by omega) ?_
    | with_reducible refine DV.w_put (by with_unfolding_all exact rfl) ?_
    | with_reducible refine DV.w_putI (by (try simp only [List.length_set, List.length_replicate, List.length_map]); omega) ?_
    | with_reducible refine DV.w_eqB0 ?_
    | with_reducible refine DV.w_neB0 ?_
    | with_reducible refine DV.w_eqBB ?_
    | with_reducible refine DV.w_neBB ?_
    | with_reducible refine DV.w_eqNB ?_
    | with_reducible refine DV.w_neNB ?_
    | with_reducible refine DV.w_eqBN ?_
    | with_reducible refine DV.w_neBN ?_
    | with_reducible refine DV.w_eqT0 ?_
    | with_reducible refine DV.w_neT0 ?_
    | with_reducible refine DV.w_eqT ?_
    | with_reducible refine DV.w_neT ?_
    | with_reducible refine DV.w_gget ?_
    | with_reducible refine DV.w_dc ?_
    | with_reducible refine DV.w_dcN ?_
    | with_reducible refine DV.w_G ?_
    | with_reducible refine DV.w_gput ?_
    | with_reducible refine DV.w_gnew ?_
    | with_reducible refine DV.w_g1 ?_
    | with_reducible refine DV.w_ret ?_
    | with_reducible refine DV.w_slice ?_
    | with_reducible refine DV.w_part ?_
    | with_reducible refine DV.w_slToI (by omega) ?_
    | with_reducible refine DV.w_slFromI (by omega) ?_
    | with_reducible refine DV.w_slToBI (by omega) ?_
    | with_reducible refine DV.w_slFromBI (by omega) ?_
    | with_reducible refine DV.w_star ?_
    | with_reducible refine DV.w_starT ?_
    | with_reducible refine DV.w_starB ?_
    | with_reducible refine DV.w_starN ?_
    | with_reducible refine DV.w_ixR (by omega) ?_
    | with_reducible refine DV.w_ixRB (by omega) ?_
    | with_reducible refine DV.w_lrg ?_
    | with_reducible refine DV.w_trg ?_
    | with_reducible refine DV.w_rg (by omega) ?_
    | with_reducible refine DV.w_enum ?_
    | with_reducible refine DV.w_zip ?_
    | with_reducible refine DV.w_zip3 ?_
    | with_reducible refine DV.w_step ?_
    | with_reducible refine DV.w_stepB (by omega) ?_
    | with_reducible refine DV.w_srev ?_
    | with_reducible refine DV.w_srevT ?_
    | with_reducible refine DV.w_isTT ?_
    | with_reducible refine DV.w_ntTT ?_
    | with_reducible refine DV.w_isFT ?_
    | with_reducible refine DV.w_ntFT ?_
    | with_reducible refine DV.w_isTF ?_
    | with_reducible refine DV.w_ntTF ?_
    | with_reducible refine DV.w_isFF ?_
    | with_reducible refine DV.w_ntFF ?_
    | with_reducible refine DV.w_ixS (by omega) ?_
    | with_reducible refine DV.w_ix2 ?_
    | with_reducible refine DV.w_gget2 ?_
    | with_reducible refine DV.w_notInTs ?_
    | with_reducible refine DV.w_inTs ?_
    | with_reducible refine DV.w_inTsN ?_
    | with_reducible refine DV.w_sset ?_
    | with_reducible refine DV.w_ssetU (by omega) (by assumption) ?_
    | with_reducible refine DV.w_met ?_
    | with_reducible refine DV.w_itL ?_
    | with_reducible refine DV.w_two ?_
    | with_reducible refine DV.w_twoX ?_
    | with_reducible refine DV.w_neS ?_
    | with_reducible refine DV.w_eqS ?_
    | with_reducible refine DV.w_rev ?_
    | with_reducible refine DV.w_revN ?_
    | with_reducible refine DV.w_lset ?_
    | with_reducible refine DV.w_isNL ?_
    | with_reducible refine DV.w_isBL ?_
    | with_reducible refine DV.w_ntNL ?_
    | with_reducible refine DV.w_ntBL ?_
    | with_reducible refine DV.w_abs ?_
    | with_reducible refine DV.w_neBl ?_
    | with_reducible refine DV.w_eqBl ?_
    | with_reducible refine DV.w_eqIP ?_
    | with_reducible refine DV.w_neIP ?_
    | with_reducible refine DV.w_ix3 ?_
    | with_reducible refine DVR.w_neW ?_
    | with_reducible refine DVR.w_ixL (by omega) ?_
    | with_reducible refine DV.w_dcomp ?_
    | with_reducible refine DV.w_intB ?_
    | with_reducible refine DV.w_augIx (by with_unfolding_all exact rfl) ?_
    | with_reducible refine DV.w_inN ?_
    | with_reducible refine DV.w_notInN ?_
    | with_reducible refine DV.w_srcE ?_
    | with_reducible refine DV.w_srcV (by with_unfolding_all exact rfl) ?_
    | with_reducible refine DV.w_src (by with_unfolding_all exact rfl) ?_
    | with_reducible refine DV.w_rng1 ?_
    | with_reducible refine DV.w_rng2 ?_
    | with_reducible refine DV.w_rng2I (by omega) ?_
    | with_reducible refine DV.w_rngN (by omega) ?_
    | with_reducible refine DV.w_rngI (by omega) ?_
    | with_reducible refine DV.w_loopN ?_
    | with_reducible refine DV.w_loopC ?_
    | with_reducible refine DV.w_loopB ?_
    | with_reducible refine DV.w_loopR ?_
    | with_reducible refine DV.w_runN ?_
    | with_reducible refine DV.w_runR ?_
    | with_reducible refine DV.w_tg (by with_unfolding_all (simp only [DV.lockE, DV.unlockE, List.getElem?_cons_succ, List.getElem?_cons_zero, DV.wipeE, DV.gTupF, DV.gMore, DV.gNone, DV.gNm, List.set_cons_succ, List.set_cons_zero, List.length]; rfl)) ?_)
section
variable {ts ms o : List Int} {wk : Int}
theorem need_line_gives (h1 : 1 ≤ ts.length) (h6 : ts.length ≤ 6) (ht : ∀ x ∈ ts, 0 ≤ x ∧ x ≤ 60) (hl : ms.length = ts.length + 1) (hm : ∀ x ∈ ms, 1 ≤ x ∧ x ≤ 6) : DV.Gives (m_need_line [.d (ti ts), .d (ti ms)]) fun r => r = .d .none := by
  unfold m_need_line
  refine DV.w_run (by get_elem_tactic_trivial) ?_
  unfold g_need_line
  repeat infer_instance
  refine w_eqm (is_list_ok (by rw [List.length_map]; omega) (by rw [List.length_map]; omega)) ?_
  repeat infer_instance
  refine w_enM ?_
  refine w_loop0 (fun rest ρ => ∃ (y2 y3 y4 : Option SV), (∀ p ∈ rest, 0 ≤ p.2 ∧ p.2 ≤ 60) ∧ ρ = [some (.d (ti ts)), some (.d (ti ms)), y2, y3, y4]) ⟨_, _, _, fun p hp => ht _ (List.mem_of_getElem? (enI_get _ _ p hp).2.2), rfl⟩ ?_ ?_
  · rintro p rest ρ ⟨y2, y3, y4, hr, rfl⟩
    have hp := hr p List.mem_cons_self
    repeat infer_instance
    refine w_eqm (is_in_ok (by omega) (by omega)) ?_
    repeat infer_instance
    exact ⟨_, _, _, fun q hq => hr q (List.mem_cons_of_mem _ hq), rfl⟩
  · rintro ρ ⟨y2, y3, y4, hr, rfl⟩
    repeat infer_instance
    refine w_eqm (is_list_ok (by rw [List.length_map]; omega) (by rw [List.length_map]; omega)) ?_
    repeat infer_instance
    refine w_lcM (L := ms) (mk := PyData.int) (fun _ => .bool true) (by omega) (fun x hx => ?_) ?_
    · have := hm x hx
      repeat infer_instance
      refine w_eqm (is_in_ok (by omega) (by omega)) ?_
      rfl
    repeat infer_instance
    refine w_all (fun _ => true) ?_
    rw [show ms.all (fun _ => true) = true by simp]
    repeat infer_instance
    rfl
theorem w_lsetN {f : DV.Env → DV.M RV} {ρ : DV.Env} {P : RV → Prop} {p : List Int} (hn : p.Nodup) (hl : p.length ≤ 1000) (h : DV.Gives (f ρ) fun x => x = .d (ti p)) (q : P (.d (.int (p.length : Nat)))) : DV.Gives (eLenSet f ρ) P := by
  unfold eLenSet
  refine DV.Gives.bnd h fun x e => ?_
  subst e
  have : lenSetOf (.d (ti p)) = some (.int (p.length : Nat)) := by
    show (match intsOf (p.map PyData.int) with | some js => if js.length ≤ 1000 then some (PyData.int ((ddI js).length : Nat)) else none | none => none) = _
    rw [intsOf_map]
    show (if p.length ≤ 1000 then _ else _) = _
    rw [if_pos (by omega), ddI_of_nodup p hn]
  show DV.Gives (bnd (lft (lenSetOf (.d (ti p)))) _) _
  rw [this]
  exact DV.Gives.ret q
theorem need_cycle_gives {n : Nat} (hn : n ≤ 10) (ho : o.Perm (rngI 0 (n + 1))) (h0 : val o 0 = 0) : DV.Gives (m_need_cycle [.d (ti o), .d (.int (n : Nat))]) fun r => r = .d .none := by
  have hl : o.length = n + 1 := by rw [ho.length_eq, rngI_len]
  unfold m_need_cycle
  refine DV.w_run (by get_elem_tactic_trivial) ?_
  unfold g_need_cycle
  repeat infer_instance
  refine w_eqm (is_list_ok (by rw [List.length_map]; omega) (by rw [List.length_map]; omega)) ?_
  repeat infer_instance
  refine w_lcM (L := o) (mk := PyData.int) (fun _ => .bool true) (by omega) (fun x hx => ?_) ?_
  · have := (mem_rngI _ _ _).mp (ho.mem_iff.mp hx)
    repeat infer_instance
    refine w_eqm (is_in_ok (by omega) (by omega)) ?_
    rfl
  repeat infer_instance
  refine w_all (fun _ => true) ?_
  rw [show o.all (fun _ => true) = true by simp]
  repeat infer_instance
  rw [h0]
  repeat infer_instance
  refine w_ndecT rfl ?_
  repeat infer_instance
  refine w_lsetN (p := o) (ho.nodup_iff.mpr (rngI_nodup 0 _)) (by omega) ?_ ?_
  · repeat infer_instance
    rfl
  · repeat infer_instance
    refine w_ndecT (by omega) ?_
    repeat infer_instance
    rfl
theorem line_ok (B : Rb ts ms wk o) : DV.Gives (m_need_line [.d (ti ts), .d (ti ms)]) fun r => r = .d .none :=
  need_line_gives B.n1 (by have := B.n4; omega) B.t B.ml B.m
theorem robot_round_gives (B : Rb ts ms wk o) (h0 : val o 0 = 0) : DV.Gives (m_robot_round [.d (ti ts), .d (ti ms), .d (.int wk), .d (ti o)]) fun r => ∃ bt bb, r = .d (.tuple [.int bt, .int bb]) ∧ Val (RL ts ms wk o) bt bb ∧ 0 ≤ bt ∧ bt ≤ 500 ∧ bb ≤ 30 := by
  have hw := B.w
  have hn4 := B.n4
  unfold m_robot_round
  refine DV.w_run (by get_elem_tactic_trivial) ?_
  unfold g_robot_round
  repeat infer_instance
  refine w_is (line_ok B) ?_
  repeat infer_instance
  refine w_eqm (is_in_ok (by omega) (by omega)) ?_
  repeat infer_instance
  refine w_is (need_cycle_gives (by omega) B.ho h0) ?_
  repeat infer_instance
  refine w_use (robot_in_gives B) fun r ⟨bt, bb, e, h⟩ => ?_
  subst e
  repeat infer_instance
  exact ⟨bt, bb, rfl, h⟩
/-- the orders of the moves, one move more each time -/
def ordR (n : Nat) : Nat → List (List Int)
  | 0 => [[0]]
  | k + 1 => (ordR n k).flatMap fun p => ((rngI 1 n).filter fun j => !p.elem j).map fun j => p ++ [j]
theorem ordR_mem {n : Nat} : ∀ (k : Nat) (p : List Int), p ∈ ordR n k ↔ ∃ q, p = 0 :: q ∧ q.Nodup ∧ q.length = k ∧ ∀ x ∈ q, 1 ≤ x ∧ x ≤ (n : Int)
  | 0, p => by
    constructor
    · intro h
      have : p = [0] := by simpa [ordR] using h
      exact ⟨[], this, List.nodup_nil, rfl, fun _ h => nomatch h⟩
    · rintro ⟨q, rfl, _, h2, _⟩
      have : q = [] := List.length_eq_zero_iff.mp h2
      subst this
      simp [ordR]
  | k + 1, p => by
    show p ∈ (ordR n k).flatMap _ ↔ _
    rw [List.mem_flatMap]
    constructor
    · rintro ⟨r, hr, hp⟩
      obtain ⟨q, rfl, h1, h2, h3⟩ := (ordR_mem k r).mp hr
      obtain ⟨j, hj, rfl⟩ := List.mem_map.mp hp
      obtain ⟨hj1, hj2⟩ := List.mem_filter.mp hj
      have hjr := (mem_rngI _ _ _).mp hj1
      have hnq : j ∉ q := fun h => by
        have : (0 :: q).elem j = true := List.elem_eq_true_of_mem (List.mem_cons_of_mem _ h)
        rw [this] at hj2
        exact absurd hj2 (by decide)
      refine ⟨q ++ [j], rfl, ?_, by rw [List.length_append, h2]; rfl, fun x hx => ?_⟩
      · rw [List.nodup_append]
        exact ⟨h1, by simp, fun a ha b hb => by rw [List.mem_singleton.mp hb]; exact fun e => hnq (e ▸ ha)⟩
      · rcases List.mem_append.mp hx with z | z
        · exact h3 x z
        · rw [List.mem_singleton.mp z]; omega
    · rintro ⟨q, rfl, h1, h2, h3⟩
      have hne : q ≠ [] := fun e => by rw [e] at h2; exact absurd h2 (by simp)
      obtain ⟨A, j, rfl⟩ : ∃ A j, q = A ++ [j] := ⟨q.dropLast, q.getLast hne, (List.dropLast_concat_getLast hne).symm⟩
      rw [List.nodup_append] at h1
      obtain ⟨n1, n2, n3⟩ := h1
      refine ⟨0 :: A, (ordR_mem k _).mpr ⟨A, rfl, n1, by rw [List.length_append] at h2; exact Nat.succ.inj h2, fun x hx => h3 x (List.mem_append_left _ hx)⟩, ?_⟩
      have hj := h3 j (by simp)
      refine List.mem_map.mpr ⟨j, List.mem_filter.mpr ⟨(mem_rngI _ _ _).mpr (by omega), ?_⟩, rfl⟩
      have : (0 :: A).elem j = false := by
        refine Bool.eq_false_iff.mpr fun h => ?_
        have := List.mem_of_elem_eq_true h
        rcases List.mem_cons.mp this with z | z
        · omega
        · exact n3 j z j (by simp) rfl
      rw [this]
      rfl
theorem ordR_len {n : Nat} : ∀ k, (ordR n k).length ≤ n ^ k
  | 0 => Nat.le_refl _
  | k + 1 => by
    show ((ordR n k).flatMap _).length ≤ _
    have ih := ordR_len (n := n) k
    have : ∀ L : List (List Int), (L.flatMap fun p => ((rngI 1 n).filter fun j => !p.elem j).map fun j => p ++ [j]).length ≤ L.length * n := fun L => by
      induction L with
      | nil => simp
      | cons x L ihl =>
        rw [List.flatMap_cons, List.length_append, List.length_map, List.length_cons, Nat.add_mul]
        have := List.length_filter_le (fun j => !x.elem j) (rngI 1 n)
        rw [rngI_len] at this
        omega
    rw [Nat.pow_succ]
    exact Nat.le_trans (this _) (Nat.mul_le_mul_right n ih)
theorem perm_of {n : Nat} {q : List Int} (h1 : q.Nodup) (h2 : q.length = n) (h3 : ∀ x ∈ q, 1 ≤ x ∧ x ≤ (n : Int)) : (0 :: q).Perm (rngI 0 (n + 1)) := by
  have e : rngI 0 (n + 1) = 0 :: rngI 1 n := rfl
  rw [e]
  refine List.Perm.cons 0 ?_
  exact nodup_perm h1 (fun x hx => (mem_rngI _ _ _).mpr (by have := h3 x hx; omega)) (by rw [rngI_len, h2]; exact Nat.le_refl _)
theorem ordR_rb {n : Nat} (hn : n = ts.length) (B : Rb ts ms wk o) {p : List Int} (h : p ∈ ordR n n) : Rb ts ms wk p ∧ val p 0 = 0 := by
  subst hn
  obtain ⟨q, rfl, h1, h2, h3⟩ := (ordR_mem _ p).mp h
  exact ⟨⟨B.n1, B.n4, B.ml, B.t, B.m, B.w, perm_of h1 h2 h3⟩, rfl⟩
theorem ordR_all (B : Rb ts ms wk o) (h0 : val o 0 = 0) : o ∈ ordR ts.length ts.length := by
  have hol := B.ol
  cases o with
  | nil => exact absurd hol (by simp)
  | cons a q =>
    have ha : a = 0 := h0
    subst ha
    have hn : (0 :: q).Nodup := B.ho.nodup_iff.mpr (rngI_nodup 0 _)
    rw [List.nodup_cons] at hn
    refine (ordR_mem _ _).mpr ⟨q, rfl, hn.2, by simpa using hol, fun x hx => ?_⟩
    have h1 := (mem_rngI _ _ _).mp (B.ho.mem_iff.mp (List.mem_cons_of_mem _ hx))
    have : x ≠ 0 := fun e => hn.1 (e ▸ hx)
    omega
theorem ratio_tr {a b bt bb a' b' : Int} (h1 : a * bb ≤ bt * b) (h2 : bt * b' ≤ a' * bb) (hbb : 0 < bb) (hb : 0 < b) (hb' : 0 ≤ b') : a * b' ≤ a' * b := by
  refine Int.le_of_mul_le_mul_right ?_ hbb
  have h3 : a * bb * b' ≤ bt * b * b' := Int.mul_le_mul_of_nonneg_right h1 hb'
  have h4 : bt * b' * b ≤ a' * bb * b := Int.mul_le_mul_of_nonneg_right h2 (Int.le_of_lt hb)
  have e1 : a * b' * bb = a * bb * b' := by ac_rfl
  have e2 : bt * b * b' = bt * b' * b := by ac_rfl
  have e3 : a' * b * bb = a' * bb * b := by ac_rfl
  omega
/-- the best order: none has a shorter round -/
theorem best_robot_gives (B : Rb ts ms wk o) : DV.Gives (m_best_robot [.d (ti ts), .d (ti ms), .d (.int wk)]) fun r => ∃ p bt bb, r = .d (.tuple [.tuple [.int bt, .int bb], ti p]) ∧ (Rb ts ms wk p ∧ val p 0 = 0) ∧ Val (RL ts ms wk p) bt bb ∧ (0 ≤ bt ∧ bt ≤ 500 ∧ bb ≤ 30) ∧ ∀ q a b, Rb ts ms wk q → val q 0 = 0 → Val (RL ts ms wk q) a b → bt * b ≤ a * bb := by
  have hw := B.w
  have hn1 := B.n1
  have hn4 := B.n4
  have hpl : ∀ k, k ≤ ts.length → (ordR ts.length k).length ≤ 256 := fun k hk => by
    have h1 := ordR_len (n := ts.length) k
    have h2 : ts.length ^ k ≤ 4 ^ k := Nat.pow_le_pow_left hn4 k
    have h3 : 4 ^ k ≤ 4 ^ 4 := Nat.pow_le_pow_right (by decide) (by omega)
    have h4 : (4 : Nat) ^ 4 = 256 := by decide
    omega
  unfold m_best_robot
  refine DV.w_run (by get_elem_tactic_trivial) ?_
  unfold g_best_robot
  repeat infer_instance
  refine w_is (line_ok B) ?_
  repeat infer_instance
  refine w_eqm (is_in_ok (by omega) (by omega)) ?_
  repeat infer_instance
  refine w_loop0 (fun rest ρ => ∃ (k : Nat) (y4 : Option SV), rest = rngI (k : Int) (ts.length - k) ∧ k ≤ ts.length ∧ ρ = [some (.d (ti ts)), some (.d (ti ms)), some (.d (.int wk)), some (.o ((ordR ts.length k).map ti)), y4, none, none, none, none, none]) ⟨0, _, rfl, Nat.zero_le _, rfl⟩ ?_ ?_
  · rintro j rest ρ ⟨k, y4, hr, hk, rfl⟩
    obtain ⟨e1, hkn, e2⟩ := rng_step hr
    subst e1
    repeat infer_instance
    have hlen := hpl (k + 1) hkn
    have e : (ordR ts.length k).flatMap (fun p => (((rngI 1 ts.length).filter fun j => !p.elem j).map fun j => p ++ [j]).map ti) = (ordR ts.length (k + 1)).map ti := by
      show _ = ((ordR ts.length k).flatMap _).map ti
      rw [List.map_flatMap]
    refine w_lc2M (fun p => (((rngI 1 ts.length).filter fun j => !p.elem j).map fun j => p ++ [j]).map ti) ?_ (fun p hp => ?_) ?_
    · rw [e, List.length_map]
      omega
    · obtain ⟨q, rfl, h1, h2, h3⟩ := (ordR_mem k p).mp hp
      repeat infer_instance
      rw [show ((ts.length : Nat) : Int) + 1 - 1 = (ts.length : Nat) by omega]
      refine w_in1 (fun j => !(0 :: q).elem j) (fun j => ti ((0 :: q) ++ [j])) (fun j hj => ?_) ?_
      · repeat infer_instance
        refine ⟨rfl, fun _ => ?_⟩
        repeat infer_instance
        refine w_tuS1 (by rw [List.length_cons]; omega) ?_
        rfl
      rw [List.map_map]
      rfl
    rw [e]
    repeat infer_instance
    exact ⟨k + 1, _, e2, by omega, rfl⟩
  · rintro ρ ⟨k, y4, hr, hk, rfl⟩
    have hkn := rng_end hr hk
    subst hkn
    repeat infer_instance
    refine w_loopK (fun more ρ => ∃ (done : List (List Int)) (y4 y7 y8 y9 : Option SV), ordR ts.length ts.length = done ++ more ∧ ((done = [] ∧ y7 = some (.d .none)) ∨ ∃ p bt bb, p ∈ done ∧ Val (RL ts ms wk p) bt bb ∧ (0 ≤ bt ∧ bt ≤ 500 ∧ bb ≤ 30) ∧ (∀ q ∈ done, ∀ a b, Val (RL ts ms wk q) a b → bt * b ≤ a * bb) ∧ y7 = some (.d (.tuple [.tuple [.int bt, .int bb], ti p]))) ∧ ρ = [some (.d (ti ts)), some (.d (ti ms)), some (.d (.int wk)), some (.k ((ordR ts.length ts.length).map ti)), y4, none, none, y7, y8, y9]) ?_ ?_ ?_
    · repeat infer_instance
      exact ⟨[], _, _, _, _, rfl, .inl ⟨rfl, rfl⟩, rfl⟩
    · rintro q more ρ ⟨done, y4, y7, y8, y9, hd, hst, rfl⟩
      have hq := ordR_rb rfl B (p := q) (by rw [hd]; simp)
      repeat infer_instance
      refine w_use (robot_in_gives hq.1) fun r ⟨a, b, e, hV, ha⟩ => ?_
      subst e
      have hb0 := hV.b0
      have hd2 : ordR ts.length ts.length = (done ++ [q]) ++ more := by rw [List.append_assoc]; exact hd
      rcases hst with ⟨h1, rfl⟩ | ⟨p, bt, bb, hp, hVp, hbd, hle, rfl⟩
      · subst h1
        repeat infer_instance
        refine ⟨[q], _, _, _, _, hd, .inr ⟨q, a, b, by simp, hV, ha, fun x hx a' b' h' => ?_, rfl⟩, rfl⟩
        rw [List.mem_singleton.mp hx] at h'
        exact hV.le h'
      · have hbb := hVp.b0
        repeat infer_instance
        refine w_dec (fun hlt => ?_) (fun hge => ?_)
        · repeat infer_instance
          refine ⟨done ++ [q], _, _, _, _, hd2, .inr ⟨q, a, b, by simp, hV, ha, fun x hx a' b' h' => ?_, rfl⟩, rfl⟩
          rcases List.mem_append.mp hx with z | z
          · exact ratio_tr (Int.le_of_lt hlt) (hle x z a' b' h') hbb hb0 (Int.le_of_lt h'.b0)
          · rw [List.mem_singleton.mp z] at h'
            exact hV.le h'
        · repeat infer_instance
          refine ⟨done ++ [q], _, _, _, _, hd2, .inr ⟨p, bt, bb, List.mem_append_left _ hp, hVp, hbd, fun x hx a' b' h' => ?_, rfl⟩, rfl⟩
          rcases List.mem_append.mp hx with z | z
          · exact hle x z a' b' h'
          · rw [List.mem_singleton.mp z] at h'
            exact ratio_tr (by omega) (hV.le h') hb0 hbb (Int.le_of_lt h'.b0)
    · rintro ρ ⟨done, y4, y7, y8, y9, hd, hst, rfl⟩
      rw [List.append_nil] at hd
      subst hd
      have hne : ordR ts.length ts.length ≠ [] := fun e => by
        have : (0 :: rngI 1 ts.length) ∈ ordR ts.length ts.length := (ordR_mem _ _).mpr ⟨_, rfl, rngI_nodup 1 _, rngI_len 1 _, fun x hx => by
          have := (mem_rngI _ _ _).mp hx
          omega⟩
        rw [e] at this
        exact nomatch this
      rcases hst with ⟨h1, _⟩ | ⟨p, bt, bb, hp, hVp, hbd, hle, rfl⟩
      · exact absurd h1 hne
      · repeat infer_instance
        exact ⟨p, bt, bb, rfl, ordR_rb rfl B hp, hVp, hbd, fun q a b hq h0 => hle q (ordR_all hq h0) a b⟩
end
end Lk63.U

namespace DV
open PySem L2 DVL
section
variable {P : RV → Prop} {ρ : Env} {f h : Env → DV.M RV}
theorem w_metT {gg : RV → RV → Option RV} (p : Gives (f ρ) fun x => ∃ ds, itemsT x = some ds ∧ Gives (h ρ) fun y => K2 gg P x y) : Gives (eMetT gg f h ρ) P := by
  unfold eMetT
  refine Gives.bnd p fun x ⟨ds, e, q⟩ => ?_
  rw [e, lft_s, bnd_ret]
  refine Gives.bnd q fun y ⟨z, e2, q2⟩ => ?_
  rw [e2]
  exact Gives.ret q2
theorem w_itmT {C : Prop} {ds : List D} (p : C) : ∃ es, itemsT (.d (.tuple ds)) = some es ∧ C := ⟨ds, rfl, p⟩
/-- the place of an int in a tuple of ints -/
theorem w_idxT {L : List Int} {m : Int} (h1 : m ∈ L) (p : P (.d (.int (L.idxOf m : Nat)))) : K2 gIndexT P (.d (ti L)) (.d (.int m)) := by
  refine ⟨_, ?_, p⟩
  show (if SeqAt.shaped (.list (L.map PyData.int)) = true ∧ SeqAt.shaped (.int m) = true then (idxOf (L.map PyData.int) (.int m)).map fun j => RV.d (.int (j : Nat)) else none) = _
  rw [if_pos ⟨DVL.shaped_ints L, DVL.shaped_int m⟩]
  unfold idxOf
  have e : L.findIdx? (fun z => decide (z = m)) = some (L.idxOf m) := by
    have hl : L.idxOf m < L.length := List.idxOf_lt_length_of_mem h1
    rw [List.findIdx?_eq_some_iff_getElem]
    refine ⟨hl, by simp, fun j hj => ?_⟩
    have := List.not_of_lt_findIdx (p := (· == m)) (xs := L) (i := j) hj
    simpa using this
  rw [findIdx_map, e]
  rfl
end
end DV

namespace DVL
open PySem L2 DV
local macro_rules
  | `(tactic| get_elem_tactic_trivial) => `(tactic| first
    | (simp only [List.set_cons_succ, List.set_cons_zero, DV.startE, DV.lawE, DV.toK, DV.lockE, DV.wipeE, List.map_cons, List.map_nil, List.length_cons, List.length_nil, List.replicate_zero, List.replicate_succ, Nat.reduceSub, Nat.reduceAdd, List.append_nil, List.cons_append, List.nil_append]; rfl)
    | exact rfl)
local macro_rules
  | `(tactic| infer_instance) => `(tactic| first
    | with_reducible refine DV.w_cons ?_
    | with_reducible refine DV.w_var (by with_unfolding_all exact rfl) ?_
    | with_reducible refine DV.w_c ?_
    | with_reducible refine DV.w_nil ?_
    | with_reducible refine DV.w_e2 ?_
    | with_reducible refine DV.w_seq ?_
    | with_reducible refine DV.w_seqN ?_
    | with_reducible refine DV.w_seqR ?_
    | with_reducible refine DV.w_seqB ?_
    | with_reducible refine DV.w_seqC ?_
    | with_reducible refine DV.w_call ?_
    | with_reducible refine DV.w_fn ?_
    | with_reducible refine DV.w_f1 ?_
    | with_reducible refine DV.w_f2 ?_
    | with_reducible refine DV.w_f3 ?_
    | with_reducible refine DV.w_f4 ?_
    | with_reducible refine DV.w_f5 ?_
    | with_reducible refine DV.w_f6 ?_
    | with_reducible refine DV.w_set ?_
    | with_reducible refine DV.w_setApp ?_
    | with_reducible refine DV.w_setX (by with_unfolding_all exact rfl) (by with_unfolding_all (simp only [List.set_cons_succ, List.set_cons_zero]; rfl)) ?_
    | with_reducible refine DV.w_rt ?_
    | with_reducible refine DV.w_rtD ?_
    | with_reducible refine DV.w_rtN ?_
    | with_reducible refine DV.w_rtV (by with_unfolding_all exact rfl) ?_
    | with_reducible refine DV.w_if ?_
    | with_reducible refine DV.w_drop ?_
    | with_reducible refine DV.w_nop ?_
    | with_reducible refine DV.w_T ?_
    | with_reducible refine DV.w_B ?_
    | with_reducible refine DV.w_not ?_
    | with_reducible refine DV.w_and ?_
    | with_reducible refine DV.w_or ?_
    | with_reducible refine DV.w_ifT ?_
    | with_reducible refine DV.w_ifF ?_
    | with_reducible refine DV.w_ifNT ?_
    | with_reducible refine DV.w_ifNF ?_
    | with_reducible refine DV.w_stup ?_
    | with_reducible refine DV.w_stupD (by with_unfolding_all (simp only [DV.wipeE, DV.gTupF, DV.gMore, DV.gNone, DV.gNm, List.set_cons_succ, List.set_cons_zero, List.length]; rfl)) ?_
    | with_reducible refine DV.w_aug (by with_unfolding_all exact rfl) ?_
    | with_reducible refine DV.w_I ?_
    | with_reducible refine DV.w_app (by with_unfolding_all exact rfl) (by simp only [List.length_map]; omega) ?_
    | with_reducible refine DV.w_D ?_
    | with_reducible refine DV.w_for ?_
    | with_reducible refine DV.w_lc ?_
    | with_reducible refine DV.w_par ?_
    | with_reducible refine DV.w_par3 ?_
    | with_reducible refine DV.w_par4 ?_
    | with_reducible refine DV.w_parX (by with_unfolding_all exact rfl) (by with_unfolding_all exact rfl) (by with_unfolding_all (simp only [List.set_cons_succ, List.set_cons_zero]; rfl)) ?_
    | with_reducible refine DV.w_par3X (by with_unfolding_all exact rfl) (by with_unfolding_all exact rfl) (by with_unfolding_all exact rfl) (by with_unfolding_all (simp only [List.set_cons_succ, List.set_cons_zero]; rfl)) ?_
    | with_reducible refine DV.w_par4X (by with_unfolding_all exact rfl) (by with_unfolding_all exact rfl) (by with_unfolding_all exact rfl) (by with_unfolding_all exact rfl) (by with_unfolding_all (simp only [List.set_cons_succ, List.set_cons_zero]; rfl)) ?_
    | with_reducible refine DV.w_tup ?_
    | with_reducible refine DV.w_lst ?_
    | with_reducible refine DV.w_tu (by with_unfolding_all exact rfl) (by with_unfolding_all exact Nat.le_of_ble_eq_true rfl) ?_
    | with_reducible refine DV.w_ls (by with_unfolding_all exact rfl) (by with_unfolding_all exact Nat.le_of_ble_eq_true rfl) ?_
    | with_reducible refine DV.w_neg ?_
    | with_reducible refine DV.w_ifB ?_
    | with_reducible refine DV.w_ifE ?_
    | with_reducible refine DV.w_notB ?_
    | with_reducible refine DV.w_tt ?_
    | with_reducible refine DV.w_ch ?_
    | with_reducible refine DV.w_add ?_
    | with_reducible refine DV.w_sub ?_
    | with_reducible refine DV.w_mul (by first | omega | (left; constructor <;> omega) | (right; constructor <;> omega)) ?_
    | with_reducible refine DV.w_mod (by omega) ?_
    | with_reducible refine DV.w_div (by omega) ?_
    | with_reducible refine DV.w_lt ?_
    | with_reducible refine DV.w_le ?_
    | with_reducible refine DV.w_gt ?_
    | with_reducible refine DV.w_ge ?_
    | with_reducible refine DV.w_ltA ?_
    | with_reducible refine DV.w_leA ?_
    | with_reducible refine DV.w_gtA ?_
    | with_reducible refine DV.w_geA ?_
    | with_reducible refine DV.w_eq ?_
    | with_reducible refine DV.w_ne ?_
    | with_reducible refine DV.w_eqB ?_
    | with_reducible refine DV.w_neB ?_
    | with_reducible refine DV.w_eqN ?_
    | with_reducible refine DV.w_neN ?_
    | with_reducible refine DV.w_eqN0 ?_
    | with_reducible refine DV.w_neN0 ?_
    | with_reducible refine DV.w_in ?_
    | with_reducible refine DV.w_inB ?_
    | with_reducible refine DV.w_notIn ?_
    | with_reducible refine DV.w_notInB ?_
    | with_reducible refine DV.w_ix0 ?_
    | with_reducible refine DV.w_ix1 ?_
    | with_reducible refine DV.w_ix (by omega) ?_
    | with_reducible refine DV.w_ixB (by omega) ?_
    | with_reducible refine DV.w_len ?_
    | with_reducible refine DV.w_lenB ?_
    | with_reducible refine DV.w_lenN ?_
    | with_reducible refine DV.w_lenM ?_
    | with_reducible refine DV.w_lenMB ?_
    | with_reducible refine DV.w_lenMN ?_
    | with_reducible refine DV.w_lenD ?_
    | with_reducible refine DV.w_lenDB ?_
    | with_reducible refine DV.w_lenDN ?_
    | with_reducible refine DV.w_tupN ?_
    | with_reducible refine DV.w_tupB ?_
    | with_reducible refine DV.w_tupD ?_
    | with_reducible refine DV.w_lstD ?_
    | with_reducible refine DV.w_lstB ?_
    | with_reducible refine DV.w_lstN ?_
    | with_reducible refine DV.w_sum ?_
    | with_reducible refine DV.w_sumN ?_
    | with_reducible refine DV.w_sumB ?_
    | with_reducible refine DV.w_max2 ?_
    | with_reducible refine DV.w_min2 ?_
    | with_reducible refine DV.w_int ?_
    | with_reducible refine DV.w_sort ?_
    | with_reducible refine DV.w_sortN ?_
    | with_reducible refine DV.w_sortB ?_
    | with_reducible refine DV.w_rep (by omega) ?_
    | with_reducible refine DV.w_repN (by omega) ?_
    | with_reducible refine DV.w_moveG (by with_unfolding_all exact rfl) (by with_unfolding_all (simp only [List.set_cons_succ, List.set_cons_zero]; rfl)) ?_
    | with_reducible refine DV.w_moveO (by with_unfolding_all exact rfl) (by with_unfolding_all (simp only [List.set_cons_succ, List.set_cons_zero]; rfl)) ?_
    | with_reducible refine DV.w_moveD (by with_unfolding_all exact rfl) (by with_unfolding_all (simp only [List.set_cons_succ, List.set_cons_zero]; rfl)) ?_
    | with_reducible refine DV.w_catTI (by (try simp only [List.length_append, List.length_take, List.length_drop, List.length_cons, List.length_nil]); omega) ?_
    | with_reducible refine DV.w_catT1 (by (try simp only [List.length_append, List.length_take, List.length_drop, List.length_cons, List.length_nil]); omega) ?_
    | with_reducible refine DV.w_listG ?_
    | with_reducible refine DV.w_sortK ?_
    | with_reducible refine DV.w_colS ?_
    | with_reducible refine DV.w_itT ?_
    | with_reducible refine DV.w_itB ?_
    | with_reducible refine DV.w_itN ?_
    | with_reducible refine DV.w_colR ?_
    | with_reducible refine DV.w_colRN (by omega) ?_
    | with_reducible refine DV.w_ext (by with_unfolding_all exact rfl) ?_
    | with_reducible refine DV.w_lc2 ?_
    | with_reducible refine DV.w_isT ?_
    | with_reducible refine DV.w_isNN ?_
    | with_reducible refine DV.w_isNI ?_
    | with_reducible refine DV.w_isNT ?_
    | with_reducible refine DV.w_ntNN ?_
    | with_reducible refine DV.w_ntNI ?_
    | with_reducible refine DV.w_ntNT ?_
    | with_reducible refine DV.w_repND (by omega) ?_
    | with_reducible refine DV.w_put (by with_unfolding_all exact rfl) ?_
    | with_reducible refine DV.w_putI (by (try simp only [List.length_set, List.length_replicate, List.length_map]); omega) ?_
    | with_reducible refine DV.w_eqB0 ?_
    | with_reducible refine DV.w_neB0 ?_
    | with_reducible refine DV.w_eqBB ?_
    | with_reducible refine DV.w_neBB ?_
    | with_reducible refine DV.w_eqNB ?_
    | with_reducible refine DV.w_neNB ?_
    | with_reducible refine DV.w_eqBN ?_
    | with_reducible refine DV.w_neBN ?_
    | with_reducible refine DV.w_eqT0 ?_
    | with_reducible refine DV.w_neT0 ?_
    | with_reducible refine DV.w_eqT ?_
    | with_reducible refine DV.w_neT ?_
    | with_reducible refine DV.w_gget ?_
    | with_reducible refine DV.w_dc ?_
    | with_reducible refine DV.w_dcN ?_
    | with_reducible refine DV.w_G ?_
    | with_reducible refine DV.w_gput ?_
    | with_reducible refine DV.w_gnew ?_
    | with_reducible refine DV.w_g1 ?_
    | with_reducible refine DV.w_ret ?_
    | with_reducible refine DV.w_slice ?_
    | with_reducible refine DV.w_part ?_
    | with_reducible refine DV.w_slToI (by omega) ?_
    | with_reducible refine DV.w_slFromI (by omega) ?_
    | with_reducible refine DV.w_slToBI (by omega) ?_
    | with_reducible refine DV.w_slFromBI (by omega) ?_
    | with_reducible refine DV.w_star ?_
    | with_reducible refine DV.w_starT ?_
    | with_reducible refine DV.w_starB ?_
    | with_reducible refine DV.w_starN ?_
    | with_reducible refine DV.w_ixR (by omega) ?_
    | with_reducible refine DV.w_ixRB (by omega) ?_
    | with_reducible refine DV.w_lrg ?_
    | with_reducible refine DV.w_trg ?_
    | with_reducible refine DV.w_rg (by omega) ?_
    | with_reducible refine DV.w_enum ?_
    | with_reducible refine DV.w_zip ?_
    | with_reducible refine DV.w_zip3 ?_
    | with_reducible refine DV.w_step ?_
    | with_reducible refine DV.w_stepB (by omega) ?_
    | with_reducible refine DV.w_srev ?_
    | with_reducible refine DV.w_srevT ?_
    | with_reducible refine DV.w_isTT ?_
    | with_reducible refine DV.w_ntTT ?_
    | with_reducible refine DV.w_isFT ?_
    | with_reducible refine DV.w_ntFT ?_
    | with_reducible refine DV.w_isTF ?_
    | with_reducible refine DV.w_ntTF ?_
    | with_reducible refine DV.w_isFF ?_
    | with_reducible refine DV.w_ntFF ?_
    | with_reducible refine DV.w_ixS (by omega) ?_
    | with_reducible refine DV.w_ix2 ?_
    | with_reducible refine DV.w_gget2 ?_
    | with_reducible refine DV.w_notInTs ?_
    | with_reducible refine DV.w_inTs ?_
    | with_reducible refine DV.w_inTsN ?_
    | with_reducible refine DV.w_sset ?_
    | with_reducible refine DV.w_ssetU (by omega) (by assumption) ?_
    | with_reducible refine DV.w_met ?_
    | with_reducible refine DV.w_itL ?_
    | with_reducible refine DV.w_two ?_
    | with_reducible refine DV.w_twoX ?_
    | with_reducible refine DV.w_neS ?_
    | with_reducible refine DV.w_eqS ?_
    | with_reducible refine DV.w_rev ?_
    | with_reducible refine DV.w_revN ?_
    | with_reducible refine DV.w_lset ?_
    | with_reducible refine DV.w_isNL ?_
    | with_reducible refine DV.w_isBL ?_
    | with_reducible refine DV.w_ntNL ?_
    | with_reducible refine DV.w_ntBL ?_
    | with_reducible refine DV.w_abs ?_
    | with_reducible refine DV.w_neBl ?_
    | with_reducible refine DV.w_eqBl ?_
    | with_reducible refine DV.w_eqIP ?_
    | with_reducible refine DV.w_neIP ?_
    | with_reducible refine DV.w_ix3 ?_
    | with_reducible refine DVR.w_neW ?_
    | with_reducible refine DVR.w_ixL (by omega) ?_
    | with_reducible refine DV.w_dcomp ?_
    | with_reducible refine DV.w_intB ?_
    | with_reducible refine DV.w_augIx (by with_unfolding_all exact rfl) ?_
    | with_reducible refine DV.w_inN ?_
    | with_reducible refine DV.w_notInN ?_
    | with_reducible refine DV.w_srcE ?_
    | with_reducible refine DV.w_srcV (by with_unfolding_all exact rfl) ?_
    | with_reducible refine DV.w_src (by with_unfolding_all exact rfl) ?_
    | with_reducible refine DV.w_rng1 ?_
    | with_reducible refine DV.w_rng2 ?_
    | with_reducible refine DV.w_rng2I (by omega) ?_
    | with_reducible refine DV.w_rngN (by omega) ?_
    | with_reducible refine DV.w_rngI (by omega) ?_
    | with_reducible refine DV.w_loopN ?_
    | with_reducible refine DV.w_loopC ?_
    | with_reducible refine DV.w_loopB ?_
    | with_reducible refine DV.w_loopR ?_
    | with_reducible refine DV.w_runN ?_
    | with_reducible refine DV.w_runR ?_
    | with_reducible refine DV.w_tg (by with_unfolding_all (simp only [DV.lockE, DV.unlockE, List.getElem?_cons_succ, List.getElem?_cons_zero, DV.wipeE, DV.gTupF, DV.gMore, DV.gNone, DV.gNm, List.set_cons_succ, List.set_cons_zero, List.length]; rfl)) ?_)
end DVL

namespace DVL
open PySem L2 DV
/-- the jobs of machine m -/
def cell (n : Nat) (a : List Int) (m : Int) : List Int := (rngI 0 n).filter fun i => decide (val a i = m)
/-- the lists of an assignment -/
def lists (n : Nat) (T : List (List Int)) (a : List Int) : List (List Int) := (rngI 0 T.length).map fun m => sbP (val (rowA T m)) id (cell n a m)
end DVL


namespace Lk63
open PySem L2 DV DVL DVR U
local macro_rules
  | `(tactic| get_elem_tactic_trivial) => `(tactic| first
    | (simp only [List.set_cons_succ, List.set_cons_zero, DV.startE, DV.lawE, DV.toK, DV.lockE, DV.wipeE, List.map_cons, List.map_nil, List.length_cons, List.length_nil, List.replicate_zero, List.replicate_succ, Nat.reduceSub, Nat.reduceAdd, List.append_nil, List.cons_append, List.nil_append]; rfl)
    | exact rfl)
local macro_rules
  | `(tactic| infer_instance) => `(tactic| first
    | with_reducible refine DV.w_cons ?_
    | with_reducible refine DV.w_var (by with_unfolding_all exact rfl) ?_
    | with_reducible refine DV.w_c ?_
    | with_reducible refine DV.w_nil ?_
    | with_reducible refine DV.w_e2 ?_
    | with_reducible refine DV.w_seq ?_
    | with_reducible refine DV.w_seqN ?_
    | with_reducible refine DV.w_seqR ?_
    | with_reducible refine DV.w_seqB ?_
    | with_reducible refine DV.w_seqC ?_
    | with_reducible refine DV.w_call ?_
    | with_reducible refine DV.w_fn ?_
    | with_reducible refine DV.w_f1 ?_
    | with_reducible refine DV.w_f2 ?_
    | with_reducible refine DV.w_f3 ?_
    | with_reducible refine DV.w_f4 ?_
    | with_reducible refine DV.w_f5 ?_
    | with_reducible refine DV.w_f6 ?_
    | with_reducible refine DV.w_set ?_
    | with_reducible refine DV.w_setApp ?_
    | with_reducible refine DV.w_setX (by with_unfolding_all exact rfl) (by with_unfolding_all (simp only [List.set_cons_succ, List.set_cons_zero]; rfl)) ?_
    | with_reducible refine DV.w_rt ?_
    | with_reducible refine DV.w_rtD ?_
    | with_reducible refine DV.w_rtN ?_
    | with_reducible refine DV.w_rtV (by with_unfolding_all exact rfl) ?_
    | with_reducible refine DV.w_if ?_
    | with_reducible refine DV.w_drop ?_
    | with_reducible refine DV.w_nop ?_
    | with_reducible refine DV.w_T ?_
    | with_reducible refine DV.w_B ?_
    | with_reducible refine DV.w_not ?_
    | with_reducible refine DV.w_and ?_
    | with_reducible refine DV.w_or ?_
    | with_reducible refine DV.w_ifT ?_
    | with_reducible refine DV.w_ifF ?_
    | with_reducible refine DV.w_ifNT ?_
    | with_reducible refine DV.w_ifNF ?_
    | with_reducible refine DV.w_stup ?_
    | with_reducible refine DV.w_stupD (by with_unfolding_all (simp only [DV.wipeE, DV.gTupF, DV.gMore, DV.gNone, DV.gNm, List.set_cons_succ, List.set_cons_zero, List.length]; rfl)) ?_
    | with_reducible refine DV.w_aug (by with_unfolding_all exact rfl) ?_
    | with_reducible refine DV.w_I ?_
    | with_reducible refine DV.w_app (by with_unfolding_all exact rfl) (by simp only [List.length_map]; omega) ?_
    | with_reducible refine DV.w_D ?_
    | with_reducible refine DV.w_for ?_
    | with_reducible refine DV.w_lc ?_
    | with_reducible refine DV.w_par ?_
    | with_reducible refine DV.w_par3 ?_
    | with_reducible refine DV.w_par4 ?_
    | with_reducible refine DV.w_parX (by with_unfolding_all exact rfl) (by with_unfolding_all exact rfl) (by with_unfolding_all (simp only [List.set_cons_succ, List.set_cons_zero]; rfl)) ?_
    | with_reducible refine DV.w_par3X (by with_unfolding_all exact rfl) (by with_unfolding_all exact rfl) (by with_unfolding_all exact rfl) (by with_unfolding_all (simp only [List.set_cons_succ, List.set_cons_zero]; rfl)) ?_
    | with_reducible refine DV.w_par4X (by with_unfolding_all exact rfl) (by with_unfolding_all exact rfl) (by with_unfolding_all exact rfl) (by with_unfolding_all exact rfl) (by with_unfolding_all (simp only [List.set_cons_succ, List.set_cons_zero]; rfl)) ?_
    | with_reducible refine DV.w_tup ?_
    | with_reducible refine DV.w_lst ?_
    | with_reducible refine DV.w_tu (by with_unfolding_all exact rfl) (by with_unfolding_all exact Nat.le_of_ble_eq_true rfl) ?_
    | with_reducible refine DV.w_ls (by with_unfolding_all exact rfl) (by with_unfolding_all exact Nat.le_of_ble_eq_true rfl) ?_
    | with_reducible refine DV.w_neg ?_
    | with_reducible refine DV.w_ifB ?_
    | with_reducible refine DV.w_ifE ?_
    | with_reducible refine DV.w_notB ?_
    | with_reducible refine DV.w_tt ?_
    | with_reducible refine DV.w_ch ?_
    | with_reducible refine DV.w_add ?_
    | with_reducible refine DV.w_sub ?_
    | with_reducible refine DV.w_mul (by first | omega | (left; constructor <;> omega) | (right; constructor <;> omega)) ?_
    | with_reducible refine DV.w_mod (by omega) ?_
    | with_reducible refine DV.w_div (by omega) ?_
    | with_reducible refine DV.w_lt ?_
    | with_reducible refine DV.w_le ?_
    | with_reducible refine DV.w_gt ?_
    | with_reducible refine DV.w_ge ?_
    | with_reducible refine DV.w_ltA ?_
    | with_reducible refine DV.w_leA ?_
    | with_reducible refine DV.w_gtA ?_
    | with_reducible refine DV.w_geA ?_
    | with_reducible refine DV.w_eq ?_
    | with_reducible refine DV.w_ne ?_
    | with_reducible refine DV.w_eqB ?_
    | with_reducible refine DV.w_neB ?_
    | with_reducible refine DV.w_eqN ?_
    | with_reducible refine DV.w_neN ?_
    | with_reducible refine DV.w_eqN0 ?_
    | with_reducible refine DV.w_neN0 ?_
    | with_reducible refine DV.w_in ?_
    | with_reducible refine DV.w_inB ?_
    | with_reducible refine DV.w_notIn ?_
    | with_reducible refine DV.w_notInB ?_
    | with_reducible refine DV.w_ix0 ?_
    | with_reducible refine DV.w_ix1 ?_
    | with_reducible refine DV.w_ix (by omega) ?_
    | with_reducible refine DV.w_ixB (by omega) ?_
    | with_reducible refine DV.w_len ?_
    | with_reducible refine DV.w_lenB ?_
    | with_reducible refine DV.w_lenN ?_
    | with_reducible refine DV.w_lenM ?_
    | with_reducible refine DV.w_lenMB ?_
    | with_reducible refine DV.w_lenMN ?_
    | with_reducible refine DV.w_lenD ?_
    | with_reducible refine DV.w_lenDB ?_
    | with_reducible refine DV.w_lenDN ?_
    | with_reducible refine DV.w_tupN ?_
    | with_reducible refine DV.w_tupB ?_
    | with_reducible refine DV.w_tupD ?_
    | with_reducible refine DV.w_lstD ?_
    | with_reducible refine DV.w_lstB ?_
    | with_reducible refine DV.w_lstN ?_
    | with_reducible refine DV.w_sum ?_
    | with_reducible refine DV.w_sumN ?_
    | with_reducible refine DV.w_sumB ?_
    | with_reducible refine DV.w_max2 ?_
    | with_reducible refine DV.w_min2 ?_
    | with_reducible refine DV.w_int ?_
    | with_reducible refine DV.w_sort ?_
    | with_reducible refine DV.w_sortN ?_
    | with_reducible refine DV.w_sortB ?_
    | with_reducible refine DV.w_rep (by omega) ?_
    | with_reducible refine DV.w_repN (by omega) ?_
    | with_reducible refine DV.w_moveG (by with_unfolding_all exact rfl) (by with_unfolding_all (simp only [List.set_cons_succ, List.set_cons_zero]; rfl)) ?_
    | with_reducible refine DV.w_moveO (by with_unfolding_all exact rfl) (by with_unfolding_all (simp only [List.set_cons_succ, List.set_cons_zero]; rfl)) ?_
    | with_reducible refine DV.w_moveD (by with_unfolding_all exact rfl) (by with_unfolding_all (simp only [List.set_cons_succ, List.set_cons_zero]; rfl)) ?_
    | with_reducible refine DV.w_catTI (by (try simp only [List.length_append, List.length_take, List.length_drop, List.length_cons, List.length_nil]); omega) ?_
    | with_reducible refine DV.w_catT1 (by (try simp only [List.length_append, List.length_take, List.length_drop, List.length_cons, List.length_nil]); omega) ?_
    | with_reducible refine DV.w_listG ?_
    | with_reducible refine DV.w_sortK ?_
    | with_reducible refine DV.w_colS ?_
    | with_reducible refine DV.w_itT ?_
    | with_reducible refine DV.w_itB ?_
    | with_reducible refine DV.w_itN ?_
    | with_reducible refine DV.w_colR ?_
    | with_reducible refine DV.w_colRN (by omega) ?_
    | with_reducible refine DV.w_ext (by with_unfolding_all exact rfl) ?_
    | with_reducible refine DV.w_lc2 ?_
    | with_reducible refine DV.w_isT ?_
    | with_reducible refine DV.w_isNN ?_
    | with_reducible refine DV.w_isNI ?_
    | with_reducible refine DV.w_isNT ?_
    | with_reducible refine DV.w_ntNN ?_
    | with_reducible refine DV.w_ntNI ?_
    | with_reducible refine DV.w_ntNT ?_
    | with_reducible refine DV.w_repND (by omega) ?_
    | with_reducible refine DV.w_put (by with_unfolding_all exact rfl) ?_
    | with_reducible refine DV.w_putI (by (try simp only [List.length_set, List.length_replicate, List.length_map]); omega) ?_
    | with_reducible refine DV.w_eqB0 ?_
    | with_reducible refine DV.w_neB0 ?_
    | with_reducible refine DV.w_eqBB ?_
    | with_reducible refine DV.w_neBB ?_
    | with_reducible refine DV.w_eqNB ?_
    | with_reducible refine DV.w_neNB ?_
    | with_reducible refine DV.w_eqBN ?_
    | with_reducible refine DV.w_neBN ?_
    | with_reducible refine DV.w_eqT0 ?_
    | with_reducible refine DV.w_neT0 ?_
    | with_reducible refine DV.w_eqT ?_
    | with_reducible refine DV.w_neT ?_
    | with_reducible refine DV.w_gget ?_
    | with_reducible refine DV.w_dc ?_
    | with_reducible refine DV.w_dcN ?_
    | with_reducible refine DV.w_G ?_
    | with_reducible refine DV.w_gput ?_
    | with_reducible refine DV.w_gnew ?_
    | with_reducible refine DV.w_g1 ?_
    | with_reducible refine DV.w_ret ?_
    | with_reducible refine DV.w_slice ?_
    | with_reducible refine DV.w_part ?_
    | with_reducible refine DV.w_slToI (by omega) ?_
    | with_reducible refine DV.w_slFromI (by omega) ?_
    | with_reducible refine DV.w_slToBI (by omega) ?_
    | with_reducible refine DV.w_slFromBI (by omega) ?_
    | with_reducible refine DV.w_star ?_
    | with_reducible refine DV.w_starT ?_
    | with_reducible refine DV.w_starB ?_
    | with_reducible refine DV.w_starN ?_
    | with_reducible refine DV.w_ixR (by omega) ?_
    | with_reducible refine DV.w_ixRB (by omega) ?_
    | with_reducible refine DV.w_lrg ?_
    | with_reducible refine DV.w_trg ?_
    | with_reducible refine DV.w_rg (by omega) ?_
    | with_reducible refine DV.w_enum ?_
    | with_reducible refine DV.w_zip ?_
    | with_reducible refine DV.w_zip3 ?_
    | with_reducible refine DV.w_step ?_
    | with_reducible refine DV.w_stepB (by omega) ?_
    | with_reducible refine DV.w_srev ?_
    | with_reducible refine DV.w_srevT ?_
    | with_reducible refine DV.w_isTT ?_
    | with_reducible refine DV.w_ntTT ?_
    | with_reducible refine DV.w_isFT ?_
    | with_reducible refine DV.w_ntFT ?_
    | with_reducible refine DV.w_isTF ?_
    | with_reducible refine DV.w_ntTF ?_
    | with_reducible refine DV.w_isFF ?_
    | with_reducible refine DV.w_ntFF ?_
    | with_reducible refine DV.w_ixS (by omega) ?_
    | with_reducible refine DV.w_ix2 ?_
    | with_reducible refine DV.w_gget2 ?_
    | with_reducible refine DV.w_notInTs ?_
    | with_reducible refine DV.w_inTs ?_
    | with_reducible refine DV.w_inTsN ?_
    | with_reducible refine DV.w_sset ?_
    | with_reducible refine DV.w_ssetU (by omega) (by assumption) ?_
    | with_reducible refine DV.w_met ?_
    | with_reducible refine DV.w_itL ?_
    | with_reducible refine DV.w_two ?_
    | with_reducible refine DV.w_twoX ?_
    | with_reducible refine DV.w_neS ?_
    | with_reducible refine DV.w_eqS ?_
    | with_reducible refine DV.w_rev ?_
    | with_reducible refine DV.w_revN ?_
    | with_reducible refine DV.w_lset ?_
    | with_reducible refine DV.w_isNL ?_
    | with_reducible refine DV.w_isBL ?_
    | with_reducible refine DV.w_ntNL ?_
    | with_reducible refine DV.w_ntBL ?_
    | with_reducible refine DV.w_abs ?_
    | with_reducible refine DV.w_neBl ?_
    | with_reducible refine DV.w_eqBl ?_
    | with_reducible refine DV.w_eqIP ?_
    | with_reducible refine DV.w_neIP ?_
    | with_reducible refine DV.w_ix3 ?_
    | with_reducible refine DVR.w_neW ?_
    | with_reducible refine DVR.w_ixL (by omega) ?_
    | with_reducible refine DV.w_dcomp ?_
    | with_reducible refine DV.w_intB ?_
    | with_reducible refine DV.w_augIx (by with_unfolding_all exact rfl) ?_
    | with_reducible refine DV.w_inN ?_
    | with_reducible refine DV.w_notInN ?_
    | with_reducible refine DV.w_srcE ?_
    | with_reducible refine DV.w_srcV (by with_unfolding_all exact rfl) ?_
    | with_reducible refine DV.w_src (by with_unfolding_all exact rfl) ?_
    | with_reducible refine DV.w_rng1 ?_
    | with_reducible refine DV.w_rng2 ?_
    | with_reducible refine DV.w_rng2I (by omega) ?_
    | with_reducible refine DV.w_rngN (by omega) ?_
    | with_reducible refine DV.w_rngI (by omega) ?_
    | with_reducible refine DV.w_loopN ?_
    | with_reducible refine DV.w_loopC ?_
    | with_reducible refine DV.w_loopB ?_
    | with_reducible refine DV.w_loopR ?_
    | with_reducible refine DV.w_runN ?_
    | with_reducible refine DV.w_runR ?_
    | with_reducible refine DV.w_tg (by with_unfolding_all (simp only [DV.lockE, DV.unlockE, List.getElem?_cons_succ, List.getElem?_cons_zero, DV.wipeE, DV.gTupF, DV.gMore, DV.gNone, DV.gNm, List.set_cons_succ, List.set_cons_zero, List.length]; rfl)) ?_)
section
variable {n : Nat} {ls : List Lk}
structure Lj (n : Nat) (ls : List Lk) : Prop where
  g : Ln n ls
  n8 : n ≤ 6
  len : ls.length ≤ 30
  tv : ∀ i, 0 ≤ i → i < (ls.length : Int) → -100 ≤ tim ls i ∧ tim ls i ≤ 100
  rv : ∀ i, 0 ≤ i → i < (ls.length : Int) → 0 ≤ rnd ls i ∧ rnd ls i ≤ 3
theorem w_lsM {C : List D × Option Nat → Prop} {lk : Option Nat} (p : C ((rngI 0 ls.length).map (fun i => mkL (at4 ls i)), lk)) : C (ls.map mkL, lk) := by
  rw [ls_map]
  exact p
theorem law_begins_gives (B : Lj n ls) (tp bt : Int) : DV.Gives (m__law_begins [.d (.int (n : Nat)), .d (.tuple (ls.map mkL)), .d (.int tp), .d (.int bt)]) fun r => match runB ls (wgt ls tp bt) (n + 1) (List.replicate n 0) with
    | some c => r = .n (c.map PyData.int) ∧ c.length = n
    | none => r = .d .none := by
  have hn1 := B.g.n1
  have hn8 := B.n8
  have hl := B.len
  unfold m__law_begins
  refine DV.w_run (by get_elem_tactic_trivial) ?_
  unfold g__law_begins
  repeat infer_instance
  refine w_loop0 (fun rest ρ => ∃ (u : Nat) (b : List Int) (y5 y6 y7 y8 y9 y10 : Option SV), rest = rngI (u : Int) ((n + 1) - u) ∧ u ≤ n + 1 ∧ b.length = n ∧ runB ls (wgt ls tp bt) (n + 1) (List.replicate n 0) = runB ls (wgt ls tp bt) ((n + 1) - u) b ∧ ρ = [some (.d (.int (n : Nat))), some (.d (.tuple (ls.map mkL))), some (.d (.int tp)), some (.d (.int bt)), some (.o (b.map PyData.int)), y5, y6, y7, y8, y9, y10]) ⟨0, List.replicate n 0, _, _, _, _, _, _, ?_, Nat.zero_le _, List.length_replicate, rfl, rfl⟩ ?_ ?_
  · show rngI 0 (((n : Int) + 1)).toNat = rngI 0 (n + 1 - 0)
    congr 1
  · rintro j rest ρ ⟨u, b, y5, y6, y7, y8, y9, y10, hr, hu, hb, hrun, rfl⟩
    obtain ⟨e1, hun, e2⟩ := rng_step hr
    subst e1
    repeat infer_instance
    refine w_lsM ?_
    refine w_loop0 (L := rngI 0 ls.length) (mk := fun i => mkL (at4 ls i)) (fun rest ρ => ∃ (I : List Int) (y7 y8 y9 y10 : Option SV), rngI 0 ls.length = I ++ rest ∧ ρ = [some (.d (.int (n : Nat))), some (.d (.tuple (ls.map mkL))), some (.d (.int tp)), some (.d (.int bt)), some (.o ((foldB ls (wgt ls tp bt) I b).map PyData.int)), some (.d (.int (u : Nat))), some (.o (b.map PyData.int)), y7, y8, y9, y10]) ⟨[], _, _, _, _, rfl, rfl⟩ ?_ ?_
    · rintro i rest ρ ⟨I, y7, y8, y9, y10, hI, rfl⟩
      have hi := idx_in i (show i ∈ rngI 0 ls.length by rw [hI]; simp)
      have hr := B.g.rng i hi.1 hi.2
      have ht := B.tv i hi.1 hi.2
      have hv := B.rv i hi.1 hi.2
      have hfl := foldB_len (ls := ls) (w := wgt ls tp bt) I b
      have es := foldB_snoc (ls := ls) (w := wgt ls tp bt) I i b
      generalize foldB ls (wgt ls tp bt) I b = c at *
      have hs : src ls i = (at4 ls i).1 := rfl
      have hg : tgt ls i = (at4 ls i).2.1 := rfl
      have hm : tim ls i = (at4 ls i).2.2.1 := rfl
      have hd : rnd ls i = (at4 ls i).2.2.2 := rfl
      have est : c.set (at4 ls i).2.1.toNat (max (val c (at4 ls i).2.1) (val c (at4 ls i).1 + (at4 ls i).2.2.1 * bt - (at4 ls i).2.2.2 * tp)) = foldB ls (wgt ls tp bt) (I ++ [i]) b := by
        rw [es]
        unfold stepB wgt
        rw [hs, hg, hm, hd]
        congr 2
        omega
      rw [hs, hg] at hr
      rw [hm] at ht
      rw [hd] at hv
      repeat infer_instance
      rw [est]
      exact ⟨I ++ [i], _, _, _, _, by rw [List.append_assoc]; exact hI, rfl⟩
    · rintro ρ ⟨I, y7, y8, y9, y10, hI, rfl⟩
      rw [List.append_nil] at hI
      subst hI
      have er : foldB ls (wgt ls tp bt) (rngI 0 ls.length) b = roundB ls (wgt ls tp bt) b := rfl
      rw [er]
      have hrl := roundB_len (ls := ls) (w := wgt ls tp bt) b
      obtain ⟨k, ek⟩ : ∃ k, (n + 1) - u = k + 1 := ⟨n - u, by omega⟩
      rw [ek] at hrun
      repeat infer_instance
      refine w_dec (fun heq => ?_) (fun hne => ?_)
      · repeat infer_instance
        have e3 : runB ls (wgt ls tp bt) (k + 1) b = some b := by
          unfold runB
          rw [if_pos heq.symm]
        rw [hrun, e3, ← heq]
        exact ⟨rfl, hb⟩
      · have e3 : runB ls (wgt ls tp bt) (k + 1) b = runB ls (wgt ls tp bt) k (roundB ls (wgt ls tp bt) b) := by
          show (if roundB ls (wgt ls tp bt) b = b then some b else _) = _
          rw [if_neg fun z => hne z.symm]
        repeat infer_instance
        refine ⟨u + 1, roundB ls (wgt ls tp bt) b, _, _, _, _, _, _, e2, hun, by rw [hrl]; exact hb, ?_, rfl⟩
        rw [hrun, e3]
        congr 1
        omega
  · rintro ρ ⟨u, b, y5, y6, y7, y8, y9, y10, hr, hu, hb, hrun, rfl⟩
    have hun := rng_end hr hu
    subst hun
    rw [Nat.sub_self] at hrun
    have e3 : runB ls (wgt ls tp bt) 0 b = none := rfl
    rw [hrun, e3]
    repeat infer_instance
    rfl
end
section
variable {ts ms o : List Int} {wk : Int}
local macro_rules
  | `(tactic| infer_instance) => `(tactic| first
    | with_reducible refine DV.w_metT ?_
    | with_reducible refine DV.w_itmT ?_)
theorem law_robot_gives (B : Rb ts ms wk o) : DV.Gives (m__law_robot [.d (ti ts), .d (ti ms), .d (.int wk), .d (ti o)]) fun r => r = .d (.tuple ((LL ts ms wk o).map mkL)) := by
  have hol := B.ol
  have hn1 := B.n1
  have hn4 := B.n4
  have hml := B.ml
  have hw := B.w
  unfold m__law_robot
  refine DV.w_run (by get_elem_tactic_trivial) ?_
  unfold g__law_robot
  repeat infer_instance
  refine w_loop0 (fun rest ρ => ∃ (pre : List Int) (y6 y7 y8 y9 y10 : Option SV), rngI 0 o.length = pre ++ rest ∧ ρ = [some (.d (ti ts)), some (.d (ti ms)), some (.d (.int wk)), some (.d (ti o)), some (.o ((pre.map (oLk ms wk o)).map mkL)), some (.d (.int (o.length : Nat))), y6, y7, y8, y9, y10]) ⟨[], _, _, _, _, _, rfl, rfl⟩ ?_ ?_
  · rintro k rest ρ ⟨pre, y6, y7, y8, y9, y10, hpre, rfl⟩
    have hk := (mem_rngI _ _ _).mp (show k ∈ rngI 0 o.length by rw [hpre]; simp)
    have hpl := congrArg List.length hpre
    rw [rngI_len, List.length_append, List.length_cons] at hpl
    have ha := B.in_ hk.1 (by omega)
    have hp : 0 ≤ (k + 1) % (o.length : Int) ∧ (k + 1) % (o.length : Int) < (o.length : Int) := ⟨Int.emod_nonneg _ (by omega), Int.emod_lt_of_pos _ (by omega)⟩
    have hb := B.in_ hp.1 hp.2
    repeat infer_instance
    have e1 : (if decide (k = (o.length : Int) - 1) = true then (1 : Int) else 0) = if k + 1 = (o.length : Int) then 1 else 0 := by
      by_cases h : k + 1 = (o.length : Int)
      · rw [if_pos h, if_pos (decide_eq_true (by omega))]
      · rw [if_neg h, if_neg (by simp; omega)]
    rw [e1]
    have e2 : List.map mkL (List.map (oLk ms wk o) pre) ++ [PyData.tuple [PyData.int (val o k), PyData.int (val o ((k + 1) % (o.length : Int))), PyData.int (val ms (val o k) + wk * ((val o k + 1 - val o ((k + 1) % (o.length : Int))).natAbs : Int)), PyData.int (if k + 1 = (o.length : Int) then 1 else 0)]] = List.map mkL (List.map (oLk ms wk o) (pre ++ [k])) := by
      rw [List.map_append, List.map_append]
      rfl
    rw [e2]
    exact ⟨pre ++ [k], _, _, _, _, _, by rw [hpre]; simp, rfl⟩
  · rintro ρ ⟨pre, y6, y7, y8, y9, y10, hpre, rfl⟩
    rw [List.append_nil] at hpre
    subst hpre
    have hll : ((rngI 0 o.length).map (oLk ms wk o)).length = o.length := by rw [List.length_map, rngI_len]
    repeat infer_instance
    refine w_loop0 (fun rest ρ => ∃ (pre : List Int) (y6 y7 y8 y9 y10 : Option SV), rngI 0 ts.length = pre ++ rest ∧ ρ = [some (.d (ti ts)), some (.d (ti ms)), some (.d (.int wk)), some (.d (ti o)), some (.o (((rngI 0 o.length).map (oLk ms wk o) ++ pre.map (mLk ts ms o)).map mkL)), some (.d (.int (o.length : Nat))), y6, y7, y8, y9, y10]) ⟨[], _, _, _, _, _, rfl, by rw [List.map_nil, List.append_nil]⟩ ?_ ?_
    · rintro k rest ρ ⟨pre, y6, y7, y8, y9, y10, hpre, rfl⟩
      have hk := (mem_rngI _ _ _).mp (show k ∈ rngI 0 ts.length by rw [hpre]; simp)
      have hpl := congrArg List.length hpre
      rw [rngI_len, List.length_append, List.length_cons] at hpl
      have m1 : k ∈ o := B.ho.mem_iff.mpr ((mem_rngI _ _ _).mpr (by omega))
      have m2 : k + 1 ∈ o := B.ho.mem_iff.mpr ((mem_rngI _ _ _).mpr (by omega))
      have hll2 : ((rngI 0 o.length).map (oLk ms wk o) ++ pre.map (mLk ts ms o)).length = o.length + pre.length := by rw [List.length_append, hll, List.length_map]
      repeat infer_instance
      refine w_idxT m2 ?_
      repeat infer_instance
      refine w_idxT m1 ?_
      repeat infer_instance
      have e1 : (if decide (((o.idxOf (k + 1) : Nat) : Int) < ((o.idxOf k : Nat) : Int)) = true then (1 : Int) else 0) = lt1 o k := by
        unfold lt1 pl
        by_cases h : ((o.idxOf (k + 1) : Nat) : Int) < ((o.idxOf k : Nat) : Int)
        · rw [if_pos h, if_pos (decide_eq_true h)]
        · rw [if_neg h, if_neg (by simpa using h)]
      rw [e1]
      have e2 : List.map mkL (List.map (oLk ms wk o) (rngI 0 o.length) ++ List.map (mLk ts ms o) pre) ++ [PyData.tuple [PyData.int k, PyData.int (k + 1), PyData.int (val ms k + val ts k), PyData.int (lt1 o k)]] = List.map mkL (List.map (oLk ms wk o) (rngI 0 o.length) ++ List.map (mLk ts ms o) (pre ++ [k])) := by
        rw [List.map_append (l₁ := pre), ← List.append_assoc, List.map_append (l₂ := List.map (mLk ts ms o) [k])]
        rfl
      rw [e2]
      exact ⟨pre ++ [k], _, _, _, _, _, by rw [hpre]; simp, rfl⟩
    · rintro ρ ⟨pre, y6, y7, y8, y9, y10, hpre, rfl⟩
      rw [List.append_nil] at hpre
      subst hpre
      repeat infer_instance
      rfl
/-- the value of a round, by the law's own begins -/
theorem Rb.lj (B : Rb ts ms wk o) : Lj (ts.length + 1) (LL ts ms wk o) := ⟨(U.Rb.evl B).g, by have := B.n4; omega, by have := (U.Rb.evl B).len; omega, fun i h0 h1 => by
  have := ((U.Rb.evl B).at_ h0 h1).t
  show -100 ≤ (at4 (LL ts ms wk o) i).2.2.1 ∧ (at4 (LL ts ms wk o) i).2.2.1 ≤ 100
  omega, fun i h0 h1 => ((U.Rb.evl B).at_ h0 h1).r⟩
theorem begins_yes (B : Rb ts ms wk o) {bt bb : Int} (V : Val (RL ts ms wk o) bt bb) : DV.Gives (m__law_begins [.d (.int ((ts.length + 1 : Nat) : Int)), .d (.tuple ((LL ts ms wk o).map mkL)), .d (.int bt), .d (.int bb)]) fun r => ∃ c : List Int, r = .n (c.map PyData.int) := by
  obtain ⟨c, hc⟩ := nopos_run (U.Rb.evl B).g (LL_of_RL bt bb V.no)
  refine (law_begins_gives (Rb.lj B) bt bb).mono fun r h => ?_
  rw [hc] at h
  exact ⟨c, h.1⟩
theorem begins_no (B : Rb ts ms wk o) {bt bb : Int} (V : Val (RL ts ms wk o) bt bb) : DV.Gives (m__law_begins [.d (.int ((ts.length + 1 : Nat) : Int)), .d (.tuple ((LL ts ms wk o).map mkL)), .d (.int (bt * 100 - 1)), .d (.int (bb * 100))]) fun r => r = .d .none := by
  have hno : runB (LL ts ms wk o) (wgt (LL ts ms wk o) (bt * 100 - 1) (bb * 100)) (ts.length + 1 + 1) (List.replicate (ts.length + 1) 0) = none := by
    cases hr : runB (LL ts ms wk o) (wgt (LL ts ms wk o) (bt * 100 - 1) (bb * 100)) (ts.length + 1 + 1) (List.replicate (ts.length + 1) 0) with
    | none => rfl
    | some c =>
      obtain ⟨h1, h2⟩ := runB_fix hr
      rw [List.length_replicate] at h2
      have N := fix_nopos (U.Rb.evl B).g h2 h1
      have hb0 := V.b0
      have N2 := RL_of_LL B (bt * 100 - 1) (bb * 100) (by omega) N
      obtain ⟨x, K, _, h3, h4, h5⟩ := V.at_
      have h6 := N2 x K h3
      rw [wt_wgt, ← Int.mul_assoc, h4, Int.mul_sub, Int.mul_one, ← Int.mul_assoc, Int.mul_comm (wt (rnd _) K) bt] at h6
      omega
  refine (law_begins_gives (Rb.lj B) (bt * 100 - 1) (bb * 100)).mono fun r h => ?_
  rw [hno] at h
  exact h
theorem sum_low (B : Rb ts ms wk o) {bt bb : Int} (V : Val (RL ts ms wk o) bt bb) : bb * ms.sum ≤ bt := by
  obtain ⟨q, h1, _, h3, h4⟩ := order_ring B
  have N := LL_of_RL bt bb V.no
  have h5 := N _ q h1
  rw [wt_wgt, h3, Int.one_mul] at h5
  have h6 : bb * ms.sum ≤ bb * wt (tim (LL ts ms wk o)) q := Int.mul_le_mul_of_nonneg_left h4 (Int.le_of_lt V.b0)
  rw [Int.mul_comm bb (wt _ q)] at h6
  omega
/-- the least of some orders -/
def Least (ts ms : List Int) (wk : Int) (pre : List (List Int)) : Option (Int × Int) → Prop
  | none => pre = []
  | some x => (∃ q ∈ pre, Val (RL ts ms wk q) x.1 x.2) ∧ (0 ≤ x.1 ∧ x.1 ≤ 500 ∧ x.2 ≤ 30) ∧ ∀ q ∈ pre, ∀ c d, Val (RL ts ms wk q) c d → x.1 * d ≤ c * x.2
def oR : Option (Int × Int) → D
  | none => .none
  | some x => .tuple [.int x.1, .int x.2]
abbrev mkO (q : List Int) : List Int := 0 :: q.map fun x => x + 1
theorem mkO_rb {n : Nat} (hn : n = ts.length) (n1 : 1 ≤ ts.length) (n4 : ts.length ≤ 4) (hml : ms.length = ts.length + 1) (ht : ∀ x ∈ ts, 0 ≤ x ∧ x ≤ 60) (hm : ∀ x ∈ ms, 1 ≤ x ∧ x ≤ 6) (hw : 0 ≤ wk ∧ wk ≤ 4) {q : List Int} (hq : q.Perm (rngI 0 n)) : Rb ts ms wk (mkO q) ∧ val (mkO q) 0 = 0 := by
  refine ⟨⟨n1, n4, hml, ht, hm, hw, ?_⟩, rfl⟩
  have h1 : (q.map fun x : Int => x + 1).Perm (rngI 1 n) := by
    have h2 := hq.map fun x : Int => x + 1
    have h3 : (rngI 0 n).map (fun x : Int => x + 1) = rngI 1 n := by
      have go : ∀ (n : Nat) (a : Int), (rngI a n).map (fun x : Int => x + 1) = rngI (a + 1) n := fun n => by
        induction n with
        | zero => exact fun _ => rfl
        | succ n ih => exact fun a => congrArg (fun l => (a + 1) :: l) (ih (a + 1))
      exact go n 0
    rwa [h3] at h2
  rw [← hn]
  exact h1.cons 0
theorem mkO_of {n : Nat} {p : List Int} (hp : p.Perm (rngI 0 (n + 1))) (h0 : val p 0 = 0) : ∃ q : List Int, q.Perm (rngI 0 n) ∧ p = mkO q := by
  cases p with
  | nil => have := hp.length_eq; rw [rngI_len] at this; cases this
  | cons a t =>
    have ha : a = 0 := h0
    subst ha
    have h1 : t.Perm (rngI 1 n) := List.Perm.cons_inv (show (0 :: t).Perm (0 :: rngI 1 n) from hp)
    have h3 : (rngI 1 n).map (fun x : Int => x - 1) = rngI 0 n := by
      have go : ∀ (n : Nat) (a : Int), (rngI (a + 1) n).map (fun x : Int => x - 1) = rngI a n := fun n => by
        induction n with
        | zero => exact fun _ => rfl
        | succ n ih =>
            intro a
            show (a + 1 - 1) :: (rngI (a + 1 + 1) n).map (fun x : Int => x - 1) = a :: rngI (a + 1) n
            rw [ih (a + 1)]
            congr 1
            omega
      exact go n 0
    refine ⟨t.map fun x => x - 1, by have h2 := h1.map fun x : Int => x - 1; rwa [h3] at h2, ?_⟩
    show 0 :: t = 0 :: (t.map fun x => x - 1).map fun x => x + 1
    rw [List.map_map]
    congr 1
    conv => lhs; rw [← List.map_id t]
    refine List.map_congr_left fun x _ => ?_
    show x = x - 1 + 1
    omega
theorem law_gives : DV.Gives (g_law (lawE 16)) fun o => o = .rt (.d (.bool true)) := by
  unfold g_law
  refine w_env (by get_elem_tactic_trivial) ?_
  repeat infer_instance
  refine w_use (taken_eq 4 (by decide) (by decide)) fun r ⟨i, e, i0, i1⟩ => ?_
  subst e
  obtain ⟨n, hn⟩ : ∃ n : Nat, 1 + i = (n : Int) := ⟨(1 + i).toNat, by omega⟩
  repeat infer_instance
  rw [hn]
  refine w_use (pick_gives [.int 3, .int 30] (by simp) (by simp)) fun r ⟨d, hd, e⟩ => ?_
  subst e
  obtain ⟨top, rfl, t1, t2⟩ : ∃ top : Int, d = .int top ∧ 1 ≤ top ∧ top ≤ 60 := by
    simp only [List.mem_cons, List.not_mem_nil, or_false] at hd
    rcases hd with rfl | rfl
    · exact ⟨3, rfl, by decide, by decide⟩
    · exact ⟨30, rfl, by decide, by decide⟩
  repeat infer_instance
  refine w_lcA (fun _ x => 0 ≤ x ∧ x ≤ 60) (by rw [rngI_len]; omega) (fun t ht => ?_) fun ts hts => ?_
  · repeat infer_instance
    refine w_use (taken_eq top (by omega) (by omega)) fun r ⟨i, e, i0, i1⟩ => ?_
    subst e
    repeat infer_instance
    exact ⟨_, rfl, by omega, by omega⟩
  have htl : ts.length = n := by
    have := hts.len
    rw [rngI_len] at this
    exact this.symm
  have htm : ∀ x ∈ ts, 0 ≤ x ∧ x ≤ 60 := fun x hx => by
    obtain ⟨_, _, h⟩ := hts.mem x hx
    exact h
  clear hts
  repeat infer_instance
  rw [show ((n : Int) + 1) = ((n + 1 : Nat) : Int) from rfl]
  repeat infer_instance
  refine w_lcA (fun _ x => 1 ≤ x ∧ x ≤ 6) (by rw [rngI_len]; omega) (fun t ht => ?_) fun ms hms => ?_
  · repeat infer_instance
    refine w_use (taken_eq 3 (by omega) (by omega)) fun r ⟨i, e, i0, i1⟩ => ?_
    subst e
    repeat infer_instance
    exact ⟨_, rfl, by omega, by omega⟩
  have hml : ms.length = ts.length + 1 := by
    have := hms.len
    rw [rngI_len] at this
    omega
  have hmm : ∀ x ∈ ms, 1 ≤ x ∧ x ≤ 6 := fun x hx => by
    obtain ⟨_, _, h⟩ := hms.mem x hx
    exact h
  clear hms
  repeat infer_instance
  refine w_use (taken_eq 3 (by omega) (by omega)) fun r ⟨wk, e, w0, w1⟩ => ?_
  subst e
  have rb : ∀ {q : List Int}, q.Perm (rngI 0 n) → Rb ts ms wk (mkO q) ∧ val (mkO q) 0 = 0 := mkO_rb htl.symm (by omega) (by omega) hml htm hmm (by omega)
  repeat infer_instance
  refine w_use (order_gives n (by omega)) fun r ⟨p, e, hp⟩ => ?_
  subst e
  have hpl : p.length = n := by rw [hp.length_eq, rngI_len]
  repeat infer_instance
  refine w_lcI (L := p) (fun x => x + 1) (by omega) (fun x hx => ?_) ?_
  · repeat infer_instance
    rfl
  repeat infer_instance
  refine w_catT (by simp; omega) ?_
  have eo : PyData.tuple ([PyData.int 0] ++ List.map PyData.int (List.map (fun x => x + 1) p)) = ti (mkO p) := rfl
  rw [eo]
  obtain ⟨B, hB0⟩ := rb hp
  have hol := B.ol
  generalize mkO p = o at B hB0 hol
  clear eo
  repeat infer_instance
  refine w_is (law_robot_gives B) ?_
  repeat infer_instance
  refine w_use (robot_round_gives B hB0) fun r ⟨bt, bb, e, V, hb1, hb2, hb3⟩ => ?_
  subst e
  have hbb := V.b0
  have hlow := sum_low B V
  have h1 := begins_yes B V
  have h2 := begins_no B V
  rw [htl] at h1 h2
  repeat infer_instance
  rw [show ((n : Int) + 1) = ((n + 1 : Nat) : Int) from rfl]
  refine w_use h1 fun r ⟨c, e⟩ => ?_
  subst e
  repeat infer_instance
  rw [show ((n : Int) + 1) = ((n + 1 : Nat) : Int) from rfl]
  refine w_is h2 ?_
  repeat infer_instance
  refine w_is (orders_gives n (by omega)) ?_
  repeat infer_instance
  have hfew : (ordersI n n).length ≤ 5040 := orders_few (by omega) (by omega)
  refine w_loop0 (mk := ti) (L := ordersI n n) (fun rest ρ => ∃ (pre : List (List Int)) (best : Option (Int × Int)) (y12 y13 : Option SV), ordersI n n = pre ++ rest ∧ Least ts ms wk (pre.map mkO) best ∧ ρ = [none, some .row, some (.d (.int (n : Nat))), some (.d (.int top)), some (.d (ti ts)), none, some (.d (ti ms)), some (.d (.int wk)), some (.d (ti o)), some (.d (.tuple ((LL ts ms wk o).map mkL))), some (.d (.tuple [.int bt, .int bb])), some (.d (oR best)), y12, y13, none, none]) ⟨[], none, _, _, rfl, rfl, rfl⟩ ?_ ?_
  · rintro q rest ρ ⟨pre, best, y12, y13, e, hL, rfl⟩
    have hq : q.Perm (rngI 0 n) := perm_of_mem (show q ∈ ordersI n n by rw [e]; exact List.mem_append_right _ List.mem_cons_self)
    have hql : q.length = n := by rw [hq.length_eq, rngI_len]
    obtain ⟨Bq, hq0⟩ := rb hq
    repeat infer_instance
    refine w_lcI (L := q) (fun x => x + 1) (by omega) (fun x hx => ?_) ?_
    · repeat infer_instance
      rfl
    repeat infer_instance
    refine w_catT (by simp; omega) ?_
    have eo : PyData.tuple ([PyData.int 0] ++ List.map PyData.int (List.map (fun x => x + 1) q)) = ti (mkO q) := rfl
    rw [eo]
    repeat infer_instance
    refine w_use (robot_round_gives Bq hq0) fun r ⟨ct, cb, er, Vq, c1, c2, c3⟩ => ?_
    subst er
    have hcb := Vq.b0
    repeat infer_instance
    have hset : ∀ best2, Least ts ms wk ((pre ++ [q]).map mkO) best2 → ∃ (pre2 : List (List Int)) (best3 : Option (Int × Int)) (z12 z13 : Option SV), ordersI n n = pre2 ++ rest ∧ Least ts ms wk (pre2.map mkO) best3 ∧ [none, some SV.row, some (.d (.int (n : Nat))), some (.d (.int top)), some (.d (ti ts)), none, some (.d (ti ms)), some (.d (.int wk)), some (.d (ti o)), some (.d (.tuple ((LL ts ms wk o).map mkL))), some (.d (.tuple [.int bt, .int bb])), some (.d (oR best2)), some (.d (ti q)), some (.d (.tuple [.int ct, .int cb])), none, none] = [none, some .row, some (.d (.int (n : Nat))), some (.d (.int top)), some (.d (ti ts)), none, some (.d (ti ms)), some (.d (.int wk)), some (.d (ti o)), some (.d (.tuple ((LL ts ms wk o).map mkL))), some (.d (.tuple [.int bt, .int bb])), some (.d (oR best3)), z12, z13, none, none] := fun best2 h => ⟨pre ++ [q], best2, _, _, by rw [e]; simp, h, rfl⟩
    have hmem : ∀ q', q' ∈ (pre ++ [q]).map mkO → q' ∈ pre.map mkO ∨ q' = mkO q := fun q' h => by
      rw [List.map_append] at h
      rcases List.mem_append.mp h with z | z
      · exact .inl z
      · exact .inr (List.mem_singleton.mp z)
    have hin : mkO q ∈ (pre ++ [q]).map mkO := List.mem_map.mpr ⟨q, by simp, rfl⟩
    cases best with
    | none =>
      have hp0 : pre.map mkO = [] := hL
      show K2 gIs _ (.d .none) (.d .none)
      repeat infer_instance
      refine hset (some (ct, cb)) ⟨⟨_, hin, Vq⟩, ⟨c1, c2, c3⟩, fun q' h' c d V' => ?_⟩
      rcases hmem q' h' with z | z
      · rw [hp0] at z; cases z
      · subst z
        exact Vq.le V'
    | some x =>
      obtain ⟨⟨q1, hq1, V1⟩, ⟨b1, b2, b3⟩, hmin⟩ := hL
      have hx0 := V1.b0
      show K2 gIs _ (.d (.tuple [.int x.1, .int x.2])) (.d .none)
      have ex : oR (some x) = .tuple [.int x.1, .int x.2] := rfl
      rw [ex]
      repeat infer_instance
      refine w_dec (fun hlt => ?_) (fun hge => ?_)
      · repeat infer_instance
        refine hset (some (ct, cb)) ⟨⟨_, hin, Vq⟩, ⟨c1, c2, c3⟩, fun q' h' c d V' => ?_⟩
        rcases hmem q' h' with z | z
        · have h3 := hmin q' z c d V'
          exact U.ratio_tr (Int.le_of_lt hlt) h3 hx0 hcb (Int.le_of_lt V'.b0)
        · subst z
          exact Vq.le V'
      · repeat infer_instance
        refine hset (some x) ⟨⟨q1, by rw [List.map_append]; exact List.mem_append_left _ hq1, V1⟩, ⟨b1, b2, b3⟩, fun q' h' c d V' => ?_⟩
        rcases hmem q' h' with z | z
        · exact hmin q' z c d V'
        · subst z
          obtain ⟨e1, e2⟩ := Vq.uniq V'
          subst e1 e2
          omega
  rintro ρ ⟨pre, best, y12, y13, e, hL, rfl⟩
  rw [List.append_nil] at e
  subst e
  repeat infer_instance
  refine w_use (best_robot_gives B) fun r ⟨pb, ct, cb, er, ⟨Bp, hp0⟩, Vp, ⟨c1, c2, c3⟩, hmin⟩ => ?_
  subst er
  have hbest : best = some (ct, cb) := by
    obtain ⟨q, hq, rfl⟩ := mkO_of (n := n) (htl ▸ Bp.ho) hp0
    have hqm : mkO q ∈ (ordersI n n).map mkO := List.mem_map.mpr ⟨q, mem_of_perm hq, rfl⟩
    cases best with
    | none =>
      have hL : (ordersI n n).map mkO = [] := hL
      rw [hL] at hqm
      cases hqm
    | some x =>
      obtain ⟨⟨q1, hq1, V1⟩, _, hmin2⟩ := hL
      obtain ⟨q2, hq2, rfl⟩ := List.mem_map.mp hq1
      obtain ⟨B2, h20⟩ := rb (perm_of_mem hq2)
      have h3 := hmin _ _ _ B2 h20 V1
      have h4 := hmin2 _ hqm _ _ Vp
      obtain ⟨e1, e2⟩ := cross_eq Vp.b0 V1.b0 (by omega) Vp.lw V1.lw
      rw [e1, e2]
  subst hbest
  have ex : oR (some (ct, cb)) = .tuple [.int ct, .int cb] := rfl
  rw [ex]
  repeat infer_instance
  refine w_ndecT ⟨rfl, rfl⟩ ?_
  repeat infer_instance
  refine w_use (robot_round_gives Bp hp0) fun r ⟨dt, db, er, V3, _⟩ => ?_
  subst er
  obtain ⟨e1, e2⟩ := V3.uniq Vp
  subst e1 e2
  repeat infer_instance
  refine w_ndecT ⟨rfl, rfl⟩ ?_
  repeat infer_instance
  rw [decide_eq_true hlow]
theorem law_holds : LawHolds := fun ns _ => by
  obtain ⟨o, rs', e, rfl⟩ := law_gives ⟨ns, 0, 3963, 0⟩
  exact ⟨rs', e⟩
end
end Lk63

open PySem PySem.W PyProof.Rows
set_option maxHeartbeats 0 in
theorem PySem.Challenge.cw_shoporders_k63_whole_robots_holds : PySem.Challenge.rw_shoporders_k63_whole_robots.Holds := by
  w_on; o_law; k_head; (case hw => w_witness2)
  k_fill
  refine L2.walk_of (l := PySem.Challenge.rw_shoporders_k63_whole_robots) (n := 63) (k := 5) (x := "_law_script") (CX := fun _ => L2.CX0) (sp := fun w => DV.spLaw _) rfl (by decide) rfl ⟨rfl, by decide, by decide⟩ (fun w h Y => PySem.W.kIn_of Y) ?F (fun _ _ a ns hl _ hS => ⟨a, ns, rfl, DV.tabs_none (by kernel_rfl), hS, hl, fun _ => rfl⟩) (fun _ _ _ _ _ h => h)
  case F =>
    intro w mg fa h KX G hmg
    refine' Lk63.all_mk Lk63.law_holds KX G hmg ?a1 ?l1 ?c1 ?k1 ?a2 ?l2 ?c2 ?k2 ?a3 ?l3 ?c3 ?k3 ?a4 ?l4 ?c4 ?k4 ?a5 ?l5 ?c5 ?k5 ?a6 ?l6 ?c6 ?k6 ?a7 ?l7 ?c7 ?k7 ?a8 ?l8 ?c8 ?k8 ?a9 ?l9 ?c9 ?k9 ?a10 ?l10 ?c10 ?k10 ?a11 ?l11 ?c11 ?k11 ?a12 ?l12 ?c12 ?k12 ?a13 ?l13 ?c13 ?k13 ?a14 ?l14 ?c14 ?k14 ?a15 ?l15 ?c15 ?k15 ?a16 ?l16 ?c16 ?k16 ?a17 ?l17 ?c17 ?k17 ?a18 ?l18 ?c18 ?k18 ?z0 ?z1 ?z2 ?z3 ?z4 ?z5 ?z6 ?z7 ?z8 ?z9 ?z10 ?z11 ?z12 ?y0
    (case a1 => k_is); (case l1 => k_is); (case c1 => k_is); (case k1 => k_is); (case a2 => k_is); (case l2 => k_is); (case c2 => k_is); (case k2 => k_is); (case a3 => k_is); (case l3 => k_is); (case c3 => k_is); (case k3 => k_is); (case a4 => k_is); (case l4 => k_is); (case c4 => k_is); (case k4 => k_is); (case a5 => k_is); (case l5 => k_is); (case c5 => k_is); (case k5 => k_is); (case a6 => k_is); (case l6 => k_is); (case c6 => k_is); (case k6 => k_is); (case a7 => k_is); (case l7 => k_is); (case c7 => k_is); (case k7 => k_is); (case a8 => k_is); (case l8 => k_is); (case c8 => k_is); (case k8 => k_is); (case a9 => k_is); (case l9 => k_is); (case c9 => k_is); (case k9 => k_is); (case a10 => k_is); (case l10 => k_is); (case c10 => k_is); (case k10 => k_is); (case a11 => k_is); (case l11 => k_is); (case c11 => k_is); (case k11 => k_is); (case a12 => k_is); (case l12 => k_is); (case c12 => k_is); (case k12 => k_is); (case a13 => k_is); (case l13 => k_is); (case c13 => k_is); (case k13 => k_is); (case a14 => k_is); (case l14 => k_is); (case c14 => k_is); (case k14 => k_is); (case a15 => k_is); (case l15 => k_is); (case c15 => k_is); (case k15 => k_is); (case a16 => k_is); (case l16 => k_is); (case c16 => k_is); (case k16 => k_is); (case a17 => k_is); (case l17 => k_is); (case c17 => k_is); (case k17 => k_is); (case a18 => k_is); (case l18 => k_is); (case c18 => k_is); (case k18 => k_is); (case z0 => k_is); (case z1 => k_is); (case z2 => k_is); (case z3 => k_is); (case z4 => k_is); (case z5 => k_is); (case z6 => k_is); (case z7 => k_is); (case z8 => k_is); (case z9 => k_is); (case z10 => k_is); (case z11 => k_is); (case z12 => k_is); (case y0 => k_is)


